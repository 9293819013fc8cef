import PyProof.Rows.All
import Wide.All
import OpenK.AllK
import Wide.FinOn
import HandS.ForMost
import HandS.ForExc
import HandS.Lambda
import HandS.Walk
import HandS.Zip
import HandS.HotCalls
import HandS.ExcField
import KE.KExcIs
import HandS.EndTab
import HandS.HeadWalk
import KE.RegKIsAll
import KE.RegKTryMore
import HandS.Head3
import HandS.TupMul
import HandS.TupAny
import HandS.Gcd
import HandS.IsInst
import HandS.Style
import HandS.ExcInit
import HandS.Conv
import PyProof.ReprBulk
import KE.GoesEnum
import HandS.List
import PySem.Challenge.RW_onerests_k07_slacks_and_answers
set_option Elab.async false
set_option linter.all false
set_option maxRecDepth 100000
set_option maxHeartbeats 4100000
section CRun
open PySem PySem.W PySem.Calls  PyProof.Rows
theorem Cl.km_ob {K : PySem.Params → PySem.W.Frag} {as : List PySem.Addr} {e : ∀ P, as = (K P).map (·.1)} {ts : List PySem.Addr} (s : PySem.W.SharedT) : (as.map (HandSHeadRun.getT s), ts.map (HandSHeadRun.getT s)) = (PySem.W.kmHook K as e ts).obs s.abs := by
  show (as.map (HandSHeadRun.getT s), ts.map (HandSHeadRun.getT s)) = (as.map s.abs.heap.get?, ts.map s.abs.heap.get?)
  have h : HandSHeadRun.getT s = s.abs.heap.get? := funext (HandSHeadRun.getT_eq s)
  rw [h]
def Cl.looseN : List PySem.Str := (["gcd", "RestsError", "BadNumber", "BadRow", "BadTable", "BadFrame", "BadLoad", "BadNet", "BadHouse", "BadWeb", "BadName", "BadText", "NoPlace", "NoWall", "NoRow", "NoName", "TakenName", "Unlike", "Flat", "NotOnce", "NotPlain", "TooMany", "NotKept", "NothingToUndo", "NothingToRedo", "is_integer", "is_ratio", "pair", "in_lowest", "added"] : List PySem.Str) ++ (["sign_of", "summed", "as_tuples", "is_list", "is_row", "is_told_row", "MOST_PLACES", "MOST_ROWS", "Frame", "need_load", "fits", "need_row", "slacks", "slack_at", "slacks_at", "resting", "is_answer", "answers_at", "_law_pen", "_law_draw", "_law_pick", "_law_shuffled", "_law_is", "_law_says", "_law_divisor", "_law_low", "_law_pair", "_law_plus", "_law_opposite", "_law_minus"] : List PySem.Str) ++ (["_law_sign", "_law_dot", "_law_is_ratio", "_law_is_whole", "_law_number", "_law_wide", "_law_row", "_law_counts", "_law_any_frame", "_law_slacks", "_law_answers", "_law_load_at", "_law_made", "_law_kinds", "_law_more_kinds", "_law_fault", "_law_odd", "_law_bent_row", "_law_is_list", "_law_is_any_row", "_law_fits", "_law_bent_load", "_law_moved", "_law_resting", "_law_right", "_law_faults_right"] : List PySem.Str)
def Cl.qv : PySem.Program := PySem.W.view (PySem.W.OpenLaw.row PySem.Challenge.rw_onerests_k07_slacks_and_answers).prog [0, 91]
def Cl.dl : DefRec := HandSHeadRun.topDef (PySem.W.OpenLaw.row PySem.Challenge.rw_onerests_k07_slacks_and_answers).prog 91
local macro_rules | `(tactic| o_head (kmHook $_ $_ $_ $_)) => `(tactic| assumption)
theorem Cl.early (h : PySem.W.OpenRow.Holds (PySem.W.OpenLaw.row PySem.Challenge.rw_onerests_k07_slacks_and_answers)) : PySem.W.OpenRow.Holds (PySem.W.OpenLaw.row PySem.Challenge.rw_onerests_k07_slacks_and_answers) := by k_head
def Cl.asC : List PySem.Addr := ([2, 3, 43, 50, 51, 52, 53, 56, 63, 65, 66, 68, 69, 70, 71, 72, 75, 82, 84, 85, 87, 88, 89, 90, 91, 94, 101, 103, 104, 106, 107, 108, 109, 110, 113, 120, 122, 123, 125, 126, 127, 128, 129, 132, 139, 141, 142, 144, 145, 146, 147, 148, 151, 158, 160, 161, 163, 164, 165, 166] : List PySem.Addr) ++ ([167, 170, 177, 179, 180, 182, 183, 184, 185, 186, 189, 196, 198, 199, 201, 202, 203, 204, 205, 208, 215, 217, 218, 220, 221, 222, 223, 224, 227, 234, 236, 237, 239, 240, 241, 242, 243, 246, 253, 255, 256, 258, 259, 260, 261, 262, 265, 272, 274, 275, 277, 278, 279, 280, 281, 284, 291, 293, 294, 296] : List PySem.Addr) ++ ([297, 298, 299, 300, 303, 310, 312, 313, 315, 316, 317, 318, 319, 322, 329, 331, 332, 334, 335, 336, 337, 338, 341, 348, 350, 351, 353, 354, 355, 356, 357, 360, 367, 369, 370, 372, 373, 374, 375, 376, 379, 386, 388, 389, 391, 392, 393, 394, 395, 398, 405, 407, 408, 410, 411, 412, 413, 414, 417, 424] : List PySem.Addr) ++ ([426, 427, 429, 430, 431, 432, 433, 436, 443, 445, 446, 448, 449, 450, 451, 452, 455, 462, 463, 464, 467, 474, 475, 476, 479, 481, 482, 484, 485, 486, 488, 489, 491, 492, 493, 495, 496, 498, 499, 500, 502, 503, 505, 506, 507, 509, 510, 512, 513, 514, 516, 517, 519, 520, 521, 523, 524, 526, 527, 528] : List PySem.Addr) ++ ([531, 532, 533, 535, 536, 538, 539, 540, 543, 544, 545, 547, 548, 550, 551, 559, 562, 563, 564, 566, 567, 569, 570, 571, 573, 574, 576, 577, 578, 580, 581, 583, 584, 585, 586, 587, 588, 589, 592, 594, 595, 597, 598, 599, 602, 603, 604, 606, 607, 609, 610, 611, 613, 614, 616, 617, 618, 620, 621, 623] : List PySem.Addr) ++ ([624, 625, 628, 629, 630, 633, 634, 635, 637, 638, 640, 641, 642, 645, 646, 647, 649, 650, 652, 653, 654, 656, 657, 659, 660, 661, 663, 664, 666, 667, 668, 670, 671, 673, 674, 675, 678, 679, 680, 682, 683, 685, 686, 687, 689, 690, 692, 693, 694, 696, 697, 699, 700, 701, 703, 704, 706, 707, 708, 710] : List PySem.Addr) ++ ([711, 713, 714, 715, 717, 718, 720, 721, 722, 724, 725, 727, 728, 729, 731, 732, 734, 735, 736, 738, 739, 741, 742, 743, 745, 746, 748, 749, 750, 752, 753, 755, 756, 757, 759, 760, 762, 763, 764, 766, 767, 769, 770, 771, 774, 775, 776, 778, 779, 781, 782, 783, 786, 787, 788, 791, 792, 793, 796, 797] : List PySem.Addr) ++ ([798, 800, 801, 803, 804, 805, 807, 808, 810, 811, 812, 814, 815, 817, 818, 819, 821, 822, 824, 825, 826, 828, 829, 831, 832, 833, 835, 836, 838, 839, 840, 842, 843, 845, 846, 847, 849, 850, 852, 853, 854, 857, 858, 859, 862, 863, 864, 866, 867, 869, 870, 871, 873, 874, 876, 877, 878, 881, 882, 883] : List PySem.Addr) ++ ([885, 886, 888, 889, 890, 892, 893, 895, 896, 897, 899, 900, 902, 903] : List PySem.Addr)
def Cl.tsC : List PySem.Addr := [891]
theorem Cl.eC : ∀ P, Cl.asC = (Cl.early.heap_1 P).map (·.1) := fun _ => by kernel_rfl
noncomputable def Cl.hkC : PySem.W.Hook := PySem.W.kmHook Cl.early.heap_1 Cl.asC Cl.eC Cl.tsC
noncomputable def Cl.obC : PySem.W.SharedT → Cl.hkC.α := fun s => (List.map (HandSHeadRun.getT s) Cl.asC, List.map (HandSHeadRun.getT s) Cl.tsC)
theorem Cl.run_h : ∀ w, HandSHeadRun.RunEqI (PySem.W.OpenLaw.row PySem.Challenge.rw_onerests_k07_slacks_and_answers) Cl.qv Cl.hkC Cl.obC 30000 Cl.looseN w := fun w => by
  unfold HandSHeadRun.RunEqI
  kernel_rfl
end CRun
namespace L3
open PySem PySem.Spec L2
open PyProof.Rows hiding St

/-- the written part, where the classes of the text stand, the exception at hand, the tables of code objects -/
structure KC where
  K : PySem.W.Frag
  cm : Str → Addr
  pn : List (Addr × Obj)
  T : List (Addr × Str)
def cmOf (mg : Str → Option Value) : Str → Addr := fun c => match mg c with
  | some (.ref a) => a
  | _ => 0
abbrev kc (T : List (Addr × Str)) (X : Cx) : KC := ⟨X.K, cmOf X.mg, X.pn, T⟩
theorem cmOf_eq {mg : Str → Option Value} {c : Str} {C : Addr} (h : mg c = some (.ref C)) : cmOf mg c = C := by unfold cmOf; rw [h]
/-- deep data: what a value is, with what it holds; lists by value -/
inductive D where
  | non | bl (b : Bool) | int (i : Int) | str (x : Str)
  | tup (xs : List D) | lst (xs : List D)
  | scr (xs : List Int)
  | dct (kvs : List (Key × D))
  | ins (c : Str) (fs : List (Str × D))
  | pen
  | exc (c : Str) (fs : List (Str × D))

/-- the pen: a dict of the law's own, with the cells and four counters -/
def PenAt (K : KC) (H : Hp) (kvs : List (Key × V)) : Prop := ∃ (c : Addr) (xs : List Int) (i g n f : Int),
  kvs = [(.inr "cells", .ref c), (.inr "at", .int i), (.inr "digits", .int g), (.inr "count", .int n), (.inr "fold", .int f)] ∧
  SqL K.K H c (xs.map V.int) ∧ 0 ≤ i ∧ 0 ≤ g ∧ 0 ≤ f ∧ f < 2147483647

mutual
def Rep (K : KC) (H : Hp) : V → D → Prop
  | v, .non => v = .non
  | v, .bl b => v = .bl b
  | v, .int i => v = .int i
  | v, .str x => v = .str x
  | v, .tup ds => ∃ a vs, v = .ref a ∧ H a = some (.tup vs) ∧ Reps K H vs ds
  | v, .lst ds => ∃ a vs, v = .ref a ∧ H a = some (.lst vs) ∧ Reps K H vs ds
  | v, .scr xs => ∃ a, v = .ref a ∧ SqL K.K H a (xs.map V.int)
  | v, .dct ds => ∃ a kvs, v = .ref a ∧ H a = some (.dK kvs) ∧ kvs.length < 4 ∧ RepK K H kvs ds
  | v, .ins c ds => ∃ a dx fs, v = .ref a ∧ H a = some (.ins (K.cm c) dx fs) ∧ RepF K H fs ds
  | v, .pen => ∃ a kvs, v = .ref a ∧ H a = some (.dK kvs) ∧ PenAt K H kvs
  | v, .exc c ds => ∃ a oe od, v = .ref a ∧ (a, oe) ∈ K.pn ∧ Zc (.ref (K.cm c)) od oe ∧ (∃ vs, oe.data = .fields vs) ∧ ((ds = [] ∧ od = none) ∨ ∃ dd fs, od = some dd ∧ H dd = some (.xd fs) ∧ RepF { K with pn := [] } H fs ds)
def Reps (K : KC) (H : Hp) : List V → List D → Prop
  | vs, [] => vs = []
  | vs, d :: ds => ∃ v r, vs = v :: r ∧ Rep K H v d ∧ Reps K H r ds
def RepK (K : KC) (H : Hp) : List (Key × V) → List (Key × D) → Prop
  | vs, [] => vs = []
  | vs, (k, d) :: ds => ∃ v r, vs = (k, v) :: r ∧ Rep K H v d ∧ RepK K H r ds
def RepF (K : KC) (H : Hp) : List (Str × V) → List (Str × D) → Prop
  | vs, [] => vs = []
  | vs, (k, d) :: ds => ∃ v r, vs = (k, v) :: r ∧ Rep K H v d ∧ RepF K H r ds
end

/-- the shared heap grows; a pen may turn -/
structure Ext (K : KC) (H H' : Hp) : Prop where
  at_ : ∀ a o, H a = some o → H' a = some o ∨ (∃ kvs kvs', o = .dK kvs ∧ kvs.length = 5 ∧ H' a = some (.dK kvs') ∧ kvs'.length = 5 ∧ PenAt K H' kvs') ∨ ∃ ps, o = .tbl ps
  tab : LamX.Tabs K.T H → LamX.Tabs K.T H'
section
variable {K : KC} {H H' H1 H2 : Hp}
theorem Ext.refl (H : Hp) : Ext K H H := ⟨fun _ _ e => .inl e, id⟩
/-- what is neither a pen nor a table stands -/
theorem Ext.keep (x : Ext K H H') {a : Addr} {o : HO} (h : H a = some o) (h1 : ∀ kvs, o = .dK kvs → kvs.length ≠ 5) (h2 : ∀ ps, o ≠ .tbl ps) : H' a = some o := by
  rcases x.at_ a o h with h | ⟨kvs, _, e, l, _⟩ | ⟨ps, e⟩
  · exact h
  · exact absurd l (h1 kvs e)
  · exact absurd e (h2 ps)
theorem Ext.tup (x : Ext K H H') {a : Addr} {vs : List V} (h : H a = some (.tup vs)) : H' a = some (.tup vs) := x.keep h (fun _ z => by cases z) fun _ z => by cases z
theorem Ext.lst (x : Ext K H H') {a : Addr} {vs : List V} (h : H a = some (.lst vs)) : H' a = some (.lst vs) := x.keep h (fun _ z => by cases z) fun _ z => by cases z
theorem Ext.frz (x : Ext K H H') {a : Addr} {o : Obj} {u : HO} (h : H a = some (.frz o u)) : H' a = some (.frz o u) := x.keep h (fun _ z => by cases z) fun _ z => by cases z
theorem Ext.xd (x : Ext K H H') {a : Addr} {fs : List (Str × V)} (h : H a = some (.xd fs)) : H' a = some (.xd fs) := x.keep h (fun _ z => by cases z) fun _ z => by cases z
theorem Ext.ins (x : Ext K H H') {a C dx : Addr} {fs : List (Str × V)} (h : H a = some (.ins C dx fs)) : H' a = some (.ins C dx fs) := x.keep h (fun _ z => by cases z) fun _ z => by cases z
theorem Ext.seqT (x : Ext K H H') {a : Addr} {vs : List V} (h : SqT K.K H a vs) : SqT K.K H' a vs := by
  rcases (h) with (h | ⟨o, h⟩) | h
  · exact .inl (.inl (x.tup h))
  · exact .inl (.inr ⟨o, x.frz h⟩)
  · exact .inr h
theorem Ext.seqL (x : Ext K H H') {a : Addr} {vs : List V} (h : SqL K.K H a vs) : SqL K.K H' a vs := by
  rcases (h) with (h | ⟨o, h⟩) | h
  · exact .inl (.inl (x.lst h))
  · exact .inl (.inr ⟨o, x.frz h⟩)
  · exact .inr h
theorem Ext.penAt (x : Ext K H H') {kvs : List (Key × V)} (h : PenAt K H kvs) : PenAt K H' kvs := by
  obtain ⟨c, xs, i, g, n, f, e, hl, r⟩ := h
  exact ⟨c, xs, i, g, n, f, e, x.seqL hl, r⟩
theorem PenAt.len {kvs : List (Key × V)} (h : PenAt K H kvs) : kvs.length = 5 := by
  obtain ⟨c, xs, i, g, n, f, rfl, _⟩ := h
  rfl
theorem Ext.trans (x : Ext K H H1) (y : Ext K H1 H2) : Ext K H H2 := ⟨fun a o e => by
  rcases x.at_ a o e with e1 | ⟨kvs, kvs', rfl, l0, e1, l1, p1⟩ | ⟨ps, rfl⟩
  · exact y.at_ a o e1
  · rcases y.at_ a _ e1 with e2 | ⟨k1, k2, _, _, e2, l2, p2⟩ | ⟨_, z⟩
    · exact .inr (.inl ⟨_, _, rfl, l0, e2, l1, y.penAt p1⟩)
    · exact .inr (.inl ⟨_, _, rfl, l0, e2, l2, p2⟩)
    · cases z
  · exact .inr (.inr ⟨_, rfl⟩), fun t => y.tab (x.tab t)⟩
theorem Ext.bare (x : Ext K H H') : Ext { K with pn := [] } H H' := ⟨x.at_, x.tab⟩
mutual
theorem Rep.ext {K : KC} (x : Ext K H H') : ∀ (d : D) (v : V), Rep K H v d → Rep K H' v d
  | .non, _, h => by simpa [Rep] using h
  | .bl _, _, h => by simpa [Rep] using h
  | .int _, _, h => by simpa [Rep] using h
  | .str _, _, h => by simpa [Rep] using h
  | .tup ds, v, h => by
    unfold Rep at h ⊢
    obtain ⟨a, vs, e, s, r⟩ := h
    exact ⟨a, vs, e, x.tup s, Reps.ext x ds vs r⟩
  | .lst ds, v, h => by
    unfold Rep at h ⊢
    obtain ⟨a, vs, e, s, r⟩ := h
    exact ⟨a, vs, e, x.lst s, Reps.ext x ds vs r⟩
  | .scr xs, v, h => by
    unfold Rep at h ⊢
    obtain ⟨a, e, s⟩ := h
    exact ⟨a, e, x.seqL s⟩
  | .dct ds, v, h => by
    unfold Rep at h ⊢
    obtain ⟨a, kvs, e, s, l, r⟩ := h
    exact ⟨a, kvs, e, x.keep s (fun k e5 => by cases e5; omega) (fun _ z => by cases z), l, RepK.ext x ds kvs r⟩
  | .ins C ds, v, h => by
    unfold Rep at h ⊢
    obtain ⟨a, dx, fs, e, s, r⟩ := h
    exact ⟨a, dx, fs, e, x.ins s, RepF.ext x ds fs r⟩
  | .pen, v, h => by
    unfold Rep at h ⊢
    obtain ⟨a, kvs, e, s, p⟩ := h
    rcases x.at_ _ _ s with s | ⟨_, k', z, _, s, _, p'⟩ | ⟨_, z⟩
    · exact ⟨a, kvs, e, s, x.penAt p⟩
    · exact ⟨a, k', e, s, p'⟩
    · cases z
  | .exc c ds, v, h => by
    unfold Rep at h ⊢
    obtain ⟨a, oe, od, e, m, z, d, q⟩ := h
    refine ⟨a, oe, od, e, m, z, d, q.imp id ?_⟩
    rintro ⟨dd, fs, e1, e2, r⟩
    exact ⟨dd, fs, e1, x.xd e2, RepF.ext x.bare ds fs r⟩
theorem Reps.ext {K : KC} (x : Ext K H H') : ∀ (ds : List D) (vs : List V), Reps K H vs ds → Reps K H' vs ds
  | [], _, h => by simpa [Reps] using h
  | d :: ds, vs, h => by
    unfold Reps at h ⊢
    obtain ⟨v, r, e, h1, h2⟩ := h
    exact ⟨v, r, e, Rep.ext x d v h1, Reps.ext x ds r h2⟩
theorem RepK.ext {K : KC} (x : Ext K H H') : ∀ (ds : List (Key × D)) (vs : List (Key × V)), RepK K H vs ds → RepK K H' vs ds
  | [], _, h => by simpa [RepK] using h
  | (k, d) :: ds, vs, h => by
    unfold RepK at h ⊢
    obtain ⟨v, r, e, h1, h2⟩ := h
    exact ⟨v, r, e, Rep.ext x d v h1, RepK.ext x ds r h2⟩
theorem RepF.ext {K : KC} (x : Ext K H H') : ∀ (ds : List (Str × D)) (vs : List (Str × V)), RepF K H vs ds → RepF K H' vs ds
  | [], _, h => by simpa [RepF] using h
  | (k, d) :: ds, vs, h => by
    unfold RepF at h ⊢
    obtain ⟨v, r, e, h1, h2⟩ := h
    exact ⟨v, r, e, Rep.ext x d v h1, RepF.ext x ds r h2⟩
end
end

/-! ### two heaps side by side: what is shared, and the rest -/
def jn (F R : Hp) : Hp := fun a => match F a with
  | some o => some o
  | none => R a
/-- no object in both; the rest holds no tables and no code -/
def NT : HO → Prop
  | .tbl _ => False
  | .ext _ => False
  | _ => True
structure Dj (F R : Hp) : Prop where
  dj : ∀ a o, F a = some o → R a = none
  nt : ∀ a o, R a = some o → NT o
instance {F R : Hp} : CoeFun (Dj F R) (fun _ => ∀ a o, F a = some o → R a = none) := ⟨Dj.dj⟩
section
variable {K : KC} {F F' R : Hp} {a : Addr} {o : HO}
theorem jn_l (h : F a = some o) : jn F R a = some o := by unfold jn; rw [h]
theorem jn_r (h : F a = none) : jn F R a = R a := by unfold jn; rw [h]
theorem jn_none (h : jn F R a = none) : F a = none ∧ R a = none := by
  unfold jn at h
  cases e : F a with
  | none => rw [e] at h; exact ⟨rfl, h⟩
  | some o => rw [e] at h; cases h
theorem jn_of_r (dj : Dj F R) (h : R a = some o) : F a = none ∧ jn F R a = some o := by
  have e : F a = none := by
    cases e : F a with
    | none => rfl
    | some u => have := dj _ _ e; rw [h] at this; cases this
  exact ⟨e, (jn_r e).trans h⟩
/-- a new object, shared -/
theorem jn_newF (h : jn F R a = none) : upd (jn F R) a o = jn (upd F a o) R := by
  funext b
  by_cases hb : b = a
  · subst hb; rw [upd_same]; exact (jn_l upd_same).symm
  · rw [upd_ne hb]; unfold jn; rw [upd_ne hb]
theorem Dj.newF (dj : Dj F R) (h : jn F R a = none) : Dj (upd F a o) R := ⟨fun b u e => by
  by_cases hb : b = a
  · subst hb; exact (jn_none h).2
  · rw [upd_ne hb] at e; exact dj b u e, dj.nt⟩
theorem Ext.of (h : ∀ b u, F b = some u → F' b = some u) : Ext K F F' := ⟨fun b u e => .inl (h b u e), fun t => t.ext h⟩
theorem Ext.newF (h : jn F R a = none) : Ext K F (upd F a o) := .of fun b u e => by
  have : b ≠ a := fun z => by subst z; rw [(jn_none h).1] at e; cases e
  rw [upd_ne this]
  exact e
/-- a new object, of the rest; one of the rest written -/
theorem jn_updR (h : F a = none) : upd (jn F R) a o = jn F (upd R a o) := by
  funext b
  by_cases hb : b = a
  · subst hb; rw [upd_same, jn_r h, upd_same]
  · rw [upd_ne hb]; unfold jn; rw [upd_ne hb]
theorem Dj.updR (dj : Dj F R) (h : F a = none) (ho : NT o := by trivial) : Dj F (upd R a o) := ⟨fun b u e => by
  have : b ≠ a := fun z => by subst z; rw [h] at e; cases e
  rw [upd_ne this]; exact dj b u e, fun b ps e => by
  by_cases hb : b = a
  · subst hb; rw [upd_same] at e; rw [← Option.some.inj e]; exact ho
  · rw [upd_ne hb] at e; exact dj.nt b ps e⟩
def dlt (R : Hp) (a : Addr) : Hp := fun b => if b = a then none else R b
theorem dlt_ne {b : Addr} (h : b ≠ a) : dlt R a b = R b := if_neg h
theorem dlt_same : dlt R a a = none := if_pos rfl
/-- an object of the rest becomes shared -/
theorem jn_move (dj : Dj F R) (h : R a = some o) : jn F R = jn (upd F a o) (dlt R a) := by
  funext b
  by_cases hb : b = a
  · subst hb; rw [jn_l upd_same]; exact (jn_of_r dj h).2
  · unfold jn; rw [upd_ne hb, dlt_ne hb]
theorem Dj.move (dj : Dj F R) (h : R a = some o) : Dj (upd F a o) (dlt R a) := ⟨fun b u e => by
  by_cases hb : b = a
  · subst hb; exact dlt_same
  · rw [upd_ne hb] at e; rw [dlt_ne hb]; exact dj b u e, fun b ps e => by
  by_cases hb : b = a
  · subst hb; rw [dlt_same] at e; cases e
  · rw [dlt_ne hb] at e; exact dj.nt b ps e⟩
theorem Ext.move (dj : Dj F R) (h : R a = some o) : Ext K F (upd F a o) := .of fun b u e => by
  have : b ≠ a := fun z => by subst z; rw [(jn_of_r dj h).1] at e; cases e
  rw [upd_ne this]
  exact e
/-- the rest without the object at p -/
theorem dj_down (np : R a = none) (dj : Dj F (upd R a o)) : F a = none ∧ Dj F R := by
  have n : F a = none := by
    cases e : F a with
    | none => rfl
    | some u =>
      have := dj a u e
      rw [upd_same] at this
      cases this
  refine ⟨n, fun b u e => ?_, fun b ps e => ?_⟩
  · have := dj b u e
    by_cases hb : b = a
    · rw [hb]; exact np
    · rw [upd_ne hb] at this; exact this
  · by_cases hb : b = a
    · rw [hb, np] at e; cases e
    · exact dj.nt b ps (by rw [upd_ne hb]; exact e)
end
end L3
namespace L3
open PySem PySem.Spec L2
open PyProof.Rows hiding St
/-- an exception as data -/
structure XD where
  cls : Str
  fs : List (Str × D)
inductive Sl where
  | emp | val (d : D) | own (ds : List D) | obj (c : Str) (a : Addr) (fs : List (Str × D))
abbrev Env3 := List Sl
/-- what a piece of code gives, over data: the wish of its value, the wish of its exception -/
abbrev RG (α : Type) := Env3 → (α → Prop) → (XD → Prop) → Prop
abbrev RE := RG D
abbrev RT := RG Bool
abbrev RA := RG (List D)

def RepX (K : KC) (H : Hp) (cls : Value) (od : Option Addr) (x : XD) : Prop :=
  cls = .ref (K.cm x.cls) ∧ ((x.fs = [] ∧ od = none) ∨ ∃ dd fs, od = some dd ∧ H dd = some (.xd fs) ∧ RepF K H fs x.fs)
theorem RepX.ext {K : KC} {H H' : Hp} {cls : Value} {od : Option Addr} {x : XD} (h : RepX K H cls od x) (e : Ext K H H') : RepX K H' cls od x := by
  obtain ⟨c, h | ⟨dd, fs, ho, hd, r⟩⟩ := h
  · exact ⟨c, .inl h⟩
  · exact ⟨c, .inr ⟨dd, fs, ho, e.xd hd, RepF.ext e _ _ r⟩⟩

/-- what is shared at a def's entry; what the callers own -/
structure Bs where
  F0 : Hp
  Fr : Hp
  T : List (Addr × Str)
/-- the slots hold what is told of them: shared data, or a list of one's own. B: what is shared at the def's entry, and the callers' own -/
structure Wd (K : KC) (B : Bs) (σ : St) (F R : Hp) (ρ : Env3) : Prop where
  tb : LamX.Tabs K.T F
  ex : Ext K B.F0 F
  fr : ∀ a o, B.Fr a = some o → R a = some o
  dj : Dj F R
  len : σ.length = ρ.length
  val : ∀ (i : Nat) (d : D), ρ[i]? = some (.val d) → ∃ v, σ[i]? = some (some v) ∧ Rep K F v d
  own : ∀ (i : Nat) (ds : List D), ρ[i]? = some (.own ds) → ∃ a vs, σ[i]? = some (some (.ref a)) ∧ R a = some (.lst vs) ∧ Reps K F vs ds ∧ B.Fr a = none
  obj : ∀ (i : Nat) (c : Str) (a : Addr) (fs : List (Str × D)), ρ[i]? = some (.obj c a fs) → i = 0 ∧ ∃ dx ws, σ[i]? = some (some (.ref a)) ∧ R a = some (.ins (K.cm c) dx ws) ∧ R dx = some (.own a) ∧ RepF K F ws fs ∧ B.Fr a = none ∧ B.Fr dx = none
  sep : ∀ (i j : Nat) (a : Addr) (di dj : List D), ρ[i]? = some (.own di) → ρ[j]? = some (.own dj) → σ[i]? = some (some (.ref a)) → σ[j]? = some (some (.ref a)) → i = j
theorem Wd.ext {K : KC} {B : Bs} {σ : St} {F F' R : Hp} {ρ : Env3} (w : Wd K B σ F R ρ) (e : Ext K F F') (dj : Dj F' R) : Wd K B σ F' R ρ where
  tb := e.tab w.tb
  ex := w.ex.trans e
  fr := w.fr
  dj := dj
  len := w.len
  val := fun i d h => let ⟨v, a, b⟩ := w.val i d h; ⟨v, a, Rep.ext e _ _ b⟩
  own := fun i ds h => let ⟨a, vs, p, q, r, n⟩ := w.own i ds h; ⟨a, vs, p, q, Reps.ext e _ _ r, n⟩
  obj := fun i c a fs h => let ⟨z, dx, ws, p, q, r, s, t⟩ := w.obj i c a fs h; ⟨z, dx, ws, p, q, r, RepF.ext e _ _ s, t⟩
  sep := w.sep

/-- what is wanted behind, from F on -/
structure Kont {α β : Type} (rep : Hp → β → α → Prop) (K : KC) (W : WX) (σ : St) (Q : β → Hp → Prop) (F R : Hp) (Q' : α → Prop) (E' : XD → Prop) : Prop where
  ok : ∀ v d F', Ext K F F' → Dj F' R → rep F' v d → Q' d → Q v (jn F' R)
  ex : ∀ x cls od F', Ext K F F' → Dj F' R → RepX K F' cls od x → E' x → W cls od σ (jn F' R)
theorem Kont.ext {α β : Type} {rep : Hp → β → α → Prop} {K : KC} {W : WX} {σ : St} {Q : β → Hp → Prop} {F F1 R : Hp} {Q' : α → Prop} {E' : XD → Prop} (k : Kont rep K W σ Q F R Q' E') (e : Ext K F F1) : Kont rep K W σ Q F1 R Q' E' :=
  ⟨fun v d F' x => k.ok v d F' (e.trans x), fun x cls od F' y => k.ex x cls od F' (e.trans y)⟩

def lf {α β : Type} (rep : Hp → β → α → Prop) (K : KC) (B : Bs) (W : WX) (r : RG α) : St → Hp → (β → Hp → Prop) → Prop := fun σ H Q =>
  ∃ F R ρ Q' E', H = jn F R ∧ Wd K B σ F R ρ ∧ r ρ Q' E' ∧ Kont rep K W σ Q F R Q' E'
abbrev repB : Hp → Bool → Bool → Prop := fun _ b c => b = c
abbrev lE (K : KC) (B : Bs) (W : WX) (r : RE) : TE := lf (Rep K) K B W r
abbrev lT (K : KC) (B : Bs) (W : WX) (r : RT) : TT := lf repB K B W r
abbrev lA (K : KC) (B : Bs) (W : WX) (r : RA) : TA := lf (Reps K) K B W r
abbrev DE (B : Bs) (X : Cx) (W : WX) (e : Expr) (r : RE) : Prop := PE X e (lE (kc B.T X) B W r)
abbrev DT (B : Bs) (X : Cx) (W : WX) (e : Expr) (r : RT) : Prop := PT X e (lT (kc B.T X) B W r)
abbrev DA (B : Bs) (X : Cx) (W : WX) (es : List Expr) (r : RA) : Prop := PA X es (lA (kc B.T X) B W r)
/-- one behind the other -/
def rB {α γ : Type} (a : RG α) (k : α → RG γ) : RG γ := fun ρ Q E => a ρ (fun d => k d ρ Q E) E

theorem lf_then {α β γ δ : Type} {rep : Hp → β → α → Prop} {rep2 : Hp → δ → γ → Prop} {K : KC} {B : Bs} {W : WX} {a : RG α} {k : α → RG γ} {σ : St} {H : Hp} {Q : δ → Hp → Prop} {Z : β → Hp → Prop}
    (h : lf rep2 K B W (rB a k) σ H Q)
    (hz : ∀ v d F R ρ Q' E', Wd K B σ F R ρ → rep F v d → k d ρ Q' E' → Kont rep2 K W σ Q F R Q' E' → Z v (jn F R)) : lf rep K B W a σ H Z := by
  obtain ⟨F, R, ρ, Q', E', rfl, w, r, c⟩ := h
  exact ⟨F, R, ρ, _, E', rfl, w, r, fun v d F' x dj rp q => hz v d F' R ρ Q' E' (w.ext x dj) rp q (c.ext x), c.ex⟩
theorem _root_.L2.PE.imp {X : Cx} {e : Expr} {t t' : TE} (h : PE X e t) (i : ∀ σ H Q, t' σ H Q → t σ H Q) : PE X e t' := ⟨fun pins s σ H Q I q => h.run pins s σ H Q I (i σ H Q q)⟩
theorem _root_.L2.PT.imp {X : Cx} {e : Expr} {t t' : TT} (h : PT X e t) (i : ∀ σ H Q, t' σ H Q → t σ H Q) : PT X e t' := ⟨fun pins s σ H Q I q => h.run pins s σ H Q I (i σ H Q q)⟩
theorem _root_.L2.PW.imp {X : Cx} {e : Expr} {t t' : TT} (h : PW X e t) (i : ∀ σ H Q, t' σ H Q → t σ H Q) : PW X e t' := ⟨fun wh pins s σ H Q I q => h.run wh pins s σ H Q I (i σ H Q q)⟩
theorem _root_.L2.PA.imp {X : Cx} {es : List Expr} {t t' : TA} (h : PA X es t) (i : ∀ σ H Q, t' σ H Q → t σ H Q) : PA X es t' := ⟨fun p pins s σ H Q I q => h.run p pins s σ H Q I (i σ H Q q)⟩
theorem _root_.L2.PS.imp {X : Cx} {st : Stmt} {t t' : TS} (h : PS X st t) (i : ∀ D σ H, t' D σ H → t D σ H) : PS X st t' := ⟨fun pins s σ H D I q => h.run pins s σ H D I (i D σ H q)⟩
theorem _root_.L2.PSs.imp {X : Cx} {st : List Stmt} {t t' : TS} (h : PSs X st t) (i : ∀ D σ H, t' D σ H → t D σ H) : PSs X st t' := ⟨fun pins s σ H D I q => h.run pins s σ H D I (i D σ H q)⟩

section
variable {B : Bs} {X : Cx} {W : WX} {a b c e : Expr} {es rest : List Expr} {ra rb rc re : RE} {rt : RT} {rs : RA} {pos : Pos}
/-! ### names, constants -/
def rVar (i : Nat) : RE := fun ρ Q _ => match ρ[i]? with
  | some (.val d) => Q d
  | _ => False
theorem de_name {x : Str} {i : Nat} (h : PE X (.Name x pos) (tVar i)) : DE B X W (.Name x pos) (rVar i) := h.imp fun σ H Q ⟨F, R, ρ, Q', E', e, w, r, k⟩ => by
  subst e
  unfold rVar at r
  split at r
  · rename_i d hd
    obtain ⟨v, hv, rp⟩ := w.val i d hd
    exact ⟨v, hv, k.ok v d F (.refl _) w.dj rp r⟩
  · exact r.elim
/-- a constant -/
def rC {α : Type} (d : α) : RG α := fun _ Q _ => Q d
theorem de_c {v : V} {d : D} (hr : ∀ H, Rep (kc B.T X) H v d) (h : PE X e (tC v)) : DE B X W e (rC d) := h.imp fun σ H Q ⟨F, R, ρ, Q', E', e, w, r, k⟩ => by
  subst e
  exact k.ok v d F (.refl _) w.dj (hr _) r
theorem de_int {i : Int} {j : Nat} : DE B X W (.Constant (.int i) j pos) (rC (.int i)) := de_c (fun _ => by simp [Rep]) pe_int
theorem de_bl {b : Bool} {j : Nat} : DE B X W (.Constant (.bool b) j pos) (rC (.bl b)) := de_c (fun _ => by simp [Rep]) pe_bl
theorem de_non {j : Nat} : DE B X W (.Constant .none j pos) (rC .non) := de_c (fun _ => by simp [Rep]) pe_non
theorem de_str {x : Str} {j : Nat} : DE B X W (.Constant (.str x) j pos) (rC (.str x)) := de_c (fun _ => by simp [Rep]) pe_str

/-! ### operators -/
abbrev G2 := D → D → (D → Prop) → Prop
abbrev G1 := D → (D → Prop) → Prop
/-- what a wish over data asks of a value that is made -/
structure KV1 (K : KC) (F R : Hp) (Q' : D → Prop) (Q : VK) : Prop where
  ok : ∀ v d F', Ext K F F' → Dj F' R → Rep K F' v d → Q' d → Q v (jn F' R)
theorem Kont.kv {K : KC} {σ : St} {Q : VK} {F R : Hp} {Q' : D → Prop} {E' : XD → Prop} (k : Kont (Rep K) K W σ Q F R Q' E') : KV1 K F R Q' Q := ⟨k.ok⟩
theorem KV1.now {K : KC} {F R : Hp} {Q' : D → Prop} {Q : VK} (k : KV1 K F R Q' Q) {v : V} {d : D} (dj : Dj F R) (r : Rep K F v d) (q : Q' d) : Q v (jn F R) := k.ok v d F (.refl _) dj r q
def l2 (K : KC) (g : G2) : R2 := fun x y H Q => ∃ F R d e Q', H = jn F R ∧ Dj F R ∧ Rep K F x d ∧ Rep K F y e ∧ g d e Q' ∧ KV1 K F R Q' Q
def l1 (K : KC) (g : G1) : V → Hp → VK → Prop := fun x H Q => ∃ F R d Q', H = jn F R ∧ Dj F R ∧ Rep K F x d ∧ g d Q' ∧ KV1 K F R Q' Q
abbrev Op2 (X : Cx) (f : Value → Value → Sem Value) (g : G2) : Prop := ∀ T, OpR X f (l2 (kc T X) g)
def rOp (g : G2) (ra rb : RE) : RE := fun ρ Q E => ra ρ (fun d => rb ρ (fun e => g d e Q) E) E
def rUn (g : G1) (ra : RE) : RE := fun ρ Q E => ra ρ (fun d => g d Q) E
theorem lE_op {K : KC} {g : G2} {σ : St} {H : Hp} {Q : VK} (h : lE K B W (rOp g ra rb) σ H Q) : tOp (l2 K g) (lE K B W ra) (lE K B W rb) σ H Q := by
  refine lf_then (k := fun d ρ Q E => rb ρ (fun e => g d e Q) E) h fun v d F R ρ Q' E' w rv q k => ?_
  refine ⟨F, R, ρ, _, E', rfl, w, q, fun u e F' x dj ru q2 => ?_, k.ex⟩
  exact ⟨F', R, d, e, Q', rfl, dj, Rep.ext x _ _ rv, ru, q2, (k.ext x).kv⟩
theorem de_op {op : Operator} {g : G2} (ho : Op2 X (binaryOp op) g) (ha : DE B X W a ra) (hb : DE B X W b rb) : DE B X W (.BinOp a op b pos) (rOp g ra rb) := (pe_op (ho B.T) ha hb).imp fun _ _ _ h => lE_op h
theorem de_cmp {op : CmpOp} {g : G2} (ho : Op2 X (compareOp op) g) (ha : DE B X W a ra) (hb : DE B X W b rb) (hm : behindInMarks op b = false) : DE B X W (.Compare a [op] [b] pos) (rOp g ra rb) :=
  (pe_cmpR (ho B.T) ha hb hm).imp fun _ _ _ h => lE_op h
theorem de_un {op : UnaryOp} {g : G1} (ho : UnR X (unaryOp op) (l1 (kc B.T X) g)) (ha : DE B X W a ra) : DE B X W (.UnaryOp op a pos) (rUn g ra) := (pe_un ho ha).imp fun σ H Q h => by
  refine lf_then (k := fun d _ Q _ => g d Q) h fun v d F R ρ Q' E' w rv q k => ?_
  exact ⟨F, R, d, Q', rfl, w.dj, rv, q, k.kv⟩
/-! ### tests -/
/-- a value that is a bool -/
def toB (Q : Bool → Prop) : D → Prop
  | .bl b => Q b
  | _ => False
def rTV (ra : RE) : RT := fun ρ Q E => ra ρ (toB Q) E
theorem dt_val (h : DE B X W e ra) (he : ∀ whole, isTrue e X.env whole = (do let v ← whole; standAt e.pos; holding [v] (truthy v)) := by intro _; rfl) : DT B X W e (rTV ra) := (pt_val h he).imp fun σ H Q ⟨F, R, ρ, Q', E', e, w, r, k⟩ => by
  subst e
  refine ⟨F, R, ρ, _, E', rfl, w, r, fun v d F' x dj rv q => ?_, k.ex⟩
  cases d with
  | bl b => exact ⟨b, by simpa [Rep] using rv, k.ok b b F' x dj rfl q⟩
  | _ => exact (show False from q).elim
theorem dt_cmp {op : CmpOp} {g : G2} (ho : Op2 X (compareOp op) g) (ha : DE B X W a ra) (hb : DE B X W b rb) (hm : behindInMarks op b = false) : DT B X W (.Compare a [op] [b] pos) (rTV (rOp g ra rb)) :=
  (pt_cmpR (ho B.T) ha hb hm).imp fun σ H Q ⟨F, R, ρ, Q', E', e, w, r, k⟩ => by
    subst e
    show tOp (l2 (kc B.T X) g) (lE (kc B.T X) B W ra) (lE (kc B.T X) B W rb) σ _ _
    refine lE_op ⟨F, R, ρ, _, E', rfl, w, r, fun v d F' x dj rv q => ?_, k.ex⟩
    cases d with
    | bl b => exact ⟨b, by simpa [Rep] using rv, k.ok b b F' x dj rfl q⟩
    | _ => exact (show False from q).elim
def rNot (t : RT) : RT := fun ρ Q E => t ρ (fun b => Q (!b)) E
def rAnd (t u : RT) : RT := fun ρ Q E => t ρ (fun b => match b with | true => u ρ Q E | false => Q false) E
def rOr (t u : RT) : RT := fun ρ Q E => t ρ (fun b => match b with | true => Q true | false => u ρ Q E) E
theorem dt_not (h : DT B X W a rt) : DT B X W (.UnaryOp .Not a pos) (rNot rt) := (pt_not h).imp fun σ H Q ⟨F, R, ρ, Q', E', e, w, r, k⟩ => by
  subst e
  exact ⟨F, R, ρ, _, E', rfl, w, r, fun v d F' x dj rv q => k.ok (!v) (!d) F' x dj (congrArg _ rv) q, k.ex⟩
abbrev DW (B : Bs) (X : Cx) (W : WX) (e : Expr) (r : RT) : Prop := PW X e (lT (kc B.T X) B W r)
variable {ta tb : RT}
theorem dw_and1 (ha : DT B X W a ta) : DW B X W (.BoolOp .And [a] pos) ta := pw_and1 ha
theorem dw_or1 (ha : DT B X W a ta) : DW B X W (.BoolOp .Or [a] pos) ta := pw_or1 ha
theorem dw_and (ha : DT B X W a ta) (hb : DW B X W (.BoolOp .And (b :: rest) pos) tb) : DW B X W (.BoolOp .And (a :: b :: rest) pos) (rAnd ta tb) := (pw_and ha hb).imp fun σ H Q ⟨F, R, ρ, Q', E', e, w, r, k⟩ => by
  subst e
  refine ⟨F, R, ρ, _, E', rfl, w, r, fun v d F' x dj rv q => ?_, k.ex⟩
  cases rv
  cases v with
  | true => exact ⟨F', R, ρ, Q', E', rfl, w.ext x dj, q, k.ext x⟩
  | false => exact k.ok false false F' x dj rfl q
theorem dw_or (ha : DT B X W a ta) (hb : DW B X W (.BoolOp .Or (b :: rest) pos) tb) : DW B X W (.BoolOp .Or (a :: b :: rest) pos) (rOr ta tb) := (pw_or ha hb).imp fun σ H Q ⟨F, R, ρ, Q', E', e, w, r, k⟩ => by
  subst e
  refine ⟨F, R, ρ, _, E', rfl, w, r, fun v d F' x dj rv q => ?_, k.ex⟩
  cases rv
  cases v with
  | false => exact ⟨F', R, ρ, Q', E', rfl, w.ext x dj, q, k.ext x⟩
  | true => exact k.ok true true F' x dj rfl q
theorem dt_w (h : DW B X W e rt) : DT B X W e rt := PW.pt h
/-- a if c else b -/
def rIte {α : Type} (t : RT) (a b : RG α) : RG α := fun ρ Q E => t ρ (fun c => match c with | true => a ρ Q E | false => b ρ Q E) E
theorem de_ite (hc : DT B X W c rt) (ha : DE B X W a ra) (hb : DE B X W b rb) : DE B X W (.IfExp c a b pos) (rIte rt ra rb) := (pe_ifExp hc ha hb).imp fun σ H Q ⟨F, R, ρ, Q', E', e, w, r, k⟩ => by
  subst e
  refine ⟨F, R, ρ, _, E', rfl, w, r, fun v d F' x dj rv q => ?_, k.ex⟩
  cases rv
  cases v with
  | true => exact ⟨F', R, ρ, Q', E', rfl, w.ext x dj, q, k.ext x⟩
  | false => exact ⟨F', R, ρ, Q', E', rfl, w.ext x dj, q, k.ext x⟩
/-- and, or, not as values -/
def rAndV (a b : RE) : RE := fun ρ Q E => a ρ (toB fun c => match c with | true => b ρ Q E | false => Q (.bl false)) E
def rOrV (a b : RE) : RE := fun ρ Q E => a ρ (toB fun c => match c with | true => Q (.bl true) | false => b ρ Q E) E
def rNotV (a : RE) : RE := fun ρ Q E => a ρ (toB fun c => Q (.bl (!c))) E
theorem de_one {op : BoolOp} (h : DE B X W a ra) : DE B X W (.BoolOp op [a] pos) ra := pe_one h
theorem de_and (ha : DE B X W a ra) (hb : DE B X W (.BoolOp .And (b :: rest) pos) rb) : DE B X W (.BoolOp .And (a :: b :: rest) pos) (rAndV ra rb) := (pe_and ha hb).imp fun σ H Q ⟨F, R, ρ, Q', E', e, w, r, k⟩ => by
  subst e
  refine ⟨F, R, ρ, _, E', rfl, w, r, fun v d F' x dj rv q => ?_, k.ex⟩
  cases d with
  | bl c =>
    refine ⟨c, by simpa [Rep] using rv, ?_⟩
    cases c with
    | true => exact ⟨F', R, ρ, Q', E', rfl, w.ext x dj, q, k.ext x⟩
    | false => exact k.ok _ _ F' x dj (by simp [Rep]) q
  | _ => exact (show False from q).elim
theorem de_or (ha : DE B X W a ra) (hb : DE B X W (.BoolOp .Or (b :: rest) pos) rb) : DE B X W (.BoolOp .Or (a :: b :: rest) pos) (rOrV ra rb) := (pe_or ha hb).imp fun σ H Q ⟨F, R, ρ, Q', E', e, w, r, k⟩ => by
  subst e
  refine ⟨F, R, ρ, _, E', rfl, w, r, fun v d F' x dj rv q => ?_, k.ex⟩
  cases d with
  | bl c =>
    refine ⟨c, by simpa [Rep] using rv, ?_⟩
    cases c with
    | false => exact ⟨F', R, ρ, Q', E', rfl, w.ext x dj, q, k.ext x⟩
    | true => exact k.ok _ _ F' x dj (by simp [Rep]) q
  | _ => exact (show False from q).elim
theorem de_not (ha : DE B X W a ra) : DE B X W (.UnaryOp .Not a pos) (rNotV ra) := (pe_not ha).imp fun σ H Q ⟨F, R, ρ, Q', E', e, w, r, k⟩ => by
  subst e
  refine ⟨F, R, ρ, _, E', rfl, w, r, fun v d F' x dj rv q => ?_, k.ex⟩
  cases d with
  | bl c => exact ⟨c, by simpa [Rep] using rv, k.ok _ _ F' x dj (by simp [Rep]) q⟩
  | _ => exact (show False from q).elim
/-! ### argument lists, displays -/
def rNil : RA := fun _ Q _ => Q []
def rCons (ra : RE) (rs : RA) : RA := fun ρ Q E => ra ρ (fun d => rs ρ (fun ds => Q (d :: ds)) E) E
theorem da_nil : DA B X W [] rNil := pa_nil.imp fun σ H Q ⟨F, R, ρ, Q', E', e, w, r, k⟩ => by
  subst e
  exact k.ok [] [] F (.refl _) w.dj (by simp [Reps]) r
theorem Reps.cons {K : KC} {F : Hp} {v : V} {vs : List V} {d : D} {ds : List D} (h : Rep K F v d) (hs : Reps K F vs ds) : Reps K F (v :: vs) (d :: ds) := by
  unfold Reps
  exact ⟨v, vs, rfl, h, hs⟩
theorem da_cons (ha : DE B X W e re) (hr : DA B X W es rs) (hs : starEach (e :: es) X.env = (false, eval e X.env) :: starEach es X.env := by rfl) : DA B X W (e :: es) (rCons re rs) := (pa_cons ha hr hs).imp fun σ H Q h => by
  refine lf_then (k := fun d ρ Q E => rs ρ (fun ds => Q (d :: ds)) E) h fun v d F R ρ Q' E' w rv q k => ?_
  exact ⟨F, R, ρ, _, E', rfl, w, q, fun u e F' x dj ru q2 => k.ok _ _ F' x dj (Reps.cons (Rep.ext x _ _ rv) ru) q2, k.ex⟩
theorem Reps.length {K : KC} {F : Hp} : ∀ {ds : List D} {vs : List V}, Reps K F vs ds → vs.length = ds.length
  | [], _, h => by
    unfold Reps at h
    rw [h]
    rfl
  | d :: ds, _, h => by
    unfold Reps at h
    obtain ⟨v, r, rfl, _, h2⟩ := h
    rw [List.length_cons, List.length_cons, Reps.length h2]
def rTup (rs : RA) : RE := fun ρ Q E => rs ρ (fun ds => ds.length ≤ sizeLine ∧ Q (.tup ds)) E
theorem KV1.tup {K : KC} {F R : Hp} {Q' : D → Prop} {Q : VK} (k : KV1 K F R Q' Q) {vs : List V} {ds : List D} (dj : Dj F R) (r : Reps K F vs ds) (q : Q' (.tup ds)) {p : Addr} (hp : jn F R p = none) : Q (.ref p) (upd (jn F R) p (.tup vs)) := by
  rw [jn_newF hp]
  have e : Ext K F (upd F p (.tup vs)) := Ext.newF hp
  refine k.ok _ (.tup ds) _ e (dj.newF hp) ?_ q
  unfold Rep
  exact ⟨p, vs, rfl, upd_same, Reps.ext e _ _ r⟩
theorem KV1.lst {K : KC} {F R : Hp} {Q' : D → Prop} {Q : VK} (k : KV1 K F R Q' Q) {vs : List V} {ds : List D} (dj : Dj F R) (r : Reps K F vs ds) (q : Q' (.lst ds)) {p : Addr} (hp : jn F R p = none) : Q (.ref p) (upd (jn F R) p (.lst vs)) := by
  rw [jn_newF hp]
  have e : Ext K F (upd F p (.lst vs)) := Ext.newF hp
  refine k.ok _ (.lst ds) _ e (dj.newF hp) ?_ q
  unfold Rep
  exact ⟨p, vs, rfl, upd_same, Reps.ext e _ _ r⟩
theorem de_tup {x1 : Nat} (h : DA B X W es rs) : DE B X W (.Tuple es x1 pos) (rTup rs) := (pe_tup h).imp fun σ H Q ⟨F, R, ρ, Q', E', e, w, r, k⟩ => by
  subst e
  refine ⟨F, R, ρ, _, E', rfl, w, r, fun vs ds F' x dj rv q => ?_, k.ex⟩
  exact ⟨by rw [rv.length]; exact q.1, fun p hp => (k.ext x).kv.tup dj rv q.2 hp⟩
/-! ### new lists -/
/-- a piece of code that gives a new list: wanted of its items -/
def lL (K : KC) (B : Bs) (W : WX) (r : RA) : TE := fun σ H Q =>
  ∃ F R ρ Q' E', H = jn F R ∧ Wd K B σ F R ρ ∧ r ρ Q' E' ∧ (∀ p vs ds F', Ext K F F' → Dj F' R → Reps K F' vs ds → vs.length ≤ sizeLine → Q' ds → jn F' R p = none → Q (.ref p) (upd (jn F' R) p (.lst vs))) ∧
    ∀ x cls od F', Ext K F F' → Dj F' R → RepX K F' cls od x → E' x → W cls od σ (jn F' R)
abbrev FE (B : Bs) (X : Cx) (W : WX) (e : Expr) (r : RA) : Prop := PE X e (lL (kc B.T X) B W r)
def rL (rs : RA) : RE := fun ρ Q E => rs ρ (fun ds => Q (.lst ds)) E
/-- .. shared from the start -/
theorem de_new (h : FE B X W e rs) : DE B X W e (rL rs) := PE.imp h fun σ H Q ⟨F, R, ρ, Q', E', e, w, r, k⟩ => by
  subst e
  refine ⟨F, R, ρ, _, E', rfl, w, r, fun p vs ds F' x dj rv _ q hp => ?_, k.ex⟩
  exact (k.ext x).kv.lst dj rv q hp
def rLst (rs : RA) : RA := fun ρ Q E => rs ρ (fun ds => ds.length ≤ sizeLine ∧ Q ds) E
theorem fe_lst (h : DA B X W es rs) : FE B X W (.List es pos) (rLst rs) := (pe_lst h).imp fun σ H Q ⟨F, R, ρ, Q', E', e, w, r, kk, kx⟩ => by
  subst e
  refine ⟨F, R, ρ, _, E', rfl, w, r, fun vs ds F' x dj rv q => ?_, kx⟩
  exact ⟨by rw [rv.length]; exact q.1, fun p hp => kk p vs ds F' x dj rv (by rw [rv.length]; exact q.1) q.2 hp⟩
end
end L3
namespace L3
open PySem PySem.Spec L2
open PyProof.Rows hiding St
theorem tupMulOne (p : Addr) (its : Array Value) (nn : Nat) (dd : Option Addr) (sl : Array (Option Value)) (x : Int) (u : Tok) (cA : (decide (x < -(2 ^ 63)) || decide (x ≥ 2 ^ 63)) = false) (cB : (its.isEmpty || x == 1) = true) :
    Meets (Builtin.«tuple.__mul__» ⟨[.ref p, .int x u], []⟩) (fun _ R s => s.heap.get? p = some { cls := .type "tuple", dict := dd, data := .seq its nn, slots := sl } ∧ R (.ok (.ret (Value.ref p))) s) :=
  .of_wp fun prog w A R s hh => by
    obtain ⟨h0, g0, d0, k0, o0⟩ := s
    obtain ⟨at0, h⟩ := hh
    have f1 := AutoSeq1.idx_int
    wp_walk using wpAny_loadPart' at0
    repeat (first
      | (refine wpAny_ite_false (decide_eq_false (by rw [cA]; exact Bool.false_ne_true)) ?_; wp_walk using wpAny_loadPart' at0)
      | (refine wpAny_ite_true (decide_eq_true (by rw [cB])) ?_; wp_walk using wpAny_loadPart' at0))
    exact ⟨_, rfl, h⟩
theorem tupMulNone (p : Addr) (its : Array Value) (nn : Nat) (dd : Option Addr) (sl : Array (Option Value)) (x : Int) (u : Tok) (cA : (decide (x < -(2 ^ 63)) || decide (x ≥ 2 ^ 63)) = false) (cB : (its.isEmpty || x == 1) = false) (cC : (decide (x ≤ 0) || its.isEmpty) = true) :
    Meets (Builtin.«tuple.__mul__» ⟨[.ref p, .int x u], []⟩) (fun _ R s => s.heap.get? p = some { cls := .type "tuple", dict := dd, data := .seq its nn, slots := sl } ∧ R (.ok (.ret (Value.ref s.heap.objs.size))) { s with heap := s.heap.push { cls := Value.type "tuple", data := Data.seq #[] } }) :=
  .of_wp fun prog w A R s hh => by
    obtain ⟨h0, g0, d0, k0, o0⟩ := s
    obtain ⟨at0, h⟩ := hh
    have f1 := AutoSeq1.idx_int
    wp_walk using wpAny_loadPart' at0
    repeat (first
      | (refine wpAny_ite_false (decide_eq_false (by rw [cA]; exact Bool.false_ne_true)) ?_; wp_walk using wpAny_loadPart' at0)
      | (refine wpAny_ite_false (decide_eq_false (by rw [cB]; exact Bool.false_ne_true)) ?_; wp_walk using wpAny_loadPart' at0)
      | (refine wpAny_ite_true (decide_eq_true (by rw [cC])) ?_; wp_walk using wpAny_loadPart' at0))
    exact ⟨_, rfl, h⟩
def rRepSm (K : PySem.W.Frag) : R2 := fun x y H Q => ∃ p k xs, x = .ref p ∧ y = .int k ∧ SqT K H p xs ∧ xs ≠ [] ∧ ((k = 1 ∧ Q (.ref p) H) ∨ (k ≤ 0 ∧ -1000 ≤ k ∧ ∀ q, H q = none → Q (.ref q) (upd H q (.tup []))))
section
variable {X : Cx}
theorem op_repSm : OpR X (binaryOp .Mult) (rRepSm X.K) := fun pins s σ H x y v u Q I rx ry ⟨p, k, xs, ex, ey, hT, hne, hq⟩ => by
  subst ex ey
  cases rx
  obtain ⟨t, rfl⟩ := ry
  obtain ⟨zs, r, ⟨⟨cls, dd, data, sl⟩, hat, hc, n, hd⟩, hs⟩ := I.tuple hT
  dsimp only at hc hd
  subst hc hd
  have hi : zs.toArray.isEmpty = false := by
    cases zs with
    | nil => cases r; exact absurd rfl hne
    | cons a b => rfl
  have cA : (decide (k < -(2 ^ 63)) || decide (k ≥ 2 ^ 63)) = false := by
    rcases hq with ⟨rfl, _⟩ | ⟨h1, h2, _⟩
    · decide
    · rw [decide_eq_false (by omega), decide_eq_false (by omega)] <;> rfl
  refine wpAny_binaryOp_repeat_ref (T := "tuple") (U := "int") (by decide) ⟨_, hat, rfl⟩ (fun s' => typeIs_int s' k t) noFill_tuple_mul F.fills_int_mul F.slot_int_rmul repeat_tuple F.slot_int_index.lookup
    (call_meets F.slot_int_rmul (typeIs_int s k t) F.entry_int_rmul (F.args_int_rmul_2 _ _) (int_rmul_tuple k t p zs.toArray n dd sl) ⟨hat, rfl, ⟨_, hat, rfl⟩, ?_⟩)
  rcases hq with ⟨rfl, q⟩ | ⟨h1, h2, q⟩
  · exact call_meets F.slot_tuple_mul ⟨_, hat, rfl⟩ F.entry_tuple_mul (F.args_tuple_mul_2 _ _) (tupMulOne p zs.toArray n dd sl 1 t cA (by rw [hi]; rfl)) ⟨hat, ⟨.ref p, H, I, rfl, q⟩⟩
  · refine call_meets F.slot_tuple_mul ⟨_, hat, rfl⟩ F.entry_tuple_mul (F.args_tuple_mul_2 _ _) (tupMulNone p zs.toArray n dd sl k t cA (by rw [hi, Bool.false_or]; exact beq_eq_false_iff_ne.mpr (by omega)) (by rw [decide_eq_true h1]; rfl)) ⟨hat, ?_⟩
    exact ⟨.ref s.heap.objs.size, _, I.laid (t' := s.toks) (o := .tup []) (fun b ob e => Heap.get?_push_of_some _ e) (Nat.le_refl _) ⟨Nat.zero_le _, [], .nil, IsTup.new _ _⟩, rfl, q _ (I.hok.fresh (Nat.le_refl _))⟩
end
end L3
namespace L3
open PySem PySem.Spec L2
open PyProof.Rows hiding St
/-! ### what data are, by their values -/
section
variable {K : KC} {F : Hp} {v : V}
theorem rep_int {i : Int} (h : Rep K F v (.int i)) : v = .int i := by simpa [Rep] using h
theorem rep_bl {b : Bool} (h : Rep K F v (.bl b)) : v = .bl b := by simpa [Rep] using h
theorem rep_str {x : Str} (h : Rep K F v (.str x)) : v = .str x := by simpa [Rep] using h
theorem rep_non (h : Rep K F v .non) : v = .non := by simpa [Rep] using h
theorem rep_tup {ds : List D} (h : Rep K F v (.tup ds)) : ∃ a vs, v = .ref a ∧ F a = some (.tup vs) ∧ Reps K F vs ds := by unfold Rep at h; exact h
theorem rep_lst {ds : List D} (h : Rep K F v (.lst ds)) : ∃ a vs, v = .ref a ∧ F a = some (.lst vs) ∧ Reps K F vs ds := by unfold Rep at h; exact h
theorem rep_scr {xs : List Int} (h : Rep K F v (.scr xs)) : ∃ a, v = .ref a ∧ SqL K.K F a (xs.map V.int) := by unfold Rep at h; exact h
theorem of_int (i : Int) : Rep K F (.int i) (.int i) := by unfold Rep; rfl
theorem of_bl (b : Bool) : Rep K F (.bl b) (.bl b) := by unfold Rep; rfl
theorem of_str (x : Str) : Rep K F (.str x) (.str x) := by unfold Rep; rfl
theorem of_non : Rep K F .non .non := by unfold Rep; rfl
theorem of_tup {a : Addr} {vs : List V} {ds : List D} (h : F a = some (.tup vs)) (r : Reps K F vs ds) : Rep K F (.ref a) (.tup ds) := by unfold Rep; exact ⟨a, vs, rfl, h, r⟩
theorem of_lst {a : Addr} {vs : List V} {ds : List D} (h : F a = some (.lst vs)) (r : Reps K F vs ds) : Rep K F (.ref a) (.lst ds) := by unfold Rep; exact ⟨a, vs, rfl, h, r⟩
theorem sq_l {R : Hp} {a : Addr} {vs : List V} (h : F a = some (.lst vs)) : SqL K.K (jn F R) a vs := .of (jn_l h)
theorem sq_t {R : Hp} {a : Addr} {vs : List V} (h : F a = some (.tup vs)) : SqT K.K (jn F R) a vs := .of (jn_l h)
theorem sq_s {R : Hp} {a : Addr} {vs : List V} (h : SqL K.K F a vs) : SqL K.K (jn F R) a vs := by
  rcases (h) with (h | ⟨o, h⟩) | h
  · exact .inl (.inl (jn_l h))
  · exact .inl (.inr ⟨o, jn_l h⟩)
  · exact .inr h
theorem Reps.nil : Reps K F [] [] := by unfold Reps; rfl
theorem reps_nil {vs : List V} (h : Reps K F vs []) : vs = [] := by unfold Reps at h; exact h
theorem reps_cons {vs : List V} {d : D} {ds : List D} (h : Reps K F vs (d :: ds)) : ∃ v r, vs = v :: r ∧ Rep K F v d ∧ Reps K F r ds := by unfold Reps at h; exact h
theorem Reps.append : ∀ {ds : List D} {vs : List V} {ws : List V} {es : List D}, Reps K F vs ds → Reps K F ws es → Reps K F (vs ++ ws) (ds ++ es)
  | [], _, _, _, h, g => by rw [reps_nil h]; exact g
  | d :: ds, _, _, _, h, g => by
    obtain ⟨v, r, rfl, h1, h2⟩ := reps_cons h
    exact Reps.cons h1 (Reps.append h2 g)
theorem Reps.take : ∀ {ds : List D} {vs : List V} (n : Nat), Reps K F vs ds → Reps K F (vs.take n) (ds.take n)
  | _, _, 0, _ => by simpa using Reps.nil
  | [], _, n + 1, h => by rw [reps_nil h]; simpa using Reps.nil
  | d :: ds, _, n + 1, h => by
    obtain ⟨v, r, rfl, h1, h2⟩ := reps_cons h
    exact Reps.cons h1 (Reps.take n h2)
theorem Reps.drop : ∀ {ds : List D} {vs : List V} (n : Nat), Reps K F vs ds → Reps K F (vs.drop n) (ds.drop n)
  | _, _, 0, h => by simpa using h
  | [], _, n + 1, h => by rw [reps_nil h]; simpa using Reps.nil
  | d :: ds, _, n + 1, h => by
    obtain ⟨v, r, rfl, h1, h2⟩ := reps_cons h
    exact Reps.drop n h2
theorem Reps.get : ∀ {ds : List D} {vs : List V} {n : Nat} {d : D}, Reps K F vs ds → ds[n]? = some d → ∃ v, vs[n]? = some v ∧ Rep K F v d
  | [], _, _, _, _, e => by simp at e
  | d :: ds, _, 0, _, h, e => by
    obtain ⟨v, r, rfl, h1, h2⟩ := reps_cons h
    simp at e
    subst e
    exact ⟨v, rfl, h1⟩
  | d :: ds, _, n + 1, _, h, e => by
    obtain ⟨v, r, rfl, h1, h2⟩ := reps_cons h
    exact by simpa using Reps.get (n := n) h2 (by simpa using e)
theorem Reps.getV : ∀ {ds : List D} {vs : List V} {n : Nat} {v : V}, Reps K F vs ds → vs[n]? = some v → ∃ d, ds[n]? = some d ∧ Rep K F v d
  | [], _, _, _, h, e => by rw [reps_nil h] at e; simp at e
  | d :: ds, _, 0, _, h, e => by
    obtain ⟨v, r, rfl, h1, h2⟩ := reps_cons h
    simp at e
    subst e
    exact ⟨d, rfl, h1⟩
  | d :: ds, _, n + 1, _, h, e => by
    obtain ⟨v, r, rfl, h1, h2⟩ := reps_cons h
    exact by simpa using Reps.getV (n := n) h2 (by simpa using e)
theorem Reps.set : ∀ {ds : List D} {vs : List V} {d : D} {v : V} (n : Nat), Reps K F vs ds → Rep K F v d → Reps K F (vs.set n v) (ds.set n d)
  | [], _, _, _, _, h, _ => by rw [reps_nil h]; simpa using Reps.nil
  | d :: ds, _, _, _, 0, h, g => by
    obtain ⟨v, r, rfl, h1, h2⟩ := reps_cons h
    exact Reps.cons g h2
  | d :: ds, _, _, _, n + 1, h, g => by
    obtain ⟨v, r, rfl, h1, h2⟩ := reps_cons h
    exact Reps.cons h1 (Reps.set n h2 g)
theorem Reps.eraseIdx : ∀ {ds : List D} {vs : List V} (n : Nat), Reps K F vs ds → Reps K F (vs.eraseIdx n) (ds.eraseIdx n)
  | [], _, _, h => by rw [reps_nil h]; simpa using Reps.nil
  | d :: ds, _, 0, h => by
    obtain ⟨v, r, rfl, h1, h2⟩ := reps_cons h
    exact h2
  | d :: ds, _, n + 1, h => by
    obtain ⟨v, r, rfl, h1, h2⟩ := reps_cons h
    exact Reps.cons h1 (Reps.eraseIdx n h2)
theorem Reps.reverse {ds : List D} {vs : List V} (h : Reps K F vs ds) : Reps K F vs.reverse ds.reverse := by
  induction ds generalizing vs with
  | nil => rw [reps_nil h]; simpa using Reps.nil
  | cons d ds ih =>
    obtain ⟨v, r, rfl, h1, h2⟩ := reps_cons h
    rw [(List.reverse_cons), List.reverse_cons]
    exact Reps.append (ih h2) (Reps.cons h1 Reps.nil)
theorem reps_ints {ns : List Int} : Reps K F (ns.map V.int) (ns.map D.int) := by
  induction ns with
  | nil => exact Reps.nil
  | cons n ns ih => exact Reps.cons (of_int n) ih
end
/-! ### == of data -/
mutual
def pyD : D → PyData
  | .non => .none | .bl b => .bool b | .int i => .int i | .str x => .str x
  | .tup ds => .tuple (pyDs ds) | .lst ds => .list (pyDs ds)
  | .scr xs => .list (xs.map PyData.int)
  | _ => .dict []
def pyDs : List D → List PyData
  | [] => []
  | d :: ds => pyD d :: pyDs ds
end
mutual
theorem dp_of {K : KC} {F R : Hp} : ∀ (d : D) (v : V), Rep K F v d → (pyD d).canLay0 = true → Dp K.K (jn F R) v (pyD d)
  | .non, v, h, _ => by rw [rep_non h]; exact .non
  | .bl b, v, h, _ => by rw [rep_bl h]; exact .bl b
  | .int i, v, h, _ => by rw [rep_int h]; exact .int i
  | .str x, v, h, _ => by rw [rep_str h]; exact .str x
  | .tup ds, v, h, c => by
    obtain ⟨a, vs, rfl, s, r⟩ := rep_tup h
    exact .tup (sq_t s) (dps_of ds vs r (by simpa [pyD, PyData.canLay0] using c))
  | .lst ds, v, h, c => by
    obtain ⟨a, vs, rfl, s, r⟩ := rep_lst h
    exact .lst (sq_l s) (dps_of ds vs r (by simpa [pyD, PyData.canLay0] using c))
  | .scr xs, v, h, c => by
    obtain ⟨a, rfl, s⟩ := rep_scr h
    refine .lst (sq_s s) ?_
    clear s h c
    induction xs with
    | nil => exact .nil
    | cons x xs ih => exact .cons (.int x) ih
  | .dct _, _, _, c => by simp [pyD, PyData.canLay0] at c
  | .ins _ _, _, _, c => by simp [pyD, PyData.canLay0] at c
  | .pen, _, _, c => by simp [pyD, PyData.canLay0] at c
  | .exc _ _, _, _, c => by simp [pyD, PyData.canLay0] at c
theorem dps_of {K : KC} {F R : Hp} : ∀ (ds : List D) (vs : List V), Reps K F vs ds → PyData.canLayAll0 (pyDs ds) = true → DpAll K.K (jn F R) vs (pyDs ds)
  | [], vs, h, _ => by rw [reps_nil h]; exact .nil
  | d :: ds, vs, h, c => by
    obtain ⟨v, r, rfl, h1, h2⟩ := reps_cons h
    have c' : (pyD d).canLay0 = true ∧ PyData.canLayAll0 (pyDs ds) = true := by simpa [pyDs, PyData.canLayAll0] using c
    exact .cons (dp_of d v h1 c'.1) (dps_of ds r h2 c'.2)
end
def okEq (d : D) : Bool := SeqAt.shaped (pyD d)
def eqD (d e : D) : Bool := PyData.eqv (pyD d) (pyD e)
def gEq : G2 := fun d e Q => match d, e with
  | .int i, .int j => Q (.bl (decide (i = j)))
  | .str x, .str y => Q (.bl (decide (x = y)))
  | .lst xs, .lst [] => Q (.bl xs.isEmpty)
  | d, e => okEq d = true ∧ okEq e = true ∧ Q (.bl (eqD d e))
def gNe : G2 := fun d e Q => match d, e with
  | .int i, .int j => Q (.bl (!decide (i = j)))
  | .str x, .str y => Q (.bl (!decide (x = y)))
  | d, e => okEq d = true ∧ okEq e = true ∧ Q (.bl (!eqD d e))
section
variable {X : Cx} {T : List (Addr × Str)}
theorem op2_eq (hu : X.A.units + 64 < cLine) : Op2 X (compareOp .Eq) gEq := fun T pins s σ H x y v u Q I rx ry ⟨F, R, d, e, Q', hH, dj, rd, re, g, k⟩ => by
  subst hH
  unfold gEq at g
  split at g
  · rw [rep_int rd] at rx
    rw [rep_int re] at ry
    exact op_eq pins s σ _ _ _ v u Q I rx ry ⟨rfl, k.now dj (by rw [dec_int, ← Bool.beq_eq_decide_eq]; exact of_bl _) g⟩
  · rw [rep_str rd] at rx
    rw [rep_str re] at ry
    exact op_eq pins s σ _ _ _ v u Q I rx ry ⟨rfl, k.now dj (by rw [dec_str, ← Bool.beq_eq_decide_eq]; exact of_bl _) g⟩
  · rename_i xs
    obtain ⟨a, vs, rfl, ha, ra⟩ := rep_lst rd
    obtain ⟨b, ws, rfl, hb, rb⟩ := rep_lst re
    obtain rfl : v = Value.ref a :=  rx
    obtain rfl : u = Value.ref b :=  ry
    obtain rfl := reps_nil rb
    obtain ⟨its, rv, p, _⟩ := I.list (sq_l (K := kc T X) (R := R) ha)
    obtain ⟨its2, rv2, p2, _⟩ := I.list (sq_l (K := kc T X) (R := R) hb)
    cases rv2
    cases xs with
    | nil =>
      obtain rfl := reps_nil ra
      cases rv
      exact SeqAt.eq_listAt (e := fun _ => true) p.isList p2.isList rfl (by omega) (fun j h1 _ => absurd h1 (Nat.not_lt_zero _)) ⟨.bl true, _, I, rfl, k.now dj (of_bl _) g⟩
    | cons x xs =>
      obtain ⟨v1, vs1, rfl, _, _⟩ := reps_cons ra
      cases rv
      exact SeqAt.eq_list_lengthsAt p.isList p2.isList (by simp) (by omega) ⟨.bl false, _, I, rfl, k.now dj (of_bl _) g⟩
  · obtain ⟨o1, o2, g⟩ := g
    exact op_eqD hu pins s σ _ _ _ v u Q I rx ry ⟨_, _, dp_of _ _ rd (SeqAt.canLay_of_shaped o1), dp_of _ _ re (SeqAt.canLay_of_shaped o2), o1, o2, k.now dj (of_bl _) g⟩
theorem op2_ne (hu : X.A.units + 64 < cLine) : Op2 X (compareOp .NotEq) gNe := fun T pins s σ H x y v u Q I rx ry ⟨F, R, d, e, Q', hH, dj, rd, re, g, k⟩ => by
  subst hH
  unfold gNe at g
  split at g
  · rw [rep_int rd] at rx
    rw [rep_int re] at ry
    exact op_ne pins s σ _ _ _ v u Q I rx ry ⟨rfl, k.now dj (by rw [dec_int, ← Bool.beq_eq_decide_eq]; exact of_bl _) g⟩
  · rw [rep_str rd] at rx
    rw [rep_str re] at ry
    exact op_ne pins s σ _ _ _ v u Q I rx ry ⟨rfl, k.now dj (by rw [dec_str, ← Bool.beq_eq_decide_eq]; exact of_bl _) g⟩
  · obtain ⟨o1, o2, g⟩ := g
    exact op_neD hu pins s σ _ _ _ v u Q I rx ry ⟨_, _, dp_of _ _ rd (SeqAt.canLay_of_shaped o1), dp_of _ _ re (SeqAt.canLay_of_shaped o2), o1, o2, k.now dj (of_bl _) g⟩
/-! ### ints -/
def gI (f : Int → Int → Bool) : G2 := fun d e Q => match d, e with
  | .int i, .int j => Q (.bl (f i j))
  | _, _ => False
theorem op2_I {f : Int → Int → Bool} {op : CmpOp} (h : OpR X (compareOp op) (rI0 fun i j => .bl (f i j))) : Op2 X (compareOp op) (gI f) := fun T pins s σ H x y v u Q I rx ry ⟨F, R, d, e, Q', hH, dj, rd, re, g, k⟩ => by
  subst hH
  unfold gI at g
  split at g
  · rw [rep_int rd] at rx
    rw [rep_int re] at ry
    exact h pins s σ _ _ _ v u Q I rx ry ⟨_, _, rfl, rfl, k.now dj (of_bl _) g⟩
  · exact g.elim
abbrev gLt : G2 := gI fun i j => decide (i < j)
abbrev gLe : G2 := gI fun i j => decide (i ≤ j)
abbrev gGt : G2 := gI fun i j => decide (j < i)
abbrev gGe : G2 := gI fun i j => decide (j ≤ i)
theorem op2_lt : Op2 X (compareOp .Lt) gLt := op2_I op_lt
theorem op2_le : Op2 X (compareOp .LtE) gLe := op2_I op_le
theorem op2_gt : Op2 X (compareOp .Gt) gGt := op2_I op_gt
theorem op2_ge : Op2 X (compareOp .GtE) gGe := op2_I op_ge
def gAdd : G2 := fun d e Q => match d, e with
  | .int i, .int j => Q (.int (i + j))
  | .tup xs, .tup ys => xs.length + ys.length ≤ sizeLine ∧ Q (.tup (xs ++ ys))
  | .lst xs, .lst ys => xs.length + ys.length ≤ sizeLine ∧ Q (.lst (xs ++ ys))
  | .str x, .str y => x.length + y.length ≤ sizeLine ∧ Q (.str (x ++ y))
  | _, _ => False
theorem op2_add : Op2 X (binaryOp .Add) gAdd := fun T pins s σ H x y v u Q I rx ry ⟨F, R, d, e, Q', hH, dj, rd, re, g, k⟩ => by
  subst hH
  unfold gAdd at g
  split at g
  · rw [rep_int rd] at rx
    rw [rep_int re] at ry
    exact op_add pins s σ _ _ _ v u Q I rx ry ⟨_, _, rfl, rfl, k.now dj (of_int _) g⟩
  · obtain ⟨a, vs, rfl, ha, ra⟩ := rep_tup rd
    obtain ⟨b, ws, rfl, hb, rb⟩ := rep_tup re
    refine op_catA pins s σ _ _ _ v u Q I rx ry ⟨a, b, vs, ws, rfl, rfl, sq_t (K := kc T X) ha, sq_t (K := kc T X) hb, by rw [ra.length, rb.length]; exact g.1, fun z => ?_, fun _ z => ?_, fun _ _ p hp => ?_⟩
    · have e0 := ra.length
      rw [z] at e0
      rw [List.eq_nil_of_length_eq_zero e0.symm, List.nil_append] at g
      exact k.now dj re g.2
    · have e0 := rb.length
      rw [z] at e0
      rw [List.eq_nil_of_length_eq_zero e0.symm, List.append_nil] at g
      exact k.now dj rd g.2
    · exact k.tup dj (ra.append rb) g.2 hp
  · obtain ⟨a, vs, rfl, ha, ra⟩ := rep_lst rd
    obtain ⟨b, ws, rfl, hb, rb⟩ := rep_lst re
    exact op_cat pins s σ _ _ _ v u Q I rx ry ⟨a, b, vs, ws, rfl, rfl, jn_l ha, jn_l hb, by rw [ra.length, rb.length]; exact g.1, fun p hp => k.lst dj (ra.append rb) g.2 hp⟩
  · rw [rep_str rd] at rx
    rw [rep_str re] at ry
    exact op_add_str pins s σ _ _ _ v u Q I rx ry ⟨_, _, rfl, rfl, g.1, k.now dj (of_str _) g.2⟩
  · exact g.elim
def gSub : G2 := fun d e Q => match d, e with
  | .int i, .int j => Q (.int (i - j))
  | _, _ => False
theorem op2_sub : Op2 X (binaryOp .Sub) gSub := fun T pins s σ H x y v u Q I rx ry ⟨F, R, d, e, Q', hH, dj, rd, re, g, k⟩ => by
  subst hH
  unfold gSub at g
  split at g
  · rw [rep_int rd] at rx
    rw [rep_int re] at ry
    exact op_sub pins s σ _ _ _ v u Q I rx ry ⟨_, _, rfl, rfl, k.now dj (of_int _) g⟩
  · exact g.elim
/-- ints, under C -/
def gC (C : Int → Int → Prop) (f : Int → Int → Int) : G2 := fun d e Q => match d, e with
  | .int i, .int j => C i j ∧ Q (.int (f i j))
  | _, _ => False
theorem op2_C {C : Int → Int → Prop} {f : Int → Int → Int} {h : Value → Value → Sem Value} (hh : OpR X h (rI C fun i j => .int (f i j))) : Op2 X h (gC C f) := fun T pins s σ H x y v u Q I rx ry ⟨F, R, d, e, Q', hH, dj, rd, re, g, k⟩ => by
  subst hH
  unfold gC at g
  split at g
  · rw [rep_int rd] at rx
    rw [rep_int re] at ry
    exact hh pins s σ _ _ _ v u Q I rx ry ⟨_, _, rfl, rfl, g.1, k.now dj (of_int _) g.2⟩
  · exact g.elim
theorem op_mulF : OpR X (binaryOp .Mult) (rI IntMulOk fun i j => .int (i * j)) := opI fun _ _ _ _ _ _ _ hc q => mul_int q hc
/-- // -/
def DivOk (_ j : Int) : Prop := j ≠ 0 ∧ j.natAbs.log2 < 9000
theorem op_divF : OpR X (binaryOp .FloorDiv) (rI DivOk fun i j => .int (i.fdiv j)) := opI fun _ _ _ _ _ _ _ hc q => floordiv_int hc.1 q (.inl (PyProof.noPylong_of_log2 hc.2))
abbrev gDiv : G2 := gC DivOk Int.fdiv
abbrev gMod : G2 := gC (fun _ j => j ≠ 0) Int.fmod
abbrev gPow : G2 := gC CPow fun i j => i ^ j.toNat
theorem op2_div : Op2 X (binaryOp .FloorDiv) gDiv := op2_C op_divF
theorem op2_mod : Op2 X (binaryOp .Mod) gMod := op2_C op_modN
theorem op2_pow : Op2 X (binaryOp .Pow) gPow := op2_C op_pow
def gMul : G2 := fun d e Q => match d, e with
  | .int i, .int j => IntMulOk i j ∧ Q (.int (i * j))
  | .lst xs, .int k => (-2 ^ 63 ≤ k ∧ k < 2 ^ 63 ∧ xs.length * k.toNat ≤ sizeLine) ∧ Q (.lst (List.replicate k.toNat xs).flatten)
  | .tup xs, .int k => (xs ≠ [] ∧ -1000 ≤ k ∧ k ≤ 1000 ∧ xs.length ≤ 1000) ∧ Q (.tup (List.replicate k.toNat xs).flatten)
  | _, _ => False
theorem Reps.rep {K : KC} {F : Hp} {vs : List V} {ds : List D} (h : Reps K F vs ds) : ∀ n : Nat, Reps K F (List.replicate n vs).flatten (List.replicate n ds).flatten
  | 0 => by simpa using Reps.nil
  | n + 1 => by
    rw [List.replicate_succ, List.flatten_cons, List.replicate_succ, List.flatten_cons]
    exact h.append (h.rep n)
theorem op2_mul : Op2 X (binaryOp .Mult) gMul := fun T pins s σ H x y v u Q I rx ry ⟨F, R, d, e, Q', hH, dj, rd, re, g, k⟩ => by
  subst hH
  unfold gMul at g
  split at g
  · rw [rep_int rd] at rx
    rw [rep_int re] at ry
    exact op_mulF pins s σ _ _ _ v u Q I rx ry ⟨_, _, rfl, rfl, g.1, k.now dj (of_int _) g.2⟩
  · obtain ⟨a, vs, rfl, ha, ra⟩ := rep_lst rd
    rw [rep_int re] at ry
    exact op_rep pins s σ _ _ _ v u Q I rx ry ⟨a, _, vs, rfl, rfl, jn_l ha, g.1.1, g.1.2.1, by rw [ra.length]; exact g.1.2.2, fun p hp => k.lst dj (ra.rep _) g.2 hp⟩
  · rename_i ds kk
    obtain ⟨a, vs, rfl, ha, ra⟩ := rep_tup rd
    rw [rep_int re] at ry
    obtain ⟨⟨g1, g2, g3, g4⟩, g⟩ := g
    have nv : vs ≠ [] := fun z => by
      have e0 := ra.length
      rw [z] at e0
      exact g1 (List.eq_nil_of_length_eq_zero e0.symm)
    by_cases h2 : 2 ≤ kk
    · exact op_repT pins s σ _ _ _ v u Q I rx ry ⟨a, _, vs, rfl, rfl, sq_t (K := kc T X) ha, nv, h2, g3, by rw [ra.length]; exact g4, fun p hp => k.tup dj (ra.rep _) g hp⟩
    · refine op_repSm pins s σ _ _ _ v u Q I rx ry ⟨a, _, vs, rfl, rfl, sq_t (K := kc T X) ha, nv, ?_⟩
      by_cases h1 : kk = 1
      · subst h1
        refine .inl ⟨rfl, k.now dj rd ?_⟩
        have e1 : (List.replicate (1 : Int).toNat ds).flatten = ds := by simp
        rw [e1] at g
        exact g
      · refine .inr ⟨by omega, g2, fun p hp => ?_⟩
        have e1 : (List.replicate kk.toNat ds).flatten = [] := by rw [show kk.toNat = 0 by omega]; rfl
        rw [e1] at g
        exact k.tup dj Reps.nil g hp
  · exact g.elim
def gNeg : G1 := fun d Q => match d with
  | .int i => Q (.int (-i))
  | _ => False
theorem un1_neg : UnR X (unaryOp .USub) (l1 (kc T X) gNeg) := fun pins s σ H x v Q I rx ⟨F, R, d, Q', hH, dj, rd, g, k⟩ => by
  subst hH
  unfold gNeg at g
  split at g
  · rw [rep_int rd] at rx
    exact un_neg pins s σ _ _ v Q I rx ⟨_, rfl, k.now dj (of_int _) g⟩
  · exact g.elim
end
end L3
namespace L3
open PySem PySem.Spec L2
open PyProof.Rows hiding St
section
variable {B : Bs} {T : List (Addr × Str)} {X : Cx} {W : WX} {a b c e : Expr} {es rest : List Expr} {ra rb rc re : RE} {rt : RT} {rs : RA} {pos : Pos}
/-! ### subscripts -/
def gIx : G2 := fun d e Q => match d, e with
  | .tup ds, .int i => match atI ds i with
    | some d => Q d
    | none => False
  | .lst ds, .int i => match atI ds i with
    | some d => Q d
    | none => False
  | .scr xs, .int i => match atI xs i with
    | some n => Q (.int n)
    | none => False
  | _, _ => False
theorem Reps.atI {K : KC} {F : Hp} {ds : List D} {vs : List V} {i : Int} {d : D} (h : Reps K F vs ds) (e : L2.atI ds i = some d) : ∃ v, L2.atI vs i = some v ∧ Rep K F v d := by
  unfold L2.atI at e ⊢
  rw [h.length]
  cases hj : ixN ds.length i with
  | none => rw [hj] at e; cases e
  | some j =>
    rw [hj] at e
    exact h.get e
theorem ix2 : IxR X (l2 (kc T X) gIx) := fun value slice pins s σ H x y v u Q I rx ry ⟨F, R, d, e, Q', hH, dj, rd, re, g, k⟩ hs => by
  subst hH
  unfold gIx at g
  split at g
  · rename_i ds i
    obtain ⟨a, vs, rfl, ha, ra⟩ := rep_tup rd
    rw [rep_int re] at ry
    split at g
    · rename_i d' hd
      obtain ⟨v', h1, h2⟩ := ra.atI hd
      exact ix_tup value slice pins s σ _ _ _ v u Q I rx ry ⟨a, vs, i, v', rfl, rfl, sq_t (K := kc T X) ha, h1, k.now dj h2 g⟩ hs
    · exact g.elim
  · rename_i ds i
    obtain ⟨a, vs, rfl, ha, ra⟩ := rep_lst rd
    rw [rep_int re] at ry
    split at g
    · rename_i d' hd
      obtain ⟨v', h1, h2⟩ := ra.atI hd
      exact ix_list value slice pins s σ _ _ _ v u Q I rx ry ⟨a, vs, i, v', rfl, rfl, sq_l (K := kc T X) ha, h1, k.now dj h2 g⟩ hs
    · exact g.elim
  · rename_i xs i
    obtain ⟨a, rfl, ha⟩ := rep_scr rd
    rw [rep_int re] at ry
    split at g
    · rename_i n hd
      refine ix_list value slice pins s σ _ _ _ v u Q I rx ry ⟨a, xs.map V.int, i, .int n, rfl, rfl, sq_s (K := kc T X) ha, ?_, k.now dj (of_int n) g⟩ hs
      unfold L2.atI at hd ⊢
      rw [List.length_map]
      cases hj : ixN xs.length i with
      | none => rw [hj] at hd; cases hd
      | some j =>
        rw [hj] at hd
        show (xs.map V.int)[j]? = some (V.int n)
        rw [List.getElem?_map, show xs[j]? = some n from hd]
        rfl
    · exact g.elim
  · exact g.elim
theorem de_ix (ha : DE B X W a ra) (hb : DE B X W b rb) (hs : PlainIx b) : DE B X W (.Subscript a b pos) (rOp gIx ra rb) := (pe_ix ix2 ha hb hs).imp fun _ _ _ h => lE_op h
/-! ### slices -/
abbrev RO := RG (Option Int)
abbrev repO : Hp → Option Int → Option Int → Prop := fun _ b c => b = c
abbrev DO (B : Bs) (X : Cx) (W : WX) (e : Option Expr) (r : RO) : Prop := PO X e (lf repO (kc B.T X) B W r)
theorem _root_.L2.PO.imp {X : Cx} {e : Option Expr} {t t' : TO} (h : PO X e t) (i : ∀ σ H Q, t' σ H Q → t σ H Q) : PO X e t' := ⟨fun pins s σ H Q I q => h.run pins s σ H Q I (i σ H Q q)⟩
def rPart (re : RE) : RO := fun ρ Q E => re ρ (fun d => match d with
  | .int i => Q (some i)
  | _ => False) E
theorem do_some (h : DE B X W e re) : DO B X W (some e) (rPart re) := (po_some h).imp fun σ H Q ⟨F, R, ρ, Q', E', hH, w, r, k⟩ => by
  subst hH
  refine ⟨F, R, ρ, _, E', rfl, w, r, fun v d F' x dj rv q => ?_, k.ex⟩
  cases d with
  | int i => exact ⟨i, rep_int rv, k.ok (some i) (some i) F' x dj rfl q⟩
  | _ => exact (show False from q).elim
theorem do_none : DO B X W none (rC none) := po_none.imp fun σ H Q ⟨F, R, ρ, Q', E', hH, w, r, k⟩ => by
  subst hH
  exact k.ok none none F (.refl _) w.dj rfl r
def cutD {α : Type} (xs : List α) (lo hi : Option Int) : List α := List.take (HT.sIx xs.length xs.length hi - HT.sIx xs.length 0 lo) (List.drop (HT.sIx xs.length 0 lo) xs)
theorem Reps.cut {K : KC} {F : Hp} {ds : List D} {vs : List V} (h : Reps K F vs ds) (lo hi : Option Int) : Reps K F (cutV vs lo hi) (cutD ds lo hi) := by
  unfold cutV cutD
  rw [h.length]
  exact Reps.take _ (Reps.drop _ h)
def gSl (d : D) (lo hi : Option Int) (Q : D → Prop) : Prop := match d with
  | .tup ds => Q (.tup (cutD ds lo hi))
  | .lst ds => Q (.lst (cutD ds lo hi))
  | _ => False
theorem sl2 : SlR X (fun x lo hi H Q => ∃ F R d Q', H = jn F R ∧ Dj F R ∧ Rep (kc T X) F x d ∧ gSl d lo hi Q' ∧ KV1 (kc T X) F R Q' Q) := fun pins s σ H x v vl vu lo hi sl Q I rx hs pl pu ⟨F, R, d, Q', hH, dj, rd, g, k⟩ => by
  subst hH
  unfold gSl at g
  split at g
  · rename_i ds
    obtain ⟨a, vs, rfl, ha, ra⟩ := rep_tup rd
    refine sl_tupA pins s σ _ _ v vl vu lo hi sl Q I rx hs pl pu ⟨a, vs, rfl, sq_t (K := kc T X) ha, fun z => ?_, fun _ p hp => k.tup dj (ra.cut lo hi) g hp⟩
    refine k.now dj rd ?_
    have e0 : cutD ds lo hi = ds := by
      unfold cutD
      rw [← ra.length, z.1, z.2, List.drop_zero, Nat.sub_zero, ra.length, List.take_length]
    rw [e0] at g
    exact g
  · obtain ⟨a, vs, rfl, ha, ra⟩ := rep_lst rd
    exact sl_list pins s σ _ _ v vl vu lo hi sl Q I rx hs pl pu ⟨a, vs, rfl, sq_l (K := kc T X) ha, fun p hp => k.lst dj (ra.cut lo hi) g hp⟩
  · exact g.elim
def rSl (re : RE) (rl rh : RO) : RE := fun ρ Q E => re ρ (fun d => rl ρ (fun l => rh ρ (fun h => gSl d l h Q) E) E) E
theorem de_slice {lo hi : Option Expr} {rl rh : RO} {p2 : Pos} (he : DE B X W e re) (hl : DO B X W lo rl) (hh : DO B X W hi rh) : DE B X W (.Subscript e (.Slice lo hi none p2) pos) (rSl re rl rh) := (pe_slice sl2 he hl hh).imp fun σ H Q h => by
  refine lf_then (k := fun d ρ Q E => rl ρ (fun l => rh ρ (fun h => gSl d l h Q) E) E) h fun v d F R ρ Q' E' w rv q k => ?_
  refine ⟨F, R, ρ, _, E', rfl, w, q, fun l l' F1 x1 dj1 e1 q1 => ?_, k.ex⟩
  cases e1
  refine ⟨F1, R, ρ, _, E', rfl, w.ext x1 dj1, q1, fun m m' F2 x2 dj2 e2 q2 => ?_, (k.ext x1).ex⟩
  cases e2
  exact ⟨F2, R, d, Q', rfl, dj2, Rep.ext (x1.trans x2) _ _ rv, q2, ((k.ext x1).ext x2).kv⟩
/-! ### calls of built-ins -/
abbrev GC := List D → (D → Prop) → Prop
def lC (K : KC) (g : GC) : List V → Hp → VK → Prop := fun vs H Q => ∃ F R ds Q', H = jn F R ∧ Dj F R ∧ Reps K F vs ds ∧ g ds Q' ∧ KV1 K F R Q' Q
def rCB (g : GC) (rs : RA) : RE := fun ρ Q E => rs ρ (fun ds => g ds Q) E
theorem lE_cb {K : KC} {g : GC} {σ : St} {H : Hp} {Q : VK} (h : lE K B W (rCB g rs) σ H Q) : tCB (lC K g) (lA K B W rs) σ H Q := by
  refine lf_then (k := fun ds _ Q _ => g ds Q) h fun vs ds F R ρ Q' E' w rv q k => ?_
  exact ⟨F, R, ds, Q', rfl, w.dj, rv, q, k.kv⟩
theorem de_cb {x : Str} {p : Pos} {id : String} {g : GC} (hc : CallR X (.builtin id) (lC (kc B.T X) g)) (hg : Gl X x) (hm : X.mg x = none) (hb : bootBuiltins x = some (.builtin id)) (ha : DA B X W (e :: es) rs) (hn : x ≠ "__name__" := by decide) (hd : (x == ("__debug__" : Str)) = false := by decide)
    (he : starEach (e :: es) X.env = (false, eval e X.env) :: starEach es X.env := by rfl) (hpl : (backTo pos (starEach es X.env)).any (·.1) = false := by rfl) : DE B X W (.Call (.Name x p) (e :: es) [] pos) (rCB g rs) :=
  (pe_callB hc hg hm hb ha hn hd he hpl).imp fun _ _ _ h => lE_cb h
theorem de_ct {x : Str} {p : Pos} {T : String} {g : GC} (hc : CallR X (.type T) (lC (kc B.T X) g)) (hg : Gl X x) (hm : X.mg x = none) (hb : bootBuiltins x = some (.type T)) (ha : DA B X W (e :: es) rs) (hn : x ≠ "__name__" := by decide) (hd : (x == ("__debug__" : Str)) = false := by decide)
    (he : starEach (e :: es) X.env = (false, eval e X.env) :: starEach es X.env := by rfl) (hpl : (backTo pos (starEach es X.env)).any (·.1) = false := by rfl) : DE B X W (.Call (.Name x p) (e :: es) [] pos) (rCB g rs) :=
  (pe_callTy hc hg hm hb ha hn hd he hpl).imp fun _ _ _ h => lE_cb h
/-- a built-in that the module has imported -/
theorem de_cf {x : Str} {p : Pos} {id : String} {g : GC} (hc : CallR X (.builtin id) (lC (kc B.T X) g)) (hg : Gl X x) (hm : X.mg x = some (.builtin id)) (ha : DA B X W (e :: es) rs) (hd : (x == ("__debug__" : Str)) = false := by decide)
    (he : starEach (e :: es) X.env = (false, eval e X.env) :: starEach es X.env := by rfl) (hpl : (backTo pos (starEach es X.env)).any (·.1) = false := by rfl) : DE B X W (.Call (.Name x p) (e :: es) [] pos) (rCB g rs) :=
  (pe_callBfun hc hg hm ha hd he hpl).imp fun _ _ _ h => lE_cb h
def gLen : GC := fun ds Q => match ds with
  | [.tup xs] => Q (.int xs.length)
  | [.lst xs] => Q (.int xs.length)
  | [.scr xs] => Q (.int xs.length)
  | _ => False
theorem reps_one {K : KC} {F : Hp} {vs : List V} {d : D} (h : Reps K F vs [d]) : ∃ v, vs = [v] ∧ Rep K F v d := by
  obtain ⟨v, r, rfl, h1, h2⟩ := reps_cons h
  rw [reps_nil h2]
  exact ⟨v, rfl, h1⟩
theorem reps_two {K : KC} {F : Hp} {vs : List V} {d e : D} (h : Reps K F vs [d, e]) : ∃ v u, vs = [v, u] ∧ Rep K F v d ∧ Rep K F u e := by
  obtain ⟨v, r, rfl, h1, h2⟩ := reps_cons h
  obtain ⟨u, rfl, h3⟩ := reps_one h2
  exact ⟨v, u, rfl, h1, h3⟩
theorem cr_len : CallR X (.builtin "len") (lC (kc T X) gLen) := fun pins s σ H xs us Q I r ⟨F, R, ds, Q', hH, dj, rd, g, k⟩ => by
  subst hH
  unfold gLen at g
  split at g
  · obtain ⟨v, rfl, h⟩ := reps_one rd
    obtain ⟨a, vs, rfl, ha, ra⟩ := rep_tup h
    refine call_len_seq pins s σ _ _ us Q I r ⟨a, vs, rfl, .inr (sq_t (K := kc T X) ha), ?_⟩
    rw [ra.length]
    exact k.now dj (of_int _) g
  · obtain ⟨v, rfl, h⟩ := reps_one rd
    obtain ⟨a, vs, rfl, ha, ra⟩ := rep_lst h
    refine call_len_seq pins s σ _ _ us Q I r ⟨a, vs, rfl, .inl (sq_l (K := kc T X) ha), ?_⟩
    rw [ra.length]
    exact k.now dj (of_int _) g
  · obtain ⟨v, rfl, h⟩ := reps_one rd
    obtain ⟨a, rfl, ha⟩ := rep_scr h
    refine call_len_seq pins s σ _ _ us Q I r ⟨a, _, rfl, .inl (sq_s (K := kc T X) ha), ?_⟩
    rw [List.length_map]
    exact k.now dj (of_int _) g
  · exact g.elim
def gAbs : GC := fun ds Q => match ds with
  | [.int i] => Q (.int (if i < 0 then -i else i))
  | _ => False
theorem cr_abs : CallR X (.builtin "abs") (lC (kc T X) gAbs) := fun pins s σ H xs us Q I r ⟨F, R, ds, Q', hH, dj, rd, g, k⟩ => by
  subst hH
  unfold gAbs at g
  split at g
  · obtain ⟨v, rfl, h⟩ := reps_one rd
    rw [rep_int h] at r
    exact call_abs pins s σ _ _ us Q I r ⟨_, rfl, k.now dj (of_int _) g⟩
  · exact g.elim
def gInt : GC := fun ds Q => match ds with
  | [.int i] => Q (.int i)
  | [.bl b] => Q (.int (if b then 1 else 0))
  | _ => False
theorem cr_int : CallR X (.type "int") (lC (kc T X) gInt) := fun pins s σ H xs us Q I r ⟨F, R, ds, Q', hH, dj, rd, g, k⟩ => by
  subst hH
  unfold gInt at g
  split at g
  · obtain ⟨v, rfl, h⟩ := reps_one rd
    rw [rep_int h] at r
    exact call_int1 pins s σ _ _ us Q I r (.inl ⟨_, rfl, k.now dj (of_int _) g⟩)
  · obtain ⟨v, rfl, h⟩ := reps_one rd
    rw [rep_bl h] at r
    exact call_int1 pins s σ _ _ us Q I r (.inr ⟨_, rfl, k.now dj (of_int _) g⟩)
  · exact g.elim
def gMax2 : GC := fun ds Q => match ds with
  | [.int i, .int j] => Q (.int (if j > i then j else i))
  | _ => False
def gMin2 : GC := fun ds Q => match ds with
  | [.int i, .int j] => Q (.int (if j < i then j else i))
  | _ => False
theorem cr_max2 (hc : X.calm = true) : CallR X (.builtin "max") (lC (kc T X) gMax2) := fun pins s σ H xs us Q I r ⟨F, R, ds, Q', hH, dj, rd, g, k⟩ => by
  subst hH
  unfold gMax2 at g
  split at g
  · obtain ⟨v, u, rfl, h, h'⟩ := reps_two rd
    rw [rep_int h, rep_int h'] at r
    exact call_max2 hc pins s σ _ _ us Q I r ⟨_, _, rfl, k.now dj (of_int _) g⟩
  · exact g.elim
theorem cr_min2 (hc : X.calm = true) : CallR X (.builtin "min") (lC (kc T X) gMin2) := fun pins s σ H xs us Q I r ⟨F, R, ds, Q', hH, dj, rd, g, k⟩ => by
  subst hH
  unfold gMin2 at g
  split at g
  · obtain ⟨v, u, rfl, h, h'⟩ := reps_two rd
    rw [rep_int h, rep_int h'] at r
    exact call_min2 hc pins s σ _ _ us Q I r ⟨_, _, rfl, k.now dj (of_int _) g⟩
  · exact g.elim
def gGcd : GC := fun ds Q => match ds with
  | [.int i, .int j] => Q (.int (i.natAbs.gcd j.natAbs : Nat))
  | _ => False
theorem cr_gcd3 : CallR X (.builtin "math.gcd") (lC (kc T X) gGcd) := fun pins s σ H xs us Q I r ⟨F, R, ds, Q', hH, dj, rd, g, k⟩ => by
  subst hH
  unfold gGcd at g
  split at g
  · obtain ⟨v, u, rfl, h, h'⟩ := reps_two rd
    rw [rep_int h, rep_int h'] at r
    exact cr_gcd pins s σ _ _ us Q I r ⟨_, _, rfl, k.now dj (of_int _) g⟩
  · exact g.elim
def gTuple : GC := fun ds Q => match ds with
  | [.tup xs] => Q (.tup xs)
  | [.lst xs] => Q (.tup xs)
  | _ => False
theorem cr_tuple : CallR X (.type "tuple") (lC (kc T X) gTuple) := fun pins s σ H xs us Q I r ⟨F, R, ds, Q', hH, dj, rd, g, k⟩ => by
  subst hH
  unfold gTuple at g
  split at g
  · obtain ⟨v, rfl, h⟩ := reps_one rd
    obtain ⟨a, vs, rfl, ha, ra⟩ := rep_tup h
    exact call_tuple_of pins s σ _ _ us Q I r ⟨a, vs, rfl, .inr ⟨sq_t (K := kc T X) ha, k.now dj h g⟩⟩
  · obtain ⟨v, rfl, h⟩ := reps_one rd
    obtain ⟨a, vs, rfl, ha, ra⟩ := rep_lst h
    exact call_tuple_of pins s σ _ _ us Q I r ⟨a, vs, rfl, .inl ⟨sq_l (K := kc T X) ha, fun p hp => k.tup dj ra g hp⟩⟩
  · exact g.elim
def blOf : D → Option Bool
  | .bl b => some b
  | _ => none
def allBl : List D → Option (List Bool)
  | [] => some []
  | d :: r => match blOf d, allBl r with
    | some b, some bs => some (b :: bs)
    | _, _ => none
theorem rep_blOf {K : KC} {F : Hp} {v : V} {d : D} {b : Bool} (h : Rep K F v d) (e : blOf d = some b) : v = .bl b := by
  cases d with
  | bl c =>
    cases Option.some.inj e
    exact rep_bl h
  | _ => cases e
theorem reps_bls {K : KC} {F : Hp} : ∀ (ds : List D) {vs : List V} {bs : List Bool}, Reps K F vs ds → allBl ds = some bs → vs = bs.map V.bl
  | [], vs, bs, h, e => by
    have e' : [] = bs := Option.some.inj e
    rw [reps_nil h, ← e']
    rfl
  | d :: r, vs, bs, h, e => by
    obtain ⟨v, r', rfl, h1, h2⟩ := reps_cons h
    unfold allBl at e
    cases h4 : blOf d with
    | none => rw [h4] at e; cases e
    | some b =>
      cases h3 : allBl r with
      | none => rw [h4, h3] at e; cases e
      | some bs' =>
        rw [h4, h3] at e
        have e' : b :: bs' = bs := Option.some.inj e
        rw [← e', rep_blOf h1 h4, reps_bls r h2 h3]
        rfl
def gAll : GC := fun ds Q => match ds with
  | [.lst xs] => match allBl xs with
    | some bs => Q (.bl (bs.all id))
    | none => False
  | _ => False
theorem cr_all3 (hc : X.calm = true) : CallR X (.builtin "all") (lC (kc T X) gAll) := fun pins s σ H xs us Q I r ⟨F, R, ds, Q', hH, dj, rd, g, k⟩ => by
  subst hH
  unfold gAll at g
  split at g
  · split at g
    · rename_i bs hb
      obtain ⟨v, rfl, h⟩ := reps_one rd
      obtain ⟨a, vs, rfl, ha, ra⟩ := rep_lst h
      rw [reps_bls _ ra hb] at ha
      exact cr_all hc pins s σ _ _ us Q I r ⟨a, bs, rfl, sq_l (K := kc T X) ha, k.now dj (of_bl _) g⟩
    · exact g.elim
  · exact g.elim
/-- list(x): a new list -/
def itemsOf : D → Option (List D)
  | .tup xs => some xs
  | .lst xs => some xs
  | .scr xs => some (xs.map D.int)
  | _ => none
def rListOf (re : RE) : RA := fun ρ Q E => re ρ (fun d => match itemsOf d with
  | some ds => ds.length ≤ sizeLine ∧ Q ds
  | none => False) E
theorem items_rep {K : KC} {F R : Hp} {v : V} {d : D} {ds : List D} (h : Rep K F v d) (e : itemsOf d = some ds) : ∃ p vs, v = .ref p ∧ (SqL K.K (jn F R) p vs ∨ SqT K.K (jn F R) p vs) ∧ Reps K F vs ds := by
  cases d with
  | tup xs =>
    cases Option.some.inj e
    obtain ⟨a, vs, rfl, ha, ra⟩ := rep_tup h
    exact ⟨a, vs, rfl, .inr (sq_t ha), ra⟩
  | lst xs =>
    cases Option.some.inj e
    obtain ⟨a, vs, rfl, ha, ra⟩ := rep_lst h
    exact ⟨a, vs, rfl, .inl (sq_l ha), ra⟩
  | scr xs =>
    cases Option.some.inj e
    obtain ⟨a, rfl, ha⟩ := rep_scr h
    exact ⟨a, _, rfl, .inl (sq_s ha), reps_ints⟩
  | _ => cases e
theorem fe_list {p : Pos} (hg : Gl X "list") (hm : X.mg "list" = none) (ha : DE B X W e re) (hs : starEach [e] X.env = [(false, eval e X.env)] := by rfl) (hpl : (backTo pos (starEach [] X.env)).any (·.1) = false := by rfl) : FE B X W (.Call (.Name "list" p) [e] [] pos) (rListOf re) :=
  (pe_callTy call_list_of hg hm (by decide +kernel) (pa_cons ha pa_nil hs) (by decide) (by decide) hs hpl).imp fun σ H Q ⟨F, R, ρ, Q', E', hH, w, r, kk, kx⟩ => by
    subst hH
    refine ⟨F, R, ρ, _, E', rfl, w, r, fun v d F' x dj rv q => ?_, kx⟩
    split at q
    · rename_i ds hd
      obtain ⟨q0, vs, rfl, hsq, hr⟩ := items_rep (R := R) rv hd
      exact ⟨q0, vs, rfl, hsq, fun l hl => kk l vs ds F' x dj hr (by rw [hr.length]; exact q.1) q.2 hl⟩
    · exact q.elim
/-! ### isinstance of a built-in class -/
def tyD : D → String
  | .non => "NoneType" | .bl _ => "bool" | .int _ => "int" | .str _ => "str" | .tup _ => "tuple" | .lst _ => "list" | .scr _ => "list" | .dct _ => "dict" | .pen => "dict" | .ins _ _ => "" | .exc _ _ => ""
def noIns : D → Bool
  | .ins _ _ => false
  | .exc _ _ => false
  | _ => true
def isTy (T : String) (d : D) : Bool := tyD d == T || (T == "int" && tyD d == "bool")
theorem tyx_of {K : KC} {F R : Hp} {v : V} {d : D} (h : Rep K F v d) (hd : noIns d = true) : TyX K.K (jn F R) v (.type (tyD d)) := by
  cases d with
  | non => rw [rep_non h]; exact .base .non
  | bl b => rw [rep_bl h]; exact .base (.bl b)
  | int i => rw [rep_int h]; exact .base (.int i)
  | str x => rw [rep_str h]; exact .base (.str x)
  | tup ds =>
    obtain ⟨a, vs, rfl, ha, _⟩ := rep_tup h
    exact .base (.tup (jn_l ha))
  | lst ds =>
    obtain ⟨a, vs, rfl, ha, _⟩ := rep_lst h
    exact .base (.lst (jn_l ha))
  | scr xs =>
    obtain ⟨a, rfl, ha⟩ := rep_scr h
    rcases sq_s (R := R) ha with (h | ⟨o, h⟩) | ⟨o, its, n, h1, h2, _⟩
    · exact .base (.lst h)
    · exact .base (.frz h)
    · exact .kList h1 h2
  | dct kvs =>
    unfold Rep at h
    obtain ⟨a, kvs, rfl, ha, _⟩ := h
    exact .base (.dK (jn_l ha))
  | pen =>
    unfold Rep at h
    obtain ⟨a, kvs, rfl, ha, _⟩ := h
    exact .base (.dK (jn_l ha))
  | ins _ _ => cases hd
  | exc _ _ => cases hd
def rIs (T : String) (re : RE) : RE := fun ρ Q E => re ρ (fun d => noIns d = true ∧ Q (.bl (isTy T d))) E
def rIs2 (T U : String) (re : RE) : RE := fun ρ Q E => re ρ (fun d => noIns d = true ∧ Q (.bl (isTy T d || isTy U d))) E
def tyNames : List String := ["NoneType", "bool", "int", "str", "tuple", "list", "dict"]
theorem tyD_mem {d : D} (h : noIns d = true) : tyD d ∈ tyNames := by
  cases d with
  | ins _ _ => cases h
  | exc _ _ => cases h
  | _ => simp [tyD, tyNames]
theorem kit_all {T : String} (h : tyNames.all (fun U => kitB U T == some (U == T || (T == "int" && U == "bool"))) = true) {K : PySem.W.Frag} {d : D} (hd : noIns d = true) : PySem.W.kitOne K (.type (tyD d)) (.type T) = some (isTy T d) := by
  have := List.all_eq_true.mp h _ (tyD_mem hd)
  exact kit_ty (beq_iff_eq.mp this)
theorem de_is {p p2 : Pos} {T : String} {x : Str} (hg : Gl X "isinstance") (hm : X.mg "isinstance" = none) (hgx : Gl X x) (hmx : X.mg x = none) (hv : bootBuiltins x = some (.type T)) (ht : tyNames.all (fun U => kitB U T == some (U == T || (T == "int" && U == "bool"))) = true) (ha : DE B X W a ra)
    (hnx : x ≠ "__name__" := by decide) (hdx : (x == ("__debug__" : Str)) = false := by decide)
    (h1 : starEach [a, .Name x p2] X.env = (false, eval a X.env) :: starEach [.Name x p2] X.env := by rfl) (hpl : (backTo pos (starEach [.Name x p2] X.env)).any (·.1) = false := by rfl) :
    DE B X W (.Call (.Name "isinstance" p) [a, .Name x p2] [] pos) (rIs T ra) :=
  (pe_callB call_isi hg hm (by decide +kernel) (pa_cons ha (pa_cons (pe_bltn (v := .ty T) hgx hmx hv rfl hnx hdx) pa_nil) h1) (by decide) (by decide) h1 hpl).imp fun σ H Q ⟨F, R, ρ, Q', E', hH, w, r, k⟩ => by
    subst hH
    refine ⟨F, R, ρ, _, E', rfl, w, r, fun v d F' x dj rv q => ?_, k.ex⟩
    exact ⟨v, .ty T, _, _, _, rfl, .ty T, tyx_of (K := kc B.T X) rv q.1, kit_all ht q.1, k.ok _ _ F' x dj (of_bl _) q.2⟩
theorem de_is2 {p p2 p3 p4 : Pos} {k1 : Nat} {T U : String} {x y : Str} (hg : Gl X "isinstance") (hm : X.mg "isinstance" = none) (hgx : Gl X x) (hmx : X.mg x = none) (hv : bootBuiltins x = some (.type T)) (hgy : Gl X y) (hmy : X.mg y = none) (hvy : bootBuiltins y = some (.type U))
    (ht : tyNames.all (fun Z => kitB Z T == some (Z == T || (T == "int" && Z == "bool"))) = true) (hu : tyNames.all (fun Z => kitB Z U == some (Z == U || (U == "int" && Z == "bool"))) = true) (ha : DE B X W a ra)
    (hnx : x ≠ "__name__" := by decide) (hdx : (x == ("__debug__" : Str)) = false := by decide) (hny : y ≠ "__name__" := by decide) (hdy : (y == ("__debug__" : Str)) = false := by decide)
    (h1 : starEach [a, .Tuple [.Name x p2, .Name y p3] k1 p4] X.env = (false, eval a X.env) :: starEach [.Tuple [.Name x p2, .Name y p3] k1 p4] X.env := by rfl) (hpl : (backTo pos (starEach [.Tuple [.Name x p2, .Name y p3] k1 p4] X.env)).any (·.1) = false := by rfl) :
    DE B X W (.Call (.Name "isinstance" p) [a, .Tuple [.Name x p2, .Name y p3] k1 p4] [] pos) (rIs2 T U ra) :=
  (pe_callB call_isiT hg hm (by decide +kernel) (pa_cons ha (pa_cons (pe_tup (pa_cons (pe_bltn (v := .ty T) hgx hmx hv rfl hnx hdx) (pa_cons (pe_bltn (v := .ty U) hgy hmy hvy rfl hny hdy) pa_nil))) pa_nil) h1) (by decide) (by decide) h1 hpl).imp fun σ H Q ⟨F, R, ρ, Q', E', hH, w, r, k⟩ => by
    subst hH
    refine ⟨F, R, ρ, _, E', rfl, w, r, fun v d F' x dj rv q => ?_, k.ex⟩
    refine ⟨by show 2 ≤ sizeLine; decide, fun t ht' => ?_⟩
    have e0 : Ext (kc B.T X) F' (upd F' t (.tup [.ty T, .ty U])) := Ext.newF ht'
    have eH := jn_newF (o := .tup [.ty T, .ty U]) ht'
    have q' := k.ok (.bl (isTy T d || isTy U d)) _ _ (x.trans e0) (dj.newF ht') (of_bl _) q.2
    rw [eH]
    refine ⟨v, t, _, _, _, _, rfl, jn_l upd_same, .cons (.ty T) (.cons (.ty U) .nil), tyx_of (K := kc B.T X) (Rep.ext e0 _ _ rv) q.1, ?_, q'⟩
    refine kitAny_cons (kit_all ht q.1) (fun e1 => ?_) (fun e1 => by rw [e1]; rfl)
    refine kitAny_cons (kit_all hu q.1) (fun e2 => ?_) (fun e2 => by rw [e1, e2]; rfl)
    rw [e1, e2]
    exact kitAny_nil
/-! ### the text's own defs -/
/-- what a def promises, over data: its arguments, the wish of its value, the wish of its exception -/
abbrev Sp3 := List D → (D → Prop) → (XD → Prop) → Prop
def lSp (K : KC) (n : Nat) (sp : Sp3) : Sp := fun vs H Q E => ∃ F R ds Q' E', H = jn F R ∧ Dj F R ∧ LamX.Tabs K.T F ∧ Reps K F vs ds ∧ vs.length = n ∧ sp ds Q' E' ∧ KV1 K F R Q' Q ∧
  ∀ x cls od F', Ext K F F' → Dj F' R → RepX K F' cls od x → E' x → E cls od (jn F' R)
def rCall (n : Nat) (sp : Sp3) (rs : RA) : RE := fun ρ Q E => rs ρ (fun ds => ds.length = n ∧ sp ds Q E) E
theorem de_call {x : Str} {p : Pos} {k n : Nat} {f : Addr} {fd : FuncData} {ps : List Str} {sp : Sp3} (G : FnOk X.prog X.w X.K X.mg X.base (L2.CX X.prog X.w) k f fd ps (lSp (kc B.T X) n sp)) (hr : Room k X.A) (hg : Gl X x) (hm : X.mg x = some (.ref f)) (hk : PySem.W.keepIn X.K (.ref f) = true) (hb : Binds X.K fd ps []) (tk : Takes X W)
    (ha : DA B X W (e :: es) rs) (hd : (x == ("__debug__" : Str)) = false := by decide)
    (he : starEach (e :: es) X.env = (false, eval e X.env) :: starEach es X.env := by rfl) (hpl : (backTo pos (starEach es X.env)).any (·.1) = false := by rfl) : DE B X W (.Call (.Name x p) (e :: es) [] pos) (rCall n sp rs) :=
  (pe_callS G hr hg hm hk hb (fun σ => passAt tk σ) ha hd he hpl).imp fun σ H Q h => by
    refine lf_then (k := fun ds _ Q E => ds.length = n ∧ sp ds Q E) h fun vs ds F R ρ Q' E' w rv q k => ?_
    exact ⟨F, R, ds, Q', E', rfl, w.dj, w.tb, rv, by rw [rv.length]; exact q.1, q.2, k.kv, k.ex⟩
end
end L3
namespace L3
open PySem PySem.Spec L2
open PyProof.Rows hiding St
/-! ### statements over data -/
structure En3 where
  nx : Env3 → Prop
  rt : D → Prop
  ex : XD → Prop
  bk : Env3 → Prop := fun _ => False
  ct : Env3 → Prop := fun _ => False
abbrev RS := En3 → Env3 → Prop
structure SK (K : KC) (B : Bs) (W : WX) (D : Ends) (N : En3) : Prop where
  nx : ∀ σ F R ρ, Wd K B σ F R ρ → N.nx ρ → D.nx σ (jn F R)
  rt : ∀ v d σ F R ρ, Wd K B σ F R ρ → Rep K F v d → N.rt d → D.rt v (jn F R)
  ex : ∀ x cls od σ F R ρ, Wd K B σ F R ρ → RepX K F cls od x → N.ex x → W cls od σ (jn F R)
  bk : ∀ σ F R ρ, Wd K B σ F R ρ → N.bk ρ → D.bk σ (jn F R)
  ct : ∀ σ F R ρ, Wd K B σ F R ρ → N.ct ρ → D.ct σ (jn F R)
def lS (K : KC) (B : Bs) (W : WX) (r : RS) : TS := fun D σ H => ∃ F R ρ N, H = jn F R ∧ Wd K B σ F R ρ ∧ r N ρ ∧ SK K B W D N
abbrev DS (B : Bs) (X : Cx) (W : WX) (st : Stmt) (r : RS) : Prop := PS X st (lS (kc B.T X) B W r)
abbrev DSs (B : Bs) (X : Cx) (W : WX) (st : List Stmt) (r : RS) : Prop := PSs X st (lS (kc B.T X) B W r)
section
variable {K : KC} {B : Bs} {W : WX} {σ : St} {F R : Hp} {ρ : Env3} {D0 : Ends} {N : En3}
/-- an expression's reading, from a statement's -/
theorem SK.lf {α β : Type} {rep : Hp → β → α → Prop} {r : RG α} {Q' : α → Prop} {Q : β → Hp → Prop} (k : SK K B W D0 N) (w : Wd K B σ F R ρ) (h : r ρ Q' N.ex)
    (hq : ∀ v d F', Ext K F F' → Wd K B σ F' R ρ → rep F' v d → Q' d → Q v (jn F' R)) : lf rep K B W r σ (jn F R) Q :=
  ⟨F, R, ρ, Q', N.ex, rfl, w, h, fun v d F' x dj rv q => hq v d F' x (w.ext x dj) rv q, fun x cls od F' e dj rx q => k.ex x cls od σ F' R ρ (w.ext e dj) rx q⟩
theorem Wd.setV (w : Wd K B σ F R ρ) {v : V} {d : D} (r : Rep K F v d) (i : Nat) : Wd K B (σ.set i (some v)) F R (ρ.set i (.val d)) where
  tb := w.tb
  ex := w.ex
  fr := w.fr
  dj := w.dj
  len := by rw [List.length_set, List.length_set]; exact w.len
  val := fun j e h => by
    by_cases hj : i = j
    · subst hj
      by_cases hl : i < ρ.length
      · rw [List.getElem?_set_self hl] at h
        cases h
        exact ⟨v, List.getElem?_set_self (by rw [w.len]; exact hl), r⟩
      · rw [List.getElem?_eq_none (by rw [List.length_set]; omega)] at h
        cases h
    · rw [List.getElem?_set_ne hj] at h
      rw [List.getElem?_set_ne hj]
      exact w.val j e h
  own := fun j ds h => by
    by_cases hj : i = j
    · subst hj
      by_cases hl : i < ρ.length
      · rw [List.getElem?_set_self hl] at h
        cases h
      · rw [List.getElem?_eq_none (by rw [List.length_set]; omega)] at h
        cases h
    · rw [List.getElem?_set_ne hj] at h
      rw [List.getElem?_set_ne hj]
      exact w.own j ds h
  obj := fun j c a fs h => by
    by_cases hj : i = j
    · subst hj
      by_cases hl : i < ρ.length
      · rw [List.getElem?_set_self hl] at h
        cases h
      · rw [List.getElem?_eq_none (by rw [List.length_set]; omega)] at h
        cases h
    · rw [List.getElem?_set_ne hj] at h
      rw [List.getElem?_set_ne hj]
      exact w.obj j c a fs h
  sep := fun j k a dj dk h1 h2 h3 h4 => by
    have key : ∀ {j : Nat} {ds : List D}, (ρ.set i (.val d))[j]? = some (.own ds) → i ≠ j ∧ ρ[j]? = some (.own ds) := fun {j ds} h => by
      by_cases hj : i = j
      · subst hj
        by_cases hl : i < ρ.length
        · rw [List.getElem?_set_self hl] at h
          cases h
        · rw [List.getElem?_eq_none (by rw [List.length_set]; omega)] at h
          cases h
      · rw [List.getElem?_set_ne hj] at h
        exact ⟨hj, h⟩
    obtain ⟨n1, g1⟩ := key h1
    obtain ⟨n2, g2⟩ := key h2
    rw [List.getElem?_set_ne n1] at h3
    rw [List.getElem?_set_ne n2] at h4
    exact w.sep j k a dj dk g1 g2 h3 h4
/-- a new list of one's own -/
theorem Wd.setN (w : Wd K B σ F R ρ) {vs : List V} {ds : List D} (r : Reps K F vs ds) {p : Addr} (hp : jn F R p = none) (i : Nat) (hi : i < ρ.length) : Wd K B (σ.set i (some (.ref p))) F (upd R p (.lst vs)) (ρ.set i (.own ds)) where
  tb := w.tb
  ex := w.ex
  fr := fun a o h => by
    have : a ≠ p := fun z => by
      have h2 := w.fr a o h
      rw [z, (jn_none hp).2] at h2
      cases h2
    rw [upd_ne this]
    exact w.fr a o h
  dj := w.dj.updR (jn_none hp).1
  len := by rw [List.length_set, List.length_set]; exact w.len
  val := fun j e h => by
    by_cases hj : i = j
    · subst hj
      rw [List.getElem?_set_self hi] at h
      cases h
    · rw [List.getElem?_set_ne hj] at h
      rw [List.getElem?_set_ne hj]
      exact w.val j e h
  own := fun j es h => by
    by_cases hj : i = j
    · subst hj
      rw [List.getElem?_set_self hi] at h
      cases h
      refine ⟨p, vs, List.getElem?_set_self (by rw [w.len]; exact hi), upd_same, r, ?_⟩
      cases e : B.Fr p with
      | none => rfl
      | some o =>
        have h2 := w.fr p o e
        rw [(jn_none hp).2] at h2
        cases h2
    · rw [List.getElem?_set_ne hj] at h
      rw [List.getElem?_set_ne hj]
      obtain ⟨a, us, e1, e2, e3, e4⟩ := w.own j es h
      have : a ≠ p := fun z => by rw [z, (jn_none hp).2] at e2; cases e2
      exact ⟨a, us, e1, by rw [upd_ne this]; exact e2, e3, e4⟩
  obj := fun j c a fs h => by
    by_cases hj : i = j
    · subst hj
      rw [List.getElem?_set_self hi] at h
      cases h
    · rw [List.getElem?_set_ne hj] at h
      rw [List.getElem?_set_ne hj]
      obtain ⟨z, dx, ws, e1, e2, e3, e4⟩ := w.obj j c a fs h
      have n1 : a ≠ p := fun z => by rw [z, (jn_none hp).2] at e2; cases e2
      have n2 : dx ≠ p := fun z => by rw [z, (jn_none hp).2] at e3; cases e3
      exact ⟨z, dx, ws, e1, by rw [upd_ne n1]; exact e2, by rw [upd_ne n2]; exact e3, e4⟩
  sep := fun j k a dj dk h1 h2 h3 h4 => by
    have key : ∀ {j : Nat} {ds' : List D}, (ρ.set i (.own ds))[j]? = some (.own ds') → (σ.set i (some (.ref p)))[j]? = some (some (.ref a)) → (i = j ∧ a = p) ∨ (i ≠ j ∧ ρ[j]? = some (.own ds') ∧ σ[j]? = some (some (.ref a)) ∧ a ≠ p) := fun {j ds'} h h3 => by
      by_cases hj : i = j
      · subst hj
        rw [List.getElem?_set_self (by rw [w.len]; exact hi)] at h3
        cases h3
        exact .inl ⟨rfl, rfl⟩
      · rw [List.getElem?_set_ne hj] at h h3
        obtain ⟨a', us, e1, e2, _⟩ := w.own j ds' h
        rw [h3] at e1
        cases e1
        exact .inr ⟨hj, h, h3, fun z => by rw [z, (jn_none hp).2] at e2; cases e2⟩
    rcases key h1 h3 with ⟨e1, e2⟩ | ⟨n1, g1, g3, z1⟩
    · rcases key h2 h4 with ⟨e3, e4⟩ | ⟨_, _, _, z2⟩
      · rw [← e1, ← e3]
      · exact absurd e2 z2
    · rcases key h2 h4 with ⟨e3, e4⟩ | ⟨n2, g2, g4, _⟩
      · exact absurd e4 z1
      · exact w.sep j k a dj dk g1 g2 g3 g4
/-- a list of one's own changes -/
theorem Wd.chg (w : Wd K B σ F R ρ) {i : Nat} {ds es : List D} (h : ρ[i]? = some (.own ds)) {a : Addr} {us : List V} (ha : σ[i]? = some (some (.ref a))) (r : Reps K F us es) : Wd K B σ F (upd R a (.lst us)) (ρ.set i (.own es)) := by
  obtain ⟨a', vs, e1, e2, e3, e4⟩ := w.own i ds h
  rw [ha] at e1
  cases e1
  have hi : i < ρ.length := (List.getElem?_eq_some_iff.mp h).1
  refine ⟨w.tb, w.ex, fun b o hb => ?_, w.dj.updR (jn_of_r w.dj e2).1, by rw [List.length_set]; exact w.len, fun j e hj => ?_, fun j es' hj => ?_, fun j c b fs hj => ?_, fun j k b dj dk h1 h2 h3 h4 => ?_⟩
  · have : b ≠ a := fun z => by rw [z, e4] at hb; cases hb
    rw [upd_ne this]
    exact w.fr b o hb
  · by_cases q : i = j
    · subst q
      rw [List.getElem?_set_self hi] at hj
      cases hj
    · rw [List.getElem?_set_ne q] at hj
      exact w.val j e hj
  · by_cases q : i = j
    · subst q
      rw [List.getElem?_set_self hi] at hj
      cases hj
      exact ⟨a, us, ha, upd_same, r, e4⟩
    · rw [List.getElem?_set_ne q] at hj
      obtain ⟨b, ws, g1, g2, g3, g4⟩ := w.own j es' hj
      have : b ≠ a := fun z => by
        subst z
        exact q (w.sep i j b _ _ h hj ha g1)
      exact ⟨b, ws, g1, by rw [upd_ne this]; exact g2, g3, g4⟩
  · by_cases q : i = j
    · subst q
      rw [List.getElem?_set_self hi] at hj
      cases hj
    · rw [List.getElem?_set_ne q] at hj
      obtain ⟨z, dx, ws, g1, g2, g3, g4⟩ := w.obj j c b fs hj
      have n1 : b ≠ a := fun z => by rw [z, e2] at g2; cases g2
      have n2 : dx ≠ a := fun z => by rw [z, e2] at g3; cases g3
      exact ⟨z, dx, ws, g1, by rw [upd_ne n1]; exact g2, by rw [upd_ne n2]; exact g3, g4⟩
  · have key : ∀ {j : Nat} {ds' : List D}, (ρ.set i (.own es))[j]? = some (.own ds') → ∃ ds'', ρ[j]? = some (.own ds'') := fun {j ds'} hh => by
      by_cases q : i = j
      · subst q
        exact ⟨ds, h⟩
      · rw [List.getElem?_set_ne q] at hh
        exact ⟨_, hh⟩
    obtain ⟨_, g1⟩ := key h1
    obtain ⟨_, g2⟩ := key h2
    exact w.sep j k b _ _ g1 g2 h3 h4
/-- a list of one's own becomes shared -/
theorem Wd.frz (w : Wd K B σ F R ρ) {i : Nat} {ds : List D} (h : ρ[i]? = some (.own ds)) : ∃ F' R', jn F R = jn F' R' ∧ Ext K F F' ∧ Wd K B σ F' R' (ρ.set i (.val (.lst ds))) := by
  obtain ⟨a, vs, e1, e2, e3, e4⟩ := w.own i ds h
  have hi : i < ρ.length := (List.getElem?_eq_some_iff.mp h).1
  have x : Ext K F (upd F a (.lst vs)) := Ext.move w.dj e2
  refine ⟨upd F a (.lst vs), dlt R a, jn_move w.dj e2, x, x.tab w.tb, w.ex.trans x, fun b o hb => ?_, w.dj.move e2, by rw [List.length_set]; exact w.len, fun j e hj => ?_, fun j es' hj => ?_, fun j c b fs hj => ?_, fun j k b dj dk h1 h2 h3 h4 => ?_⟩
  · have : b ≠ a := fun z => by rw [z, e4] at hb; cases hb
    rw [dlt_ne this]
    exact w.fr b o hb
  · by_cases q : i = j
    · subst q
      rw [List.getElem?_set_self hi] at hj
      cases hj
      exact ⟨_, e1, of_lst upd_same (Reps.ext x _ _ e3)⟩
    · rw [List.getElem?_set_ne q] at hj
      obtain ⟨v, g1, g2⟩ := w.val j e hj
      exact ⟨v, g1, Rep.ext x _ _ g2⟩
  · by_cases q : i = j
    · subst q
      rw [List.getElem?_set_self hi] at hj
      cases hj
    · rw [List.getElem?_set_ne q] at hj
      obtain ⟨b, ws, g1, g2, g3, g4⟩ := w.own j es' hj
      have : b ≠ a := fun z => by
        subst z
        exact q (w.sep i j b _ _ h hj e1 g1)
      exact ⟨b, ws, g1, by rw [dlt_ne this]; exact g2, Reps.ext x _ _ g3, g4⟩
  · by_cases q : i = j
    · subst q
      rw [List.getElem?_set_self hi] at hj
      cases hj
    · rw [List.getElem?_set_ne q] at hj
      obtain ⟨z, dx, ws, g1, g2, g3, g4, g5⟩ := w.obj j c b fs hj
      have n1 : b ≠ a := fun z => by rw [z, e2] at g2; cases g2
      have n2 : dx ≠ a := fun z => by rw [z, e2] at g3; cases g3
      exact ⟨z, dx, ws, g1, by rw [dlt_ne n1]; exact g2, by rw [dlt_ne n2]; exact g3, RepF.ext x _ _ g4, g5⟩
  · have key : ∀ {j : Nat} {ds' : List D}, (ρ.set i (.val (.lst ds)))[j]? = some (.own ds') → ρ[j]? = some (.own ds') := fun {j ds'} hh => by
      by_cases q : i = j
      · subst q
        rw [List.getElem?_set_self hi] at hh
        cases hh
      · rw [List.getElem?_set_ne q] at hh
        exact hh
    exact w.sep j k b _ _ (key h1) (key h2) h3 h4
end
section
variable {B : Bs} {T : List (Addr × Str)} {X : Cx} {W : WX} {a b c e : Expr} {es rest : List Expr} {ra rb rc re : RE} {rt : RT} {rs : RA} {pos : Pos} {st : Stmt} {sts body : List Stmt} {r r1 r2 : RS}
/-- the list in slot i is shared from here on -/
def rFrz (i : Nat) (r : RS) : RS := fun N ρ => match ρ[i]? with
  | some (.own ds) => r N (ρ.set i (.val (.lst ds)))
  | _ => r N ρ
theorem lS_frz {K : KC} {i : Nat} {D0 : Ends} {σ : St} {H : Hp} (h : lS K B W (rFrz i r) D0 σ H) : lS K B W r D0 σ H := by
  obtain ⟨F, R, ρ, N, rfl, w, q, k⟩ := h
  unfold rFrz at q
  split at q
  · rename_i ds hd
    obtain ⟨F', R', e, _, w'⟩ := w.frz hd
    exact ⟨F', R', _, N, e, w', q, k⟩
  · exact ⟨F, R, ρ, N, rfl, w, q, k⟩
theorem ds_frz (i : Nat) (h : DS B X W st r) : DS B X W st (rFrz i r) := PS.imp h fun _ _ _ q => lS_frz q
theorem dss_frz (i : Nat) (h : DSs B X W sts r) : DSs B X W sts (rFrz i r) := PSs.imp h fun _ _ _ q => lS_frz q
/-! ### blocks -/
def rNext : RS := fun N ρ => N.nx ρ
def rSeq (r1 r2 : RS) : RS := fun N ρ => r1 { N with nx := r2 N } ρ
theorem dss_nil : DSs B X W [] rNext := pss_nil.imp fun D σ H ⟨F, R, ρ, N, hH, w, q, k⟩ => by
  subst hH
  exact k.nx σ F R ρ w q
theorem dss_cons (h1 : DS B X W st r1) (h2 : DSs B X W sts r2) : DSs B X W (st :: sts) (rSeq r1 r2) := (pss_cons h1 h2).imp fun D σ H ⟨F, R, ρ, N, hH, w, q, k⟩ => by
  subst hH
  exact ⟨F, R, ρ, { N with nx := r2 N }, rfl, w, q, fun σ' F' R' ρ' w' q' => ⟨F', R', ρ', N, rfl, w', q', k⟩, k.rt, k.ex, k.bk, k.ct⟩
theorem dss_one (h1 : DS B X W st r1) : DSs B X W [st] r1 := pss_one h1
def rBreak : RS := fun N ρ => N.bk ρ
def rCont : RS := fun N ρ => N.ct ρ
theorem ds_pass : DS B X W (.Pass pos) rNext := ps_pass.imp fun D σ H ⟨F, R, ρ, N, hH, w, q, k⟩ => by subst hH; exact k.nx σ F R ρ w q
theorem ds_break : DS B X W (.Break pos) rBreak := ps_break.imp fun D σ H ⟨F, R, ρ, N, hH, w, q, k⟩ => by subst hH; exact k.bk σ F R ρ w q
theorem ds_cont : DS B X W (.Continue pos) rCont := ps_continue.imp fun D σ H ⟨F, R, ρ, N, hH, w, q, k⟩ => by subst hH; exact k.ct σ F R ρ w q
def rRet (re : RE) : RS := fun N ρ => re ρ N.rt N.ex
theorem ds_ret (he : DE B X W e re) : DS B X W (.Return (some e) pos) (rRet re) := (ps_ret he).imp fun D σ H ⟨F, R, ρ, N, hH, w, q, k⟩ => by
  subst hH
  exact k.lf w q fun v d F' x w' rv q' => k.rt v d σ F' R ρ w' rv q'
def rDrop (re : RE) : RS := fun N ρ => re ρ (fun _ => N.nx ρ) N.ex
theorem ds_expr (he : DE B X W e re) (hs : swapsWith e none pos.line X.env = pure false := by rfl) : DS B X W (.Expr e pos) (rDrop re) := (ps_expr he hs).imp fun D σ H ⟨F, R, ρ, N, hH, w, q, k⟩ => by
  subst hH
  exact k.lf w q fun v d F' x w' rv q' => k.nx σ F' R ρ w' q'
def rIf (t : RT) (r1 r2 : RS) : RS := fun N ρ => t ρ (fun b => match b with | true => r1 N ρ | false => r2 N ρ) N.ex
theorem ds_if {bt bf : List Stmt} (hc : DT B X W c rt) (h1 : DSs B X W bt r1) (h2 : DSs B X W bf r2) : DS B X W (.If c bt bf pos) (rIf rt r1 r2) := (ps_if hc h1 h2).imp fun D σ H ⟨F, R, ρ, N, hH, w, q, k⟩ => by
  subst hH
  refine k.lf w q fun v d F' x w' rv q' => ?_
  cases rv
  cases v with
  | true => exact ⟨F', R, ρ, N, rfl, w', q', k⟩
  | false => exact ⟨F', R, ρ, N, rfl, w', q', k⟩
/-! ### assignments -/
def rSet (i : Nat) (re : RE) : RS := fun N ρ => re ρ (fun d => N.nx (ρ.set i (.val d))) N.ex
theorem ds_setT {i : Nat} {te : TE} (h : PS X st (tAsg te (gName i))) (hi : ∀ σ H Q, lE (kc B.T X) B W re σ H Q → te σ H Q) : DS B X W st (rSet i re) := h.imp fun D σ H ⟨F, R, ρ, N, hH, w, q, k⟩ => by
  subst hH
  exact hi _ _ _ (k.lf w q fun v d F' x w' rv q' => k.nx _ F' R _ (w'.setV rv i) q')
theorem ds_set {i : Nat} {x : Str} {p : Pos} (hN : X.N.Nodup) (hi : X.N[i]? = some x) (hx : Loc X.env.scope x) (he : DE B X W e re) (hs : swapsWith e (some (.Name x p)) pos.line X.env = pure false := by rfl) (hf : X.fn x = true ∨ X.env.scope.names.lookup x = some .local := by first | exact .inl rfl | exact .inr rfl) :
    DS B X W (.Assign [.Name x p] e pos) (rSet i re) := ds_setT (ps_set hN hi hx he hs hf) fun _ _ _ h => h
/-- a new list, one's own -/
def rSetL (i : Nat) (rs : RA) : RS := fun N ρ => i < ρ.length ∧ rs ρ (fun ds => N.nx (ρ.set i (.own ds))) N.ex
theorem ds_setLT {i : Nat} {te : TE} (h : PS X st (tAsg te (gName i))) (hi : ∀ σ H Q, lL (kc B.T X) B W rs σ H Q → te σ H Q) : DS B X W st (rSetL i rs) := h.imp fun D σ H ⟨F, R, ρ, N, hH, w, q, k⟩ => by
  subst hH
  refine hi _ _ _ ⟨F, R, ρ, _, N.ex, rfl, w, q.2, fun p vs ds F' x dj rv _ q' hp => ?_, fun x cls od F' e dj rx q' => k.ex x cls od σ F' R ρ (w.ext e dj) rx q'⟩
  have w' := (w.ext x dj).setN rv hp i q.1
  rw [jn_updR (jn_none hp).1]
  exact k.nx _ F' _ _ w' q'
theorem ds_setL {i : Nat} {x : Str} {p : Pos} (hN : X.N.Nodup) (hi : X.N[i]? = some x) (hx : Loc X.env.scope x) (he : FE B X W e rs) (hs : swapsWith e (some (.Name x p)) pos.line X.env = pure false := by rfl) (hf : X.fn x = true ∨ X.env.scope.names.lookup x = some .local := by first | exact .inl rfl | exact .inr rfl) :
    DS B X W (.Assign [.Name x p] e pos) (rSetL i rs) := ds_setLT (ps_set hN hi hx he hs hf) fun _ _ _ h => h
/-! ### targets -/
abbrev G3 := D → Env3 → (Env3 → Prop) → Prop
abbrev G3s := List D → Env3 → (Env3 → Prop) → Prop
/-- a list of one's own stood there before -/
def Osub (σ : St) (ρ : Env3) (σ' : St) (ρ' : Env3) : Prop := ∀ (j : Nat) (es : List D), ρ'[j]? = some (.own es) → ρ[j]? = some (.own es) ∧ σ'[j]? = σ[j]?
/-- only the slots of is changed -/
def Chg (is : List Nat) (σ σ' : St) : Prop := σ'.length = σ.length ∧ ∀ j, j ∉ is → σ'[j]? = σ[j]?
def lG (K : KC) (is : List Nat) (g : G3) : TG := fun v σ H Q => ∃ B F R ρ d Q', H = jn F R ∧ Wd K B σ F R ρ ∧ Rep K F v d ∧ g d ρ Q' ∧ ∀ σ' ρ', Wd K B σ' F R ρ' → Chg is σ σ' → Osub σ ρ σ' ρ' → Q' ρ' → Q σ' (jn F R)
def lGs (K : KC) (is : List Nat) (g : G3s) : TGs := fun vs σ H Q => ∃ B F R ρ ds Q', H = jn F R ∧ Wd K B σ F R ρ ∧ Reps K F vs ds ∧ g ds ρ Q' ∧ ∀ σ' ρ', Wd K B σ' F R ρ' → Chg is σ σ' → Osub σ ρ σ' ρ' → Q' ρ' → Q σ' (jn F R)
abbrev DG (T : List (Addr × Str)) (X : Cx) (is : List Nat) (t : Expr) (g : G3) : Prop := PG X t (lG (kc T X) is g)
abbrev DGs (T : List (Addr × Str)) (X : Cx) (is : List Nat) (t : List Expr) (g : G3s) : Prop := PGs X t (lGs (kc T X) is g)
theorem _root_.L2.PG.imp {t : Expr} {g g' : TG} (h : PG X t g) (i : ∀ v σ H Q, g' v σ H Q → g v σ H Q) : PG X t g' := ⟨fun pins s σ H v u Q I r q => h.run pins s σ H v u Q I r (i v σ H Q q)⟩
theorem _root_.L2.PGs.imp {t : List Expr} {g g' : TGs} (h : PGs X t g) (i : ∀ v σ H Q, g' v σ H Q → g v σ H Q) : PGs X t g' := ⟨fun pins s σ H v u Q I r q => h.run pins s σ H v u Q I r (i v σ H Q q)⟩
def g3N (i : Nat) : G3 := fun d ρ Q => Q (ρ.set i (.val d))
theorem Osub.refl (σ : St) (ρ : Env3) : Osub σ ρ σ ρ := fun _ _ h => ⟨h, rfl⟩
theorem osub_set {σ : St} {ρ : Env3} {v : V} {d : D} (i : Nat) : Osub σ ρ (σ.set i (some v)) (ρ.set i (.val d)) := fun j es h => by
  by_cases hj : i = j
  · subst hj
    by_cases hl : i < ρ.length
    · rw [List.getElem?_set_self hl] at h
      cases h
    · rw [List.getElem?_eq_none (by rw [List.length_set]; omega)] at h
      cases h
  · rw [List.getElem?_set_ne hj] at h
    exact ⟨h, List.getElem?_set_ne hj⟩
theorem Osub.trans {σ σ1 σ2 : St} {ρ ρ1 ρ2 : Env3} (x : Osub σ ρ σ1 ρ1) (y : Osub σ1 ρ1 σ2 ρ2) : Osub σ ρ σ2 ρ2 := fun j es h =>
  let ⟨h1, e1⟩ := y j es h
  let ⟨h2, e2⟩ := x j es h1
  ⟨h2, e1.trans e2⟩
theorem Chg.refl (is : List Nat) (σ : St) : Chg is σ σ := ⟨rfl, fun _ _ => rfl⟩
theorem dg_name {i : Nat} {x : Str} (hN : X.N.Nodup) (hi : X.N[i]? = some x) (hx : Loc X.env.scope x) (hf : X.fn x = true ∨ X.env.scope.names.lookup x = some .local := by first | exact .inl rfl | exact .inr rfl) : DG T X [i] (.Name x pos) (g3N i) :=
  (pg_name hN hi hx hf).imp fun v σ H Q ⟨B, F, R, ρ, d, Q', hH, w, rv, q, k⟩ => by
    subst hH
    exact k _ _ (w.setV rv i) ⟨by rw [List.length_set], fun j hj => List.getElem?_set_ne fun z => hj (by simp [z])⟩ (osub_set i) q
def g3Nil : G3s := fun ds ρ Q => match ds with
  | [] => Q ρ
  | _ => False
def g3Cons (g : G3) (gs : G3s) : G3s := fun ds ρ Q => match ds with
  | d :: r => g d ρ (fun ρ' => gs r ρ' Q)
  | [] => False
theorem dgs_nil : DGs T X [] [] g3Nil := pgs_nil.imp fun vs σ H Q ⟨B, F, R, ρ, ds, Q', hH, w, rv, q, k⟩ => by
  subst hH
  cases ds with
  | nil =>
    rw [reps_nil rv]
    exact ⟨rfl, k _ _ w (.refl _ _) (.refl _ _) q⟩
  | cons d r => exact (show False from q).elim
theorem dgs_cons {is js : List Nat} {g : G3} {gs : G3s} (h1 : DG T X is e g) (h2 : DGs T X js es gs) (hs : (assignEach (e :: es) X.env).map (·.2) = assign e X.env :: (assignEach es X.env).map (·.2) := by rfl) : DGs T X (is ++ js) (e :: es) (g3Cons g gs) := (pgs_cons h1 h2 hs).imp fun vs σ H Q ⟨B, F, R, ρ, ds, Q', hH, w, rv, q, k⟩ => by
  subst hH
  cases ds with
  | nil => exact (show False from q).elim
  | cons d r =>
    obtain ⟨v, vr, rfl, r1, r2⟩ := reps_cons rv
    refine ⟨v, vr, rfl, B, F, R, ρ, d, _, rfl, w, r1, q, fun σ' ρ' w' c' o' q' => ?_⟩
    refine ⟨B, F, R, ρ', r, Q', rfl, w', r2, q', fun σ2 ρ2 w2 c2 o2 q2 => k σ2 ρ2 w2 ⟨c2.1.trans c'.1, fun j hj => ?_⟩ (o'.trans o2) q2⟩
    have n1 : j ∉ is := fun z => hj (List.mem_append_left _ z)
    have n2 : j ∉ js := fun z => hj (List.mem_append_right _ z)
    exact (c2.2 j n2).trans (c'.2 j n1)
def g3Tup (n : Nat) (gs : G3s) : G3 := fun d ρ Q => match d with
  | .tup ds => ds.length = n ∧ gs ds ρ Q
  | _ => False
theorem dg_tup {is : List Nat} {gs : G3s} {k1 n : Nat} (hc : X.calm = true) (h : DGs T X is es gs) (hn : (assignEach es X.env).length = n := by rfl) (hst : (assignEach es X.env).findIdx? (·.1) = none := by rfl) : DG T X is (.Tuple es k1 pos) (g3Tup n gs) :=
  (pg_tup hc h hn hst).imp fun v σ H Q ⟨B, F, R, ρ, d, Q', hH, w, rv, q, k⟩ => by
    subst hH
    cases d with
    | tup ds =>
      obtain ⟨a, vs, rfl, ha, ra⟩ := rep_tup rv
      exact ⟨a, vs, rfl, sq_t (K := kc B.T X) ha, by rw [ra.length]; exact q.1, B, F, R, ρ, ds, Q', rfl, w, ra, q.2, k⟩
    | _ => exact (show False from q).elim
def rAsg (g : G3) (re : RE) : RS := fun N ρ => re ρ (fun d => g d ρ N.nx) N.ex
theorem ds_asg {is : List Nat} {tg : Expr} {g : G3} (he : DE B X W e re) (hg : DG B.T X is tg g) (hs : swapsWithSole [tg] e pos.line X.env = pure false := by rfl) (hw : swappedStores [tg] e X.env = pure none := by rfl) (ha : (assignEach [tg] X.env).map (·.2) = [assign tg X.env] := by rfl) :
    DS B X W (.Assign [tg] e pos) (rAsg g re) := (ps_asg he hg hs hw ha).imp fun D σ H ⟨F, R, ρ, N, hH, w, q, k⟩ => by
  subst hH
  exact k.lf w q fun v d F' x w' rv q' => ⟨B, F', R, ρ, d, N.nx, rfl, w', rv, q', fun σ' ρ' w2 _ _ q2 => k.nx σ' F' R ρ' w2 q2⟩
/-- a, b = x, y -/
def rPar (i j : Nat) (rs : RA) : RS := fun N ρ => rs ρ (fun ds => match ds with
  | [d, e] => N.nx ((ρ.set i (.val d)).set j (.val e))
  | _ => False) N.ex
theorem ds_par {i j : Nat} {x y : Str} {px py pt pt2 : Pos} {kt k2 : Nat} (hc : X.calm = true) (hN : X.N.Nodup) (hi : X.N[i]? = some x) (hj : X.N[j]? = some y) (hij : i ≠ j) (hx : X.env.scope.names.lookup x = some .local) (hy : X.env.scope.names.lookup y = some .local) (ha : DA B X W [a, b] rs)
    (hw : swappedStores [.Tuple [.Name x px, .Name y py] kt pt] (.Tuple [a, b] k2 pt2) X.env = pure (some [x, y])) (hs : swapsWithSole [.Tuple [.Name x px, .Name y py] kt pt] (.Tuple [a, b] k2 pt2) pos.line X.env = pure false := by rfl) :
    DS B X W (.Assign [.Tuple [.Name x px, .Name y py] kt pt] (.Tuple [a, b] k2 pt2) pos) (rPar i j rs) := (ps_par hc hN hi hj hij hx hy ha hw hs).imp fun D σ H ⟨F, R, ρ, N, hH, w, q, k⟩ => by
  subst hH
  refine k.lf w q fun vs ds F' x w' rv q' => ?_
  split at q'
  · obtain ⟨v, u, rfl, h1, h2⟩ := reps_two rv
    exact ⟨v, u, rfl, k.nx _ F' R _ ((w'.setV h1 i).setV h2 j) q'⟩
  · exact q'.elim
/-! ### lists of one's own -/
def rApp (i : Nat) (re : RE) : RS := fun N ρ => match ρ[i]? with
  | some (.own ds) => re ρ (fun d => ds.length < sizeLine ∧ N.nx (ρ.set i (.own (ds ++ [d])))) N.ex
  | _ => False
theorem upd_own {K : KC} {σ : St} {F R : Hp} {ρ : Env3} (w : Wd K B σ F R ρ) {a : Addr} {o o' : HO} (h : R a = some o) : upd (jn F R) a o' = jn F (upd R a o') := jn_updR (jn_of_r w.dj h).1
theorem ds_app {i : Nat} {x : Str} {p ap cp : Pos} (hv : PE X (.Name x p) (tVar i)) (he : DE B X W e re)
    (hpl : ((backTo cp (starEach (e :: []) X.env)).all (fun x => !x.1) && (backToKw cp (keywordEach [] X.env)).all (fun x => x.1.isSome) && decide ((e :: []).length + ([] : List Keyword).length + (if ([] : List Keyword).isEmpty then 0 else 1) < 30)) = true := by rfl)
    (h0 : attributeBase (.Name x p) "append" X.env (eval (.Name x p) X.env) = eval (.Name x p) X.env := by rfl) (h1 : (ap.endLine == cp.line) = true := by rfl) (h2 : starEach (e :: []) X.env = (false, eval e X.env) :: starEach [] X.env := by rfl) (h3 : (backTo cp (starEach [] X.env)).any (·.1) = false := by rfl)
    (hs : swapsWith (.Call (.Attribute (.Name x p) "append" ap) [e] [] cp) none pos.line X.env = pure false := by rfl) :
    DS B X W (.Expr (.Call (.Attribute (.Name x p) "append" ap) [e] [] cp) pos) (rApp i re) :=
  (ps_expr (pe_bm PySem.F.plainAttrs_list PySem.F.slot_list_append PySem.F.type_list_append mt_append hv (pa_cons he pa_nil h2) h0 hpl h1 h2 h3) hs).imp fun D σ H ⟨F, R, ρ, N, hH, w, q, k⟩ => by
    subst hH
    unfold rApp at q
    split at q
    · rename_i ds hi
      obtain ⟨l, vs, e1, e2, e3, e4⟩ := w.own i ds hi
      refine ⟨_, e1, .inl ⟨rfl, vs, .of (jn_of_r w.dj e2).2⟩, ?_⟩
      refine k.lf w q fun v d F' x w' rv q' => ?_
      obtain ⟨l', vs', g1, g2, g3, g4⟩ := w'.own i ds hi
      rw [e1] at g1
      cases g1
      rw [e2] at g2
      cases g2
      refine ⟨l, vs, v, rfl, rfl, (jn_of_r w'.dj e2).2, by rw [g3.length]; exact q'.1, ?_⟩
      have w2 := w'.chg hi e1 (Reps.append g3 (Reps.cons rv Reps.nil))
      rw [upd_own w' e2]
      exact k.nx _ F' _ _ w2 q'.2
    · exact q.elim
/-- x.extend(e), e a list -/
def rExt (i : Nat) (re : RE) : RS := fun N ρ => match ρ[i]? with
  | some (.own ds) => re ρ (fun d => match d with
    | .lst es => ds.length + es.length ≤ sizeLine ∧ N.nx (ρ.set i (.own (ds ++ es)))
    | _ => False) N.ex
  | _ => False
theorem ds_ext {i : Nat} {x : Str} {p ap cp : Pos} (hv : PE X (.Name x p) (tVar i)) (he : DE B X W e re)
    (hpl : ((backTo cp (starEach (e :: []) X.env)).all (fun x => !x.1) && (backToKw cp (keywordEach [] X.env)).all (fun x => x.1.isSome) && decide ((e :: []).length + ([] : List Keyword).length + (if ([] : List Keyword).isEmpty then 0 else 1) < 30)) = true := by rfl)
    (h0 : attributeBase (.Name x p) "extend" X.env (eval (.Name x p) X.env) = eval (.Name x p) X.env := by rfl) (h1 : (ap.endLine == cp.line) = true := by rfl) (h2 : starEach (e :: []) X.env = (false, eval e X.env) :: starEach [] X.env := by rfl) (h3 : (backTo cp (starEach [] X.env)).any (·.1) = false := by rfl)
    (hs : swapsWith (.Call (.Attribute (.Name x p) "extend" ap) [e] [] cp) none pos.line X.env = pure false := by rfl) :
    DS B X W (.Expr (.Call (.Attribute (.Name x p) "extend" ap) [e] [] cp) pos) (rExt i re) :=
  (ps_expr (pe_bm PySem.F.plainAttrs_list PySem.F.slot_list_extend PySem.F.type_list_extend mt_extend hv (pa_cons he pa_nil h2) h0 hpl h1 h2 h3) hs).imp fun D σ H ⟨F, R, ρ, N, hH, w, q, k⟩ => by
    subst hH
    unfold rExt at q
    split at q
    · rename_i ds hi
      obtain ⟨l, vs, e1, e2, e3, e4⟩ := w.own i ds hi
      refine ⟨_, e1, .inl ⟨rfl, vs, .of (jn_of_r w.dj e2).2⟩, ?_⟩
      refine k.lf w q fun v d F' x w' rv q' => ?_
      obtain ⟨l', vs', g1, g2, g3, g4⟩ := w'.own i ds hi
      rw [e1] at g1
      cases g1
      rw [e2] at g2
      cases g2
      split at q'
      · obtain ⟨b, us, rfl, hb, rb⟩ := rep_lst rv
        refine ⟨l, b, vs, us, rfl, rfl, (jn_of_r w'.dj e2).2, jn_l hb, by rw [g3.length, rb.length]; exact q'.1, ?_⟩
        have w2 := w'.chg hi e1 (Reps.append g3 rb)
        rw [upd_own w' e2]
        exact k.nx _ F' _ _ w2 q'.2
      · exact q'.elim
    · exact q.elim
end
end L3
namespace L3
open PySem PySem.Spec L2
open PyProof.Rows hiding St
/-! ### what is walked -/
structure Wk (K : KC) (J : It) (ds : List D) (F0 : Hp) : Prop where
  go : ∀ F R (i : Nat), Ext K F0 F → Dj F R → i < ds.length → J.go i (jn F R)
  stop : ∀ F R (i : Nat), Ext K F0 F → Dj F R → ds.length = i → J.stop i (jn F R)
  yld : ∀ F R (i : Nat) x H', Ext K F0 F → Dj F R → i < ds.length → J.yld i (jn F R) x H' → ∃ F' d, H' = jn F' R ∧ Ext K F F' ∧ Dj F' R ∧ ds[i]? = some d ∧ Rep K F' x d
def lI (K : KC) (B : Bs) (W : WX) (r : RA) : TI := fun σ H Z => ∃ F R ρ Q' E', H = jn F R ∧ Wd K B σ F R ρ ∧ r ρ Q' E' ∧ (∀ J ds F', Ext K F F' → Dj F' R → Wk K J ds F' → Q' ds → Z J (jn F' R)) ∧
  ∀ x cls od F', Ext K F F' → Dj F' R → RepX K F' cls od x → E' x → W cls od σ (jn F' R)
abbrev DI (B : Bs) (X : Cx) (W : WX) (tg e : Expr) (r : RA) : Prop := PI X tg e (lI (kc B.T X) B W r)
theorem _root_.L2.PI.imp {X : Cx} {tg e : Expr} {t t' : TI} (h : PI X tg e t) (i : ∀ σ H Z, t' σ H Z → t σ H Z) : PI X tg e t' := ⟨fun pins s σ H Z I q => h.run pins s σ H Z I (i σ H Z q)⟩
section
variable {K : KC} {F : Hp}
theorem wk_list {a : Addr} {vs : List V} {ds : List D} (h : SqL K.K F a vs) (r : Reps K F vs ds) : Wk K (Itl K.K a) ds F where
  go := fun F' R i x dj hl => by
    have hv : i < vs.length := by rw [r.length]; exact hl
    exact ⟨vs, vs[i], sq_s (x.seqL h), List.getElem?_eq_getElem hv⟩
  stop := fun F' R i x dj hl => ⟨vs, sq_s (x.seqL h), by rw [r.length]; omega⟩
  yld := fun F' R i y H' x dj hl ⟨e, q⟩ => by
    obtain ⟨d, e1, e2⟩ := r.getV (q vs (sq_s (x.seqL h)))
    exact ⟨F', d, e, .refl _, dj, e1, Rep.ext x _ _ e2⟩
theorem wk_tup {a : Addr} {vs : List V} {ds : List D} (h : F a = some (.tup vs)) (r : Reps K F vs ds) : Wk K (Itt K.K a) ds F where
  go := fun F' R i x dj hl => by
    have hv : i < vs.length := by rw [r.length]; exact hl
    exact ⟨vs, vs[i], .inl (.inl (jn_l (x.tup h))), List.getElem?_eq_getElem hv⟩
  stop := fun F' R i x dj hl => ⟨vs, .inl (.inl (jn_l (x.tup h))), by rw [r.length]; omega⟩
  yld := fun F' R i y H' x dj hl ⟨e, q⟩ => by
    obtain ⟨d, e1, e2⟩ := r.getV (q vs (.inl (.inl (jn_l (x.tup h)))))
    exact ⟨F', d, e, .refl _, dj, e1, Rep.ext x _ _ e2⟩
def rangeD (lo : Int) (n : Nat) : List D := (List.range n).map fun i => .int (lo + (i : Nat))
theorem wk_range {lo : Int} {n : Nat} : Wk K (Itr lo n) (rangeD lo n) F where
  go := fun F' R i x dj hl => by
    have : i < n := by simpa [rangeD] using hl
    exact this
  stop := fun F' R i x dj hl => by
    have : n = i := by simpa [rangeD] using hl
    exact Nat.le_of_eq this
  yld := fun F' R i y H' x dj hl ⟨e, q⟩ => by
    have hn : i < n := by simpa [rangeD] using hl
    refine ⟨F', .int (lo + (i : Nat)), e, .refl _, dj, ?_, by rw [q]; exact of_int _⟩
    unfold rangeD
    rw [List.getElem?_map, List.getElem?_range hn]
    rfl
def zipD (xs ys : List D) : List D := (xs.zip ys).map fun p => .tup [p.1, p.2]
theorem zipD_length (xs ys : List D) : (zipD xs ys).length = min xs.length ys.length := by simp [zipD]
theorem zipD_get {xs ys : List D} {i : Nat} {d e : D} (h1 : xs[i]? = some d) (h2 : ys[i]? = some e) : (zipD xs ys)[i]? = some (.tup [d, e]) := by
  have e0 : (xs.zip ys)[i]? = some (d, e) := List.getElem?_zip_eq_some.mpr ⟨h1, h2⟩
  unfold zipD
  rw [List.getElem?_map, e0]
  rfl
end
section
variable {B : Bs} {X : Cx} {W : WX} {a b c e tg : Expr} {es rest : List Expr} {ra rb rc re : RE} {rt : RT} {rs ri : RA} {pos : Pos} {st : Stmt} {sts body : List Stmt} {r r1 r2 : RS}
/-- a list or a tuple, walked -/
def iAny (K : PySem.W.Frag) (tl : TE) : TI := fun σ H Z => tl σ H fun x H1 => ∃ q, x = .ref q ∧ (((∃ ys, SqL K H1 q ys) ∧ Z (Itl K q) H1) ∨ ((∃ ys, SqT K H1 q ys) ∧ Z (Itt K q) H1))
theorem pi_any {tl : TE} (hl : PE X e tl) : PI X tg e (iAny X.K tl) :=
  ⟨fun ps s0 σ H Z I0 hh => thn (hl.run ps s0 σ H _ I0 hh) fun u s1 ⟨x, H1, I1, rr, q, ex, alt⟩ => by
    subst ex
    cases rr
    have hf := I1.hok.fresh (Nat.le_refl s1.heap.objs.size)
    have fp : ∀ b' ∈ [s1.heap.objs.size], FpOk X ps H1 b' := fun b' hb' => by
      obtain rfl : b' = s1.heap.objs.size := by simpa using hb'
      exact I1.fpOk (Nat.le_refl _) hf
    have kp : ∀ o : Obj, Inv X ps σ H1 { s1 with heap := s1.heap.push o } := fun o => I1.kept (t' := s1.toks) fun _ _ g => Heap.get?_push_of_some _ g
    rcases alt with ⟨⟨ys, hq⟩, hz⟩ | ⟨⟨ys, hq⟩, hz⟩
    · obtain ⟨its, _, pl, _⟩ := I1.list hq
      exact wpAny_pyIter_list pl.isList ⟨_, [s1.heap.objs.size], _, _, H1, rfl, kp _, turn_list q _, ⟨_, Heap.get?_push_size _ rfl, rfl, rfl⟩, fp, hz⟩
    · obtain ⟨its, _, pl, _⟩ := I1.tuple hq
      exact wpAny_pyIter_tuple (show s1.heap.IsTuple q its.toArray from pl) ⟨_, [s1.heap.objs.size], _, _, H1, rfl, kp _, turn_tuple q _, ⟨_, Heap.get?_push_size _ rfl, rfl, rfl⟩, fp, hz⟩⟩
def rIt (re : RE) : RA := fun ρ Q E => re ρ (fun d => match itemsOf d with
  | some ds => Q ds
  | none => False) E
theorem di_seq (he : DE B X W e re) : DI B X W tg e (rIt re) := (pi_any he).imp fun σ H Z ⟨F, R, ρ, Q', E', hH, w, q, kk, kx⟩ => by
  subst hH
  refine ⟨F, R, ρ, _, E', rfl, w, q, fun v d F' x dj rv q' => ?_, kx⟩
  cases d with
  | tup ds =>
    obtain ⟨p, vs, rfl, ha, ra⟩ := rep_tup rv
    exact ⟨p, rfl, .inr ⟨⟨vs, sq_t (K := kc B.T X) ha⟩, kk _ ds F' x dj (wk_tup ha ra) q'⟩⟩
  | lst ds =>
    obtain ⟨p, vs, rfl, ha, ra⟩ := rep_lst rv
    exact ⟨p, rfl, .inl ⟨⟨vs, sq_l (K := kc B.T X) ha⟩, kk _ ds F' x dj (wk_list (.of ha) ra) q'⟩⟩
  | scr xs =>
    obtain ⟨p, rfl, ha⟩ := rep_scr rv
    exact ⟨p, rfl, .inl ⟨⟨_, sq_s (K := kc B.T X) ha⟩, kk _ _ F' x dj (wk_list ha reps_ints) q'⟩⟩
  | _ => exact (show False from q').elim
def gRange1 (Q : List D → Prop) : List D → Prop := fun ds => match ds with
  | [.int j] => (-(2 ^ 62) ≤ j ∧ j < 2 ^ 62) ∧ Q (rangeD 0 j.toNat)
  | _ => False
def gRange2 (Q : List D → Prop) : List D → Prop := fun ds => match ds with
  | [.int i, .int j] => (-(2 ^ 62) ≤ i ∧ i < 2 ^ 62 ∧ -(2 ^ 62) ≤ j ∧ j < 2 ^ 62) ∧ Q (rangeD i (j - i).toNat)
  | _ => False
def rRange1 (rs : RA) : RA := fun ρ Q E => rs ρ (gRange1 Q) E
def rRange2 (rs : RA) : RA := fun ρ Q E => rs ρ (gRange2 Q) E
theorem di_range1 {p : Pos} (hg : Gl X "range") (hm : X.mg "range" = none) (ha : DA B X W [a] rs) (hs : starEach [a] X.env = [(false, eval a X.env)] := by rfl) : DI B X W tg (.Call (.Name "range" p) [a] [] pos) (rRange1 rs) := (pi_range1 hg hm ha hs).imp fun σ H Z ⟨F, R, ρ, Q', E', hH, w, q, kk, kx⟩ => by
  subst hH
  refine ⟨F, R, ρ, _, E', rfl, w, q, fun vs ds F' x dj rv q' => ?_, kx⟩
  unfold gRange1 at q'
  split at q'
  · obtain ⟨v, rfl, h⟩ := reps_one rv
    exact ⟨_, by rw [rep_int h], q'.1.1, q'.1.2, kk _ _ F' x dj wk_range q'.2⟩
  · exact q'.elim
theorem di_range2 {p : Pos} (hg : Gl X "range") (hm : X.mg "range" = none) (ha : DA B X W [a, b] rs) (hs : starEach [a, b] X.env = [(false, eval a X.env), (false, eval b X.env)] := by rfl) (hs2 : starEach [b] X.env = [(false, eval b X.env)] := by rfl) : DI B X W tg (.Call (.Name "range" p) [a, b] [] pos) (rRange2 rs) :=
  (pi_range2 hg hm ha hs hs2).imp fun σ H Z ⟨F, R, ρ, Q', E', hH, w, q, kk, kx⟩ => by
    subst hH
    refine ⟨F, R, ρ, _, E', rfl, w, q, fun vs ds F' x dj rv q' => ?_, kx⟩
    unfold gRange2 at q'
    split at q'
    · obtain ⟨v, u, rfl, h, h'⟩ := reps_two rv
      exact ⟨_, _, by rw [rep_int h, rep_int h'], q'.1, kk _ _ F' x dj wk_range q'.2⟩
    · exact q'.elim
/-! ### loops -/
theorem Wd.rebase {K : KC} {σ : St} {F F1 R : Hp} {ρ : Env3} (w : Wd K B σ F R ρ) (x : Ext K F1 F) : Wd K ⟨F1, B.Fr, B.T⟩ σ F R ρ := ⟨w.tb, x, w.fr, w.dj, w.len, w.val, w.own, w.obj, w.sep⟩
theorem Wd.unbase {K : KC} {σ : St} {F F1 R : Hp} {ρ : Env3} (w : Wd K ⟨F1, B.Fr, B.T⟩ σ F R ρ) (x : Ext K B.F0 F1) : Wd K B σ F R ρ := ⟨w.tb, x.trans w.ex, w.fr, w.dj, w.len, w.val, w.own, w.obj, w.sep⟩
theorem pss_any (hb : ∀ F0, DSs ⟨F0, B.Fr, B.T⟩ X W body r) : PSs X body (fun D σ H => ∃ F0, lS (kc B.T X) ⟨F0, B.Fr, B.T⟩ W r D σ H) := ⟨fun pins s σ H D I ⟨F0, h⟩ => (hb F0).run pins s σ H D I h⟩
def forL (g : G3) (body : RS) (N : En3) : List D → Env3 → Prop
  | [], ρ => N.nx ρ
  | d :: ds, ρ => g d ρ (fun ρ' => body { N with nx := forL g body N ds, ct := forL g body N ds, bk := N.nx } ρ')
def rFor (ri : RA) (g : G3) (body : RS) : RS := fun N ρ => ri ρ (fun ds => forL g body N ds ρ) N.ex
theorem ds_for {is : List Nat} {g : G3} (hp : PassesOwn (model X.prog X.w) X.A X.env X.xe) (hc : X.calm = true) (hi : DI B X W tg e ri) (hg : DG B.T X is tg g) (hb : ∀ F0, DSs ⟨F0, B.Fr, B.T⟩ X W body r) (hs : ∀ x, foldedSetIterable e X.env x = pure x := by intro _; rfl) :
    DS B X W (.For tg e body [] pos) (rFor ri g r) := (ps_for hp hc hi hg (pss_any hb) hs).imp fun D0 σ H ⟨F, R, ρ, N, hH, w, q, k⟩ => by
  subst hH
  refine ⟨F, R, ρ, _, N.ex, rfl, w, q, fun J ds F1 x1 dj1 wk q1 => ?_, fun x cls od F' e dj rx q' => k.ex x cls od σ F' R ρ (w.ext e dj) rx q'⟩
  refine ⟨fun i m σ' H' => m + i = ds.length ∧ ∃ F2 R2 ρ2, H' = jn F2 R2 ∧ Wd (kc B.T X) B σ' F2 R2 ρ2 ∧ Ext (kc B.T X) F1 F2 ∧ forL g r N (ds.drop i) ρ2, ⟨ds.length, by omega, F1, R, ρ, rfl, w.ext x1 dj1, .refl _, by simpa using q1⟩, ?_⟩
  rintro i m σ' H' ⟨hm, F2, R2, ρ2, rfl, w2, x2, q2⟩
  by_cases hl : i < ds.length
  · refine .inr ⟨wk.go F2 R2 i x2 w2.dj hl, fun σ3 H3 => ∃ F3 R3 ρ3, H3 = jn F3 R3 ∧ Wd (kc B.T X) B σ3 F3 R3 ρ3 ∧ Ext (kc B.T X) F1 F3 ∧ forL g r N (ds.drop (i + 1)) ρ3, ?_, ?_⟩
    · rintro σ3 H3 ⟨F3, R3, ρ3, rfl, w3, x3, q3⟩
      exact ⟨m - 1, by omega, by omega, F3, R3, ρ3, rfl, w3, x3, q3⟩
    · intro v H3 hy
      obtain ⟨F3, d, rfl, x3, dj3, e3, r3⟩ := wk.yld F2 R2 i v H3 x2 w2.dj hl hy
      have ed : ds.drop i = d :: ds.drop (i + 1) := by
        obtain ⟨h1, h2⟩ := List.getElem?_eq_some_iff.mp e3
        rw [(List.drop_eq_getElem_cons h1), h2]
      rw [ed] at q2
      refine ⟨B, F3, R2, ρ2, d, _, rfl, w2.ext x3 dj3, r3, q2, fun σ4 ρ4 w4 _ _ q4 => ?_⟩
      have x5 : Ext (kc B.T X) B.F0 F1 := w.ex.trans x1
      refine ⟨F1, F3, R2, ρ4, _, rfl, w4.rebase (x2.trans x3), q4, ?_⟩
      exact ⟨fun σ5 F5 R5 ρ5 w5 q5 => ⟨F5, R5, ρ5, rfl, w5.unbase x5, w5.ex, q5⟩, fun v d σ5 F5 R5 ρ5 w5 => k.rt v d σ5 F5 R5 ρ5 (w5.unbase x5), fun x cls od σ5 F5 R5 ρ5 w5 => k.ex x cls od σ5 F5 R5 ρ5 (w5.unbase x5), fun σ5 F5 R5 ρ5 w5 => k.nx σ5 F5 R5 ρ5 (w5.unbase x5), fun σ5 F5 R5 ρ5 w5 q5 => ⟨F5, R5, ρ5, rfl, w5.unbase x5, w5.ex, q5⟩⟩
  · refine .inl ⟨wk.stop F2 R2 i x2 w2.dj (by omega), ?_⟩
    rw [List.drop_eq_nil_of_le (by omega)] at q2
    exact k.nx σ' F2 R2 ρ2 w2 q2
/-! ### while -/
def whL (t : RT) (body : RS) (N : En3) : Nat → Env3 → Prop
  | 0, _ => False
  | n + 1, ρ => t ρ (fun b => match b with
    | true => body { N with nx := whL t body N n, ct := whL t body N n, bk := N.nx } ρ
    | false => N.nx ρ) N.ex
def rWhile (t : RT) (body : RS) : RS := fun N ρ => ∃ n, whL t body N n ρ
theorem ds_while (hp : PassesOwn (model X.prog X.w) X.A X.env X.xe) (hc : DT B X W c rt) (hb : DSs B X W body r) : DS B X W (.While c body [] pos) (rWhile rt r) := (ps_while hp hc hb).imp fun D0 σ H ⟨F, R, ρ, N, hH, w, ⟨n, q⟩, k⟩ => by
  subst hH
  refine ⟨fun m σ' H' => ∃ F2 R2 ρ2, H' = jn F2 R2 ∧ Wd (kc B.T X) B σ' F2 R2 ρ2 ∧ whL rt r N m ρ2, ⟨n, F, R, ρ, rfl, w, q⟩, ?_⟩
  rintro m σ' H' ⟨F2, R2, ρ2, rfl, w2, q2⟩
  cases m with
  | zero => exact q2.elim
  | succ m =>
    refine k.lf w2 q2 fun v d F' x w' rv q' => ?_
    cases rv
    cases v with
    | false => exact k.nx σ' F' R2 ρ2 w' q'
    | true =>
      refine ⟨fun σ3 H3 => ∃ F3 R3 ρ3, H3 = jn F3 R3 ∧ Wd (kc B.T X) B σ3 F3 R3 ρ3 ∧ whL rt r N m ρ3, ?_, ?_⟩
      · rintro σ3 H3 ⟨F3, R3, ρ3, rfl, w3, q3⟩
        exact ⟨m, Nat.lt_succ_self m, F3, R3, ρ3, rfl, w3, q3⟩
      · exact ⟨F', R2, ρ2, _, rfl, w', q', fun σ3 F3 R3 ρ3 w3 q3 => ⟨F3, R3, ρ3, rfl, w3, q3⟩, k.rt, k.ex, k.nx, fun σ3 F3 R3 ρ3 w3 q3 => ⟨F3, R3, ρ3, rfl, w3, q3⟩⟩
/-! ### comprehensions -/
def wipe3 (ρ : Env3) : List Nat → Env3
  | [] => ρ
  | v :: vs => (wipe3 ρ vs).set v .emp
theorem Wd.setE {K : KC} {σ : St} {F R : Hp} {ρ : Env3} (w : Wd K B σ F R ρ) (i : Nat) : Wd K B (σ.set i none) F R (ρ.set i .emp) := by
  have keyV : ∀ {s : Sl} {j : Nat}, s ≠ .emp → (ρ.set i .emp)[j]? = some s → i ≠ j ∧ ρ[j]? = some s := fun {s j} hs h => by
    by_cases hj : i = j
    · subst hj
      by_cases hl : i < ρ.length
      · rw [List.getElem?_set_self hl] at h
        cases h
        exact absurd rfl hs
      · rw [List.getElem?_eq_none (by rw [List.length_set]; omega)] at h
        cases h
    · rw [List.getElem?_set_ne hj] at h
      exact ⟨hj, h⟩
  refine ⟨w.tb, w.ex, w.fr, w.dj, by rw [List.length_set, List.length_set]; exact w.len, fun j d h => ?_, fun j ds h => ?_, fun j c a fs h => ?_, fun j k a dj dk h1 h2 h3 h4 => ?_⟩
  · obtain ⟨n, h'⟩ := keyV (fun z => by cases z) h
    rw [List.getElem?_set_ne n]
    exact w.val j d h'
  · obtain ⟨n, h'⟩ := keyV (fun z => by cases z) h
    rw [List.getElem?_set_ne n]
    exact w.own j ds h'
  · obtain ⟨n, h'⟩ := keyV (fun z => by cases z) h
    rw [List.getElem?_set_ne n]
    exact w.obj j c a fs h'
  · obtain ⟨n1, g1⟩ := keyV (fun z => by cases z) h1
    obtain ⟨n2, g2⟩ := keyV (fun z => by cases z) h2
    rw [List.getElem?_set_ne n1] at h3
    rw [List.getElem?_set_ne n2] at h4
    exact w.sep j k a dj dk g1 g2 h3 h4
theorem Wd.wipe {K : KC} {σ : St} {F R : Hp} {ρ : Env3} (w : Wd K B σ F R ρ) : ∀ vs : List Nat, Wd K B (L2.wipe σ vs) F R (wipe3 ρ vs)
  | [] => w
  | v :: vs => (Wd.wipe w vs).setE v
theorem wipe_get (σ : St) : ∀ (vs : List Nat) (j : Nat), j < σ.length → (L2.wipe σ vs)[j]? = if j ∈ vs then some none else σ[j]?
  | [], j, _ => by simp [L2.wipe]
  | v :: vs, j, hl => by
    unfold L2.wipe
    have ih := wipe_get σ vs j hl
    have hl2 : j < (L2.wipe σ vs).length := by rw [wipe_length]; exact hl
    by_cases h : v = j
    · subst h
      rw [List.getElem?_set_self hl2]
      simp
    · rw [List.getElem?_set_ne h, ih]
      have : (j ∈ v :: vs) ↔ j ∈ vs := by
        rw [List.mem_cons]
        exact ⟨fun z => z.elim (fun e => absurd e.symm h) id, .inr⟩
      simp only [this]
theorem wipe_chg {σ σ' : St} {vs : List Nat} (c : Chg vs (L2.wipe σ vs) σ') : L2.wipe σ' vs = L2.wipe σ vs := by
  have hl : σ'.length = σ.length := by rw [c.1, wipe_length]
  apply List.ext_getElem?
  intro j
  by_cases h : j < σ.length
  · rw [wipe_get σ' vs j (by omega), wipe_get σ vs j h]
    by_cases m : j ∈ vs
    · rw [if_pos m, if_pos m]
    · rw [if_neg m, if_neg m, c.2 j m, wipe_get σ vs j h, if_neg m]
  · rw [List.getElem?_eq_none (by rw [wipe_length]; omega), List.getElem?_eq_none (by rw [wipe_length]; omega)]
/-- the items made, one behind the other -/
def compL (g : G3) (t : RT) (re : RE) (vs : List Nat) (ρ : Env3) (Q : List D → Prop) : List D → List D → Prop
  | [], acc => Q acc
  | d :: ds, acc => g d (wipe3 ρ vs) (fun ρ' => t ρ' (fun b => match b with
    | true => re ρ' (fun y => compL g t re vs ρ Q ds (acc ++ [y])) (fun _ => False)
    | false => compL g t re vs ρ Q ds acc) (fun _ => False))
def rComp (ri : RA) (g : G3) (t : RT) (re : RE) (vs : List Nat) : RA := fun ρ Q E => ri ρ (fun ds => ds.length ≤ sizeLine ∧ compL g t re vs ρ Q ds []) E
abbrev W0 : WX := fun _ _ _ _ => False
theorem lL_comp {K : KC} {is vs : List Nat} {g : G3} {σ : St} {H : Hp} {Q : VK} (hsub : ∀ j ∈ is, j ∈ vs) (h : lL K B W (rComp ri g rt re vs) σ H Q) :
    tLc (lI K B W ri) (lG K is g) (lT K B W0 rt) (lE K B W0 re) vs σ H Q := by
  obtain ⟨F, R, ρ, Q', E', rfl, w, q, kk, kx⟩ := h
  refine ⟨F, R, ρ, _, E', rfl, w, q, fun J ds F1 x1 dj1 wk q1 => ?_, kx⟩
  intro p hp
  have w1 := w.ext x1 dj1
  obtain ⟨hsz, q1⟩ := q1
  -- behind i items: the list at p holds acc, so many as items at most; all else stands
  refine ⟨fun i m H' => m + i = ds.length ∧ ∃ F2 acc accD, H' = jn F2 (upd R p (.lst acc)) ∧ Ext K F1 F2 ∧ Dj F2 R ∧ F2 p = none ∧ Reps K F2 acc accD ∧ acc.length ≤ i ∧ compL g rt re vs ρ Q' (ds.drop i) accD, ⟨ds.length, by omega, F1, [], [], ?_, .refl _, dj1, (jn_none hp).1, Reps.nil, Nat.zero_le _, by simpa using q1⟩, ?_⟩
  · exact jn_updR (jn_none hp).1
  rintro i m H' ⟨hm, F2, acc, accD, rfl, x2, dj2, np, ra, hacc, q2⟩
  have djp : Dj F2 (upd R p (.lst acc)) := dj2.updR np
  by_cases hl : i < ds.length
  · refine .inr ⟨wk.go F2 _ i x2 djp hl, fun H3 => ∃ F3 acc3 accD3, H3 = jn F3 (upd R p (.lst acc3)) ∧ Ext K F1 F3 ∧ Dj F3 R ∧ F3 p = none ∧ Reps K F3 acc3 accD3 ∧ acc3.length ≤ i + 1 ∧ compL g rt re vs ρ Q' (ds.drop (i + 1)) accD3, ?_, ?_⟩
    · rintro H3 ⟨F3, acc3, accD3, e3, x3, dj3, np3, ra3, ha3, q3⟩
      exact ⟨m - 1, by omega, by omega, F3, acc3, accD3, e3, x3, dj3, np3, ra3, ha3, q3⟩
    · intro v H3 hy
      obtain ⟨F3, d, rfl, x3, dj3, e3, r3⟩ := wk.yld F2 _ i v H3 x2 djp hl hy
      have ed : ds.drop i = d :: ds.drop (i + 1) := by
        obtain ⟨h1, h2⟩ := List.getElem?_eq_some_iff.mp e3
        rw [(List.drop_eq_getElem_cons h1), h2]
      rw [ed] at q2
      have np3 : F3 p = none := by
        cases e : F3 p with
        | none => rfl
        | some o =>
          have := dj3 p o e
          rw [upd_same] at this
          cases this
      -- the world within: the list that is being made is of the rest
      have wi : Wd K B (L2.wipe σ vs) F3 (upd R p (.lst acc)) (wipe3 ρ vs) := by
        have w0 := (w1.ext (x2.trans x3) (F' := F3) (dj_down (jn_none hp).2 dj3).2).wipe vs
        refine ⟨w0.tb, w0.ex, fun b o hb => ?_, dj3, w0.len, w0.val, fun j es hj => ?_, fun j c b fs hj => ?_, w0.sep⟩
        · have h1 := w0.fr b o hb
          have : b ≠ p := fun z => by rw [z, (jn_none hp).2] at h1; cases h1
          rw [upd_ne this]
          exact h1
        · obtain ⟨b, us, g1, g2, g3, g4⟩ := w0.own j es hj
          have : b ≠ p := fun z => by rw [z, (jn_none hp).2] at g2; cases g2
          exact ⟨b, us, g1, by rw [upd_ne this]; exact g2, g3, g4⟩
        · obtain ⟨z, dx, us, g1, g2, g3, g4⟩ := w0.obj j c b fs hj
          have n1 : b ≠ p := fun z => by rw [z, (jn_none hp).2] at g2; cases g2
          have n2 : dx ≠ p := fun z => by rw [z, (jn_none hp).2] at g3; cases g3
          exact ⟨z, dx, us, g1, by rw [upd_ne n1]; exact g2, by rw [upd_ne n2]; exact g3, g4⟩
      refine ⟨B, F3, _, _, d, _, rfl, wi, r3, q2, fun σ4 ρ4 w4 c4 _ q4 => ⟨wipe_chg ⟨c4.1, fun j hj => c4.2 j fun z => hj (hsub j z)⟩, ?_⟩⟩
      refine ⟨F3, _, ρ4, _, _, rfl, w4, q4, fun b b' F4 x4 dj4 eb q5 => ?_, fun _ _ _ _ _ _ _ z => z.elim⟩
      cases eb
      have down : ∀ {F5 : Hp}, Dj F5 (upd R p (.lst acc)) → Dj F5 R ∧ F5 p = none := fun {F5} dj5 => (dj_down (jn_none hp).2 dj5).symm
      cases b with
      | false =>
        obtain ⟨d5, n5⟩ := down dj4
        exact ⟨F4, acc, accD, rfl, (x2.trans x3).trans x4, d5, n5, Reps.ext (x3.trans x4) _ _ ra, by omega, q5⟩
      | true =>
        refine ⟨F4, _, ρ4, _, _, rfl, w4.ext x4 dj4, q5, fun y yd F5 x5 dj5 ry q6 => ?_, fun _ _ _ _ _ _ _ z => z.elim⟩
        obtain ⟨d5, n5⟩ := down dj5
        refine ⟨acc, (jn_of_r dj5 upd_same).2, by omega, F5, acc ++ [y], accD ++ [yd], ?_, ((x2.trans x3).trans x4).trans x5, d5, n5, Reps.append (Reps.ext ((x3.trans x4).trans x5) _ _ ra) (Reps.cons ry Reps.nil), by rw [List.length_append, List.length_singleton]; omega, q6⟩
        rw [jn_updR n5, upd_upd]
  · refine .inl ⟨wk.stop F2 _ i x2 djp (by omega), ?_⟩
    rw [List.drop_eq_nil_of_le (by omega)] at q2
    have hp2 : jn F2 R p = none := by
      rw [jn_r np]
      exact (jn_none hp).2
    rw [← jn_updR np]
    exact kk p acc accD F2 (x1.trans x2) dj2 ra (by omega) q2 hp2
theorem kc_blk {T : List (Addr × Str)} (hpn : X.pn = []) (s : Shared) (H : Hp) (scope : Scope) (env : Env) (fp : List Addr) : kc T (X.blk s H scope env fp) = kc T X := by
  show (⟨X.K, cmOf X.mg, [], T⟩ : KC) = ⟨X.K, cmOf X.mg, X.pn, T⟩
  rw [hpn]
/-- the tests of a comprehension -/
abbrev DTs (B : Bs) (X : Cx) (W : WX) (ifs : List Expr) (r : RT) : Prop := PTs X ifs (lT (kc B.T X) B W r)
theorem dts_nil : DTs B X W [] (rC true) := ⟨fun pins s σ H Q I ⟨F, R, ρ, Q', E', hH, w, q, k⟩ => by
  subst hH
  exact pts_nil.run pins s σ _ Q I (k.ok true true F (.refl _) w.dj rfl q)⟩
theorem dts_one (h : DT B X W c rt) : DTs B X W [c] rt := ⟨fun pins s σ H Q I q => (pts_one h).run pins s σ H Q I q⟩
theorem fe_comp {iter elt : Expr} {ifs : List Expr} {scope : Scope} {own : List (Str × Nat)} {is vs : List Nat} {g : G3} (hc : X.calm = true) (hN : X.N.Nodup) (hi : DI B X W tg iter ri) (ok : BlkOk X.N X.env.scope scope own)
    (hg : ∀ (s : Shared) (H : Hp) (C : Addr) (cl : List (Str × Addr)) (fp : List Addr), DG B.T (X.blk s H scope (compEnvC scope cl C X.env) fp) is tg g)
    (ht : ∀ (s : Shared) (H : Hp) (C : Addr) (cl : List (Str × Addr)) (fp : List Addr), DTs B (X.blk s H scope (compEnvC scope cl C X.env) fp) W0 ifs rt)
    (he : ∀ (s : Shared) (H : Hp) (C : Addr) (cl : List (Str × Addr)) (fp : List Addr), DE B (X.blk s H scope (compEnvC scope cl C X.env) fp) W0 elt re)
    (hsub : ∀ j ∈ is, j ∈ vs) (hvs : own.map (·.2) = vs := by rfl) (hpn : X.pn = [] := by rfl) (hs : ∀ x, foldedSetIterable iter X.env x = pure x := by intro _; rfl) :
    FE B X W (.ListComp elt [{ target := tg, iter := iter, ifs := ifs, is_async := 0 }] scope pos) (rComp ri g rt re vs) :=
  (pe_lc hc hN hi ok (fun s H C cl fp => by have h := hg s H C cl fp; unfold DG at h; rw [kc_blk hpn] at h; exact h) (fun s H C cl fp => by have h := ht s H C cl fp; unfold DTs at h; rw [kc_blk hpn] at h; exact h) (fun s H C cl fp => by have h := he s H C cl fp; unfold DE at h; rw [kc_blk hpn] at h; exact h) hs).imp fun _ _ _ h => by rw [hvs]; exact lL_comp hsub h
theorem ds_setLc {i : Nat} {y : Str} {py spos : Pos} {iter elt : Expr} {ifs : List Expr} {scope : Scope} {own : List (Str × Nat)} {is vs : List Nat} {g : G3} (hc : X.calm = true) (hN : X.N.Nodup) (hiN : X.N[i]? = some y) (hloc : X.env.scope.names.lookup y = some .local)
    (hsw : swapsWith (.ListComp elt [{ target := tg, iter := iter, ifs := ifs, is_async := 0 }] scope pos) (some (.Name y py)) spos.line X.env = pure true) (hi : DI B X W tg iter ri) (ok : BlkOk X.N X.env.scope scope own)
    (hg : ∀ (s : Shared) (H : Hp) (C : Addr) (cl : List (Str × Addr)) (fp : List Addr), DG B.T (X.blk s H scope (compEnvC scope cl C X.env) fp) is tg g)
    (ht : ∀ (s : Shared) (H : Hp) (C : Addr) (cl : List (Str × Addr)) (fp : List Addr), DTs B (X.blk s H scope (compEnvC scope cl C X.env) fp) W0 ifs rt)
    (he : ∀ (s : Shared) (H : Hp) (C : Addr) (cl : List (Str × Addr)) (fp : List Addr), DE B (X.blk s H scope (compEnvC scope cl C X.env) fp) W0 elt re)
    (hsub : ∀ j ∈ is, j ∈ vs) (hvs : own.map (·.2) = vs := by rfl) (hpn : X.pn = [] := by rfl) (hs : ∀ x, foldedSetIterable iter X.env x = pure x := by intro _; rfl) :
    DS B X W (.Assign [.Name y py] (.ListComp elt [{ target := tg, iter := iter, ifs := ifs, is_async := 0 }] scope pos) spos) (rSetL i (rComp ri g rt re vs)) :=
  ds_setLT (ps_setLc hc hN hiN hloc hsw hi ok (fun s H C cl fp => by have h := hg s H C cl fp; unfold DG at h; rw [kc_blk hpn] at h; exact h) (fun s H C cl fp => by have h := ht s H C cl fp; unfold DTs at h; rw [kc_blk hpn] at h; exact h) (fun s H C cl fp => by have h := he s H C cl fp; unfold DE at h; rw [kc_blk hpn] at h; exact h) hs) fun _ _ _ h => by rw [hvs]; exact lL_comp hsub h
end
end L3
namespace L3
open PySem PySem.Spec L2
open PyProof.Rows hiding St
/-! ### a def's start, a def's end -/
def start3 (n : Nat) (ds : List D) : Env3 := ds.map Sl.val ++ List.replicate (n - ds.length) .emp
theorem reps_slots {K : KC} {F : Hp} {n : Nat} : ∀ {ds : List D} {vs : List V}, Reps K F vs ds → ∀ (i : Nat) (d : D), (ds.map Sl.val ++ List.replicate n Sl.emp)[i]? = some (.val d) → ∃ v, (vs.map some ++ List.replicate n none)[i]? = some (some v) ∧ Rep K F v d
  | [], vs, h, i, d, e => by
    simp only [List.map_nil, List.nil_append] at e
    rw [List.getElem?_replicate] at e
    split at e <;> cases e
  | d0 :: ds, vs, h, i, d, e => by
    obtain ⟨v, r, rfl, h1, h2⟩ := reps_cons h
    cases i with
    | zero =>
      simp at e
      subst e
      exact ⟨v, rfl, h1⟩
    | succ i => simpa using reps_slots (n := n) h2 i d (by simpa using e)
theorem wd_start {K : KC} {F R : Hp} {N : List Str} {vs : List V} {ds : List D} (dj : Dj F R) (tb : LamX.Tabs K.T F) (r : Reps K F vs ds) {B : Bs} (hF : B.F0 = F) (hR : B.Fr = R) : Wd K B (L2.start N vs) F R (start3 N.length ds) where
  tb := tb
  ex := by rw [hF]; exact .refl _
  fr := fun a o h => by rw [hR] at h; exact h
  dj := dj
  len := by
    unfold L2.start start3
    rw [List.length_append, List.length_append, List.length_map, List.length_map, List.length_replicate, List.length_replicate, r.length]
  val := fun i d h => by
    unfold start3 at h
    unfold L2.start
    rw [r.length]
    exact reps_slots r i d h
  own := fun i es h => by
    unfold start3 at h
    have := List.mem_of_getElem? h
    simp at this
  obj := fun i c a fs h => by
    unfold start3 at h
    have := List.mem_of_getElem? h
    simp at this
  sep := fun i j a di dj h _ _ _ => by
    unfold start3 at h
    have := List.mem_of_getElem? h
    simp at this
/-- what a def owned goes to what is shared -/
theorem absorb {K : KC} {B : Bs} {σ : St} {F R : Hp} {ρ : Env3} (w : Wd K B σ F R ρ) : ∃ F', jn F R = jn F' B.Fr ∧ Ext K F F' ∧ Dj F' B.Fr := by
  refine ⟨fun a => if (B.Fr a).isSome then none else jn F R a, ?_, ?_, ?_⟩
  · funext a
    cases e : B.Fr a with
    | none =>
      cases h : jn F R a with
      | some o => exact (jn_l (by rw [e]; exact h)).symm
      | none => exact ((jn_r (by rw [e]; exact h)).trans e).symm
    | some o =>
      have h1 := w.fr a o e
      rw [(jn_of_r w.dj h1).2]
      exact ((jn_r (by rw [e]; rfl)).trans e).symm
  · refine Ext.of fun a o h => ?_
    cases e : B.Fr a with
    | none =>
      exact jn_l h
    | some u =>
      have h1 := w.fr a u e
      rw [w.dj a o h] at h1
      cases h1
  · refine ⟨fun a o h => ?_, fun a ps h => w.dj.nt a ps (w.fr a _ h)⟩
    cases e : B.Fr a with
    | none => rfl
    | some u =>
      have h' : (if (B.Fr a).isSome = true then none else jn F R a) = some o := h
      rw [e] at h'
      simp at h'
abbrev WD (E : XK) : WX := fun cls d _ H => E cls d H
section
variable {P : Program} {w : World} {K : PySem.W.Frag} {mg : Str → Option Value} {base : Heap} {T : List (Addr × Str)}
/-- THE RULE for a def: its body's derivation, and that its promise over data gives the body's reading -/
theorem fn3 {x qual : Str} {st : Stmt} {f : Addr} {fd : FuncData} {N ps : List Str} {k n : Nat} {sp : Sp3} {r : RS} (F : Fun K x qual st f fd) (S : FnScope N ps (defScope st)) (hn : ps.length = n)
    (hbody : ∀ (cdv : Value) (A : Around) (outer : List Env) (s : Shared) (H : Hp) (E : XK) (B : Bs), B.T = T → Room k (A.deeper (envOfC qual (defScope st) s.heap.objs.size f cdv)) → Takes (cxOf (L2.CX P w) P w K mg base N qual (defScope st) f cdv A outer s H E) (WD E) →
      DSs B (cxOf (L2.CX P w) P w K mg base N qual (defScope st) f cdv A outer s H E) (WD E) (defBody st) r)
    (hp : ∀ (ds : List D) (Q : D → Prop) (E : XD → Prop), ds.length = n → sp ds Q E → r { nx := fun _ => Q .non, rt := Q, ex := E } (start3 N.length ds)) :
    FnOk P w K mg base (L2.CX P w) (k + 1) f fd ps (lSp ⟨K, cmOf mg, [], T⟩ n sp) := by
  refine F.okX S (fun vs H Q E h => ?_) (fun cdv A outer s H vs Q E hr h => ?_)
  · obtain ⟨_, _, _, _, _, _, _, _, _, hl, _⟩ := h
    rw [hl, hn]
  · obtain ⟨F0, R0, ds, Q', E', hH, dj, tb, rd, hl, hs, kv, kx⟩ := h
    subst hH
    let B : Bs := ⟨F0, R0, T⟩
    have tk : Takes (cxOf (L2.CX P w) P w K mg base N qual (defScope st) f cdv A outer s (jn F0 R0) E) (WD E) := takes_of rfl rfl rfl rfl
    refine ⟨_, hbody cdv A outer s (jn F0 R0) E B rfl hr tk, ?_⟩
    refine ⟨F0, R0, start3 N.length ds, _, rfl, wd_start dj tb rd rfl rfl, hp ds Q' E' (by rw [← rd.length]; exact hl) hs, ?_⟩
    refine ⟨fun σ F R ρ w q => ?_, fun v d σ F R ρ w rv q => ?_, fun x cls od σ F R ρ w rx q => ?_, fun σ F R ρ w q => q.elim, fun σ F R ρ w q => q.elim⟩
    · obtain ⟨F', e, x1, d1⟩ := absorb w
      rw [e]
      exact kv.ok _ _ F' (w.ex.trans x1) d1 of_non q
    · obtain ⟨F', e, x1, d1⟩ := absorb w
      rw [e]
      exact kv.ok _ _ F' (w.ex.trans x1) d1 (Rep.ext x1 _ _ rv) q
    · obtain ⟨F', e, x1, d1⟩ := absorb w
      show E cls od (jn F R)
      rw [e]
      exact kx x cls od F' (w.ex.trans x1) d1 (rx.ext x1) q
end
/-! ### errors of the package: their making -/
/-- what the text says of an error's class, whose __init__ stores its arguments -/
structure ExOk (K : PySem.W.Frag) (mg : Str → Option Value) (c : Str) (C fI : Addr) (flds : List Str) : Prop where
  gC : mg c = some (.ref C)
  ox : OexC K C
  no : ∀ f ∈ flds, PySem.W.findIn K (.ref C) f = some none
  iC : PySem.W.findIn K (.ref C) "__init__" = some (some (.ref fI))
  tI : PySem.W.typeIn K (.ref fI) = some (.type "function")
/-- the fields that stand at an error's dict: the last one stored first -/
def exF (flds : List Str) (vs : List V) : List (Str × V) := (flds.zip vs).reverse
def spInit (K : PySem.W.Frag) (flds : List Str) : Sp := fun vs H Q _ => ∃ (a C : Addr) (ws : List V), vs = .ref a :: ws ∧ ws.length = flds.length ∧ OexC K C ∧ (∀ f ∈ flds, PySem.W.findIn K (.ref C) f = some none) ∧ H a = some (exo a C none) ∧
  ∀ d, H d = none → d ≠ a → ∀ H', H' a = some (exo a C (some d)) → H' d = some (exd d (exF flds ws)) → (∀ b, b ≠ a → b ≠ d → H' b = H b) → Q .non H'
section
variable {P : Program} {w : World} {K : PySem.W.Frag}
variable {mg : Str → Option Value} {base : Heap}
theorem exF_1 {f : Str} {v : V} : exF [f] [v] = [(f, v)] := rfl
theorem exF_2 {f g : Str} {v u : V} : exF [f, g] [v, u] = [(g, u), (f, v)] := rfl
theorem exF_3 {f g h : Str} {v u z : V} : exF [f, g, h] [v, u, z] = [(h, z), (g, u), (f, v)] := rfl
/-- __init__ of one field -/
theorem ok_init1 {qual : Str} {st : Stmt} {f : Addr} {fd : FuncData} {f1 : Str} {s1 a1 b1 c1 : Pos} (F : Fun K "__init__" qual st f fd) (S : FnScope ["self", f1] ["self", f1] (defScope st))
    (hbd : defBody st = [.Assign [.Attribute (.Name "self" s1) f1 a1] (.Name f1 b1) c1])
    (hv0 : Vis (defScope st) "self") (hv1 : Vis (defScope st) f1) (h1 : (f1 == ("__debug__" : Str)) = false) (h2 : (f1 == ("__classdict__" : Str)) = false) :
    FnOk P w K mg base (L2.CX P w) 1 f fd ["self", f1] (spInit K [f1]) := by
  refine F.okX S (fun vs H Q E h => ?_) (fun cdv A outer s H vs Q E hr h => ?_)
  · obtain ⟨a, C, ws, rfl, hl, _⟩ := h
    rw [List.length_cons, hl]
    rfl
  · rw [hbd]
    refine ⟨_, pss_one (ps_ost (pe_var (i := 0) rfl hv0) (pe_var (i := 1) rfl hv1 h1 h2)), ?_⟩
    obtain ⟨a, C, ws, rfl, hl, ox, no, ha, q⟩ := h
    match ws, hl with
    | [v], _ =>
      refine ⟨v, rfl, .ref a, rfl, a, C, rfl, ox, no f1 (by simp), .inl ⟨ha, fun dx hdx hne => ?_⟩⟩
      refine q dx hdx hne _ upd_same ?_ (fun b hb1 hb2 => ?_)
      · rw [upd_ne hne, upd_same, exF_1]
      · rw [upd_ne hb1, upd_ne hb2]
theorem ok_init2 {qual : Str} {st : Stmt} {f : Addr} {fd : FuncData} {f1 f2 : Str} {s1 a1 b1 c1 s2 a2 b2 c2 : Pos} (F : Fun K "__init__" qual st f fd) (S : FnScope ["self", f1, f2] ["self", f1, f2] (defScope st))
    (hbd : defBody st = [.Assign [.Attribute (.Name "self" s1) f1 a1] (.Name f1 b1) c1, .Assign [.Attribute (.Name "self" s2) f2 a2] (.Name f2 b2) c2])
    (hv0 : Vis (defScope st) "self") (hv1 : Vis (defScope st) f1) (h1 : (f1 == ("__debug__" : Str)) = false) (h2 : (f1 == ("__classdict__" : Str)) = false) (hv2 : Vis (defScope st) f2) (h3 : (f2 == ("__debug__" : Str)) = false) (h4 : (f2 == ("__classdict__" : Str)) = false) :
    FnOk P w K mg base (L2.CX P w) 1 f fd ["self", f1, f2] (spInit K [f1, f2]) := by
  refine F.okX S (fun vs H Q E h => ?_) (fun cdv A outer s H vs Q E hr h => ?_)
  · obtain ⟨a, C, ws, rfl, hl, _⟩ := h
    rw [List.length_cons, hl]
    rfl
  · rw [hbd]
    refine ⟨_, pss_cons (ps_ost (pe_var (i := 0) rfl hv0) (pe_var (i := 1) rfl hv1 h1 h2)) (pss_one (ps_ost (pe_var (i := 0) rfl hv0) (pe_var (i := 2) rfl hv2 h3 h4))), ?_⟩
    obtain ⟨a, C, ws, rfl, hl, ox, no, ha, q⟩ := h
    match ws, hl with
    | [v, u], _ =>
      refine ⟨v, rfl, .ref a, rfl, a, C, rfl, ox, no f1 (by simp), .inl ⟨ha, fun dx hdx hne => ?_⟩⟩
      refine ⟨u, rfl, .ref a, rfl, a, C, rfl, ox, no f2 (by simp), .inr ⟨dx, _, upd_same, (by rw [upd_ne hne]; exact upd_same), by simp, ?_⟩⟩
      refine q dx hdx hne _ ?_ ?_ (fun b hb1 hb2 => ?_)
      · rw [upd_ne (Ne.symm hne), upd_same]
      · rw [upd_same, exF_2]
      · rw [upd_ne hb2, upd_ne hb1, upd_ne hb2]
theorem ok_init3 {qual : Str} {st : Stmt} {f : Addr} {fd : FuncData} {f1 f2 f3 : Str} {s1 a1 b1 c1 s2 a2 b2 c2 s3 a3 b3 c3 : Pos} (F : Fun K "__init__" qual st f fd) (S : FnScope ["self", f1, f2, f3] ["self", f1, f2, f3] (defScope st))
    (hbd : defBody st = [.Assign [.Attribute (.Name "self" s1) f1 a1] (.Name f1 b1) c1, .Assign [.Attribute (.Name "self" s2) f2 a2] (.Name f2 b2) c2, .Assign [.Attribute (.Name "self" s3) f3 a3] (.Name f3 b3) c3])
    (hv0 : Vis (defScope st) "self") (hv1 : Vis (defScope st) f1) (h1 : (f1 == ("__debug__" : Str)) = false) (h2 : (f1 == ("__classdict__" : Str)) = false) (hv2 : Vis (defScope st) f2) (h3 : (f2 == ("__debug__" : Str)) = false) (h4 : (f2 == ("__classdict__" : Str)) = false) (hv3 : Vis (defScope st) f3) (h5 : (f3 == ("__debug__" : Str)) = false) (h6 : (f3 == ("__classdict__" : Str)) = false) :
    FnOk P w K mg base (L2.CX P w) 1 f fd ["self", f1, f2, f3] (spInit K [f1, f2, f3]) := by
  refine F.okX S (fun vs H Q E h => ?_) (fun cdv A outer s H vs Q E hr h => ?_)
  · obtain ⟨a, C, ws, rfl, hl, _⟩ := h
    rw [List.length_cons, hl]
    rfl
  · rw [hbd]
    refine ⟨_, pss_cons (ps_ost (pe_var (i := 0) rfl hv0) (pe_var (i := 1) rfl hv1 h1 h2)) (pss_cons (ps_ost (pe_var (i := 0) rfl hv0) (pe_var (i := 2) rfl hv2 h3 h4)) (pss_one (ps_ost (pe_var (i := 0) rfl hv0) (pe_var (i := 3) rfl hv3 h5 h6)))), ?_⟩
    obtain ⟨a, C, ws, rfl, hl, ox, no, ha, q⟩ := h
    match ws, hl with
    | [v, u, z], _ =>
      refine ⟨v, rfl, .ref a, rfl, a, C, rfl, ox, no f1 (by simp), .inl ⟨ha, fun dx hdx hne => ?_⟩⟩
      refine ⟨u, rfl, .ref a, rfl, a, C, rfl, ox, no f2 (by simp), .inr ⟨dx, _, upd_same, (by rw [upd_ne hne]; exact upd_same), by simp, ?_⟩⟩
      refine ⟨z, rfl, .ref a, rfl, a, C, rfl, ox, no f3 (by simp), .inr ⟨dx, _, (by rw [upd_ne (Ne.symm hne)]; exact upd_same), upd_same, by simp, ?_⟩⟩
      refine q dx hdx hne _ ?_ ?_ (fun b hb1 hb2 => ?_)
      · rw [upd_ne (Ne.symm hne), upd_ne (Ne.symm hne), upd_same]
      · rw [upd_same, exF_3]
      · rw [upd_ne hb2, upd_ne hb2, upd_ne hb1, upd_ne hb2]
end
section
variable {B : Bs} {T : List (Addr × Str)} {X : Cx} {W : WX} {e : Expr} {es : List Expr} {rs : RA} {pos pos2 : Pos}
theorem repF_zip {K : KC} {F : Hp} : ∀ {flds : List Str} {vs : List V} {ds : List D}, Reps K F vs ds → flds.length = vs.length → RepF K F (flds.zip vs) (flds.zip ds)
  | [], vs, ds, _, _ => by simp [RepF]
  | f :: fs, vs, [], h, hl => by rw [reps_nil h] at hl; cases hl
  | f :: fs, vs, d :: ds, h, hl => by
    obtain ⟨v, r, rfl, h1, h2⟩ := reps_cons h
    simp only [List.zip_cons_cons]
    unfold RepF
    exact ⟨v, _, rfl, h1, repF_zip h2 (by simpa using hl)⟩
theorem repF_append {K : KC} {F : Hp} : ∀ {xs : List (Str × V)} {ds : List (Str × D)} {ys : List (Str × V)} {es : List (Str × D)}, RepF K F xs ds → RepF K F ys es → RepF K F (xs ++ ys) (ds ++ es)
  | xs, [], ys, es, h, g => by
    unfold RepF at h
    rw [h]
    exact g
  | xs, (k, d) :: ds, ys, es, h, g => by
    unfold RepF at h
    obtain ⟨v, r, rfl, h1, h2⟩ := h
    rw [List.cons_append, List.cons_append]
    unfold RepF
    exact ⟨v, _, rfl, h1, repF_append h2 g⟩
theorem repF_reverse {K : KC} {F : Hp} {ds : List (Str × D)} : ∀ {xs : List (Str × V)}, RepF K F xs ds → RepF K F xs.reverse ds.reverse := by
  induction ds with
  | nil =>
    intro xs h
    unfold RepF at h
    rw [h]
    simp [RepF]
  | cons kd ds ih =>
    obtain ⟨k, d⟩ := kd
    intro xs h
    unfold RepF at h
    obtain ⟨v, r, rfl, h1, h2⟩ := h
    rw [(List.reverse_cons), List.reverse_cons]
    refine repF_append (ih h2) ?_
    unfold RepF
    exact ⟨v, [], rfl, h1, by simp [RepF]⟩
def exD (c : Str) (flds : List Str) (ds : List D) : XD := ⟨c, (flds.zip ds).reverse⟩
/-- raise C(e, ..) -/
def rRaise (c : Str) (flds : List Str) (rs : RA) : RS := fun N ρ => rs ρ (fun ds => ds.length = flds.length ∧ N.ex (exD c flds ds)) N.ex
theorem ds_raise {c : Str} {C fI : Addr} {flds : List Str} {k : Nat} {fd : FuncData} {p : Pos} (hc : X.calm = true) (tk : Takes X W) (O : ExOk X.K X.mg c C fI flds) (hsm : flds.length ≤ 900) (hne : flds ≠ []) (G : FnOk X.prog X.w X.K X.mg X.base (L2.CX X.prog X.w) k fI fd ("self" :: flds) (spInit X.K flds)) (hr : Room (k + 1) X.A)
    (hb : Binds X.K fd ("self" :: flds) []) (hg : Gl X c) (ha : DA B X W (e :: es) rs) (hdb : (c == ("__debug__" : Str)) = false := by decide)
    (he :  starEach (e :: es) X.env = (false, eval e X.env) :: starEach es X.env := by rfl) (hpl : (backTo pos (starEach es X.env)).any (·.1) = false := by rfl) :
    DS B X W (.Raise (some (.Call (.Name c p) (e :: es) [] pos)) none pos2) (rRaise c flds rs) :=
  (ps_raise hc tk (pmk_oex (dvs := []) O.ox O.iC O.tI G hr hb .nil passL hg O.gC ha hdb he hpl)).imp fun D σ H ⟨F, R, ρ, N, hH, w, q, k⟩ => by
    subst hH
    refine k.lf w q fun vs ds F' x w' rv q' => ⟨by rw [rv.length, q'.1]; omega, fun a hna => ?_⟩
    refine ⟨a, C, vs, by rw [List.append_nil], by rw [rv.length]; exact q'.1, O.ox, O.no, upd_same, fun d hd hda H' e1 e2 e3 => ⟨rfl, d, _, e1, e2, ?_, ?_⟩⟩
    · rw [upd_ne hda] at hd
      exact hd
    · have hd' : jn F' R d = none := by
        rw [upd_ne hda] at hd
        exact hd
      have eH : upd (del H' a) d (.xd (exF flds vs)) = jn (upd F' d (.xd (exF flds vs))) R := by
        rw [← jn_newF hd']
        funext b
        by_cases hb1 : b = d
        · subst hb1
          rw [upd_same, upd_same]
        · rw [upd_ne hb1, upd_ne hb1]
          by_cases hb2 : b = a
          · subst hb2
            rw [del_same, hna]
          · rw [del_ne hb2, e3 b hb2 hb1, upd_ne hb2]
      rw [eH]
      have x2 : Ext (kc B.T X) F' (upd F' d (.xd (exF flds vs))) := Ext.newF hd'
      refine k.ex (exD c flds ds) _ _ σ _ R ρ (w'.ext x2 (w'.dj.newF hd')) ⟨by show Value.ref C = Value.ref ((kc B.T X).cm c); rw [show (kc B.T X).cm c = C from cmOf_eq O.gC], .inr ⟨d, _, rfl, upd_same, ?_⟩⟩ q'.2
      unfold exF exD
      exact repF_reverse (repF_zip (Reps.ext x2 _ _ rv) (by rw [rv.length]; exact q'.1.symm))
end
end L3
namespace L3
open PySem PySem.Spec L2
open PyProof.Rows hiding St
section
variable {B : Bs} {T : List (Addr × Str)} {X : Cx} {W : WX} {a b c e tg : Expr} {es rest : List Expr} {ra rb rc re : RE} {rt : RT} {rs ri : RA} {pos : Pos} {st : Stmt} {sts body : List Stmt} {r r1 r2 : RS}
/-! ### chains, is, not of a test -/
def rChain (g g' : G2) (ra rb rc : RE) : RE := fun ρ Q E => ra ρ (fun d => rb ρ (fun e => g d e (toB fun k => match k with
  | true => rc ρ (fun f => g' e f Q) E
  | false => Q (.bl false))) E) E
theorem de_chain {op op' : CmpOp} {g g' : G2} (ho : Op2 X (compareOp op) g) (ho' : Op2 X (compareOp op') g') (ha : DE B X W a ra) (hb : DE B X W b rb) (hc : DE B X W c rc) (hl : lastMarks [op, op'] [b, c] = false := by rfl) : DE B X W (.Compare a [op, op'] [b, c] pos) (rChain g g' ra rb rc) :=
  (pe_chain (ho B.T) (ho' B.T) ha hb hc hl).imp fun σ H Q h => by
    refine lf_then (k := fun d ρ Q E => rb ρ (fun e => g d e (toB fun k => match k with
      | true => rc ρ (fun f => g' e f Q) E
      | false => Q (.bl false))) E) h fun v d F R ρ Q' E' w rv q k => ?_
    refine ⟨F, R, ρ, _, E', rfl, w, q, fun u e F1 x1 dj1 ru q1 => ?_, k.ex⟩
    refine ⟨F1, R, d, e, _, rfl, dj1, Rep.ext x1 _ _ rv, ru, q1, ⟨fun z dz F2 x2 dj2 rz q2 => ?_⟩⟩
    cases dz with
    | bl kk =>
      refine ⟨kk, rep_bl rz, ?_⟩
      cases kk with
      | true =>
        rw [if_pos rfl]
        exact ⟨F2, R, ρ, _, E', rfl, w.ext (x1.trans x2) dj2, q2, fun y f F3 x3 dj3 ry q3 => ⟨F3, R, e, f, Q', rfl, dj3, Rep.ext (x2.trans x3) _ _ ru, ry, q3, (((k.ext x1).ext x2).ext x3).kv⟩, ((k.ext x1).ext x2).ex⟩
      | false =>
        rw [if_neg (by simp)]
        exact k.ok _ _ F2 (x1.trans x2) dj2 (of_bl _) q2
    | _ => exact (show False from q2).elim
def rNotT (t : RT) : RE := fun ρ Q E => t ρ (fun b => Q (.bl (!b))) E
def isNonD : D → Bool
  | .non => true
  | _ => false
theorem isNon_rep {K : KC} {F : Hp} {v : V} {d : D} (h : Rep K F v d) : decide (v = .non) = isNonD d := by
  cases d with
  | non => rw [rep_non h]; rfl
  | bl _ => rw [rep_bl h]; rfl
  | int _ => rw [rep_int h]; rfl
  | str _ => rw [rep_str h]; rfl
  | tup _ => obtain ⟨_, _, rfl, _⟩ := rep_tup h; rfl
  | lst _ => obtain ⟨_, _, rfl, _⟩ := rep_lst h; rfl
  | scr _ => obtain ⟨_, rfl, _⟩ := rep_scr h; rfl
  | dct _ => unfold Rep at h; obtain ⟨_, _, rfl, _⟩ := h; rfl
  | ins _ _ => unfold Rep at h; obtain ⟨_, _, _, rfl, _⟩ := h; rfl
  | pen => unfold Rep at h; obtain ⟨_, _, rfl, _⟩ := h; rfl
  | exc _ _ => unfold Rep at h; obtain ⟨_, _, _, rfl, _⟩ := h; rfl
def rIsN (re : RE) : RE := fun ρ Q E => re ρ (fun d => Q (.bl (isNonD d))) E
def rIsNotN (re : RE) : RE := fun ρ Q E => re ρ (fun d => Q (.bl (!isNonD d))) E
theorem de_isN {j : Nat} {p : Pos} (h : DE B X W a ra) : DE B X W (.Compare a [.Is] [.Constant .none j p] pos) (rIsN ra) := (pe_cmp (pc_isN h) (nobehind _ (by decide) (by decide))).imp fun σ H Q ⟨F, R, ρ, Q', E', hH, w, q, k⟩ => by
  subst hH
  exact ⟨F, R, ρ, _, E', rfl, w, q, fun v d F' x dj rv q' => k.ok _ _ F' x dj (by rw [isNon_rep rv]; exact of_bl _) q', k.ex⟩
theorem de_isnotN {j : Nat} {p : Pos} (h : DE B X W a ra) : DE B X W (.Compare a [.IsNot] [.Constant .none j p] pos) (rIsNotN ra) := (pe_cmp (pc_notN h) (nobehind _ (by decide) (by decide))).imp fun σ H Q ⟨F, R, ρ, Q', E', hH, w, q, k⟩ => by
  subst hH
  exact ⟨F, R, ρ, _, E', rfl, w, q, fun v d F' x dj rv q' => k.ok _ _ F' x dj (by rw [isNon_rep rv]; exact of_bl _) q', k.ex⟩
def isBlD (b : Bool) : D → Bool
  | .bl c => c == b
  | _ => false
def rIsAny : R2 := fun x y H Q => ∃ b, y = .bl b ∧ Q (.bl (decide (x = .bl b))) H
theorem op_isAny : OpR X (compareOp .Is) rIsAny := fun pins s σ H x y v u Q I rx ry ⟨b, e, q⟩ => by
  subst e
  obtain rfl : u = Value.bool b := ry
  by_cases h : x = .bl b
  · subst h
    obtain rfl : v = Value.bool b := rx
    exact wpAny_is_self rfl ⟨.bl true, H, I, rfl, (by simpa using q)⟩
  · have hne : v ≠ Value.bool b := fun z => h (by
      subst z
      exact (RelV.inj (x := x) (y := .bl b) rx rfl))
    refine wpAny_is_other ?_ hne ⟨.bl false, H, I, rfl, by simpa [h] using q⟩
    cases x with
    | non => obtain rfl : v = Value.none := rx; rfl
    | bl c => obtain rfl : v = Value.bool c := rx; rfl
    | int i => obtain ⟨t, rfl⟩ := (show ∃ t, v = Value.int i t from rx); rfl
    | str z => obtain ⟨t, rfl⟩ := (show ∃ t, v = Value.str z t from rx); rfl
    | byt z => obtain ⟨t, rfl⟩ := (show ∃ t, v = Value.bytes z t from rx); rfl
    | flt z => obtain ⟨t, rfl⟩ := (show ∃ t, v = Value.float z t from rx); rfl
    | ref p => obtain rfl : v = Value.ref p := rx; rfl
    | ty n => obtain rfl : v = Value.type n := rx; rfl
theorem isBl_rep {K : KC} {F : Hp} {v : V} {d : D} {b : Bool} (h : Rep K F v d) : decide (v = .bl b) = isBlD b d := by
  cases d with
  | bl c =>
    rw [rep_bl h]
    show decide (V.bl c = V.bl b) = (c == b)
    exact dec_bl
  | non => rw [rep_non h]; rfl
  | int _ => rw [rep_int h]; rfl
  | str _ => rw [rep_str h]; rfl
  | tup _ => obtain ⟨_, _, rfl, _⟩ := rep_tup h; rfl
  | lst _ => obtain ⟨_, _, rfl, _⟩ := rep_lst h; rfl
  | scr _ => obtain ⟨_, rfl, _⟩ := rep_scr h; rfl
  | dct _ => unfold Rep at h; obtain ⟨_, _, rfl, _⟩ := h; rfl
  | ins _ _ => unfold Rep at h; obtain ⟨_, _, _, rfl, _⟩ := h; rfl
  | pen => unfold Rep at h; obtain ⟨_, _, rfl, _⟩ := h; rfl
  | exc _ _ => unfold Rep at h; obtain ⟨_, _, _, rfl, _⟩ := h; rfl
def rIsB (b : Bool) (re : RE) : RE := fun ρ Q E => re ρ (fun d => Q (.bl (isBlD b d))) E
theorem de_isB {bv : Bool} {j : Nat} {p : Pos} (h : DE B X W a ra) : DE B X W (.Compare a [.Is] [.Constant (.bool bv) j p] pos) (rIsB bv ra) := (pe_cmpR op_isAny h pe_bl (nobehind _ (by decide) (by decide))).imp fun σ H Q ⟨F, R, ρ, Q', E', hH, w, q, k⟩ => by
  subst hH
  exact ⟨F, R, ρ, _, E', rfl, w, q, fun v d F' x dj rv q' => ⟨bv, rfl, k.ok _ _ F' x dj (by rw [isBl_rep rv]; exact of_bl _) q'⟩, k.ex⟩
/-! ### return; {}; lengths of one's own; list(range(..)) -/
def rRetN : RS := fun N ρ => N.rt .non
theorem ds_retN : DS B X W (.Return none pos) rRetN := ps_retN.imp fun D σ H ⟨F, R, ρ, N, hH, w, q, k⟩ => by
  subst hH
  exact k.rt _ _ σ F R ρ w of_non q
theorem de_dict0 : DE B X W (.Dict [] [] pos) (rC (.dct [])) := pe_dnewK.imp fun σ H Q ⟨F, R, ρ, Q', E', hH, w, q, k⟩ => by
  subst hH
  intro p hp
  rw [jn_newF hp]
  refine k.ok _ _ _ (Ext.newF hp) (w.dj.newF hp) ?_ q
  unfold Rep
  exact ⟨p, [], rfl, upd_same, by simp, by simp [RepK]⟩
def rListRg (Q : List D → Prop) : List D → Prop := fun ds => match ds with
  | [.int j] => (0 ≤ j ∧ j ≤ 16777216) ∧ Q (rangeD 0 j.toNat)
  | _ => False
def rListRange1 (rs : RA) : RA := fun ρ Q E => rs ρ (rListRg Q) E
theorem rg_reps {K : KC} {F : Hp} {j : Int} : Reps K F (rgV 0 j) (rangeD 0 j.toNat) := by
  unfold rgV rangeD
  rw [show (j - 0).toNat = j.toNat by omega]
  generalize List.range j.toNat = l
  induction l with
  | nil => exact Reps.nil
  | cons i l ih => exact Reps.cons (of_int _) ih
theorem fe_listRange1 {p p2 pos2 : Pos} (hg : Gl X "list") (hm : X.mg "list" = none) (hgr : Gl X "range") (hmr : X.mg "range" = none) (he : DE B X W a ra) (hc : X.calm = true := by rfl)
    (na : starEach [.Call (.Name "range" p2) [a] [] pos2] X.env = (false, eval (.Call (.Name "range" p2) [a] [] pos2) X.env) :: starEach [] X.env := by rfl) (nb : starEach [a] X.env = (false, eval a X.env) :: starEach [] X.env := by rfl) : FE B X W (.Call (.Name "list" p) [.Call (.Name "range" p2) [a] [] pos2] [] pos) (rListRange1 (rCons ra rNil)) :=
  (pe_listRg hc hg hm (prg_1 hgr hmr he nb) na).imp fun σ H Q ⟨F, R, ρ, Q', E', hH, w, q, kk, kx⟩ => by
    subst hH
    refine ⟨F, R, ρ, _, E', rfl, w, q, fun v d F' x dj rv q' => ?_, kx⟩
    have q2 : rListRg Q' [d] := q'
    unfold rListRg at q2
    split at q2
    · rename_i j hj
      cases hj
      obtain ⟨⟨h0, h1⟩, q'⟩ := q2
      refine ⟨j, rep_int rv, .of_le (by omega) h1 (by omega) h0, fun p hp => kk p _ _ F' x dj rg_reps ?_ q' hp⟩
      rw [rgV_length, sizeLine_eq]
      omega
    · exact q2.elim
/-! ### attributes of the package's objects -/
/-- the class c has no attribute f of its own -/
def FldOk (K : PySem.W.Frag) (mg : Str → Option Value) (c f : Str) : Prop := ∃ C, mg c = some (.ref C) ∧ Cls K C ∧ NoAttr K C f
theorem repF_look {K : KC} {F : Hp} {f : Str} {d : D} : ∀ {ds : List (Str × D)} {fs : List (Str × V)}, RepF K F fs ds → ds.lookup f = some d → ∃ v, fs.lookup f = some v ∧ Rep K F v d
  | [], _, _, e => by cases e
  | (k, d0) :: ds, fs, h, e => by
    unfold RepF at h
    obtain ⟨v, r, rfl, h1, h2⟩ := h
    rw [List.lookup_cons] at e ⊢
    cases hb : (f == k) with
    | true =>
      rw [hb] at e
      cases Option.some.inj e
      exact ⟨v, rfl, h1⟩
    | false =>
      rw [hb] at e
      exact repF_look h2 e
def gFld (c f : Str) (Q : D → Prop) : D → Prop := fun d => match d with
  | .ins c' fs => c' = c ∧ match fs.lookup f with
    | some d => Q d
    | none => False
  | _ => False
def rFld (c f : Str) (re : RE) : RE := fun ρ Q E => re ρ (gFld c f Q) E
theorem de_fld {c f : Str} (Y : FldOk X.K X.mg c f) (he : DE B X W e re) (hb : attributeBase e f X.env (eval e X.env) = eval e X.env := by rfl) : DE B X W (.Attribute e f pos) (rFld c f re) := (pe_fld he hb).imp fun σ H Q ⟨F, R, ρ, Q', E', hH, w, q, k⟩ => by
  subst hH
  obtain ⟨C, gC, cl, na⟩ := Y
  refine ⟨F, R, ρ, _, E', rfl, w, q, fun v d F' x dj rv q' => ?_, k.ex⟩
  cases d with
  | ins c' fs =>
    obtain ⟨rfl, q2⟩ := (show c' = c ∧ (match fs.lookup f with | some d => Q' d | none => False) from q')
    unfold Rep at rv
    obtain ⟨p, dx, ws, rfl, hp, rf⟩ := rv
    split at q2
    · rename_i d0 hd
      obtain ⟨u, hu, ru⟩ := repF_look rf hd
      rw [show (kc B.T X).cm c' = C from cmOf_eq gC] at hp
      exact ⟨p, C, dx, ws, u, rfl, jn_l hp, cl, na, hu, k.ok _ _ F' x dj ru q2⟩
    · exact q2.elim
  | _ => exact (show False from q').elim
/-! ### an object in the making: self.f = e -/
def putD (f : Str) (d : D) : List (Str × D) → List (Str × D)
  | [] => [(f, d)]
  | (g, x) :: r => if g = f then (g, d) :: r else (g, x) :: putD f d r
theorem repF_put {K : KC} {F : Hp} {f : Str} {d : D} {v : V} (h : Rep K F v d) : ∀ {ds : List (Str × D)} {fs : List (Str × V)}, RepF K F fs ds → RepF K F (putF f v fs) (putD f d ds)
  | [], fs, g => by
    unfold RepF at g
    rw [g]
    unfold putF putD RepF
    exact ⟨v, [], rfl, h, by simp [RepF]⟩
  | (k, x) :: ds, fs, g => by
    unfold RepF at g
    obtain ⟨u, r, rfl, h1, h2⟩ := g
    unfold putF putD
    by_cases hk : k = f
    · rw [if_pos hk, if_pos hk]
      unfold RepF
      exact ⟨v, r, rfl, h, h2⟩
    · rw [if_neg hk, if_neg hk]
      unfold RepF
      exact ⟨u, _, rfl, h1, repF_put h h2⟩
theorem RepF.length {K : KC} {F : Hp} : ∀ {ds : List (Str × D)} {fs : List (Str × V)}, RepF K F fs ds → fs.length = ds.length
  | [], fs, g => by
    unfold RepF at g
    rw [g]
    rfl
  | (k, x) :: ds, fs, g => by
    unfold RepF at g
    obtain ⟨u, r, rfl, h1, h2⟩ := g
    rw [List.length_cons, List.length_cons, RepF.length h2]
theorem Wd.put {K : KC} {σ : St} {F R : Hp} {ρ : Env3} (w : Wd K B σ F R ρ) {i : Nat} {c f : Str} {fs : List (Str × D)} {d : D} {v : V} {a : Addr} (h : ρ[i]? = some (.obj c a fs)) (r : Rep K F v d) : ∃ dx ws, σ[i]? = some (some (.ref a)) ∧ jn F R a = some (.ins (K.cm c) dx ws) ∧ ws.length = fs.length ∧
    upd (jn F R) a (.ins (K.cm c) dx (putF f v ws)) = jn F (upd R a (.ins (K.cm c) dx (putF f v ws))) ∧ Wd K B σ F (upd R a (.ins (K.cm c) dx (putF f v ws))) (ρ.set i (.obj c a (putD f d fs))) := by
  obtain ⟨z, dx, ws, e1, e2, e3, e4, e5, e6⟩ := w.obj i c a fs h
  have hi : i < ρ.length := (List.getElem?_eq_some_iff.mp h).1
  have nF := (jn_of_r w.dj e2).1
  have nd : dx ≠ a := fun q => by rw [q, e2] at e3; cases e3
  refine ⟨dx, ws, e1, (jn_of_r w.dj e2).2, e4.length, jn_updR nF, w.tb, w.ex, fun b o hb => ?_, w.dj.updR nF, by rw [List.length_set]; exact w.len, fun j e hj => ?_, fun j es hj => ?_, fun j c' a' fs' hj => ?_, fun j k b dj dk h1 h2 h3 h4 => ?_⟩
  · have : b ≠ a := fun z => by rw [z, e5] at hb; cases hb
    rw [upd_ne this]
    exact w.fr b o hb
  · by_cases q : i = j
    · subst q
      rw [List.getElem?_set_self hi] at hj
      cases hj
    · rw [List.getElem?_set_ne q] at hj
      exact w.val j e hj
  · by_cases q : i = j
    · subst q
      rw [List.getElem?_set_self hi] at hj
      cases hj
    · rw [List.getElem?_set_ne q] at hj
      obtain ⟨b, us, g1, g2, g3, g4⟩ := w.own j es hj
      have : b ≠ a := fun z => by rw [z, e2] at g2; cases g2
      exact ⟨b, us, g1, by rw [upd_ne this]; exact g2, g3, g4⟩
  · by_cases q : i = j
    · subst q
      rw [List.getElem?_set_self hi] at hj
      cases hj
      exact ⟨z, dx, _, e1, upd_same, by rw [upd_ne nd]; exact e3, repF_put r e4, e5, e6⟩
    · rw [List.getElem?_set_ne q] at hj
      obtain ⟨z', _⟩ := w.obj j c' a' fs' hj
      exact absurd (z.trans z'.symm) q
  · have key : ∀ {j : Nat} {ds' : List D}, (ρ.set i (.obj c a (putD f d fs)))[j]? = some (.own ds') → ρ[j]? = some (.own ds') := fun {j ds'} hh => by
      by_cases q : i = j
      · subst q
        rw [List.getElem?_set_self hi] at hh
        cases hh
      · rw [List.getElem?_set_ne q] at hh
        exact hh
    exact w.sep j k b _ _ (key h1) (key h2) h3 h4
def rSelf (i : Nat) (f : Str) (re : RE) : RS := fun N ρ => match ρ[i]? with
  | some (.obj c a fs) => re ρ (fun d => fs.length < 900 ∧ N.nx (ρ.set i (.obj c a (putD f d fs)))) N.ex
  | _ => False
theorem ds_self {i : Nat} {c f x : Str} {p p' : Pos} (Y : FldOk X.K X.mg c f) (hv : PE X (.Name x p) (tVar i)) (he : DE B X W e re) (hs : swapsWith e (some (.Attribute (.Name x p) f p')) pos.line X.env = pure false := by rfl) :
    DS B X W (.Assign [.Attribute (.Name x p) f p'] e pos) (fun N ρ => (match ρ[i]? with | some (.obj c' _ _) => c' = c | _ => False) ∧ rSelf i f re N ρ) := (ps_fld hv he hs).imp fun D0 σ H ⟨F, R, ρ, N, hH, w, ⟨qc, q⟩, k⟩ => by
  subst hH
  obtain ⟨C, gC, cl, na⟩ := Y
  unfold rSelf at q
  split at q
  · rename_i c' a0 fs hi
    rw [hi] at qc
    obtain rfl : c' = c := qc
    refine k.lf w q fun v d F' x w' rv q' => ?_
    obtain ⟨dx, ws, e1, e2, e3, e4, w2⟩ := w'.put (f := f) hi rv
    refine ⟨_, e1, a0, C, dx, ws, rfl, ?_, cl, na, by omega, ?_⟩
    · rw [e2, show (kc B.T X).cm c' = C from cmOf_eq gC]
    · rw [show (kc B.T X).cm c' = C from cmOf_eq gC] at e4 w2
      rw [e4]
      exact k.nx _ F' _ _ w2 q'.2
  · exact q.elim
/-- what __init__ promises: from the arguments the fields -/
abbrev SpI := List D → (List (Str × D) → Prop) → (XD → Prop) → Prop
def hpI (Fr : Hp) (C a dx : Addr) : Hp := upd (upd Fr dx (.own a)) a (.ins C dx [])
def lSpI (K : KC) (n : Nat) (c : Str) (sp : SpI) : Sp := fun vs H Q E => ∃ F Fr a dx us ds Q' E', vs = .ref a :: us ∧ us.length = n ∧ H = jn F (hpI Fr (K.cm c) a dx) ∧ Dj F (hpI Fr (K.cm c) a dx) ∧ LamX.Tabs K.T F ∧ Reps K F us ds ∧ Fr a = none ∧ Fr dx = none ∧ dx ≠ a ∧ sp ds Q' E' ∧
  (∀ fs F', Ext K F F' → Dj F' Fr → Rep K F' (.ref a) (.ins c fs) → Q' fs → Q .non (jn F' Fr)) ∧
  ∀ x cls od F', Ext K F F' → Dj F' Fr → RepX K F' cls od x → E' x → E cls od (jn F' Fr)
def startI (c : Str) (a : Addr) (n : Nat) (ds : List D) : Env3 := .obj c a [] :: start3 (n - 1) ds
theorem wd_startI {K : KC} {F Fr : Hp} {a dx : Addr} {c x0 : Str} {N : List Str} {us : List V} {ds : List D} (dj : Dj F (hpI Fr (K.cm c) a dx)) (tb : LamX.Tabs K.T F) (r : Reps K F us ds) (na : Fr a = none) (nd : Fr dx = none) (ne : dx ≠ a) {T : List (Addr × Str)} :
    Wd K ⟨F, Fr, T⟩ (L2.start (x0 :: N) (.ref a :: us)) F (hpI Fr (K.cm c) a dx) (startI c a (N.length + 1) ds) := by
  have es : L2.start (x0 :: N) (.ref a :: us) = some (.ref a) :: L2.start N us := by
    unfold L2.start
    rw [List.map_cons, List.length_cons, List.length_cons, Nat.add_sub_add_right]
    rfl
  have djF : Dj F Fr := (dj_down nd (dj_down (by rw [upd_ne (Ne.symm ne)]; exact na) dj).2).2
  have w := wd_start (N := N) (B := ⟨F, Fr, T⟩) djF tb r rfl rfl
  rw [es]
  refine ⟨tb, .refl _, fun b o h => ?_, dj, by show (some _ :: L2.start N us).length = (Sl.obj c a [] :: start3 (N.length + 1 - 1) ds).length; rw [List.length_cons, List.length_cons, w.len]; rfl, fun i d h => ?_, fun i es h => ?_, fun i c' a' fs h => ?_, fun i j b di dj' h1 h2 h3 h4 => ?_⟩
  · have h : Fr b = some o := h
    have n1 : b ≠ a := fun z => by rw [z, na] at h; cases h
    have n2 : b ≠ dx := fun z => by rw [z, nd] at h; cases h
    unfold hpI
    rw [upd_ne n1, upd_ne n2]
    exact h
  · cases i with
    | zero => cases h
    | succ i => exact w.val i d h
  · cases i with
    | zero => cases h
    | succ i =>
      obtain ⟨b, vs, _, e2, _⟩ := w.own i es h
      have := List.mem_of_getElem? (show (start3 N.length ds)[i]? = some (Sl.own es) from h)
      unfold start3 at this
      simp at this
  · cases i with
    | zero =>
      cases h
      exact ⟨rfl, dx, [], rfl, upd_same, (by unfold hpI; rw [upd_ne ne]; exact upd_same), (by simp [RepF]), na, nd⟩
    | succ i =>
      have := List.mem_of_getElem? (show (start3 N.length ds)[i]? = some (Sl.obj c' a' fs) from h)
      unfold start3 at this
      simp at this
  · cases i with
    | zero => cases h1
    | succ i =>
      have := List.mem_of_getElem? (show (start3 N.length ds)[i]? = some (Sl.own di) from h1)
      unfold start3 at this
      simp at this
section
variable {P : Program} {w : World} {K : PySem.W.Frag} {mg : Str → Option Value} {base : Heap} {T : List (Addr × Str)}
/-- what is wanted behind __init__ -/
def nxI (c : Str) (a : Addr) (Q : List (Str × D) → Prop) : Env3 → Prop := fun ρ => match (ρ[0]? : Option Sl) with
  | some (Sl.obj c' a' fs) => c' = c ∧ a' = a ∧ Q fs
  | _ => False
theorem fnI {qual c : Str} {st : Stmt} {f : Addr} {fd : FuncData} {N ps : List Str} {k n : Nat} {sp : SpI} {r : RS} (F : Fun K "__init__" qual st f fd) (S : FnScope ("self" :: N) ("self" :: ps) (defScope st)) (hn : ps.length = n)
    (hbody : ∀ (cdv : Value) (A : Around) (outer : List Env) (s : Shared) (H : Hp) (E : XK) (B : Bs), B.T = T → Room k (A.deeper (envOfC qual (defScope st) s.heap.objs.size f cdv)) → Takes (cxOf (L2.CX P w) P w K mg base ("self" :: N) qual (defScope st) f cdv A outer s H E) (WD E) →
      DSs B (cxOf (L2.CX P w) P w K mg base ("self" :: N) qual (defScope st) f cdv A outer s H E) (WD E) (defBody st) r)
    (hp : ∀ (a : Addr) (ds : List D) (Q : List (Str × D) → Prop) (E : XD → Prop), ds.length = n → sp ds Q E → r { nx := nxI c a Q, rt := fun _ => False, ex := E } (startI c a (N.length + 1) ds)) :
    FnOk P w K mg base (L2.CX P w) (k + 1) f fd ("self" :: ps) (lSpI ⟨K, cmOf mg, [], T⟩ n c sp) := by
  refine F.okX S (fun vs H Q E h => ?_) (fun cdv A outer s H vs Q E hr h => ?_)
  · obtain ⟨_, _, _, _, us, _, _, _, rfl, hl, _⟩ := h
    rw [List.length_cons, List.length_cons, hl, hn]
  · obtain ⟨F0, R0, a, dx, us, ds, Q', E', rfl, hl, hH, dj, tb, rd, na, nd, ne, hs, kv, kx⟩ := h
    subst hH
    have tk : Takes (cxOf (L2.CX P w) P w K mg base ("self" :: N) qual (defScope st) f cdv A outer s (jn F0 (hpI R0 (cmOf mg c) a dx)) E) (WD E) := takes_of rfl rfl rfl rfl
    refine ⟨_, hbody cdv A outer s _ E ⟨F0, R0, T⟩ rfl hr tk, ?_⟩
    refine ⟨F0, _, _, _, rfl, wd_startI dj tb rd na nd ne, hp a ds Q' E' (by rw [← rd.length]; exact hl) hs, ?_⟩
    refine ⟨fun σ F R ρ w q => ?_, fun v d σ F R ρ w rv q => q.elim, fun x cls od σ F R ρ w rx q => ?_, fun σ F R ρ w q => q.elim, fun σ F R ρ w q => q.elim⟩
    · have q : nxI c a Q' ρ := q
      unfold nxI at q
      split at q
      · rename_i c' a' fs hi
        obtain ⟨rfl, rfl, q9⟩ := q
        obtain ⟨_, dx', ws, e1, e2, e3, e4, e5, e6⟩ := w.obj 0 _ _ _ hi
        obtain ⟨F', e, x1, d1⟩ := absorb w
        show Q V.non (jn F R)
        rw [e]
        refine kv fs F' (w.ex.trans x1) d1 ?_ q9
        unfold Rep
        have h1 : jn F R a' = some (.ins (cmOf mg c') dx' ws) := (jn_of_r w.dj e2).2
        rw [e] at h1
        refine ⟨a', dx', ws, rfl, ?_, RepF.ext x1 _ _ e4⟩
        cases h2 : F' a' with
        | some o => rw [jn_l h2] at h1; exact h1
        | none =>
          rw [jn_r h2] at h1
          have h5 : R0 a' = some (.ins (cmOf mg c') dx' ws) := h1
          rw [show R0 a' = none from e5] at h5
          cases h5
      · exact q.elim
    · obtain ⟨F', e, x1, d1⟩ := absorb w
      show E cls od (jn F R)
      rw [e]
      exact kx x cls od F' (w.ex.trans x1) d1 (rx.ext x1) q
end
section
variable {B : Bs} {T : List (Addr × Str)} {X : Cx} {W : WX} {a b c e tg : Expr} {es rest : List Expr} {ra rb rc re : RE} {rt : RT} {rs ri : RA} {pos : Pos}
/-- C(e, ..): a new object -/
def rMake (n : Nat) (c : Str) (sp : SpI) (rs : RA) : RE := fun ρ Q E => rs ρ (fun ds => ds.length = n ∧ sp ds (fun fs => Q (.ins c fs)) E) E
structure MkOk (K : PySem.W.Frag) (mg : Str → Option Value) (c : Str) (C fI : Addr) : Prop where
  gC : mg c = some (.ref C)
  mks : Mk K C fI
theorem de_make {c : Str} {C fI : Addr} {k n : Nat} {fd : FuncData} {ps : List Str} {sp : SpI} {p : Pos} {E : XK} (M : MkOk X.K X.mg c C fI) (G : FnOk X.prog X.w X.K X.mg X.base (L2.CX X.prog X.w) k fI fd ps (lSpI (kc B.T X) n c sp)) (hr : Room (k + 1) X.A) (hg : Gl X c) (hb : Binds X.K fd ps []) (tk : Takes X (WD E))
    (ha : DA B X (WD E) (e :: es) rs) (hd : (c == ("__debug__" : Str)) = false := by decide)
    (he : starEach (e :: es) X.env = (false, eval e X.env) :: starEach es X.env := by rfl) (hpl : (backTo pos (starEach es X.env)).any (·.1) = false := by rfl) : DE B X (WD E) (.Call (.Name c p) (e :: es) [] pos) (rMake n c sp rs) :=
  (pe_make (dvs := []) M.mks G hr hg M.gC hb .nil (fun pins σ H s u s' I h => passes_call tk (fun _ _ _ _ q => q) pins σ H s u s' I h) ha hd he hpl).imp fun σ H Q h => by
    refine lf_then (k := fun ds ρ Q E => ds.length = n ∧ sp ds (fun fs => Q (D.ins c fs)) E) h fun vs ds F R ρ Q' E' w rv q k => ?_
    intro x dx hx hdx hne
    have eC : (kc B.T X).cm c = C := cmOf_eq M.gC
    have nx := jn_none hx
    have nd := jn_none hdx
    have eH : upd (upd (jn F R) dx (.own x)) x (.ins C dx []) = jn F (hpI R ((kc B.T X).cm c) x dx) := by
      unfold hpI
      rw [eC, jn_updR nd.1, jn_updR nx.1]
    rw [List.append_nil, eH]
    refine ⟨F, R, x, dx, vs, ds, _, E', rfl, by rw [rv.length]; exact q.1, rfl, (w.dj.updR nd.1).updR nx.1, w.tb, rv, nx.2, nd.2, hne, q.2, fun fs F' x1 d1 rp q2 => ⟨rfl, k.ok _ _ F' x1 d1 rp q2⟩, fun y cls od F' x1 d1 rx q2 => k.ex y cls od F' x1 d1 rx q2⟩
end
end
end L3
namespace L3
open PySem PySem.Spec L2
open PyProof.Rows hiding St
/-! ### comprehensions with two for -/
def compZ (g : G3) (t : RT) (re : RE) (vs : List Nat) (ρ : Env3) (Q : List D → Prop) : List D → List D → Prop
  | [], acc => Q acc
  | d :: ds, acc => g d (wipe3 ρ vs) (fun ρ' => t ρ' (fun b => match b with
    | true => re ρ' (fun y => acc.length < sizeLine ∧ compZ g t re vs ρ Q ds (acc ++ [y])) (fun _ => False)
    | false => compZ g t re vs ρ Q ds acc) (fun _ => False))
def comp2L (g : G3) (t : RT) (ri1 : RA) (g1 : G3) (t1 : RT) (re : RE) (vs vs1 : List Nat) (ρ : Env3) (Q : List D → Prop) : List D → List D → Prop
  | [], acc => Q acc
  | d :: ds, acc => g d (wipe3 ρ vs) (fun ρ' => t ρ' (fun b => match b with
    | true => ri1 ρ' (fun es => compZ g1 t1 re vs1 ρ' (fun acc' => comp2L g t ri1 g1 t1 re vs vs1 ρ Q ds acc') es acc) (fun _ => False)
    | false => comp2L g t ri1 g1 t1 re vs vs1 ρ Q ds acc) (fun _ => False))
def rComp2 (ri : RA) (g : G3) (t : RT) (ri1 : RA) (g1 : G3) (t1 : RT) (re : RE) (vs vs1 : List Nat) : RA := fun ρ Q E => ri ρ (fun ds => comp2L g t ri1 g1 t1 re vs vs1 ρ (fun l => l.length ≤ sizeLine ∧ Q l) ds []) E
/-- the world within a comprehension: the list in the making is of the rest -/
theorem Wd.inn {K : KC} {B : Bs} {σ : St} {F R : Hp} {ρ : Env3} (w : Wd K B σ F R ρ) {p : Addr} (np : R p = none) {acc : List V} (dj : Dj F (upd R p (.lst acc))) : Wd K B σ F (upd R p (.lst acc)) ρ := by
  refine ⟨w.tb, w.ex, fun b o hb => ?_, dj, w.len, w.val, fun j es hj => ?_, fun j c b fs hj => ?_, w.sep⟩
  · have h1 := w.fr b o hb
    have : b ≠ p := fun z => by rw [z, np] at h1; cases h1
    rw [upd_ne this]
    exact h1
  · obtain ⟨b, us, g1, g2, g3⟩ := w.own j es hj
    have : b ≠ p := fun z => by rw [z, np] at g2; cases g2
    exact ⟨b, us, g1, by rw [upd_ne this]; exact g2, g3⟩
  · obtain ⟨z, dx, us, g1, g2, g3, g4⟩ := w.obj j c b fs hj
    have n1 : b ≠ p := fun z => by rw [z, np] at g2; cases g2
    have n2 : dx ≠ p := fun z => by rw [z, np] at g3; cases g3
    exact ⟨z, dx, us, g1, by rw [upd_ne n1]; exact g2, by rw [upd_ne n2]; exact g3, g4⟩
/-- .. another list there -/
theorem Wd.inn' {K : KC} {B : Bs} {σ : St} {F R : Hp} {ρ : Env3} {p : Addr} {acc acc' : List V} (w : Wd K B σ F (upd R p (.lst acc)) ρ) (hp : B.Fr p = none) (ho : ∀ (j : Nat) (es : List D) (b : Addr), ρ[j]? = some (.own es) → σ[j]? = some (some (.ref b)) → b ≠ p) (dj : Dj F (upd R p (.lst acc'))) : Wd K B σ F (upd R p (.lst acc')) ρ := by
  refine ⟨w.tb, w.ex, fun b o hb => ?_, dj, w.len, w.val, fun j es hj => ?_, fun j c b fs hj => ?_, w.sep⟩
  · have h1 := w.fr b o hb
    have : b ≠ p := fun z => by rw [z, hp] at hb; cases hb
    rw [upd_ne this] at h1 ⊢
    exact h1
  · obtain ⟨b, us, g1, g2, g3⟩ := w.own j es hj
    have : b ≠ p := ho j es b hj g1
    rw [upd_ne this] at g2
    exact ⟨b, us, g1, by rw [upd_ne this]; exact g2, g3⟩
  · obtain ⟨z, dx, us, g1, g2, g3, g4⟩ := w.obj j c b fs hj
    have n1 : b ≠ p := fun z => by rw [z, upd_same] at g2; cases g2
    have n2 : dx ≠ p := fun z => by rw [z, upd_same] at g3; cases g3
    rw [upd_ne n1] at g2
    rw [upd_ne n2] at g3
    exact ⟨z, dx, us, g1, by rw [upd_ne n1]; exact g2, by rw [upd_ne n2]; exact g3, g4⟩
section
variable {B : Bs} {X : Cx} {W : WX} {a b c e tg : Expr} {ra rb rc re : RE} {rt t1 : RT} {rs ri ri1 : RA} {g g1 : G3} {pos : Pos}
theorem lL_comp2 {K : KC} {is vs js vs1 : List Nat} {σ : St} {H : Hp} {Q : VK} (hsub : ∀ j ∈ is, j ∈ vs) (hsub1 : ∀ j ∈ js, j ∈ vs1) (h : lL K B W (rComp2 ri g rt ri1 g1 t1 re vs vs1) σ H Q) :
    tLc2 (lI K B W ri) (lG K is g) (lT K B W0 rt) (lI K B W0 ri1) (lG K js g1) (lT K B W0 t1) (lE K B W0 re) vs vs1 σ H Q := by
  obtain ⟨F, R, ρ, Q', E', rfl, w, q, kk, kx⟩ := h
  refine ⟨F, R, ρ, _, E', rfl, w, q, fun J ds F1 x1 dj1 wk q1 => ?_, kx⟩
  intro p hp
  have np0 := jn_none hp
  have w1 := w.ext x1 dj1
  -- what stands between two turns: F2, the list at p
  let St2 : (List D → Prop) → Hp → Hp → Prop := fun G Fb H' => ∃ F2 acc accD, H' = jn F2 (upd R p (.lst acc)) ∧ Ext K Fb F2 ∧ Dj F2 R ∧ F2 p = none ∧ Reps K F2 acc accD ∧ G accD
  refine ⟨fun i m H' => m + i = ds.length ∧ St2 (comp2L g rt ri1 g1 t1 re vs vs1 ρ (fun l => l.length ≤ sizeLine ∧ Q' l) (ds.drop i)) F1 H', ⟨ds.length, by omega, F1, [], [], jn_updR np0.1, .refl _, dj1, np0.1, Reps.nil, by simpa using q1⟩, ?_⟩
  rintro i m H' ⟨hm, F2, acc, accD, rfl, x2, dj2, np, ra, q2⟩
  have djp : Dj F2 (upd R p (.lst acc)) := dj2.updR np
  by_cases hl : i < ds.length
  · refine .inr ⟨wk.go F2 _ i x2 djp hl, fun H3 => St2 (comp2L g rt ri1 g1 t1 re vs vs1 ρ (fun l => l.length ≤ sizeLine ∧ Q' l) (ds.drop (i + 1))) F1 H3, fun H3 h3 => ⟨m - 1, by omega, by omega, h3⟩, ?_⟩
    intro v H3 hy
    obtain ⟨F3, d, rfl, x3, dj3, e3, r3⟩ := wk.yld F2 _ i v H3 x2 djp hl hy
    have ed : ds.drop i = d :: ds.drop (i + 1) := by
      obtain ⟨h1, h2⟩ := List.getElem?_eq_some_iff.mp e3
      rw [(List.drop_eq_getElem_cons h1), h2]
    rw [ed] at q2
    have dd3 := dj_down np0.2 dj3
    have wi : Wd K B (L2.wipe σ vs) F3 (upd R p (.lst acc)) (wipe3 ρ vs) := ((w1.ext (x2.trans x3) dd3.2).wipe vs).inn np0.2 dj3
    refine ⟨B, F3, _, _, d, _, rfl, wi, r3, q2, fun σ4 ρ4 w4 c4 o4 q4 => ⟨wipe_chg ⟨c4.1, fun j hj => c4.2 j fun z => hj (hsub j z)⟩, ?_⟩⟩
    refine ⟨F3, _, ρ4, _, _, rfl, w4, q4, fun b b' F4 x4 dj4 eb q5 => ?_, fun _ _ _ _ _ _ _ z => z.elim⟩
    cases eb
    cases b with
    | false =>
      obtain ⟨n5, d5⟩ := dj_down np0.2 dj4
      exact ⟨F4, acc, accD, rfl, (x2.trans x3).trans x4, d5, n5, Reps.ext (x3.trans x4) _ _ ra, q5⟩
    | true =>
      rw [if_pos rfl]
      -- own lists of this frame are not at p
      have hpB : B.Fr p = none := by
        cases e : B.Fr p with
        | none => rfl
        | some o =>
          have h2 := w.fr p o e
          rw [np0.2] at h2
          cases h2
      refine ⟨F4, _, ρ4, _, _, rfl, w4.ext x4 dj4, q5, fun J1 es F5 x5 dj5 wk1 q6 => ?_, fun _ _ _ _ _ _ _ z => z.elim⟩
      have x15 : Ext K F1 F5 := ((x2.trans x3).trans x4).trans x5
      obtain ⟨n5, d5⟩ := dj_down np0.2 dj5
      have w5 := (w4.ext x4 dj4).ext x5 dj5
      have ho : ∀ (j : Nat) (es' : List D) (b' : Addr), ρ4[j]? = some (.own es') → σ4[j]? = some (some (.ref b')) → b' ≠ p := fun j es' b' h1 h2 z => by
        obtain ⟨h3, e4⟩ := o4 j es' h1
        obtain ⟨b2, us, g1', g2', _⟩ := (w1.wipe vs).own j es' h3
        rw [e4, g1'] at h2
        cases h2
        rw [z, np0.2] at g2'
        cases g2'
      refine ⟨fun j m H' => m + j = es.length ∧ St2 (compZ g1 t1 re vs1 ρ4 (fun acc' => comp2L g rt ri1 g1 t1 re vs vs1 ρ (fun l => l.length ≤ sizeLine ∧ Q' l) (ds.drop (i + 1)) acc') (es.drop j)) F5 H', ⟨es.length, by omega, F5, acc, accD, rfl, .refl _, d5, n5, Reps.ext ((x3.trans x4).trans x5) _ _ ra, by simpa using q6⟩, ?_⟩
      rintro j m' H' ⟨hm', F6, acc6, accD6, rfl, x6, d6, n6, ra6, q7⟩
      have djp6 : Dj F6 (upd R p (.lst acc6)) := d6.updR n6
      by_cases hj : j < es.length
      · refine .inr ⟨wk1.go F6 _ j x6 djp6 hj, fun H3 => St2 (compZ g1 t1 re vs1 ρ4 (fun acc' => comp2L g rt ri1 g1 t1 re vs vs1 ρ (fun l => l.length ≤ sizeLine ∧ Q' l) (ds.drop (i + 1)) acc') (es.drop (j + 1))) F5 H3, fun H3 h3 => ⟨m' - 1, by omega, by omega, h3⟩, ?_⟩
        intro v7 H7 hy7
        obtain ⟨F7, d7, rfl, x7, dj7, e7, r7⟩ := wk1.yld F6 _ j v7 H7 x6 djp6 hj hy7
        have ed7 : es.drop j = d7 :: es.drop (j + 1) := by
          obtain ⟨h1, h2⟩ := List.getElem?_eq_some_iff.mp e7
          rw [(List.drop_eq_getElem_cons h1), h2]
        rw [ed7] at q7
        obtain ⟨n7, dd7⟩ := dj_down np0.2 dj7
        have wi7 : Wd K B (L2.wipe σ4 vs1) F7 (upd R p (.lst acc6)) (wipe3 ρ4 vs1) := ((w5.ext (x6.trans x7) (dd7.updR n7)).inn' hpB ho dj7).wipe vs1
        refine ⟨B, F7, _, _, d7, _, rfl, wi7, r7, q7, fun σ8 ρ8 w8 c8 _ q8 => ⟨wipe_chg ⟨c8.1, fun j hj => c8.2 j fun z => hj (hsub1 j z)⟩, ?_⟩⟩
        refine ⟨F7, _, ρ8, _, _, rfl, w8, q8, fun b b' F8 x8 dj8 eb q9 => ?_, fun _ _ _ _ _ _ _ z => z.elim⟩
        cases eb
        cases b with
        | false =>
          obtain ⟨n8, d8⟩ := dj_down np0.2 dj8
          exact ⟨F8, acc6, accD6, rfl, (x6.trans x7).trans x8, d8, n8, Reps.ext (x7.trans x8) _ _ ra6, q9⟩
        | true =>
          rw [if_pos rfl]
          refine ⟨F8, _, ρ8, _, _, rfl, w8.ext x8 dj8, q9, fun y yd F9 x9 dj9 ry qa => ?_, fun _ _ _ _ _ _ _ z => z.elim⟩
          obtain ⟨n9, d9⟩ := dj_down np0.2 dj9
          have ra9 := Reps.ext ((x7.trans x8).trans x9) _ _ ra6
          refine ⟨acc6, (jn_of_r dj9 upd_same).2, by rw [ra6.length]; exact qa.1, F9, acc6 ++ [y], accD6 ++ [yd], ?_, ((x6.trans x7).trans x8).trans x9, d9, n9, Reps.append ra9 (Reps.cons ry Reps.nil), qa.2⟩
          rw [jn_updR n9, upd_upd]
      · refine .inl ⟨wk1.stop F6 _ j x6 djp6 (by omega), ?_⟩
        have e9 : es.drop j = [] := List.drop_eq_nil_of_le (by omega)
        rw [e9] at q7
        exact ⟨F6, acc6, accD6, rfl, x15.trans x6, d6, n6, Reps.ext (.refl _) _ _ ra6, q7⟩
  · refine .inl ⟨wk.stop F2 _ i x2 djp (by omega), ?_⟩
    rw [List.drop_eq_nil_of_le (by omega)] at q2
    have hp2 : jn F2 R p = none := by
      rw [jn_r np]
      exact np0.2
    rw [← jn_updR np]
    exact kk p acc accD F2 (x1.trans x2) dj2 ra (by rw [ra.length]; exact q2.1) q2.2 hp2
theorem fe_comp2 {iter elt tg1 iter1 : Expr} {ifs ifs1 : List Expr} {scope : Scope} {own : List (Str × Nat)} {vs vs1 is js : List Nat} (hc : X.calm = true) (hN : X.N.Nodup) (hi : DI B X W tg iter ri) (ok : BlkOk X.N X.env.scope scope own) (hv : ∀ i, i ∈ vs1 → i ∈ vs)
    (hg : ∀ (s : Shared) (H : Hp) (C : Addr) (cl : List (Str × Addr)) (fp : List Addr), DG B.T (X.blk s H scope (compEnvC scope cl C X.env) fp) is tg g)
    (ht : ∀ (s : Shared) (H : Hp) (C : Addr) (cl : List (Str × Addr)) (fp : List Addr), DTs B (X.blk s H scope (compEnvC scope cl C X.env) fp) W0 ifs rt)
    (hi1 : ∀ (s : Shared) (H : Hp) (C : Addr) (cl : List (Str × Addr)) (fp : List Addr), DI B (X.blk s H scope (compEnvC scope cl C X.env) fp) W0 tg1 iter1 ri1)
    (hg1 : ∀ (s : Shared) (H : Hp) (C : Addr) (cl : List (Str × Addr)) (fp : List Addr), DG B.T (X.blk s H scope (compEnvC scope cl C X.env) fp) js tg1 g1)
    (ht1 : ∀ (s : Shared) (H : Hp) (C : Addr) (cl : List (Str × Addr)) (fp : List Addr), DTs B (X.blk s H scope (compEnvC scope cl C X.env) fp) W0 ifs1 t1)
    (he : ∀ (s : Shared) (H : Hp) (C : Addr) (cl : List (Str × Addr)) (fp : List Addr), DE B (X.blk s H scope (compEnvC scope cl C X.env) fp) W0 elt re)
    (hsub : ∀ j ∈ is, j ∈ vs) (hsub1 : ∀ j ∈ js, j ∈ vs1) (hvs : own.map (·.2) = vs := by rfl) (hpn : X.pn = [] := by rfl) (hs : ∀ x, foldedSetIterable iter X.env x = pure x := by intro _; rfl) (hs1 : ∀ (env : Env) (x : Value), foldedSetIterable iter1 env x = pure x := by intro _ _; rfl) :
    FE B X W (.ListComp elt [{ target := tg, iter := iter, ifs := ifs, is_async := 0 }, { target := tg1, iter := iter1, ifs := ifs1, is_async := 0 }] scope pos) (rComp2 ri g rt ri1 g1 t1 re vs vs1) :=
  (pe_lc2 hc hN hi ok (by rw [hvs]; exact hv) (fun s H C cl fp => by have h := hg s H C cl fp; unfold DG at h; rw [kc_blk hpn] at h; exact h) (fun s H C cl fp => by have h := ht s H C cl fp; unfold DTs at h; rw [kc_blk hpn] at h; exact h)
    (fun s H C cl fp => by have h := hi1 s H C cl fp; unfold DI at h; rw [kc_blk hpn] at h; exact h) (fun s H C cl fp => by have h := hg1 s H C cl fp; unfold DG at h; rw [kc_blk hpn] at h; exact h) (fun s H C cl fp => by have h := ht1 s H C cl fp; unfold DTs at h; rw [kc_blk hpn] at h; exact h)
    (fun s H C cl fp => by have h := he s H C cl fp; unfold DE at h; rw [kc_blk hpn] at h; exact h) hs hs1).imp fun _ _ _ h => by rw [hvs]; exact lL_comp2 hsub hsub1 h
end
end L3
namespace L3
open PySem PySem.Spec L2
open PyProof.Rows hiding St
/-! ### the pen, by hand -/
def pk (c : Addr) (i g n f : Int) : List (Key × V) := [(.inr "cells", .ref c), (.inr "at", .int i), (.inr "digits", .int g), (.inr "count", .int n), (.inr "fold", .int f)]
section
variable {H : Hp} {a c : Addr} {i g n f : Int}
theorem pg_cells (h : H a = some (.dK (pk c i g n f))) : DGet H a (.str "cells") (some (.ref c)) := DGet.k (k := .inr "cells") h
theorem pg_at (h : H a = some (.dK (pk c i g n f))) : DGet H a (.str "at") (some (.int i)) := DGet.k (k := .inr "at") h
theorem pg_digits (h : H a = some (.dK (pk c i g n f))) : DGet H a (.str "digits") (some (.int g)) := DGet.k (k := .inr "digits") h
theorem pg_count (h : H a = some (.dK (pk c i g n f))) : DGet H a (.str "count") (some (.int n)) := DGet.k (k := .inr "count") h
theorem pg_fold (h : H a = some (.dK (pk c i g n f))) : DGet H a (.str "fold") (some (.int f)) := DGet.k (k := .inr "fold") h
theorem pk_len : (pk c i g n f).length < sizeLine := by show 5 < sizeLine; decide
theorem pp_at {x : Int} (h : H a = some (.dK (pk c i g n f))) : DPut H a (.str "at") (.int x) (upd H a (.dK (pk c x g n f))) := DPut.k (k := .inr "at") h pk_len
theorem pp_digits {x : Int} (h : H a = some (.dK (pk c i g n f))) : DPut H a (.str "digits") (.int x) (upd H a (.dK (pk c i x n f))) := DPut.k (k := .inr "digits") h pk_len
theorem pp_count {x : Int} (h : H a = some (.dK (pk c i g n f))) : DPut H a (.str "count") (.int x) (upd H a (.dK (pk c i g x f))) := DPut.k (k := .inr "count") h pk_len
theorem pp_fold {x : Int} (h : H a = some (.dK (pk c i g n f))) : DPut H a (.str "fold") (.int x) (upd H a (.dK (pk c i g n x))) := DPut.k (k := .inr "fold") h pk_len
end
/-! ### a draw: the two parts of its reading -/
theorem imod_lt (i : Int) {j : Int} (h : 0 < j) : 0 ≤ i % j ∧ i % j < j := ⟨Int.emod_nonneg _ (by omega), Int.emod_lt_of_pos _ h⟩
def gK (k : Str) : TE := tDGet (tVar 0) (tC (.str k))
def pK (k : Str) (tv : TE) : TS := sDPut (tVar 0) (tC (.str k)) tv
def cbInt : List V → Hp → VK → Prop := fun xs H Q => (∃ i, xs = [.int i] ∧ Q (.int i) H) ∨ ∃ k, xs = [.bl k] ∧ Q (.int (if k then 1 else 0)) H
def hAdd : R2 := rI0 fun i j => .int (i + j)
def hMul : R2 := rI CMul fun i j => .int (i * j)
def hMod : R2 := rI (fun _ j => 0 < j) fun i j => .int (i % j)
def hDiv : R2 := rI CDiv fun i j => .int (i / j)
def hInt (t : TE) : TE := tCB cbInt (tCons t tNil)
def hC (i : Int) : TE := tC (.int i)
def t_d3 : TS := tSeq (pK "fold" (tOp hMod (hInt (tOp hAdd (tOp hMul (tVar 4) (hC 16807)) (hC 7))) (hC 2147483647))) (tRet (tOp hMod (hInt (tOp hDiv (tVar 4) (hC 64))) (tVar 1)))
def t_d2 : TS := tSeq (tAsg (tOp hMod (hInt (tOp hAdd (tOp hAdd (tOp hMul (tVar 4) (tVar 4)) (tOp hMul (hC 31) (tVar 4))) (gK "count"))) (hC 2147483629)) (gName 4)) t_d3
def t_dTail : TS :=
  tSeq (tIfS (tTest (tOp (rI0 fun i j => .bl (decide (j < i))) (gK "digits") (hC 0)))
      (tSeq (tAsg (tOp hMod (hInt (gK "digits")) (tVar 1)) (gName 3)) (tSeq (pK "digits" (tOp hDiv (gK "digits") (tVar 1))) (tRet (tVar 3)))) tNext)
    (tSeq (tAsg (tOp hMod (hInt (tOp hAdd (tOp hAdd (tOp hMul (gK "fold") (hC 48271)) (tOp hMul (gK "count") (hC 7919))) (hC 13))) (hC 2147483647)) (gName 4)) t_d2)
section
variable {a c : Addr} {m : Int} {H : Hp} {D0 : Ends} {x2 : Option V}
theorem d_3 (m1 : 0 < m) (hk : ∀ (k i g n f : Int), 0 ≤ k → k < m → 0 ≤ i → 0 ≤ g → 0 ≤ f → f < 2147483647 → D0.rt (.int k) (upd H a (.dK (pk c i g n f)))) (i g n f z2 : Int) (b1 : 0 ≤ i) (b2 : 0 ≤ g) (c1 : 0 ≤ z2) (c2 : z2 < 2147483647) :
    t_d3 D0 [some (.ref a), some (.int m), x2, none, some (.int z2)] (upd H a (.dK (pk c i g n f))) := by
  have h0 : upd H a (.dK (pk c i g n f)) a = some (.dK (pk c i g n f)) := upd_same
  refine ⟨.int z2, rfl, z2, 16807, rfl, rfl, .inr ⟨by decide, by decide⟩, _, _, rfl, rfl, .inl ⟨_, rfl, _, _, rfl, rfl, (by show (0 : Int) < 2147483647; decide), .ref a, rfl, a, _, rfl, pp_fold h0, ?_⟩⟩
  have c3 := imod_lt (z2 * 16807 + 7) (j := 2147483647) (by decide)
  refine ⟨.int z2, rfl, z2, 64, rfl, rfl, ⟨by decide, by decide⟩, .inl ⟨_, rfl, .int m, rfl, _, m, rfl, rfl, m1, ?_⟩⟩
  rw [upd_upd]
  exact hk _ _ _ _ _ (imod_lt _ m1).1 (imod_lt _ m1).2 b1 b2 c3.1 c3.2
theorem d_2 (m1 : 0 < m) (hk : ∀ (k i g n f : Int), 0 ≤ k → k < m → 0 ≤ i → 0 ≤ g → 0 ≤ f → f < 2147483647 → D0.rt (.int k) (upd H a (.dK (pk c i g n f)))) (i g n f z1 : Int) (b1 : 0 ≤ i) (b2 : 0 ≤ g) (c1 : 0 ≤ z1) (c2 : z1 < 2147483647) :
    t_d2 D0 [some (.ref a), some (.int m), x2, none, some (.int z1)] (upd H a (.dK (pk c i g n f))) := by
  have h0 : upd H a (.dK (pk c i g n f)) a = some (.dK (pk c i g n f)) := upd_same
  refine ⟨.int z1, rfl, .int z1, rfl, z1, z1, rfl, rfl, .inl ⟨by omega, by omega⟩, .int z1, rfl, 31, z1, rfl, rfl, .inl ⟨by decide, by decide⟩, _, _, rfl, rfl, .ref a, rfl, a, .int n, rfl, pg_count h0, _, _, rfl, rfl, .inl ⟨_, rfl, _, _, rfl, rfl, (by show (0 : Int) < 2147483629; decide), ?_⟩⟩
  have c3 := imod_lt (z1 * z1 + 31 * z1 + n) (j := 2147483629) (by decide)
  exact d_3 m1 hk i g n f _ b1 b2 c3.1 (by omega)
theorem d_tail (m1 : 0 < m) (m2 : m < 1073741824)
    (hk : ∀ (k i g n f : Int), 0 ≤ k → k < m → 0 ≤ i → 0 ≤ g → 0 ≤ f → f < 2147483647 → D0.rt (.int k) (upd H a (.dK (pk c i g n f)))) :
    ∀ (i g n f : Int), 0 ≤ i → 0 ≤ g → 0 ≤ f → f < 2147483647 → t_dTail D0 [some (.ref a), some (.int m), x2, none, none] (upd H a (.dK (pk c i g n f))) := by
  intro i g n f b1 b2 b3 b4
  have h0 : upd H a (.dK (pk c i g n f)) a = some (.dK (pk c i g n f)) := upd_same
  refine ⟨.ref a, rfl, a, .int g, rfl, pg_digits h0, g, 0, rfl, rfl, _, rfl, ?_⟩
  refine ite2 (fun hg => ?_) (fun hg => ?_)
  · have hg : 0 < g := of_decide_eq_true hg
    refine ⟨.ref a, rfl, a, .int g, rfl, pg_digits h0, .inl ⟨g, rfl, ?_⟩⟩
    refine ⟨.int m, rfl, g, m, rfl, rfl, m1, ?_⟩
    refine ⟨.ref a, rfl, a, .int g, rfl, pg_digits h0, .int m, rfl, g, m, rfl, rfl, ⟨m1, m2⟩, .ref a, rfl, a, _, rfl, pp_digits h0, ?_⟩
    refine ⟨.int (g % m), rfl, ?_⟩
    rw [upd_upd]
    exact hk _ _ _ _ _ (imod_lt g m1).1 (imod_lt g m1).2 b1 (Int.ediv_nonneg (by omega) (by omega)) b3 b4
  · refine ⟨.ref a, rfl, a, .int f, rfl, pg_fold h0, f, 48271, rfl, rfl, .inr ⟨by decide, by decide⟩, .ref a, rfl, a, .int n, rfl, pg_count h0, n, 7919, rfl, rfl, .inr ⟨by decide, by decide⟩, _, _, rfl, rfl, _, _, rfl, rfl, .inl ⟨_, rfl, _, _, rfl, rfl, (by show (0 : Int) < 2147483647; decide), ?_⟩⟩
    have c1 := imod_lt (f * 48271 + n * 7919 + 13) (j := 2147483647) (by decide)
    exact d_2 m1 hk i g n f _ b1 b2 c1.1 c1.2
end
def t_dHead (K : PySem.W.Frag) : TS :=
  tIfS (tAnd (tTest (tOp rEq (gK "digits") (hC 0))) (tTest (tOp (rI0 fun i j => .bl (decide (i < j))) (gK "at") (tCB (fun xs H Q => ∃ p ys, xs = [.ref p] ∧ (SqL K H p ys ∨ SqT K H p ys) ∧ Q (.int ys.length) H) (tCons (gK "cells") tNil)))))
    (tSeq (tAsg (tOp (rIxL K) (gK "cells") (gK "at")) (gName 2)) (tSeq (pK "at" (tOp hAdd (gK "at") (hC 1)))
      (tIfS (tTest (tOp (rI0 fun i j => .bl (decide (j ≤ i))) (tVar 2) (tOp (rI CPow fun i j => .int (i ^ j.toNat)) (hC 10) (hC 18))))
        (pK "digits" (tOp (rI0 fun i j => .int (i - j)) (tVar 2) (tOp (rI CPow fun i j => .int (i ^ j.toNat)) (hC 10) (hC 18))))
        (pK "fold" (tOp hMod (hInt (tOp hAdd (tOp hMul (gK "fold") (hC 69069)) (tVar 2))) (hC 2147483587)))))) tNext
def t_draw (K : PySem.W.Frag) : TS := tSeq (pK "count" (tOp hAdd (gK "count") (hC 1))) (tSeq (t_dHead K) t_dTail)
theorem d_all {K : PySem.W.Frag} {a c : Addr} {m : Int} {H : Hp} {D0 : Ends} {xs : List Int} {i g n f : Int} (h0 : H a = some (.dK (pk c i g n f))) (hc : ∀ i g n f, SqL K (upd H a (.dK (pk c i g n f))) c (xs.map V.int)) (m1 : 0 < m) (m2 : m < 1073741824) (b1 : 0 ≤ i) (b2 : 0 ≤ g) (b3 : 0 ≤ f) (b4 : f < 2147483647)
    (hk : ∀ (k i g n f : Int), 0 ≤ k → k < m → 0 ≤ i → 0 ≤ g → 0 ≤ f → f < 2147483647 → D0.rt (.int k) (upd H a (.dK (pk c i g n f)))) :
    t_draw K D0 [some (.ref a), some (.int m), none, none, none] H := by
  refine ⟨.ref a, rfl, a, .int n, rfl, pg_count h0, n, 1, rfl, rfl, .ref a, rfl, a, _, rfl, pp_count h0, ?_⟩
  have h1 : upd H a (.dK (pk c i g (n + 1) f)) a = some (.dK (pk c i g (n + 1) f)) := upd_same
  refine ⟨.ref a, rfl, a, .int g, rfl, pg_digits h1, rfl, _, rfl, ?_⟩
  refine ite2 (fun hg => ?_) (fun hg => ?_)
  · refine ⟨.ref a, rfl, a, .int i, rfl, pg_at h1, .ref a, rfl, a, .ref c, rfl, pg_cells h1, c, _, rfl, .inl (hc _ _ _ _), i, _, rfl, rfl, _, rfl, ?_⟩
    refine ite2 (fun hl => ?_) (fun hl => ?_)
    · have hl : i < ((xs.map V.int).length : Nat) := of_decide_eq_true hl
      rw [List.length_map] at hl
      have hi : i.toNat < xs.length := by omega
      have ei : (xs.map V.int)[i.toNat]? = some (.int xs[i.toNat]) := by rw [List.getElem?_map, List.getElem?_eq_getElem hi]; rfl
      have e2 := atI_nat ei
      rw [show ((i.toNat : Nat) : Int) = i by omega] at e2
      generalize xs[i.toNat] = z at e2
      refine ⟨.ref a, rfl, a, .ref c, rfl, pg_cells h1, .ref a, rfl, a, .int i, rfl, pg_at h1, c, _, i, .int z, rfl, rfl, hc _ _ _ _, e2, ?_⟩
      refine ⟨.ref a, rfl, a, .int i, rfl, pg_at h1, i, 1, rfl, rfl, .ref a, rfl, a, _, rfl, pp_at h1, ?_⟩
      rw [upd_upd]
      have h2 : upd H a (.dK (pk c (i + 1) g (n + 1) f)) a = some (.dK (pk c (i + 1) g (n + 1) f)) := upd_same
      refine ⟨.int z, rfl, 10, 18, rfl, rfl, ⟨by decide, by decide, by decide⟩, z, _, rfl, rfl, _, rfl, ?_⟩
      refine ite2 (fun hz => ?_) (fun hz => ?_)
      · have hz := of_decide_eq_true hz
        refine ⟨.int z, rfl, 10, 18, rfl, rfl, ⟨by decide, by decide, by decide⟩, z, _, rfl, rfl, .ref a, rfl, a, _, rfl, pp_digits h2, ?_⟩
        rw [upd_upd]
        exact d_tail m1 m2 hk _ _ _ _ (by omega) (by omega) b3 b4
      · refine ⟨.ref a, rfl, a, .int f, rfl, pg_fold h2, f, 69069, rfl, rfl, .inr ⟨by decide, by decide⟩, .int z, rfl, _, _, rfl, rfl, .inl ⟨_, rfl, _, _, rfl, rfl, (by show (0 : Int) < 2147483587; decide), .ref a, rfl, a, _, rfl, pp_fold h2, ?_⟩⟩
        rw [upd_upd]
        have c1 := imod_lt (f * 69069 + z) (j := 2147483587) (by decide)
        exact d_tail m1 m2 hk _ _ _ _ (by omega) b2 c1.1 (by omega)
    · exact d_tail m1 m2 hk _ _ _ _ b1 b2 b3 b4
  · exact iteF (d_tail m1 m2 hk _ _ _ _ b1 b2 b3 b4)
def sp__law_draw : Sp3 := fun ds Q _ => match ds with
  | [.pen, .int m] => (0 < m ∧ m < 1073741824) ∧ ∀ k : Int, 0 ≤ k → k < m → Q (.int k)
  | _ => False
theorem penEx {K : KC} {F R : Hp} {a c : Addr} {xs : List Int} {i g n f i' g' n' f' : Int} (dj : Dj F R) (h : F a = some (.dK (pk c i g n f))) (hc : SqL K.K F c (xs.map V.int)) (h1 : 0 ≤ i') (h2 : 0 ≤ g') (h3 : 0 ≤ f') (h4 : f' < 2147483647) :
    upd (jn F R) a (.dK (pk c i' g' n' f')) = jn (upd F a (.dK (pk c i' g' n' f'))) R ∧ Ext K F (upd F a (.dK (pk c i' g' n' f'))) ∧ Dj (upd F a (.dK (pk c i' g' n' f'))) R ∧ SqL K.K (upd F a (.dK (pk c i' g' n' f'))) c (xs.map V.int) := by
  have hc' : SqL K.K (upd F a (.dK (pk c i' g' n' f'))) c (xs.map V.int) := by
    rcases hc with (hc | ⟨o, hc⟩) | hc
    · refine .inl (.inl ?_)
      rw [upd_ne (fun z => by rw [z, h] at hc; cases hc)]
      exact hc
    · refine .inl (.inr ⟨o, ?_⟩)
      rw [upd_ne (fun z => by rw [z, h] at hc; cases hc)]
      exact hc
    · exact .inr hc
  have keep : ∀ b o, F b = some o → (∀ kvs, o ≠ .dK kvs) → upd F a (.dK (pk c i' g' n' f')) b = some o := fun b o e z => by
    have : b ≠ a := fun q => by rw [q, h] at e; cases e; exact z _ rfl
    rw [upd_ne this]
    exact e
  refine ⟨?_, ⟨fun b o e => ?_, fun t p hp => ?_⟩, ⟨fun b o e => ?_, dj.nt⟩, hc'⟩
  · funext b
    by_cases hb : b = a
    · subst hb; rw [upd_same, jn_l upd_same]
    · rw [upd_ne hb]; unfold jn; rw [upd_ne hb]
  · by_cases hb : b = a
    · subst hb
      rw [h] at e
      cases e
      exact .inr (.inl ⟨_, _, rfl, rfl, upd_same, rfl, c, xs, i', g', n', f', rfl, hc', h1, h2, h3, h4⟩)
    · exact .inl (by rw [upd_ne hb]; exact e)
  · obtain ⟨ps, e1, e2, e3⟩ := t p hp
    refine ⟨ps, keep _ _ e1 (fun _ z => by cases z), e2, fun pos cv hcv => ?_⟩
    obtain ⟨cc, e4, e5⟩ := e3 pos cv hcv
    exact ⟨cc, e4, keep _ _ e5 (fun _ z => by cases z)⟩
  · by_cases hb : b = a
    · rw [hb]; exact dj a _ h
    · rw [upd_ne hb] at e; exact dj b o e
theorem pure_draw {K : KC} {vs : List V} {H : Hp} {Q : VK} {E : XK} (h : lSp K 2 sp__law_draw vs H Q E) : t_draw K.K { nx := fun _ H' => Q .non H', rt := Q } (L2.start ["pen", "many", "cell", "digit", "blend"] vs) H := by
  obtain ⟨F0, R0, ds, Q', E', hH, dj, tb, rd, hl, hs, kv, kx⟩ := h
  subst hH
  unfold sp__law_draw at hs
  split at hs
  · rename_i m
    obtain ⟨⟨m1, m2⟩, hk⟩ := hs
    obtain ⟨v, u, rfl, h1, h2⟩ := reps_two rd
    rw [rep_int h2]
    unfold Rep at h1
    obtain ⟨a, kvs, rfl, ha, c, xs, i, g, n, f0, rfl, hc, b1, b2, b3, b4⟩ := h1
    refine d_all (xs := xs) (jn_l ha) (fun i' g' n' f' => ?_) m1 m2 b1 b2 b3 b4 (fun k i' g' n' f' k1 k2 c1 c2 c3 c4 => ?_)
    · rcases hc with (hc | ⟨o, hc⟩) | hc
      · refine .inl (.inl ?_)
        rw [upd_ne (fun z => by rw [z, ha] at hc; cases hc)]
        exact jn_l hc
      · refine .inl (.inr ⟨o, ?_⟩)
        rw [upd_ne (fun z => by rw [z, ha] at hc; cases hc)]
        exact jn_l hc
      · exact .inr hc
    · obtain ⟨e1, e2, e3, _⟩ := penEx (K := K) (n' := n') dj ha hc c1 c2 c3 c4
      show Q (.int k) (upd (jn F0 R0) a (.dK (pk c i' g' n' f')))
      rw [e1]
      exact kv.ok _ _ _ e2 e3 (of_int k) (hk k k1 k2)
  · exact hs.elim
/-! ### a new pen -/
theorem Wd.innO {K : KC} {B : Bs} {σ : St} {F R : Hp} {ρ : Env3} (w : Wd K B σ F R ρ) {p : Addr} (np : R p = none) {o : HO} (dj : Dj F (upd R p o)) : Wd K B σ F (upd R p o) ρ := by
  refine ⟨w.tb, w.ex, fun b u hb => ?_, dj, w.len, w.val, fun j es hj => ?_, fun j c b fs hj => ?_, w.sep⟩
  · have h1 := w.fr b u hb
    have : b ≠ p := fun z => by rw [z, np] at h1; cases h1
    rw [upd_ne this]
    exact h1
  · obtain ⟨b, us, g1, g2, g3⟩ := w.own j es hj
    have : b ≠ p := fun z => by rw [z, np] at g2; cases g2
    exact ⟨b, us, g1, by rw [upd_ne this]; exact g2, g3⟩
  · obtain ⟨z, dx, us, g1, g2, g3, g4⟩ := w.obj j c b fs hj
    have n1 : b ≠ p := fun z => by rw [z, np] at g2; cases g2
    have n2 : dx ≠ p := fun z => by rw [z, np] at g3; cases g3
    exact ⟨z, dx, us, g1, by rw [upd_ne n1]; exact g2, by rw [upd_ne n2]; exact g3, g4⟩
theorem reps_intsV {K : KC} {F : Hp} : ∀ {ns : List Int} {vs : List V}, Reps K F vs (ns.map D.int) → vs = ns.map V.int
  | [], vs, h => by rw [reps_nil h]; rfl
  | n :: ns, vs, h => by
    obtain ⟨v, r, rfl, h1, h2⟩ := reps_cons h
    rw [rep_int h1, reps_intsV h2]
    rfl
def rPenNew (rs : RA) (rf : RE) : RE := fun ρ Q _ => rs ρ (fun ds => ∃ ns : List Int, ds = ns.map D.int ∧ rf ρ (fun d => ∃ f : Int, d = .int f ∧ (0 ≤ f ∧ f < 2147483647) ∧ Q .pen) (fun _ => False)) (fun _ => False)
section
variable {B : Bs} {X : Cx} {W : WX} {e e1 : Expr} {rs : RA} {rf : RE} {pos : Pos}
theorem de_penNew {j1 j2 j3 j4 j5 i2 i3 i4 : Nat} {p1 p2 p3 p4 p5 q2 q3 q4 : Pos} (hl : FE B X W e rs) (hf : DE B X W e1 rf) :
    DE B X W (.Dict [some (.Constant (.str "cells") j1 p1), some (.Constant (.str "at") j2 p2), some (.Constant (.str "digits") j3 p3), some (.Constant (.str "count") j4 p4), some (.Constant (.str "fold") j5 p5)]
      [e, .Constant (.int 0) i2 q2, .Constant (.int 0) i3 q3, .Constant (.int 0) i4 q4, e1] pos) (rPenNew rs rf) :=
  (pe_disp (pps_cons pe_str hl (pps_cons pe_str pe_int (pps_cons pe_str pe_int (pps_cons pe_str pe_int (pps_cons pe_str hf pps_nil))))) (by rfl) (by rfl) (fun z => by cases z) (by show 5 ≤ 15; decide)).imp fun σ H Q ⟨F, R, ρ, Q', E', hH, w, q, k⟩ => by
    subst hH
    intro p hp
    have np := jn_none hp
    rw [jn_updR np.1]
    have dj0 : Dj F (upd R p (.dK [])) := w.dj.updR np.1
    refine ⟨F, _, ρ, _, _, rfl, w.innO np.2 dj0, q, fun l vs ds F1 x1 dj1 rv hz q1 hl => ?_, fun _ _ _ _ _ _ _ z => z.elim⟩
    · obtain ⟨ns, rfl, q1⟩ := q1
      have hl1 := jn_none hl
      rw [jn_newF hl]
      have x2 : Ext (kc B.T X) F1 (upd F1 l (.lst vs)) := Ext.newF hl
      have dj2 := dj1.newF (o := .lst vs) hl
      refine ⟨_, _, ρ, _, _, rfl, (w.innO np.2 dj0).ext (x1.trans x2) dj2, q1, fun v d F3 x3 dj3 rv3 q3 => ?_, fun _ _ _ _ _ _ _ z => z.elim⟩
      · obtain ⟨f, rfl, hf0, q3⟩ := q3
        obtain ⟨n3, d3⟩ := dj_down np.2 dj3
        refine ⟨(jn_of_r dj3 upd_same).2, [(.inr "cells", .ref l), (.inr "at", .int 0), (.inr "digits", .int 0), (.inr "count", .int 0), (.inr "fold", v)], rfl, (by show 5 ≤ 15; decide), ?_⟩
        have hp3 : jn F3 R p = none := by rw [jn_r n3]; exact np.2
        have e3 : upd (jn F3 (upd R p (.dK []))) p (.dK (mergeK [] [(.inr "cells", .ref l), (.inr "at", .int 0), (.inr "digits", .int 0), (.inr "count", .int 0), (.inr "fold", v)])) = jn (upd F3 p (.dK (pk l 0 0 0 f))) R := by
          rw [rep_int rv3, ← jn_newF hp3, jn_updR n3, upd_upd, ← jn_updR n3]
          rfl
        rw [e3]
        have x4 : Ext (kc B.T X) F3 (upd F3 p (.dK (pk l 0 0 0 f))) := Ext.newF hp3
        have d4 := d3.newF (o := .dK (pk l 0 0 0 f)) hp3
        refine k.ok _ .pen _ (((x1.trans x2).trans x3).trans x4) d4 ?_ q3
        unfold Rep
        have hl3 : F3 l = some (.lst vs) := x3.lst upd_same
        have nlp : l ≠ p := fun z => by rw [z, n3] at hl3; cases hl3
        refine ⟨p, _, rfl, upd_same, l, ns, 0, 0, 0, f, rfl, ?_, Int.le_refl 0, Int.le_refl 0, hf0⟩
        rw [reps_intsV rv] at hl3
        exact .inl (.inl (by rw [upd_ne nlp]; exact hl3))
end
end L3
namespace L3
open PySem PySem.Spec L2
open PyProof.Rows hiding St
/-! ### data without an exception in it -/
mutual
def nxD : D → Bool
  | .tup ds => nxs ds
  | .lst ds => nxs ds
  | .dct ds => nxK ds
  | .ins _ fs => nxF fs
  | .exc _ _ => false
  | _ => true
def nxs : List D → Bool
  | [] => true
  | d :: ds => nxD d && nxs ds
def nxK : List (Key × D) → Bool
  | [] => true
  | (_, d) :: ds => nxD d && nxK ds
def nxF : List (Str × D) → Bool
  | [] => true
  | (_, d) :: ds => nxD d && nxF ds
end
abbrev KC.at (K : KC) (pn : List (Addr × Obj)) : KC := { K with pn := pn }
section
variable {K : KC} {H : Hp} {p1 p2 : List (Addr × Obj)}
theorem okl {a b : Bool} {P : Prop} (h : (a && b) = true ∨ P) : (a = true ∨ P) ∧ (b = true ∨ P) := by
  rcases h with h | h
  · obtain ⟨h1, h2⟩ := Bool.and_eq_true_iff.mp h
    exact ⟨.inl h1, .inl h2⟩
  · exact ⟨.inr h, .inr h⟩
mutual
/-- the pins may change where no exception is told, or where they grow -/
theorem Rep.pn : ∀ (d : D) (v : V), (nxD d = true ∨ ∀ p ∈ p1, p ∈ p2) → Rep (K.at p1) H v d → Rep (K.at p2) H v d
  | .non, v, _, h => by simpa [Rep] using h
  | .bl _, v, _, h => by simpa [Rep] using h
  | .int _, v, _, h => by simpa [Rep] using h
  | .str _, v, _, h => by simpa [Rep] using h
  | .tup ds, v, o, h => by
    unfold Rep at h ⊢
    obtain ⟨a, vs, e, s, r⟩ := h
    exact ⟨a, vs, e, s, Reps.pn ds vs (by unfold nxD at o; exact o) r⟩
  | .lst ds, v, o, h => by
    unfold Rep at h ⊢
    obtain ⟨a, vs, e, s, r⟩ := h
    exact ⟨a, vs, e, s, Reps.pn ds vs (by unfold nxD at o; exact o) r⟩
  | .scr xs, v, o, h => by
    unfold Rep at h ⊢
    exact h
  | .dct ds, v, o, h => by
    unfold Rep at h ⊢
    obtain ⟨a, kvs, e, s, l, r⟩ := h
    exact ⟨a, kvs, e, s, l, RepK.pn ds kvs (by unfold nxD at o; exact o) r⟩
  | .ins C ds, v, o, h => by
    unfold Rep at h ⊢
    obtain ⟨a, dx, fs, e, s, r⟩ := h
    exact ⟨a, dx, fs, e, s, RepF.pn ds fs (by unfold nxD at o; exact o) r⟩
  | .pen, v, o, h => by
    unfold Rep at h ⊢
    exact h
  | .exc c ds, v, o, h => by
    unfold Rep at h ⊢
    obtain ⟨a, oe, od, e, m, z⟩ := h
    refine ⟨a, oe, od, e, ?_, z⟩
    rcases o with o | o
    · unfold nxD at o
      cases o
    · exact o _ m
theorem Reps.pn : ∀ (ds : List D) (vs : List V), (nxs ds = true ∨ ∀ p ∈ p1, p ∈ p2) → Reps (K.at p1) H vs ds → Reps (K.at p2) H vs ds
  | [], vs, _, h => by simpa [Reps] using h
  | d :: ds, vs, o, h => by
    unfold Reps at h ⊢
    obtain ⟨v, r, e, h1, h2⟩ := h
    have o2 := okl (by unfold nxs at o; exact o)
    exact ⟨v, r, e, Rep.pn d v o2.1 h1, Reps.pn ds r o2.2 h2⟩
theorem RepK.pn : ∀ (ds : List (Key × D)) (vs : List (Key × V)), (nxK ds = true ∨ ∀ p ∈ p1, p ∈ p2) → RepK (K.at p1) H vs ds → RepK (K.at p2) H vs ds
  | [], vs, _, h => by simpa [RepK] using h
  | (k, d) :: ds, vs, o, h => by
    unfold RepK at h ⊢
    obtain ⟨v, r, e, h1, h2⟩ := h
    have o2 := okl (by unfold nxK at o; exact o)
    exact ⟨v, r, e, Rep.pn d v o2.1 h1, RepK.pn ds r o2.2 h2⟩
theorem RepF.pn : ∀ (ds : List (Str × D)) (vs : List (Str × V)), (nxF ds = true ∨ ∀ p ∈ p1, p ∈ p2) → RepF (K.at p1) H vs ds → RepF (K.at p2) H vs ds
  | [], vs, _, h => by simpa [RepF] using h
  | (k, d) :: ds, vs, o, h => by
    unfold RepF at h ⊢
    obtain ⟨v, r, e, h1, h2⟩ := h
    have o2 := okl (by unfold nxF at o; exact o)
    exact ⟨v, r, e, Rep.pn d v o2.1 h1, RepF.pn ds r o2.2 h2⟩
end
end
/-! ### defs that are called while an exception is handled -/
structure RoomP (g : Bool) (k : Nat) (A : Around) : Prop where
  rh : L2H.RoomH k A
  gd : g = true → A.guards = some []
theorem RoomP.mono {g : Bool} {j k : Nat} {A : Around} (r : RoomP g k A) (h : j ≤ k) : RoomP g j A := ⟨r.rh.mono h, r.gd⟩
structure FnP (P : Program) (w : World) (K : PySem.W.Frag) (mg : Str → Option Value) (base : Heap) (g : Bool) (k : Nat) (f : Addr) (fd : FuncData) (ps : List Str) (sp : Addr × Obj → Sp) : Prop where
  len : ∀ p vs H Q E, sp p vs H Q E → vs.length = ps.length
  run : ∀ (p : Addr × Obj) {A : Around} {outer : List Env} {s : Shared} {H : Hp} {args : Args} {us : List Value} {vs : List V} {Q : VK}, RoomP g k A → L2H.PinOk outer H s p → Env0 P w K mg base A outer s H → BindsTo s fd args (ps.zip us) → Vals vs us → sp p vs H Q C8.E0 →
    codeAny (model P w) A (.call (.ref f) args) (CR C8.CX0 outer P w H s Q C8.E0) s
/-- what such a def promises over data: its argument is the exception -/
def lSpP (K : KC) (sp : XD → (D → Prop) → Prop) (p : Addr × Obj) : Sp := fun vs H Q _ => ∃ F R x Q' v, vs = [v] ∧ H = jn F R ∧ Dj F R ∧ LamX.Tabs K.T F ∧ Rep (K.at [p]) F v (.exc x.cls x.fs) ∧ sp x Q' ∧ KV1 (K.at [p]) F R Q' Q
abbrev cxP (P : Program) (w : World) (K : PySem.W.Frag) (mg : Str → Option Value) (base : Heap) (N : List Str) (qual : Str) (scope : Scope) (f : Addr) (cd : Value) (A : Around) (outer : List Env) (s : Shared) (H : Hp) (p : Addr × Obj) : Cx := (L2H.cxH C8.CX0 P w K mg base N qual scope f cd A outer s H C8.E0 p).nox
section
variable {P : Program} {w : World} {K : PySem.W.Frag} {mg : Str → Option Value} {base : Heap} {T : List (Addr × Str)}
theorem fnP {g : Bool} {x a qual : Str} {st : Stmt} {f : Addr} {fd : FuncData} {N : List Str} {k : Nat} {sp : XD → (D → Prop) → Prop} {r : RS} (Fu : Fun K x qual st f fd) (S : FnScope N [a] (defScope st))
    (hbody : ∀ (cdv : Value) (A : Around) (outer : List Env) (s : Shared) (H : Hp) (p : Addr × Obj) (B : Bs), B.T = T → RoomP g k (A.deeper (envOfC qual (defScope st) s.heap.objs.size f cdv)) →
      DSs B (cxP P w K mg base N qual (defScope st) f cdv A outer s H p) W0 (defBody st) r)
    (hp : ∀ (x : XD) (Q : D → Prop), sp x Q → r { nx := fun _ => Q .non, rt := Q, ex := fun _ => False } (start3 N.length [.exc x.cls x.fs])) :
    FnP P w K mg base g (k + 1) f fd [a] (lSpP ⟨K, cmOf mg, [], T⟩ sp) := by
  obtain ⟨oc, od, kV, doc, pm, an, cdv, ct, osl, rfl, lk, hcd⟩ := Fu.ex
  refine ⟨fun p vs H Q E h => ?_, fun p A outer s H args us vs Q rm pin e0 hb rv h => ?_⟩
  · obtain ⟨_, _, _, _, _, rfl, _⟩ := h
    rfl
  · obtain ⟨F0, R0, y, Q', v, rfl, rfl, dj, tb, rx, hs, kv⟩ := h
    have kin : K.In s.heap := e0.mod.kin.keeps fun b o z => (e0.bs b o z).1
    have nl : s.heap.NoLimit := e0.mod.nolimit.keeps fun b o z => (e0.bs b o z).1
    refine codeAny_call_function rm.rh.depth (kin _ _ lk) rfl S.co S.gen rfl (PySem.W.codeRec_of kin hcd) (hb _ _ _ _ ?_)
    refine wpAny_newFunctionEnv_cells S.kind (fun ⟨n, u⟩ hy => (S.par n (List.of_mem_zip hy).1).imp id fun q => ⟨q, PySem.W.cellsFrom_some _ _ _ (.inl q)⟩) fun env ee s1 inc => ?_
    subst ee
    refine ⟨nl.keeps inc.toInCall.keep, codeAny_func ?_⟩
    have rm' : RoomP g k (A.deeper (envOfC qual (defScope st) s.heap.objs.size f cdv)) := ⟨rm.rh.deeper _, rm.gd⟩
    have I0 := L2H.inv_startH (CX := C8.CX0) (E := C8.E0) (cd := cdv) (f := f) (qual := qual) (A := A) S pin e0 (vs := [v]) rfl rv inc
    have B1 := hbody cdv A outer s (jn F0 R0) p ⟨F0, R0, T⟩ rfl rm'
    have hq : lS (kc T (cxP P w K mg base N qual (defScope st) f cdv A outer s (jn F0 R0) p)) ⟨F0, R0, T⟩ W0 r { nx := fun _ H' => Q .non H', rt := Q } (L2.start N [v]) (jn F0 R0) := by
      refine ⟨F0, R0, start3 N.length [.exc y.cls y.fs], _, rfl, (by exact wd_start dj (by exact tb) (by exact Reps.cons rx Reps.nil) rfl rfl), hp y Q' hs, ?_⟩
      refine ⟨fun σ F R ρ w q => ?_, fun v d σ F R ρ w rv q => ?_, fun x cls od σ F R ρ w rx q => q.elim, fun σ F R ρ w q => q.elim, fun σ F R ρ w q => q.elim⟩
      · obtain ⟨F', e, x1, d1⟩ := absorb w
        rw [e]
        exact kv.ok _ _ F' (w.ex.trans x1) d1 of_non q
      · obtain ⟨F', e, x1, d1⟩ := absorb w
        rw [e]
        exact kv.ok _ _ F' (w.ex.trans x1) d1 (Rep.ext x1 _ _ rv) q
    refine wpAny_mono ((PSs.nox B1).run [] s1 (L2.start N [v]) _ _ I0 hq) (fun fl s2 h2 => ?_) fun e s2 h2 => h2
    cases fl with
    | next =>
      obtain ⟨τ, H2, J, q⟩ := h2
      exact ⟨V.non, H2, J.os, J.bare, J.base, J.hok, rfl, q⟩
    | ret u =>
      obtain ⟨v2, τ, H2, J, r2, q⟩ := h2
      exact ⟨v2, H2, J.os, J.bare, J.base, J.hok, r2, q⟩
    | brk =>
      obtain ⟨_, _, _, q⟩ := h2
      exact q.elim
    | cont =>
      obtain ⟨_, _, _, q⟩ := h2
      exact q.elim
end
section
variable {B : Bs} {X : Cx} {W : WX} {a b c e : Expr} {ra rb rc re : RE} {rs : RA} {pos : Pos}
/-- f(e), e an exception at hand -/
def rCallP (sp : XD → (D → Prop) → Prop) (re : RE) : RE := fun ρ Q E => re ρ (fun d => match d with
  | .exc c fs => sp ⟨c, fs⟩ Q
  | _ => False) E
theorem de_callP {x y : Str} {p : Pos} {g : Bool} {k : Nat} {f : Addr} {fd : FuncData} {sp : XD → (D → Prop) → Prop} (G : FnP X.prog X.w X.K X.mg X.base g k f fd [y] (lSpP ⟨X.K, cmOf X.mg, [], B.T⟩ sp)) (hr : RoomP g k X.A) (hg : Gl X x) (hm : X.mg x = some (.ref f)) (hk : PySem.W.keepIn X.K (.ref f) = true) (hb : Binds X.K fd [y] [])
    (ha : DE B X W e re) (hd : (x == ("__debug__" : Str)) = false := by decide)
    (he : starEach [e] X.env = (false, eval e X.env) :: starEach [] X.env := by rfl) (hpl : (backTo pos (starEach [] X.env)).any (·.1) = false := by rfl) : DE B X W (.Call (.Name x p) [e] [] pos) (rCallP sp re) := by
  refine ⟨fun pins s σ H Q I ⟨F, R, ρ, Q', E', hH, wd, q, kk⟩ => ?_⟩
  subst hH
  refine wpAny_Call_Name_kw (ld_glob I (hg) (hm) ?_ hd)
  have tA : lf (Reps (kc B.T X)) (kc B.T X) B W (rCons re rNil) σ (jn F R) (fun vs H1 => ∃ F' v c fs, vs = [v] ∧ H1 = jn F' R ∧ Ext (kc B.T X) F F' ∧ Dj F' R ∧ Rep (kc B.T X) F' v (.exc c fs) ∧ sp ⟨c, fs⟩ Q') := by
    refine ⟨F, R, ρ, fun ds => ∃ c fs, ds = [D.exc c fs] ∧ sp ⟨c, fs⟩ Q', E', rfl, wd, ?_, fun vs ds F' x1 dj r q2 => ?_, kk.ex⟩
    · show re ρ (fun d => ∃ c fs, [d] = [D.exc c fs] ∧ sp ⟨c, fs⟩ Q') E'
      have e0 : (fun d => match d with
        | .exc c fs => sp ⟨c, fs⟩ Q'
        | _ => False) = fun d => ∃ c fs, [d] = [D.exc c fs] ∧ sp ⟨c, fs⟩ Q' := by
        funext d
        apply propext
        cases d with
        | exc c fs => exact ⟨fun h => ⟨c, fs, rfl, h⟩, fun ⟨c', fs', h1, h2⟩ => by cases h1; exact h2⟩
        | _ => exact ⟨fun h => h.elim, fun ⟨c', fs', h1, h2⟩ => by cases h1⟩
      rw [← e0]
      exact q
    · obtain ⟨c, fs, rfl, q3⟩ := q2
      obtain ⟨v, rfl, h1⟩ := reps_one r
      exact ⟨F', v, c, fs, rfl, rfl, x1, dj, h1, q3⟩
  refine PySem.W.callWith_K (h₀ := X.base) I.ok.mod.kin hk (thn ((da_cons ha da_nil he).run pos pins s σ (jn F R) _ I tA) fun us s1 ⟨vs, H1, I1, rv, q1⟩ => ⟨I1.kIn, ?_⟩) he hpl
  obtain ⟨F', v, c, fs, rfl, rfl, x1, dj1, rx, q3⟩ := q1
  have rx' := rx
  unfold Rep at rx'
  obtain ⟨ad, oe, od, rfl, mem, rest⟩ := rx'
  have pin := I1.pin (ad, oe) (List.mem_append_left _ mem)
  have bd := hb s1 us I1.kIn (by rw [List.append_nil, ← rv.length]; rfl)
  rw [List.append_nil] at bd
  have rxp : Rep (KC.at ⟨X.K, cmOf X.mg, [], B.T⟩ [(ad, oe)]) F' (.ref ad) (.exc c fs) := by
    unfold Rep
    exact ⟨ad, oe, od, rfl, by simp, rest⟩
  have kv : KV1 (KC.at ⟨X.K, cmOf X.mg, [], B.T⟩ [(ad, oe)]) F' R Q' Q := ⟨fun v d F2 x2 dj2 r2 q2 =>
    kk.ok v d F2 (x1.trans ⟨x2.at_, x2.tab⟩) dj2 (Rep.pn (K := kc B.T X) (p1 := [(ad, oe)]) (p2 := X.pn) d v (.inr fun p hp => by rw [List.mem_singleton.mp hp]; exact mem) r2) q2⟩
  refine wpAny_call (codeAny_mono (G.run (ad, oe) hr ⟨pin.1, pin.2.1, fun hm => (List.mem_cons.mp (I1.stkSub ad hm)).elim pin.2.2.1 pin.2.2.2.1, pin.2.2.2.2⟩ I1.env0 bd rv ⟨F', R, ⟨c, fs⟩, Q', _, rfl, rfl, dj1, (x1.tab wd.tb), rxp, q3, kv⟩) fun r s2 hq => ?_)
  cases r with
  | error er => exact (show False from hq).elim
  | ok fl =>
    cases fl with
    | ret u => exact I1.after hq
    | next => exact hq.elim
    | brk => exact hq.elim
    | cont => exact hq.elim
end
end L3
namespace L3
open PySem PySem.Spec L2
open PyProof.Rows hiding St
/-! ### an exception at hand: its class, its fields -/
section
variable {B : Bs} {X : Cx} {W : WX} {a b c e : Expr} {ra rb rc re : RE} {rs : RA} {pos : Pos}
theorem rep_exc {K : KC} {F : Hp} {v : V} {c : Str} {fs : List (Str × D)} (h : Rep K F v (.exc c fs)) : ∃ a oe od, v = .ref a ∧ (a, oe) ∈ K.pn ∧ Zc (.ref (K.cm c)) od oe ∧ (∃ vs, oe.data = .fields vs) ∧ ((fs = [] ∧ od = none) ∨ ∃ dd ws, od = some dd ∧ F dd = some (.xd ws) ∧ RepF (K.at []) F ws fs) := by
  unfold Rep at h
  exact h
/-- the exception's object, as the model finds it -/
theorem inst_exc {pins : List (Addr × Obj)} {σ : St} {H : Hp} {s : Shared} {T : List (Addr × Str)} {F R : Hp} {ad : Addr} {oe : Obj} {c : Str} {fs : List (Str × D)} {od : Option Addr} (I : Inv X pins σ H s) (hH : H = jn F R) (m : (ad, oe) ∈ X.pn) (z : Zc (.ref ((kc T X).cm c)) od oe) (d : ∃ vs, oe.data = .fields vs) (fld : (fs = [] ∧ od = none) ∨ ∃ dd ws, od = some dd ∧ F dd = some (.xd ws) ∧ RepF ((kc T X).at []) F ws fs) :
    ∃ oo, PySem.W.InstAt s.heap ad oe (cmOf X.mg c) oo := by
  obtain ⟨hget, _⟩ := I.pin _ (List.mem_append_left pins m)
  obtain ⟨us, du⟩ := d
  rcases fld with ⟨_, rfl⟩ | ⟨dd, ws, rfl, hx, _⟩
  · exact ⟨none, hget, z.1, by unfold PySem.W.notCls; rw [du] <;> rfl, by rw [z.2]; trivial⟩
  · have ox : ObjOk X.prog X.w H s.heap dd (.xd ws) := I.hok dd _ (by rw [hH]; exact jn_l hx)
    obtain ⟨mA, hns, _⟩ := ox
    obtain ⟨ob, ho, _⟩ := lookIn_ns hns
    exact ⟨some ob, hget, z.1, by unfold PySem.W.notCls; rw [du] <;> rfl, by rw [z.2]; exact ho⟩
/-- what isinstance asks of the exception's class C -/
structure XcC (K : PySem.W.Frag) (C : Addr) : Prop where
  cl : (PySem.W.clsIn K C).isSome = true
  ga :  PySem.W.findIn K (.ref C) "__getattribute__" = some (some (.builtin "BaseException.__getattribute__"))
  gg :  PySem.W.findIn K (.ref C) "__getattr__" = some none
  ex : PySem.W.subIn K (.ref C) (.type "BaseException") = some true
  fc : PySem.W.findIn K (.ref C) "__class__" = some (some (.builtin "object.__class__"))
  sp : PySem.W.specialIn K (.builtin "object.__class__") "__get__" = some (some (.builtin "getset_descriptor.__get__"))
  tk : PySem.W.takesIn K (.builtin "object.__class__") = some true
  mo : PySem.W.mroIn K C (.type "object") = some true
def rIX (K : KC) (nm : List Str) (f : Str → Bool) (cv : Value) : List V → Hp → VK → Prop := fun xs H Q => ∃ v c c0 fs F R, xs = [v, c] ∧ (∀ u, RelV c u → u = cv) ∧ H = jn F R ∧ Rep K F v (.exc c0 fs) ∧ c0 ∈ nm ∧ Q (.bl (f c0)) H
theorem call_isX {T : List (Addr × Str)} {nm : List Str} {f : Str → Bool} {cv : Value} (XN : ∀ c ∈ nm, XcC X.K (cmOf X.mg c) ∧ PySem.W.kitOne X.K (.ref (cmOf X.mg c)) cv = some (f c)) : CallR X (.builtin "isinstance") (rIX (kc T X) nm f cv) := by
  intro pins s σ H xs us Q I r ⟨v, c, c0, fs, F, R, e1, hc, hH, hv, hn, q⟩
  subst e1
  obtain ⟨u1, ⟨u2, ⟨rfl, ⟨r1, r2⟩⟩⟩⟩ := vals2 r
  have e2 := hc _ r2
  subst e2
  obtain ⟨ad, oe, od, rfl, m, z, d, fld⟩ := rep_exc hv
  cases r1
  obtain ⟨oo, J⟩ := inst_exc (T := T) I hH m z d fld
  obtain ⟨C, kit⟩ := XN c0 hn
  exact PySem.W.kia_one (PySem.W.kitx_exc C.cl C.ga C.gg C.ex C.fc C.sp C.tk C.mo) I.kIn J kit (fun y => nomatch y) fun tk => ⟨.bl (f c0), H, I.kept (t' := tk) fun _ _ y => y, rfl, q⟩
/-- isinstance(e, C) of an exception whose class is among nm -/
def rIsX (nm : List Str) (f : Str → Bool) (re : RE) : RE := fun ρ Q E => re ρ (fun d => match d with
  | .exc c _ => c ∈ nm ∧ Q (.bl (f c))
  | _ => False) E
theorem de_isX {p : Pos} {nm : List Str} {f : Str → Bool} {cv : Value} {c : V} (hg : Gl X "isinstance") (hm : X.mg "isinstance" = none) (hc : PE X e (tC c)) (hcv : ∀ u, RelV c u → u = cv) (XN : ∀ c ∈ nm, XcC X.K (cmOf X.mg c) ∧ PySem.W.kitOne X.K (.ref (cmOf X.mg c)) cv = some (f c)) (ha : DE B X W a ra)
    (h1 : starEach [a, e] X.env = (false, eval a X.env) :: starEach [e] X.env := by rfl) (h2 : starEach [e] X.env = [(false, eval e X.env)] := by rfl) (hpl : (backTo pos (starEach [e] X.env)).any (·.1) = false := by rfl) :
    DE B X W (.Call (.Name "isinstance" p) [a, e] [] pos) (rIsX nm f ra) :=
  (pe_callB (call_isX (T := B.T) XN) hg hm (by decide +kernel) (pa_cons ha (pa_cons hc pa_nil h2) h1) (by decide) (by decide) h1 hpl).imp fun σ H Q ⟨F, R, ρ, Q', E', hH, w, r, k⟩ => by
    subst hH
    refine ⟨F, R, ρ, _, E', rfl, w, r, fun v d F' x dj rv q => ?_, k.ex⟩
    cases d with
    | exc c0 fs => exact ⟨v, _, c0, fs, F', R, rfl, hcv, rfl, rv, q.1, k.ok _ _ F' x dj (of_bl _) q.2⟩
    | _ => exact (show False from q).elim
theorem de_isXc {p p2 : Pos} {nm : List Str} {f : Str → Bool} {C : Str} {Ca : Addr} (hg : Gl X "isinstance") (hm : X.mg "isinstance" = none) (hgC : Gl X C) (hmC : X.mg C = some (.ref Ca)) (XN : ∀ c ∈ nm, XcC X.K (cmOf X.mg c) ∧ PySem.W.kitOne X.K (.ref (cmOf X.mg c)) (.ref Ca) = some (f c)) (ha : DE B X W a ra) (hd : (C == ("__debug__" : Str)) = false := by decide)
    (h1 : starEach [a, .Name C p2] X.env = (false, eval a X.env) :: starEach [.Name C p2] X.env := by rfl) (hpl : (backTo pos (starEach [.Name C p2] X.env)).any (·.1) = false := by rfl) :
    DE B X W (.Call (.Name "isinstance" p) [a, .Name C p2] [] pos) (rIsX nm f ra) :=
  de_isX hg hm (pe_glob (v := .ref Ca) hgC hmC rfl hd) (fun u r => r) XN ha h1 rfl hpl
theorem de_isXt {p p2 : Pos} {nm : List Str} {f : Str → Bool} {C : Str} {U : String} (hg : Gl X "isinstance") (hm : X.mg "isinstance" = none) (hgC : Gl X C) (hmC : X.mg C = none) (hv : bootBuiltins C = some (.type U)) (XN : ∀ c ∈ nm, XcC X.K (cmOf X.mg c) ∧ PySem.W.kitOne X.K (.ref (cmOf X.mg c)) (.type U) = some (f c)) (ha : DE B X W a ra) (hn : C ≠ "__name__" := by decide) (hd : (C == ("__debug__" : Str)) = false := by decide)
    (h1 : starEach [a, .Name C p2] X.env = (false, eval a X.env) :: starEach [.Name C p2] X.env := by rfl) (hpl : (backTo pos (starEach [.Name C p2] X.env)).any (·.1) = false := by rfl) :
    DE B X W (.Call (.Name "isinstance" p) [a, .Name C p2] [] pos) (rIsX nm f ra) :=
  de_isX hg hm (pe_bltn (v := .ty U) hgC hmC hv rfl hn hd) (fun u r => r) XN ha h1 rfl hpl
/-- e.f of an exception of the class C -/
def rXf (C f : Str) (re : RE) : RE := fun ρ Q E => re ρ (fun d => match d with
  | .exc c fs => c = C ∧ match fs.lookup f with
    | some d => Q d
    | none => False
  | _ => False) E
structure XfOk (K : PySem.W.Frag) (mg : Str → Option Value) (C f : Str) : Prop where
  xf : XfC K (cmOf mg C)
  no : PySem.W.findIn K (.ref (cmOf mg C)) f = some none
theorem de_xf {C f : Str} (Y : XfOk X.K X.mg C f) (he : DE B X W e re) (hb : attributeBase e f X.env (eval e X.env) = eval e X.env := by rfl) : DE B X W (.Attribute e f pos) (rXf C f re) := by
  refine ⟨fun pins s σ H Q I ⟨F, R, ρ, Q', E', hH, w, r, k⟩ => ?_⟩
  subst hH
  refine attr_of hb (thn (he.run pins s σ _ (fun x H1 => ∃ F' fs d, H1 = jn F' R ∧ Ext (kc B.T X) F F' ∧ Dj F' R ∧ Rep (kc B.T X) F' x (.exc C fs) ∧ fs.lookup f = some d ∧ Q' d) I ⟨F, R, ρ, _, E', rfl, w, r, fun v d F' x dj rv q => ?_, k.ex⟩) fun u s1 ⟨x, H1, I1, rx, F', fs, d, hH1, x1, dj1, rv, lk, q⟩ => ?_)
  · cases d with
    | exc c0 fs =>
      obtain ⟨rfl, q⟩ := q
      cases hl : fs.lookup f with
      | none => rw [hl] at q; exact q.elim
      | some d => rw [hl] at q; exact ⟨F', fs, d, rfl, x, dj, rv, hl, q⟩
    | _ => exact (show False from q).elim
  · subst hH1
    obtain ⟨ad, oe, od, rfl, m, z, dt, fld⟩ := rep_exc rv
    obtain rfl : u = Value.ref ad := rx
    obtain ⟨us, du⟩ := dt
    rcases fld with ⟨rfl, _⟩ | ⟨dd, ws, rfl, hx, rf⟩
    · cases lk
    · obtain ⟨v, lv, rd⟩ := repF_look rf lk
      have ox : ObjOk X.prog X.w (jn F' R) s1.heap dd (.xd ws) := I1.hok dd _ (jn_l hx)
      obtain ⟨mA, hns, hr⟩ := ox
      obtain ⟨ob, ho, hl⟩ := lookIn_ns hns
      obtain ⟨u, hu, ru⟩ := RelO.some_of (v := v) (o := mA f) (by rw [← lv]; exact hr f)
      have J : PySem.W.InstAt s1.heap ad oe (cmOf X.mg C) (some ob) := ⟨(I1.pin _ (List.mem_append_left pins m)).1, z.1, by unfold PySem.W.notCls; rw [du] <;> rfl, by rw [z.2]; exact ho⟩
      have rd' : Rep (kc B.T X) F' v d := Rep.pn (K := kc B.T X) (p1 := []) (p2 := X.pn) d v (.inr fun _ z => by cases z) rd
      exact HandSPX.exc_get I1.kIn J Y.xf.ga Y.xf.gg Y.xf.exC (PySem.W.findObj_own Y.xf.hdC Y.no rfl (by rw [hl, hu])) (handed_of ru) ⟨v, _, I1.tok _, ru, k.ok v d F' x1 dj1 rd' q⟩
end
end L3
namespace L3
open PySem PySem.Spec L2
open PyProof.Rows hiding St
/-! ### found = None / try: call() / except RestsError as e: .. / return found -/
abbrev cxF (X : Cx) (x : Str) (sg : Scope) (g : Addr) (cdg : Value) (s : Shared) (H : Hp) : Cx := (cxOf C8.CX0 X.prog X.w X.K X.mg X.base ["call", "found", "e"] x sg g cdg X.A X.stack s H C8.E0).nox
/-- ft: what the suite makes of an exception -/
def TTf (K : KC) (ft : XD → (D → Prop) → Prop) : (XK → Hp → VK → Prop) → Hp → VK → Prop := fun tl H Q =>
  tl (fun cls d H' => ∃ F R x Q', H' = jn F R ∧ Dj F R ∧ LamX.Tabs K.T F ∧ RepX K F cls d x ∧ ft x Q' ∧ KV1 K F R Q' Q) H (fun _ H' => Q .non H')
theorem fault_gives {X : Cx} {x q : Str} {sg : Scope} {g CS : Addr} {cdg : Value} {gd : Bool} {k j : Nat} {p1 p2 p3 p4 p5 p6 p7 p8 p9 p10 p11 : Pos} {b0 : Stmt} {suite : List Stmt} {T : List (Addr × Str)} {rs : RS} {ft : XD → (D → Prop) → Prop}
    (hge : sg.names.lookup ("RestsError" : Str) = some .globalImplicit) (hme : X.mg "RestsError" = some (.ref CS)) (lf : sg.names.lookup ("found" : Str) = some .local) (le : sg.names.lookup ("e" : Str) = some .local) (hr : Room (k + 2) X.A) (hgd : gd = true → X.A.guards = some [])
    (hsu : ∀ (s : Shared) (H : Hp) (a : Addr) (oe : Obj) (pn : List (Addr × Obj)) (B : Bs), B.T = T → RoomP gd (k + 1) ((cxF X x sg g cdg s H).suite a ((a, oe) :: pn)).A → DSs B ((cxF X x sg g cdg s H).suite a ((a, oe) :: pn)) W0 (b0 :: suite) rs)
    (hpure : ∀ (y : XD) (Q : D → Prop), ft y Q → PySem.W.exmOne X.K (.ref (cmOf X.mg y.cls)) (.ref CS) = some true ∧ rs { nx := fun ρ => ∃ d, (ρ[1]? : Option Sl) = some (.val d) ∧ nxD d = true ∧ Q d, rt := fun _ => False, ex := fun _ => False } [.emp, .emp, .val (.exc y.cls y.fs)]) :
    LamX.GivesTo X ["call", "found", "e"] x sg g cdg [.Assign [.Name "found" p1] (.Constant .none j p2) p3, .Try [.Expr (.Call (.Name "call" p4) [] [] p10) p11] [.ExceptHandler (some (.Name "RestsError" p5)) (some "e") (b0 :: suite) p6] [] [] p7, .Return (some (.Name "found" p8)) p9] "call" q (TTf ⟨X.K, cmOf X.mg, [], T⟩ ft) := by
  intro f c' s H Q tl act hco h
  let Y : Cx := cxF X x sg g cdg s H
  have nd : Y.N.Nodup := by show (["call", "found", "e"] : List Str).Nodup; decide
  let ts : Addr → Value → Option Addr → TS := fun a cls d D σ H1 => ∀ (oe : Obj) (pn : List (Addr × Obj)), Zc cls d oe → (∃ vs, oe.data = .fields vs) → ∃ B, B.T = T ∧ lS (kc T (Y.suite a ((a, oe) :: pn))) B W0 rs D σ H1
  have rm : ∀ a : Addr, RoomP gd (k + 1) (Y.A.mark (some (.ref a))) := fun a => ⟨⟨(Room.deeper hr Y.env).dp, (Room.deeper hr Y.env).un⟩, hgd⟩
  have s2 := ps_try_as (X := Y) (x := "RestsError") (n := "e") (c := .ref CS) (i := 2) (np := p5) (pos := p7) (pos' := p6) (ts := ts) (Wout := fun _ _ _ _ => False)
      (tb := fun W D σ H => ∃ Ech : XK, (∀ cls d σ' H', σ'.length = 3 → Ech cls d H' → W cls d σ' H') ∧ σ = [some (.ref f), some .non, none] ∧ H c' = some (LamX.CodeO c' q) ∧ (tl Ech H fun _ H' => D.nx σ H'))
      (body := [.Expr (.Call (.Name "call" p4) [] [] p10) p11]) rfl rfl nd rfl le ⟨hge, rfl, .inl hme⟩ LamX.takes0 (fun W pn xe tk _ => ⟨fun pins s' σ H' D I h' => by
        obtain ⟨Ech, ⟨hW, ⟨h1, h2, h3⟩⟩⟩ := h'
        have tk3 : Takes (Y.tr pn xe) (fun cls d σ1 H1 => σ1.length = 3 → W cls d σ1 H1) := fun u s9 ⟨a9, B9, sI, pi9, σ9, H9, c9, d9, e9, I9, nb, up, sky, na, os, ag, w9⟩ => tk u s9 ⟨a9, B9, sI, pi9, σ9, H9, c9, d9, e9, I9, nb, up, sky, na, os, ag, w9 I9.len⟩
        have hp := act _ pn xe Ech p4 p10 tk3 (fun cls d σ1 H1 h8 hl => hW cls d σ1 H1 hl h8)
        have hq := pss_one (ps_expr (pos := p11) hp)
        exact hq.run pins s' σ H' D I ⟨by rw [h1]; rfl, h2, h3⟩⟩)
      (fun a oe cls d pn z dt => ⟨fun pins s' σ H' D I h' => by
        obtain ⟨B, hB, h'⟩ := h' oe pn z dt
        have hd := hsu s H a oe pn B hB (rm a)
        unfold DSs at hd
        rw [hB] at hd
        exact hd.run pins s' σ H' D I h'⟩)
  have s1 := ps_set (X := Y) (i := 1) (pos := p3) (pos' := p1) nd rfl (.inl lf) (pe_non (X := Y) (pos := p2) (j := j)) rfl (.inr lf)
  have s3 := ps_ret (pos := p9) (pe_var (X := Y) (i := 1) (x := "found") (pos := p8) rfl (.inl lf))
  refine ⟨_, pss_cons s1 (pss_cons s2 (pss_one s3)), ?_⟩
  show ∃ Ech : XK, _
  refine ⟨fun cls d H' => ∃ F R x Q', H' = jn F R ∧ Dj F R ∧ LamX.Tabs T F ∧ RepX ⟨X.K, cmOf X.mg, [], T⟩ F cls d x ∧ ft x Q' ∧ KV1 ⟨X.K, cmOf X.mg, [], T⟩ F R Q' Q, ?_, rfl, hco, ?_⟩
  · rintro cls d σ' H' hlen ⟨F, R, y, Q', rfl, dj, tb, rx, hf, kv⟩
    obtain ⟨hex, hrs⟩ := hpure y Q' hf
    obtain ⟨hcl, hfd⟩ := rx
    refine ⟨true, by rw [hcl]; exact hex, fun _ a na oe pn z dt => ?_, fun z => by cases z⟩
    match σ', hlen with
    | [x0, x1, x2], _ =>
      refine ⟨⟨F, R, T⟩, rfl, F, R, [.emp, .emp, .val (.exc y.cls y.fs)], _, rfl, ?_, hrs, ?_⟩
      · refine ⟨tb, .refl _, fun _ _ z => z, dj, rfl, fun i d hi => ?_, fun i ds hi => ?_, fun i c b fs hi => ?_, fun i i2 b di d2 hi _ _ _ => ?_⟩
        · match i, hi with
          | 2, hi =>
            cases hi
            refine ⟨.ref a, rfl, ?_⟩
            unfold Rep
            exact ⟨a, oe, d, rfl, by simp, by rw [show cls = .ref (cmOf X.mg y.cls) from hcl] at z; exact z, dt, hfd⟩
          | (i + 3), hi => cases hi
        · match i, hi with
          | (i + 3), hi => cases hi
        · match i, hi with
          | (i + 3), hi => cases hi
        · match i, hi with
          | (i + 3), hi => cases hi
      · refine ⟨fun σ2 F2 R2 ρ2 w2 ⟨d2, h2, n2, q2⟩ => ?_, fun v d σ F R ρ w rv z => z.elim, fun x cls od σ F R ρ w rx z => z.elim, fun σ F R ρ w z => z.elim, fun σ F R ρ w z => z.elim⟩
        obtain ⟨v, e2, r2⟩ := w2.val 1 d2 h2
        refine ⟨v, by rw [List.getElem?_set_ne (by decide)]; exact e2, ?_⟩
        obtain ⟨F9, e9, x9, d9⟩ := absorb w2
        show Q v (jn F2 R2)
        rw [e9]
        have x10 := w2.ex.trans x9
        exact kv.ok v d2 F9 ⟨x10.at_, x10.tab⟩ d9 (Rep.pn (K := ⟨X.K, cmOf X.mg, [], T⟩) (p1 := (a, oe) :: pn) (p2 := []) d2 v (.inl n2) (Rep.ext x9 _ _ r2)) q2
  · have e0 : (fun (_ : V) (H' : Hp) => ∃ v, (some (some V.non) : Option (Option V)) = some (some v) ∧ Q v H') = fun _ H' => Q .non H' := by
      funext _ H'
      exact propext ⟨fun ⟨v, e, q⟩ => by cases e; exact q, fun q => ⟨_, rfl, q⟩⟩
    show tl _ H (fun (_ : V) (H' : Hp) => ∃ v, (some (some V.non) : Option (Option V)) = some (some v) ∧ Q v H')
    rw [e0]
    exact h
end L3
namespace L3
open PySem PySem.Spec L2
open PyProof.Rows hiding St
/-- x(lambda: body) -/
def rFault (ft : XD → (D → Prop) → Prop) (re : RE) : RE := fun ρ Q _ => re ρ (fun _ => Q .non) (fun y => ft y Q)
theorem Ext.tables {K : KC} {F R H1 : Hp} (dj : Dj F R) (tb : LamX.Tabs K.T F) (e : LamX.ExtN (jn F R) H1) (t1 : LamX.Tabs K.T H1) : ∃ F1, H1 = jn F1 R ∧ Ext K F F1 ∧ Dj F1 R := by
  have keepR : ∀ a o, R a = some o → H1 a = some o := fun a o h => e a o (jn_of_r dj h).2 fun ps z => by
    have := dj.nt a o h
    rw [z] at this
    exact this
  have noR : ∀ (a : Addr) (o : HO), H1 a = some o → ¬ NT o → R a = none := fun a o h n => by
    cases q : R a with
    | none => rfl
    | some u =>
      have h2 := keepR a u q
      rw [h] at h2
      cases h2
      exact absurd (dj.nt a o q) n
  let F1 : Hp := fun a => match R a with
    | some _ => none
    | none => H1 a
  have f1 : ∀ a, R a = none → F1 a = H1 a := fun a h => by show (match R a with | some _ => none | none => H1 a) = _; rw [h]
  have f2 : ∀ a o, R a = some o → F1 a = none := fun a o h => by show (match R a with | some _ => none | none => H1 a) = _; rw [h]
  refine ⟨F1, ?_, ⟨fun a o h => ?_, fun t p hp => ?_⟩, ⟨fun a o h => ?_, dj.nt⟩⟩
  · funext a
    cases q : R a with
    | none =>
      cases h : H1 a with
      | some o => exact (jn_l ((f1 a q).trans h)).symm
      | none => exact ((jn_r ((f1 a q).trans h)).trans q).symm
    | some o => rw [keepR a o q]; exact ((jn_r (f2 a o q)).trans q).symm
  · have hr := dj a o h
    by_cases ht : ∃ ps, o = .tbl ps
    · exact .inr (.inr ht)
    · exact .inl ((f1 a hr).trans (e a o (jn_l h) fun ps z => ht ⟨ps, z⟩))
  · obtain ⟨ps, e1, e2, e3⟩ := t1 p hp
    refine ⟨ps, (f1 _ (noR _ _ e1 fun z => z)).trans e1, e2, fun pos cv hcv => ?_⟩
    obtain ⟨c, e4, e5⟩ := e3 pos cv hcv
    exact ⟨c, e4, (f1 _ (noR _ _ e5 fun z => by unfold LamX.CodeO at z; exact z)).trans e5⟩
  · cases q : R a with
    | none => rfl
    | some u =>
      rw [f2 a u q] at h
      cases h
section
variable {B : Bs} {X : Cx} {W : WX}
theorem de_fault {x : Str} {st : Stmt} {g c P : Addr} {fd : FuncData} {k : Nat} {params : Arguments} {body : Expr} {scope : Scope} {p lpos pos : Pos} {ft : XD → (D → Prop) → Prop} {re : RE}
    (hpn : X.pn = []) (Fu : Fun X.K x x st g fd) (hg : Gl X x) (hm : X.mg x = some (.ref g)) (hk : PySem.W.keepIn X.K (.ref g) = true) (hb : Binds X.K fd ["call"] []) (Sg : FnScope ["call", "found", "e"] ["call"] (defScope st)) (hva : Vis (defScope st) "call")
    (hG : ∀ cdv : Value, LamX.GivesTo X ["call", "found", "e"] x (defScope st) g cdv (defBody st) "call" (X.env.qual ++ "<lambda>") (TTf ⟨X.K, cmOf X.mg, [], B.T⟩ ft))
    (TB : LamX.TabB X.base X.mg c P) (hcode : X.env.code = .ref c) (hmT : (P, X.env.qual ++ "<lambda>") ∈ B.T) (hu : ∀ p ∈ B.T, p.1 = P → p.2 = X.env.qual ++ "<lambda>") (hr : Room (k + 2) X.A) (L : LamX.LamS X.env.scope scope) (hdef : defaultsOf params X.env = ([], []))
    (hbind :  ∀ (q : Str) (cl : List (Str × Addr)) (pm cv ctv : Value), bindArgs (PySem.W.kla_fn "<lambda>" q params body scope cl pm cv ctv) ⟨[], []⟩ = pure [])
    (hbody : ∀ (A : Around) (outer : List Env) (s : Shared) (H : Hp) (E : XK) (f c' : Addr), Room k (A.deeper (LamX.lamEnv X scope s.heap.objs.size f c')) → Takes (LamX.lamCx X A outer s H E scope f c') (WD E) → DE B (LamX.lamCx X A outer s H E scope f c') (WD E) body re)
    (hdb : (x == ("__debug__" : Str)) = false := by decide) : DE B X W (.Call (.Name x p) [.Lambda params body scope lpos] [] pos) (rFault ft re) := by
  obtain ⟨oc, od, kV, doc, pm, an, cdv, ct, osl, rfl, lk, hcd⟩ := Fu.ex
  refine (LamX.pe_lamcall (T := B.T) (t := fun E => lE ⟨X.K, cmOf X.mg, [], B.T⟩ B (WD E) re) (p := p) (lpos := lpos) (pos := pos) hg hm hk lk hcd hb Sg rfl hva (hG cdv) TB hcode hmT hu hr L hdef hbind (fun A outer s H E f c' rm => hbody A outer s H E f c' rm (takes_of rfl rfl rfl rfl)) hdb).imp fun σ H Q h => ?_
  obtain ⟨F, R, ρ, Q', E', rfl, w, r, kk⟩ := h
  have ek : kc B.T X = ⟨X.K, cmOf X.mg, [], B.T⟩ := by show (⟨X.K, cmOf X.mg, X.pn, B.T⟩ : KC) = _; rw [hpn]
  rw [ek] at w kk
  refine ⟨w.tb.ext fun b o e => jn_l e, fun H1 eN t1 => ?_⟩
  obtain ⟨F1, rfl, xF, d1⟩ := Ext.tables w.dj w.tb eN t1
  refine ⟨F1, R, ρ, _, _, rfl, w.ext xF d1, r, fun v d F' x1 dj rv q => ?_, fun y cls od F' x1 dj rx q => ?_⟩
  · exact kk.ok .non .non F' (xF.trans x1) dj of_non q
  · exact ⟨F', R, y, Q', rfl, dj, (xF.trans x1).tab w.tb, rx, q, ⟨fun v d F2 x2 dj2 r2 q2 => kk.ok v d F2 ((xF.trans x1).trans x2) dj2 r2 q2⟩⟩
end
section
variable {P : Program} {w : World} {K : PySem.W.Frag} {mg : Str → Option Value} {base : Heap} {T : List (Addr × Str)}
/-- fn3, with the def's own code object told -/
theorem fn3L {x qual : Str} {st : Stmt} {f : Addr} {fd : FuncData} {N ps : List Str} {k n : Nat} {sp : Sp3} {r : RS} (Fu : Fun K x qual st f fd) (S : FnScope N ps (defScope st)) (hn : ps.length = n)
    (hbody : ∀ (A : Around) (outer : List Env) (s : Shared) (H : Hp) (E : XK) (B : Bs), B.T = T → Room k (A.deeper (envOfC qual (defScope st) s.heap.objs.size f fd.code)) → Takes (cxOf (L2.CX P w) P w K mg base N qual (defScope st) f fd.code A outer s H E) (WD E) →
      DSs B (cxOf (L2.CX P w) P w K mg base N qual (defScope st) f fd.code A outer s H E) (WD E) (defBody st) r)
    (hp : ∀ (ds : List D) (Q : D → Prop) (E : XD → Prop), ds.length = n → sp ds Q E → r { nx := fun _ => Q .non, rt := Q, ex := E } (start3 N.length ds)) :
    FnOk P w K mg base (L2.CX P w) (k + 1) f fd ps (lSp ⟨K, cmOf mg, [], T⟩ n sp) := by
  obtain ⟨oc, od, kV, doc, pm, an, cdv, ct, osl, rfl, lk, hcd⟩ := Fu.ex
  refine fn_of lk hcd S (fun vs H Q E h => ?_) fun A outer s H vs Q E hr h => ?_
  · obtain ⟨_, _, _, _, _, _, _, _, _, hl, _⟩ := h
    rw [hl, hn]
  · obtain ⟨F0, R0, ds, Q', E', rfl, dj, tb, rd, hl, hs, kv, kx⟩ := h
    have tk : Takes (cxOf (L2.CX P w) P w K mg base N qual (defScope st) f cdv A outer s (jn F0 R0) E) (WD E) := takes_of rfl rfl rfl rfl
    refine ⟨_, hbody A outer s (jn F0 R0) E ⟨F0, R0, T⟩ rfl hr tk, ?_⟩
    refine ⟨F0, R0, start3 N.length ds, _, rfl, wd_start dj tb rd rfl rfl, hp ds Q' E' (by rw [← rd.length]; exact hl) hs, ?_⟩
    refine ⟨fun σ F R ρ w q => ?_, fun v d σ F R ρ w rv q => ?_, fun x cls od σ F R ρ w rx q => ?_, fun σ F R ρ w q => q.elim, fun σ F R ρ w q => q.elim⟩
    · obtain ⟨F', e, x1, d1⟩ := absorb w
      rw [e]
      exact kv.ok _ _ F' (w.ex.trans x1) d1 of_non q
    · obtain ⟨F', e, x1, d1⟩ := absorb w
      rw [e]
      exact kv.ok _ _ F' (w.ex.trans x1) d1 (Rep.ext x1 _ _ rv) q
    · obtain ⟨F', e, x1, d1⟩ := absorb w
      show E cls od (jn F R)
      rw [e]
      exact kx x cls od F' (w.ex.trans x1) d1 (rx.ext x1) q
end
end L3
namespace L3
open PySem PySem.Spec L2
open PyProof.Rows hiding St
section
variable {B : Bs} {X : Cx} {W : WX} {a b c e tg : Expr} {es rest : List Expr} {ra rb rc re : RE} {rt t1 : RT} {rs ri ri1 : RA} {g g1 : G3} {pos : Pos}
theorem ds_setLc2 {i : Nat} {y : Str} {py spos : Pos} {iter elt tg1 iter1 : Expr} {ifs ifs1 : List Expr} {scope : Scope} {own : List (Str × Nat)} {vs vs1 is js : List Nat} (hc : X.calm = true) (hN : X.N.Nodup) (hiN : X.N[i]? = some y) (hloc : X.env.scope.names.lookup y = some .local)
    (hsw : swapsWith (.ListComp elt [{ target := tg, iter := iter, ifs := ifs, is_async := 0 }, { target := tg1, iter := iter1, ifs := ifs1, is_async := 0 }] scope pos) (some (.Name y py)) spos.line X.env = pure true) (hi : DI B X W tg iter ri) (ok : BlkOk X.N X.env.scope scope own) (hv : ∀ i, i ∈ vs1 → i ∈ vs)
    (hg : ∀ (s : Shared) (H : Hp) (C : Addr) (cl : List (Str × Addr)) (fp : List Addr), DG B.T (X.blk s H scope (compEnvC scope cl C X.env) fp) is tg g)
    (ht : ∀ (s : Shared) (H : Hp) (C : Addr) (cl : List (Str × Addr)) (fp : List Addr), DTs B (X.blk s H scope (compEnvC scope cl C X.env) fp) W0 ifs rt)
    (hi1 : ∀ (s : Shared) (H : Hp) (C : Addr) (cl : List (Str × Addr)) (fp : List Addr), DI B (X.blk s H scope (compEnvC scope cl C X.env) fp) W0 tg1 iter1 ri1)
    (hg1 : ∀ (s : Shared) (H : Hp) (C : Addr) (cl : List (Str × Addr)) (fp : List Addr), DG B.T (X.blk s H scope (compEnvC scope cl C X.env) fp) js tg1 g1)
    (ht1 : ∀ (s : Shared) (H : Hp) (C : Addr) (cl : List (Str × Addr)) (fp : List Addr), DTs B (X.blk s H scope (compEnvC scope cl C X.env) fp) W0 ifs1 t1)
    (he : ∀ (s : Shared) (H : Hp) (C : Addr) (cl : List (Str × Addr)) (fp : List Addr), DE B (X.blk s H scope (compEnvC scope cl C X.env) fp) W0 elt re)
    (hsub : ∀ j ∈ is, j ∈ vs) (hsub1 : ∀ j ∈ js, j ∈ vs1) (hvs : own.map (·.2) = vs := by rfl) (hpn : X.pn = [] := by rfl) (hs : ∀ x, foldedSetIterable iter X.env x = pure x := by intro _; rfl) (hs1 : ∀ (env : Env) (x : Value), foldedSetIterable iter1 env x = pure x := by intro _ _; rfl) :
    DS B X W (.Assign [.Name y py] (.ListComp elt [{ target := tg, iter := iter, ifs := ifs, is_async := 0 }, { target := tg1, iter := iter1, ifs := ifs1, is_async := 0 }] scope pos) spos) (rSetL i (rComp2 ri g rt ri1 g1 t1 re vs vs1)) :=
  ds_setLT (ps_setLc2 hc hN hiN hloc hsw hi ok (by rw [hvs]; exact hv) (fun s H C cl fp => by have h := hg s H C cl fp; unfold DG at h; rw [kc_blk hpn] at h; exact h) (fun s H C cl fp => by have h := ht s H C cl fp; unfold DTs at h; rw [kc_blk hpn] at h; exact h)
    (fun s H C cl fp => by have h := hi1 s H C cl fp; unfold DI at h; rw [kc_blk hpn] at h; exact h) (fun s H C cl fp => by have h := hg1 s H C cl fp; unfold DG at h; rw [kc_blk hpn] at h; exact h) (fun s H C cl fp => by have h := ht1 s H C cl fp; unfold DTs at h; rw [kc_blk hpn] at h; exact h)
    (fun s H C cl fp => by have h := he s H C cl fp; unfold DE at h; rw [kc_blk hpn] at h; exact h) hs hs1) fun _ _ _ h => by rw [hvs]; exact lL_comp2 hsub hsub1 h
/-- a, b = x, y, both new lists -/
def rParLL (i j : Nat) (ra rb : RA) : RS := fun N ρ => (i < ρ.length ∧ j < ρ.length) ∧ ra ρ (fun ds => rb ρ (fun es => N.nx ((ρ.set i (.own ds)).set j (.own es))) N.ex) N.ex
theorem ds_parLL {i j : Nat} {x y : Str} {px py pt pt2 : Pos} {kt k2 : Nat} {r1 r2 : RA} (hc : X.calm = true) (hN : X.N.Nodup) (hi : X.N[i]? = some x) (hj : X.N[j]? = some y) (hij : i ≠ j) (hx : X.env.scope.names.lookup x = some .local) (hy : X.env.scope.names.lookup y = some .local) (ha : FE B X W a r1) (hb : FE B X W b r2)
    (hw : swappedStores [.Tuple [.Name x px, .Name y py] kt pt] (.Tuple [a, b] k2 pt2) X.env = pure (some [x, y])) (hs : swapsWithSole [.Tuple [.Name x px, .Name y py] kt pt] (.Tuple [a, b] k2 pt2) pos.line X.env = pure false := by rfl) (h1 : starEach [a, b] X.env = (false, eval a X.env) :: starEach [b] X.env := by rfl) (h2 : starEach [b] X.env = (false, eval b X.env) :: starEach [] X.env := by rfl) :
    DS B X W (.Assign [.Tuple [.Name x px, .Name y py] kt pt] (.Tuple [a, b] k2 pt2) pos) (rParLL i j r1 r2) := (ps_par hc hN hi hj hij hx hy (pa_cons ha (pa_cons hb pa_nil h2) h1) hw hs).imp fun D σ H ⟨F, R, ρ, N, hH, w, ⟨⟨li, lj⟩, q⟩, k⟩ => by
  subst hH
  refine ⟨F, R, ρ, _, _, rfl, w, q, fun p vs ds F1 x1 dj1 rv _ q1 hp => ?_, fun x cls od F' e dj rx q' => k.ex x cls od σ F' R ρ (w.ext e dj) rx q'⟩
  have np := jn_none hp
  rw [jn_updR np.1]
  have djp : Dj F1 (upd R p (.lst vs)) := dj1.updR np.1
  refine ⟨F1, upd R p (.lst vs), ρ, _, N.ex, rfl, (w.ext x1 dj1).inn np.2 djp, q1, fun p2 us es F2 x2 dj2 ru _ q2 hp2 => ?_, fun x cls od F' e dj rx q' => ?_⟩
  · obtain ⟨n2, d2⟩ := dj_down np.2 dj2
    have np2 := jn_none hp2
    refine ⟨.ref p, .ref p2, rfl, ?_⟩
    have w1 := (w.ext (x1.trans x2) d2).setN (Reps.ext x2 _ _ rv) (p := p) (by rw [jn_r n2]; exact np.2) i li
    have w2 := w1.setN ru (p := p2) hp2 j (by rw [List.length_set]; exact lj)
    rw [jn_updR np2.1]
    exact k.nx _ F2 _ _ w2 q2
  · obtain ⟨n2, d2⟩ := dj_down np.2 dj
    exact k.ex x cls od σ F' _ ρ ((w.ext (x1.trans e) d2).inn np.2 dj) rx q'
/-- len(x), x a list of one's own (or not) -/
def rLenO (i : Nat) : RE := fun ρ Q _ => match ρ[i]? with
  | some (.own ds) => Q (.int ds.length)
  | some (.val d) => gLen [d] Q
  | _ => False
theorem de_lenO {x : Str} {p p2 : Pos} {i : Nat} (hg : Gl X "len") (hm : X.mg "len" = none) (hv : PE X (.Name x p2) (tVar i)) (h1 : starEach [.Name x p2] X.env = (false, eval (.Name x p2) X.env) :: starEach [] X.env := by rfl) (hpl : (backTo pos (starEach [] X.env)).any (·.1) = false := by rfl) :
    DE B X W (.Call (.Name "len" p) [.Name x p2] [] pos) (rLenO i) :=
  (pe_callB call_len_seq hg hm (by decide +kernel) (pa_cons hv pa_nil h1) (by decide) (by decide) h1 hpl).imp fun σ H Q ⟨F, R, ρ, Q', E', hH, w, r, k⟩ => by
    subst hH
    unfold rLenO at r
    split at r
    · rename_i ds hd
      obtain ⟨a, vs, e1, e2, e3, _⟩ := w.own i ds hd
      refine ⟨_, e1, a, vs, rfl, .inl (.inl (.inl (jn_of_r w.dj e2).2)), ?_⟩
      rw [e3.length]
      exact k.ok _ _ F (.refl _) w.dj (of_int _) r
    · rename_i d hd
      obtain ⟨v, e1, rv⟩ := w.val i d hd
      refine ⟨v, e1, ?_⟩
      unfold gLen at r
      split at r
      · rename_i xs e
        cases e
        obtain ⟨a, vs, rfl, ha, ra⟩ := rep_tup rv
        refine ⟨a, vs, rfl, .inr (sq_t (K := kc B.T X) ha), ?_⟩
        rw [ra.length]
        exact k.ok _ _ F (.refl _) w.dj (of_int _) r
      · rename_i xs e
        cases e
        obtain ⟨a, vs, rfl, ha, ra⟩ := rep_lst rv
        refine ⟨a, vs, rfl, .inl (sq_l (K := kc B.T X) ha), ?_⟩
        rw [ra.length]
        exact k.ok _ _ F (.refl _) w.dj (of_int _) r
      · rename_i xs e
        cases e
        obtain ⟨a, rfl, ha⟩ := rep_scr rv
        refine ⟨a, _, rfl, .inl (sq_s (K := kc B.T X) ha), ?_⟩
        rw [List.length_map]
        exact k.ok _ _ F (.refl _) w.dj (of_int _) r
      · exact r.elim
    · exact r.elim
/-- x.append(y.pop(e)), x and y lists of one's own -/
def rAppPop (i j : Nat) (re : RE) : RS := fun N ρ => match ρ[i]?, ρ[j]? with
  | some (.own ds), some (.own es) => re ρ (fun d => match d with
    | .int k => (-(2 ^ 63) ≤ k ∧ k < 2 ^ 63) ∧ ds.length < sizeLine ∧ ∃ n y, seqIndex? k es.length = some n ∧ es[n]? = some y ∧ N.nx ((ρ.set j (.own (es.eraseIdx n))).set i (.own (ds ++ [y])))
    | _ => False) N.ex
  | _, _ => False
theorem Reps.erase {K : KC} {F : Hp} : ∀ {ds : List D} {vs : List V} (n : Nat), Reps K F vs ds → Reps K F (vs.eraseIdx n) (ds.eraseIdx n)
  | [], vs, n, h => by rw [reps_nil h]; simp [Reps]
  | d :: ds, vs, 0, h => by
    obtain ⟨v, r, rfl, h1, h2⟩ := reps_cons h
    exact h2
  | d :: ds, vs, n + 1, h => by
    obtain ⟨v, r, rfl, h1, h2⟩ := reps_cons h
    exact Reps.cons h1 (Reps.erase n h2)
theorem ds_appPop {i j : Nat} {x y : Str} {p ap cp p2 ap2 cp2 : Pos} (hij : i ≠ j) (hv : PE X (.Name x p) (tVar i)) (hv2 : PE X (.Name y p2) (tVar j)) (he : DE B X W e re)
    (hpl2 : ((backTo cp2 (starEach (e :: []) X.env)).all (fun x => !x.1) && (backToKw cp2 (keywordEach [] X.env)).all (fun x => x.1.isSome) && decide ((e :: []).length + ([] : List Keyword).length + (if ([] : List Keyword).isEmpty then 0 else 1) < 30)) = true := by rfl)
    (h02 : attributeBase (.Name y p2) "pop" X.env (eval (.Name y p2) X.env) = eval (.Name y p2) X.env := by rfl) (h12 : (ap2.endLine == cp2.line) = true := by rfl) (h22 : starEach (e :: []) X.env = (false, eval e X.env) :: starEach [] X.env := by rfl) (h32 : (backTo cp2 (starEach [] X.env)).any (·.1) = false := by rfl)
    (hpl : ((backTo cp (starEach (.Call (.Attribute (.Name y p2) "pop" ap2) [e] [] cp2 :: []) X.env)).all (fun x => !x.1) && (backToKw cp (keywordEach [] X.env)).all (fun x => x.1.isSome) && decide ((.Call (.Attribute (.Name y p2) "pop" ap2) [e] [] cp2 :: ([] : List Expr)).length + ([] : List Keyword).length + (if ([] : List Keyword).isEmpty then 0 else 1) < 30)) = true := by rfl)
    (h0 : attributeBase (.Name x p) "append" X.env (eval (.Name x p) X.env) = eval (.Name x p) X.env := by rfl) (h1 : (ap.endLine == cp.line) = true := by rfl) (h2 : starEach (.Call (.Attribute (.Name y p2) "pop" ap2) [e] [] cp2 :: []) X.env = (false, eval (.Call (.Attribute (.Name y p2) "pop" ap2) [e] [] cp2) X.env) :: starEach [] X.env := by rfl) (h3 : (backTo cp (starEach [] X.env)).any (·.1) = false := by rfl)
    (hs : swapsWith (.Call (.Attribute (.Name x p) "append" ap) [.Call (.Attribute (.Name y p2) "pop" ap2) [e] [] cp2] [] cp) none pos.line X.env = pure false := by rfl) :
    DS B X W (.Expr (.Call (.Attribute (.Name x p) "append" ap) [.Call (.Attribute (.Name y p2) "pop" ap2) [e] [] cp2] [] cp) pos) (rAppPop i j re) :=
  (ps_expr (pe_bm PySem.F.plainAttrs_list PySem.F.slot_list_append PySem.F.type_list_append mt_append hv (pa_cons (pe_bm PySem.F.plainAttrs_list PySem.F.slot_list_pop PySem.F.type_list_pop mt_popAt hv2 (pa_cons he pa_nil h22) h02 hpl2 h12 h22 h32) pa_nil h2) h0 hpl h1 h2 h3) hs).imp fun D σ H ⟨F, R, ρ, N, hH, w, q, k⟩ => by
    subst hH
    unfold rAppPop at q
    split at q
    · rename_i ds es hi hj
      obtain ⟨l, vs, e1, e2, e3, e4⟩ := w.own i ds hi
      obtain ⟨m, us, f1, f2, f3, f4⟩ := w.own j es hj
      have nlm : m ≠ l := fun z => by rw [z] at f1; exact hij (w.sep i j l _ _ hi hj e1 f1)
      refine ⟨_, e1, .inl ⟨rfl, vs, .of (jn_of_r w.dj e2).2⟩, ?_⟩
      refine ⟨_, f1, .inl ⟨rfl, us, .of (jn_of_r w.dj f2).2⟩, ?_⟩
      refine k.lf w q fun v d F' x w' rv q' => ?_
      cases d with
      | int t =>
        obtain ⟨hb, hl, n, y, hn, hy, q2⟩ := q'
        obtain ⟨l', vs', g1, g2, g3, g4⟩ := w'.own i ds hi
        rw [e1] at g1
        cases g1
        rw [e2] at g2
        cases g2
        obtain ⟨m', us', g5, g6, g7, g8⟩ := w'.own j es hj
        rw [f1] at g5
        cases g5
        rw [f2] at g6
        cases g6
        obtain ⟨u, hu, ru⟩ := g7.get hy
        refine ⟨m, us, t, n, u, rfl, by rw [rep_int rv], (jn_of_r w'.dj f2).2, hb.1, hb.2, by rw [g7.length]; exact hn, hu, ?_⟩
        have w1 := w'.chg hj f1 (Reps.erase n g7)
        rw [upd_own w' f2]
        have hi1 : (ρ.set j (.own (es.eraseIdx n)))[i]? = some (.own ds) := by rw [List.getElem?_set_ne (Ne.symm hij)]; exact hi
        have w2 := w1.chg hi1 e1 (Reps.append g3 (Reps.cons ru Reps.nil))
        have e2' : upd R m (.lst (us.eraseIdx n)) l = some (.lst vs) := by rw [upd_ne (Ne.symm nlm)]; exact e2
        refine ⟨l, vs, u, rfl, rfl, (jn_of_r w1.dj e2').2, by rw [g3.length]; exact hl, ?_⟩
        rw [upd_own w1 e2']
        exact k.nx _ F' _ _ w2 q2
      | _ => exact (show False from q').elim
    · exact q.elim
end
end L3
namespace L3
open PySem PySem.Spec L2
open PyProof.Rows hiding St
section
variable {B : Bs} {X : Cx} {W : WX} {e : Expr} {st : Stmt} {re : RE} {pos : Pos}
/-- code that is not reached -/
def rNever {α : Type} : RG α := fun _ _ _ => False
theorem de_never : DE B X W e rNever := ⟨fun _ _ _ _ _ _ ⟨_, _, _, _, _, _, _, r, _⟩ => r.elim⟩
def rNeverS : RS := fun _ _ => False
theorem ds_never : DS B X W st rNeverS := ⟨fun _ _ _ _ _ _ ⟨_, _, _, _, _, _, r, _⟩ => r.elim⟩
def rSelfC (i : Nat) (c f : Str) (re : RE) : RS := fun N ρ => (match ρ[i]? with | some (.obj c' _ _) => c' = c | _ => False) ∧ rSelf i f re N ρ
theorem ds_selfC {i : Nat} {c f x : Str} {p p' : Pos} (Y : FldOk X.K X.mg c f) (hv : PE X (.Name x p) (tVar i)) (he : DE B X W e re) (hs : swapsWith e (some (.Attribute (.Name x p) f p')) pos.line X.env = pure false := by rfl) :
    DS B X W (.Assign [.Attribute (.Name x p) f p'] e pos) (rSelfC i c f re) := ds_self Y hv he hs
end
theorem lE_chain {B : Bs} {W : WX} {K : KC} {g g' : G2} {ra rb rc : RE} {σ : St} {H : Hp} {Q : VK} (h : lE K B W (rChain g g' ra rb rc) σ H Q) : tChain (l2 K g) (l2 K g') (lE K B W ra) (lE K B W rb) (lE K B W rc) σ H Q := by
  refine lf_then (k := fun d ρ Q E => rb ρ (fun e => g d e (toB fun k => match k with
    | true => rc ρ (fun f => g' e f Q) E
    | false => Q (.bl false))) E) h fun v d F R ρ Q' E' w rv q k => ?_
  refine ⟨F, R, ρ, _, E', rfl, w, q, fun u e F1 x1 dj1 ru q1 => ?_, k.ex⟩
  refine ⟨F1, R, d, e, _, rfl, dj1, Rep.ext x1 _ _ rv, ru, q1, ⟨fun z dz F2 x2 dj2 rz q2 => ?_⟩⟩
  cases dz with
  | bl kk =>
    refine ⟨kk, rep_bl rz, ?_⟩
    cases kk with
    | true =>
      rw [if_pos rfl]
      exact ⟨F2, R, ρ, _, E', rfl, w.ext (x1.trans x2) dj2, q2, fun y f F3 x3 dj3 ry q3 => ⟨F3, R, e, f, Q', rfl, dj3, Rep.ext (x2.trans x3) _ _ ru, ry, q3, (((k.ext x1).ext x2).ext x3).kv⟩, ((k.ext x1).ext x2).ex⟩
    | false =>
      rw [if_neg (by simp)]
      exact k.ok _ _ F2 (x1.trans x2) dj2 (of_bl _) q2
  | _ => exact (show False from q2).elim
theorem dt_chain {B : Bs} {X : Cx} {W : WX} {a b c : Expr} {pos : Pos} {op op' : CmpOp} {g g' : G2} {ra rb rc : RE} (ho : Op2 X (compareOp op) g) (ho' : Op2 X (compareOp op') g') (ha : DE B X W a ra) (hb : DE B X W b rb) (hc : DE B X W c rc) (hl : lastMarks [op, op'] [b, c] = false := by rfl) : DT B X W (.Compare a [op, op'] [b, c] pos) (rTV (rChain g g' ra rb rc)) :=
  (pt_chain (ho B.T) (ho' B.T) ha hb hc hl).imp fun σ H Q ⟨F, R, ρ, Q', E', hH, w, r, k⟩ => by
    subst hH
    show tChain (l2 (kc B.T X) g) (l2 (kc B.T X) g') (lE (kc B.T X) B W ra) (lE (kc B.T X) B W rb) (lE (kc B.T X) B W rc) σ _ _
    refine lE_chain ⟨F, R, ρ, _, E', rfl, w, r, fun v d F' x dj rv q => ?_, k.ex⟩
    cases d with
    | bl b => exact ⟨b, by simpa [Rep] using rv, k.ok b b F' x dj rfl q⟩
    | _ => exact (show False from q).elim
section
variable {B : Bs} {X : Cx} {W : WX} {a : Expr} {ra : RE} {pos : Pos}
theorem dt_isN {j : Nat} {p : Pos} (h : DE B X W a ra) : DT B X W (.Compare a [.Is] [.Constant .none j p] pos) (rTV (rIsN ra)) := (pt_cmp (pc_isN h) (nobehind _ (by decide) (by decide))).imp fun σ H Q ⟨F, R, ρ, Q', E', hH, w, q, k⟩ => by
  subst hH
  exact ⟨F, R, ρ, _, E', rfl, w, q, fun v d F' x dj rv q' => ⟨_, rfl, k.ok _ _ F' x dj (isNon_rep rv) q'⟩, k.ex⟩
theorem dt_isnotN {j : Nat} {p : Pos} (h : DE B X W a ra) : DT B X W (.Compare a [.IsNot] [.Constant .none j p] pos) (rTV (rIsNotN ra)) := (pt_cmp (pc_notN h) (nobehind _ (by decide) (by decide))).imp fun σ H Q ⟨F, R, ρ, Q', E', hH, w, q, k⟩ => by
  subst hH
  exact ⟨F, R, ρ, _, E', rfl, w, q, fun v d F' x dj rv q' => ⟨_, rfl, k.ok _ _ F' x dj (by rw [isNon_rep rv]) q'⟩, k.ex⟩
theorem dt_isB {bv : Bool} {j : Nat} {p : Pos} (h : DE B X W a ra) : DT B X W (.Compare a [.Is] [.Constant (.bool bv) j p] pos) (rTV (rIsB bv ra)) := (pt_cmpR op_isAny h pe_bl (nobehind _ (by decide) (by decide))).imp fun σ H Q ⟨F, R, ρ, Q', E', hH, w, q, k⟩ => by
  subst hH
  exact ⟨F, R, ρ, _, E', rfl, w, q, fun v d F' x dj rv q' => ⟨bv, rfl, _, rfl, k.ok _ _ F' x dj (isBl_rep rv) q'⟩, k.ex⟩
end
theorem RoomP.units {g : Bool} {k : Nat} {A : Around} (r : RoomP g k A) : A.units + 64 < cLine := by have := r.rh.un; omega
end L3
namespace L3
open PySem PySem.Spec L2
open PyProof.Rows hiding St
/-! ### loops over data -/
theorem for_inv {i : Nat} {body : RS} {N : En3} (I : List D → Env3 → Prop)
    (hstep : ∀ d ds ρ (K : Env3 → Prop), I (d :: ds) ρ → (∀ ρ', I ds ρ' → K ρ') → body { N with nx := K, ct := K, bk := N.nx } (ρ.set i (.val d)))
    (hend : ∀ ρ, I [] ρ → N.nx ρ) : ∀ (ds : List D) (ρ : Env3), I ds ρ → forL (g3N i) body N ds ρ
  | [], ρ, h => hend ρ h
  | d :: ds, ρ, h => hstep d ds ρ _ h fun ρ' h' => for_inv I hstep hend ds ρ' h'
theorem comp_fm {i : Nat} {t : RT} {re : RE} {vs : List Nat} {ρ : Env3} {Q : List D → Prop} {p : D → Bool} {f : D → D} : ∀ (ds acc : List D),
    (∀ d ∈ ds, (∀ (K : Bool → Prop), K (p d) → t ((wipe3 ρ vs).set i (.val d)) K fun _ => False) ∧ (p d = true → ∀ (K : D → Prop), K (f d) → re ((wipe3 ρ vs).set i (.val d)) K fun _ => False)) →
    Q (acc ++ (ds.filter p).map f) → compL (g3N i) t re vs ρ Q ds acc
  | [], acc, _, q => by simpa [compL] using q
  | d :: ds, acc, h, q => by
    obtain ⟨h1, h2⟩ := h d (by simp)
    refine h1 _ ?_
    cases e : p d with
    | true =>
      refine h2 e _ ?_
      refine comp_fm ds _ (fun x hx => h x (by simp [hx])) ?_
      rw [List.filter_cons_of_pos e] at q
      simpa using q
    | false =>
      refine comp_fm ds _ (fun x hx => h x (by simp [hx])) ?_
      rw [List.filter_cons_of_neg (by simp [e])] at q
      exact q
theorem comp_map {i : Nat} {re : RE} {vs : List Nat} {ρ : Env3} {Q : List D → Prop} {f : D → D} (ds : List D) (h : ∀ d ∈ ds, ∀ (K : D → Prop), K (f d) → re ((wipe3 ρ vs).set i (.val d)) K fun _ => False)
    (q : Q (ds.map f)) : compL (g3N i) (rC true) re vs ρ Q ds [] :=
  comp_fm (p := fun _ => true) ds [] (fun d hd => ⟨fun K k => k, fun _ => h d hd⟩) (by rw [List.filter_eq_self.mpr (by simp)]; exact q)
theorem compZ_fm {i : Nat} {t : RT} {re : RE} {vs : List Nat} {ρ : Env3} {Q : List D → Prop} {p : D → Bool} {f : D → D} : ∀ (ds acc : List D), acc.length + ds.length ≤ sizeLine →
    (∀ d ∈ ds, (∀ (K : Bool → Prop), K (p d) → t ((wipe3 ρ vs).set i (.val d)) K fun _ => False) ∧ (p d = true → ∀ (K : D → Prop), K (f d) → re ((wipe3 ρ vs).set i (.val d)) K fun _ => False)) →
    Q (acc ++ (ds.filter p).map f) → compZ (g3N i) t re vs ρ Q ds acc
  | [], acc, _, _, q => by simpa [compZ] using q
  | d :: ds, acc, hl, h, q => by
    obtain ⟨h1, h2⟩ := h d (by simp)
    simp only [List.length_cons] at hl
    refine h1 _ ?_
    cases e : p d with
    | true =>
      refine h2 e _ ⟨by omega, ?_⟩
      refine compZ_fm ds _ (by simp; omega) (fun x hx => h x (by simp [hx])) ?_
      rw [List.filter_cons_of_pos e] at q
      simpa using q
    | false =>
      refine compZ_fm ds _ (by omega) (fun x hx => h x (by simp [hx])) ?_
      rw [List.filter_cons_of_neg (by simp [e])] at q
      exact q
/-- for d in ds for y in es(d) if p1 -/
theorem comp2_fm {i j : Nat} {ri1 : RA} {t1 : RT} {re : RE} {vs vs1 : List Nat} {ρ : Env3} {Q : List D → Prop} {es : D → List D} {p : D → D → Bool} {f : D → D → D} : ∀ (ds acc : List D), acc.length + (ds.map fun d => (es d).length).sum ≤ sizeLine →
    (∀ d ∈ ds, (∀ (K : List D → Prop), K (es d) → ri1 ((wipe3 ρ vs).set i (.val d)) K fun _ => False) ∧
      ∀ y ∈ es d, (∀ (K : Bool → Prop), K (p d y) → t1 ((wipe3 ((wipe3 ρ vs).set i (.val d)) vs1).set j (.val y)) K fun _ => False) ∧ (p d y = true → ∀ (K : D → Prop), K (f d y) → re ((wipe3 ((wipe3 ρ vs).set i (.val d)) vs1).set j (.val y)) K fun _ => False)) →
    Q (acc ++ ds.flatMap fun d => ((es d).filter (p d)).map (f d)) → comp2L (g3N i) (rC true) ri1 (g3N j) t1 re vs vs1 ρ Q ds acc
  | [], acc, _, _, q => by simpa [comp2L] using q
  | d :: ds, acc, hl, h, q => by
    obtain ⟨h1, h2⟩ := h d (by simp)
    simp only [List.map_cons, List.sum_cons] at hl
    show ri1 ((wipe3 ρ vs).set i (.val d)) _ _
    refine h1 _ ?_
    refine compZ_fm (p := p d) (f := f d) _ _ (by omega) h2 ?_
    refine comp2_fm ds _ ?_ (fun x hx => h x (by simp [hx])) ?_
    · have := List.length_filter_le (p d) (es d)
      simp only [List.length_append, List.length_map]
      omega
    · rw [List.flatMap_cons] at q
      simpa using q
/-- .. where each item is one of many -/
theorem comp_dem {i : Nat} {re : RE} {vs : List Nat} {ρ : Env3} {Q : List D → Prop} {P : D → Prop} : ∀ (ds acc : List D), (∀ d ∈ ds, ∀ (K : D → Prop), (∀ y, P y → K y) → re ((wipe3 ρ vs).set i (.val d)) K fun _ => False) →
    (∀ ys : List D, ys.length = ds.length → (∀ y ∈ ys, P y) → Q (acc ++ ys)) → compL (g3N i) (rC true) re vs ρ Q ds acc
  | [], acc, _, q => by simpa [compL] using q [] rfl (by simp)
  | d :: ds, acc, h, q => by
    refine h d (by simp) _ fun y py => ?_
    refine comp_dem ds _ (fun x hx => h x (by simp [hx])) fun ys hl hy => ?_
    have := q (y :: ys) (by simp [hl]) (by
      intro z hz
      rcases (List.mem_cons.mp hz) with rfl | hz
      · exact py
      · exact hy z hz)
    simpa using this
theorem rangeD_len {lo : Int} {n : Nat} : (rangeD lo n).length = n := by simp [rangeD]
/-! ### plain data -/
mutual
def plD : D → Bool
  | .tup xs => decide (xs.length ≤ 65536) && plDs xs
  | .lst xs => decide (xs.length ≤ 65536) && plDs xs
  | .scr _ => false
  | .pen => false
  | .ins _ _ => false
  | .exc _ _ => false
  | _ => true
def plDs : List D → Bool
  | [] => true
  | d :: ds => plD d && plDs ds
end
theorem plDs_mem : ∀ {ds : List D}, plDs ds = true → ∀ d ∈ ds, plD d = true
  | [], _, d, h => by cases h
  | x :: ds, h, d, hd => by
    unfold plDs at h
    obtain ⟨h1, h2⟩ := Bool.and_eq_true_iff.mp h
    rcases (List.mem_cons.mp hd) with rfl | hd
    · exact h1
    · exact plDs_mem h2 d hd
theorem plDs_of : ∀ {ds : List D}, (∀ d ∈ ds, plD d = true) → plDs ds = true
  | [], _ => rfl
  | x :: ds, h => by
    unfold plDs
    rw [h x (by simp), plDs_of fun d hd => h d (by simp [hd])]
    rfl
theorem plD_tup {xs : List D} (h : plD (.tup xs) = true) : xs.length ≤ 65536 ∧ ∀ d ∈ xs, plD d = true := by
  unfold plD at h
  obtain ⟨h1, h2⟩ := Bool.and_eq_true_iff.mp h
  exact ⟨of_decide_eq_true h1, plDs_mem h2⟩
theorem plD_lst {xs : List D} (h : plD (.lst xs) = true) : xs.length ≤ 65536 ∧ ∀ d ∈ xs, plD d = true := by
  unfold plD at h
  obtain ⟨h1, h2⟩ := Bool.and_eq_true_iff.mp h
  exact ⟨of_decide_eq_true h1, plDs_mem h2⟩
theorem plD_mkt {xs : List D} (h1 : xs.length ≤ 65536) (h2 : ∀ d ∈ xs, plD d = true) : plD (.tup xs) = true := by
  unfold plD
  rw [decide_eq_true h1, plDs_of h2]
  rfl
theorem plD_mkl {xs : List D} (h1 : xs.length ≤ 65536) (h2 : ∀ d ∈ xs, plD d = true) : plD (.lst xs) = true := by
  unfold plD
  rw [decide_eq_true h1, plDs_of h2]
  rfl
theorem plD_noIns {d : D} (h : plD d = true) : noIns d = true := by
  cases d <;> first | rfl | (simp [plD] at h)
/-- a test's two ways -/
theorem mb {b : Bool} {P1 P0 : Prop} (h1 : b = true → P1) (h0 : b = false → P0) : Bool.rec (motive := fun _ => Prop) P0 P1 b := by
  cases b
  · exact h0 rfl
  · exact h1 rfl
theorem mbT {b : Bool} {P1 P0 : Prop} (e : b = true) (h1 : P1) : Bool.rec (motive := fun _ => Prop) P0 P1 b := by rw [e]; exact h1
theorem mbF {b : Bool} {P1 P0 : Prop} (e : b = false) (h0 : P0) : Bool.rec (motive := fun _ => Prop) P0 P1 b := by rw [e]; exact h0
theorem nbF {b : Bool} (h : (!b) = false) : b = true := by
  cases b
  · cases h
  · rfl
theorem nbT {b : Bool} (h : (!b) = true) : b = false := by
  cases b
  · rfl
  · cases h
theorem nbD {p : Prop} [Decidable p] (h : (!decide p) = false) : p := of_decide_eq_true (nbF h)
theorem nbN {p : Prop} [Decidable p] (h : (!decide p) = true) : ¬ p := of_decide_eq_false (nbT h)
theorem le_size {n : Nat} (h : n ≤ 65536) : n ≤ sizeLine := Nat.le_trans h (by decide)
end L3
namespace L3
open PySem PySem.Spec L2
open PyProof.Rows hiding St
/-! ### defs that know that nothing guards -/
structure RoomG (k : Nat) (A : Around) : Prop where
  rm : Room k A
  gd : A.guards = some []
theorem RoomG.mono {j k : Nat} {A : Around} (r : RoomG k A) (h : j ≤ k) : RoomG j A := ⟨r.rm.mono h, r.gd⟩
theorem RoomG.deeper {k : Nat} {A : Around} (r : RoomG (k + 1) A) (env : Env) : RoomG k (A.deeper env) := ⟨r.rm.deeper env, r.gd⟩
theorem RoomG.units {k : Nat} {A : Around} (r : RoomG k A) : A.units + 64 < cLine := r.rm.units
structure FnG (P : Program) (w : World) (K : PySem.W.Frag) (mg : Str → Option Value) (base : Heap) (k : Nat) (f : Addr) (fd : FuncData) (ps : List Str) (sp : Sp) : Prop where
  len :  ∀ vs H Q E, sp vs H Q E → vs.length = ps.length
  run : ∀ {A : Around} {outer : List Env} {s : Shared} {H : Hp} {args : Args} {us : List Value} {vs : List V} {Q : VK} {E : XK}, RoomG k A → Env0 P w K mg base A outer s H → BindsTo s fd args (ps.zip us) → Vals vs us → sp vs H Q E →
    codeAny (model P w) A (.call (.ref f) args) (CR (L2.CX P w) outer P w H s Q E) s
section
variable {P : Program} {w : World} {K : PySem.W.Frag} {mg : Str → Option Value} {base : Heap} {T : List (Addr × Str)}
theorem FnG.of {k : Nat} {f : Addr} {fd : FuncData} {ps : List Str} {sp : Sp} (G : FnOk P w K mg base (L2.CX P w) k f fd ps sp) : FnG P w K mg base k f fd ps sp := ⟨G.len, fun r e b v h => G.run _ _ _ _ _ _ _ _ _ r.rm e b v h⟩
theorem fnG {x qual : Str} {st : Stmt} {f : Addr} {fd : FuncData} {N ps : List Str} {k n : Nat} {sp : Sp3} {r : RS} (Fu : Fun K x qual st f fd) (S : FnScope N ps (defScope st)) (hn : ps.length = n)
    (hbody : ∀ (A : Around) (outer : List Env) (s : Shared) (H : Hp) (E : XK) (B : Bs), B.T = T → RoomG k (A.deeper (envOfC qual (defScope st) s.heap.objs.size f fd.code)) → Takes (cxOf (L2.CX P w) P w K mg base N qual (defScope st) f fd.code A outer s H E) (WD E) →
      DSs B (cxOf (L2.CX P w) P w K mg base N qual (defScope st) f fd.code A outer s H E) (WD E) (defBody st) r)
    (hp : ∀ (ds : List D) (Q : D → Prop) (E : XD → Prop), ds.length = n → sp ds Q E → r { nx := fun _ => Q .non, rt := Q, ex := E } (start3 N.length ds)) :
    FnG P w K mg base (k + 1) f fd ps (lSp ⟨K, cmOf mg, [], T⟩ n sp) := by
  obtain ⟨oc, od, kV, doc, pm, an, cdv, ct, osl, rfl, lk, hcd⟩ := Fu.ex
  have len : ∀ vs H Q E, lSp ⟨K, cmOf mg, [], T⟩ n sp vs H Q E → vs.length = ps.length := fun vs H Q E h => by
    obtain ⟨_, _, _, _, _, _, _, _, _, hl, _⟩ := h
    rw [hl, hn]
  refine ⟨len, fun {A outer s H args us vs Q E} rg e0 bd rv h => LamX.run_ofS lk hcd S rg.rm e0 bd rv (len _ _ _ _ h) fun _ => ?_⟩
  obtain ⟨F0, R0, ds, Q', E', rfl, dj, tb, rd, hl, hs, kv, kx⟩ := h
  have tk : Takes (cxOf (L2.CX P w) P w K mg base N qual (defScope st) f cdv A outer s (jn F0 R0) E) (WD E) := takes_of rfl rfl rfl rfl
  refine ⟨_, hbody A outer s (jn F0 R0) E ⟨F0, R0, T⟩ rfl (rg.deeper _) tk, ?_⟩
  refine ⟨F0, R0, start3 N.length ds, _, rfl, wd_start dj tb rd rfl rfl, hp ds Q' E' (by rw [← rd.length]; exact hl) hs, ?_⟩
  refine ⟨fun σ F R ρ w q => ?_, fun v d σ F R ρ w rv q => ?_, fun x cls od σ F R ρ w rx q => ?_, fun σ F R ρ w q => q.elim, fun σ F R ρ w q => q.elim⟩
  · obtain ⟨F', e, x1, d1⟩ := absorb w
    rw [e]
    exact kv.ok _ _ F' (w.ex.trans x1) d1 of_non q
  · obtain ⟨F', e, x1, d1⟩ := absorb w
    rw [e]
    exact kv.ok _ _ F' (w.ex.trans x1) d1 (Rep.ext x1 _ _ rv) q
  · obtain ⟨F', e, x1, d1⟩ := absorb w
    show E cls od (jn F R)
    rw [e]
    exact kx x cls od F' (w.ex.trans x1) d1 (rx.ext x1) q
end
section
variable {B : Bs} {X : Cx} {W : WX} {e : Expr} {es : List Expr} {rs : RA} {pos : Pos}
theorem de_callG {x : Str} {p : Pos} {k n : Nat} {f : Addr} {fd : FuncData} {ps : List Str} {sp : Sp3} (G : FnG X.prog X.w X.K X.mg X.base k f fd ps (lSp (kc B.T X) n sp)) (hr : RoomG k X.A) (hg : Gl X x) (hm : X.mg x = some (.ref f)) (hk : PySem.W.keepIn X.K (.ref f) = true) (hb : Binds X.K fd ps []) (tk : Takes X W)
    (ha : DA B X W (e :: es) rs) (hd : (x == ("__debug__" : Str)) = false := by decide)
    (he : starEach (e :: es) X.env = (false, eval e X.env) :: starEach es X.env := by rfl) (hpl : (backTo pos (starEach es X.env)).any (·.1) = false := by rfl) : DE B X W (.Call (.Name x p) (e :: es) [] pos) (rCall n sp rs) := by
  refine ⟨fun pins s σ H Q I h =>  ?_⟩
  have h2 : lA (kc B.T X) B W rs σ H (fun vs H1 => lSp (kc B.T X) n sp vs H1 Q (WE W σ)) := by
    refine lf_then (k := fun ds _ Q E => ds.length = n ∧ sp ds Q E) h fun vs ds F R ρ Q' E' w rv q k => ?_
    exact ⟨F, R, ds, Q', E', rfl, w.dj, w.tb, rv, by rw [rv.length]; exact q.1, q.2, k.kv, k.ex⟩
  refine wpAny_Call_Name_kw (ld_glob I (hg) (hm) ?_ hd)
  refine PySem.W.callWith_K (h₀ := X.base) I.ok.mod.kin hk (thn (ha.run pos pins s σ H _ I h2) fun us s1 ⟨vs, H1, I1, rv, q1⟩ => ⟨I1.kIn, ?_⟩) he hpl
  have bd := hb s1 us I1.kIn (by rw [List.append_nil, ← rv.length]; exact G.len _ _ _ _ q1)
  rw [List.append_nil] at bd
  refine wpAny_call (codeAny_mono (G.run (args := ⟨us, []⟩) hr I1.env0 bd rv q1) fun r s2 hq => ?_)
  cases r with
  | error er => exact passAt tk σ pins H1 s1 er s2 I1 hq
  | ok fl =>
    cases fl with
    | ret u => exact I1.after hq
    | next => exact hq.elim
    | brk => exact hq.elim
    | cont => exact hq.elim
end
end L3
namespace L3
open PySem PySem.Spec L2
open PyProof.Rows hiding St
/-- the end of a law whose defs know that nothing guards: the call at callerA -/
theorem law_callG {P : Program} {w : World} {K : PySem.W.Frag} {mg mb : Str → Option Value} {k : Nat} {fa a : Addr} {cs : List (Addr × Addr)} {fd : FuncData} {x : Str} {sp : Sp} {s₁ : Shared} {vs : List Value} {ns : List Int}
    (KX :  K.In s₁.heap) (hns : s₁.heap.Ns mainGlobals mg) (hb : s₁.heap.Ns builtinsNs mb) (hbb : ∀ x : Str, x ≠ "__name__" → mb x = bootBuiltins x) (hlim : s₁.heap.NoLimit) (hg : s₁.gens = #[])
    (hT :  ∀ p ∈ cs, s₁.heap.get? p.2 = some { cls := .none, data := .fields #[] }) (nT : ∀ p ∈ cs, K.lookup p.2 = none) (C : ∀ p ∈ cs, PySem.W.CodeHd s₁.heap p.1 p.2)
    (hbm :  ∃ (bm : Addr) (ob : Obj), mg "__builtins__" = some (.ref bm) ∧ bm ≠ builtinsNs ∧ s₁.heap.get? bm = some ob ∧ ob.cls = .type "module" ∧ ob.dict = some builtinsNs ∧ ob.data = .plain)
    (ha : s₁.heap.get? a = some { cls := .type "list", data := .seq vs.toArray }) (hi : IntsAre vs ns) (hl : ns.length ≤ sizeLine) (hr : RoomG k callerA)
    (F : ∀ base : Heap, K.In base → base.Ns mainGlobals mg → (∀ p ∈ cs, LamX.TabB base mg p.1 p.2) → FnG P w K mg base k fa fd [x] sp) (hbind : ∀ (s : Shared) (u : Value), BindsTo s fd ⟨[u], []⟩ [(x, u)])
    (hsp : ∀ H : Hp, (∀ p ∈ cs, H p.2 = some (.tbl #[])) → SqL K H a (ns.map V.int) → sp [.ref a] H (fun v _ => v = .bl true) fun _ _ _ => False) :
    codeAny (model P w) callerA (.call (.ref fa) ⟨[.ref a], []⟩) (fun r s' => r = .ok (.ret (.bool true)) ∧ OldK s₁.heap s'.heap ∧ s'.os = s₁.os ∧ AllBare s'.gens) s₁ :=  by
  have rvs := vals_ints hi
  let lo : Obj := { cls := .type "list", data := .seq vs.toArray }
  let tb : List Addr := cs.map (·.2)
  let H : Hp := fun b => if b ∈ tb then some (.tbl #[]) else if b = a ∧ K.lookup a = none then some (.frz lo (.lst (ns.map V.int))) else none
  have tAt : ∀ b ∈ tb, s₁.heap.get? b = some { cls := .none, data := .fields #[] } := fun b hm => by
    obtain ⟨p, hp, rfl⟩ := List.mem_map.mp hm
    exact hT p hp
  have tIn : ∀ p ∈ cs, p.2 ∈ tb := fun p hp => List.mem_map.mpr ⟨p, hp, rfl⟩
  have H1 : ∀ b ∈ tb, H b = some (.tbl #[]) := fun b hm => if_pos hm
  have H2 : ∀ b u, H b = some u → (b ∈ tb ∧ u = .tbl #[]) ∨ (b ∉ tb ∧ b = a ∧ K.lookup a = none ∧ u = .frz lo (.lst (ns.map V.int))) := fun b u h => by
    by_cases m : b ∈ tb
    · rw [H1 b m] at h
      exact .inl ⟨m, (Option.some.inj h).symm⟩
    · have h' := (if_neg m).symm.trans h
      by_cases c : b = a ∧ K.lookup a = none
      · rw [if_pos c] at h'
        exact .inr ⟨m, c.1, c.2, (Option.some.inj h').symm⟩
      · rw [if_neg c] at h'
        cases h'
  have free : ∀ b o, s₁.heap.get? b = some o → o.data ≠ .fields #[] → o ≠ lo → H b = none := fun b o e n1 n2 => by
    cases q : H b with
    | none => rfl
    | some u =>
      rcases H2 b u q with ⟨m, _⟩ | ⟨_, rfl, _⟩
      · rw [tAt b m] at e
        cases e
        exact absurd rfl n1
      · rw [ha] at e
        cases e
        exact absurd rfl n2
  have low : ∀ b o, s₁.heap.get? b = some o → o.data ≠ .fields #[] → o ≠ lo → (hidT s₁.heap H).get? b = some o := fun b o e n1 n2 => hidT_get e (free b o e n1 n2)
  have nsL : ∀ {b : Addr} {m : Str → Option Value}, s₁.heap.Ns b m → (hidT s₁.heap H).Ns b m := fun {b m} ⟨o, es, ep, e, d, r⟩ => ⟨o, es, ep, low b o e (fun z => by rw [d] at z; cases z) (fun z => by rw [z] at d; cases d), d, r⟩
  have kin : K.In (hidT s₁.heap H) := fun b o e => hidT_get (KX b o e) (by
    cases q : H b with
    | none => rfl
    | some u =>
      rcases H2 b u q with ⟨m, _⟩ | ⟨_, rfl, z, _⟩
      · obtain ⟨p, hp, rfl⟩ := List.mem_map.mp m
        rw [nT p hp] at e
        cases e
      · rw [z] at e
        cases e)
  have TB : ∀ p ∈ cs, LamX.TabB (hidT s₁.heap H) mg p.1 p.2 := fun p hp => by
    refine ⟨?_, ?_, fun z => ?_⟩
    · obtain ⟨o, us, fl, tf, fg, tg, inF, tx, tt, e1, r1, r2, r3, rest⟩ := C p hp
      refine ⟨o, us, fl, tf, fg, tg, inF, tx, tt, low _ o e1 (fun z => ?_) (fun z => by rw [z] at r2; cases r2), r1, r2, r3, rest⟩
      rw [r2] at z
      cases z
      simp at r3
    · obtain ⟨bm, ob, b1, b2, b3, b4, b5, b6⟩ :=  hbm
      refine ⟨bm, ob, b1, b2, fun q => ?_, fun q => ?_, low bm ob b3 (fun z => by rw [b6] at z; cases z) (fun z => by rw [z] at b6; cases b6), b4, b5, b6⟩
      · obtain ⟨o, es, ep, e, d, _⟩ := hns
        rw [q, e] at b3
        cases b3
        rw [d] at b6
        cases b6
      · rw [q, hT p hp] at b3
        cases b3
        cases b6
    · obtain ⟨o, es, ep, e, d, _⟩ := hns
      rw [z, hT p hp] at e
      cases e
      cases d
  have hok : HOk P w H s₁.heap := fun b u q => by
    rcases H2 b u q with ⟨m, rfl⟩ | ⟨_, rfl, _, rfl⟩
    · exact tAt b m
    · exact ⟨ha, by rw [List.length_map]; exact hl, vs, _, rvs, ha⟩
  have sq : SqL K H a (ns.map V.int) := by
    cases z : K.lookup a with
    | none =>
      refine .inl (.inr ⟨lo, ?_⟩)
      have n : a ∉ tb := fun m => by
        have t := tAt a m
        rw [ha] at t
        cases t
      exact (if_neg n).trans (if_pos ⟨rfl, z⟩)
    | some o =>
      have e := KX a o z
      rw [ha] at e
      cases e
      exact .inr ⟨_, vs.toArray, _, z, rfl, rfl, rfl, by rw [List.size_toArray, hi.length]; exact hl, by simpa using rvs⟩
  have e0 : Env0 P w K mg (hidT s₁.heap H) callerA [] s₁ H := ⟨rfl, ⟨kin, nsL hns, ⟨mb, nsL hb, hbb⟩, let ⟨mc, y1, y2⟩ := hlim; ⟨mc, nsL y1, y2⟩⟩, fun b o e => of_hidT e, Nat.le_of_eq (hidT_size _ _), trivial, fun b z => absurd (show b ∈ ([] : List Addr) from z) (by simp), hok, .of_eq hg⟩
  refine codeAny_mono ((F _ kin (nsL hns) TB).run (us := [.ref a]) (vs := [.ref a]) hr e0 (hbind s₁ (.ref a)) (.cons rfl .nil) (hsp H (fun p hp => H1 _ (tIn p hp)) sq)) fun r s2 h => ?_
  cases r with
  | error er =>
    obtain ⟨_, _, _, _, _, _, _, _, _, _, _, _, z⟩ :=  h
    exact z.elim
  | ok fl =>
    cases fl with
    | next => exact h.elim
    | brk => exact h.elim
    | cont => exact h.elim
    | ret u =>
      obtain ⟨v, H', os, bare, un, hok', r', q⟩ :=  h
      have q' : v = .bl true := q
      subst q'
      obtain rfl : u = Value.bool true :=  r'
      have stay : ∀ b o, b ∉ tb → s₁.heap.get? b = some o → s2.heap.get? b = some o := fun b o nb e => by
        cases q : H b with
        | none => exact un.keep b o e q (by intro z; exact absurd (show b ∈ ([] : List Addr) from z) (by simp)) (by  simp)
        | some u =>
          rcases H2 b u q with ⟨m, _⟩ | ⟨_, rfl, _, rfl⟩
          · exact absurd m nb
          · obtain ⟨g1, _⟩ := hok b _ q
            obtain ⟨g2, _⟩ := hok' b _ (un.frzs b lo _ q)
            rw [e] at g1
            cases g1
            exact g2
      have grow : ∀ b ∈ tb, ∃ more : Array Value, s2.heap.get? b = some { cls := .none, data := .fields more } := fun b m => by
        obtain ⟨more, z⟩ := un.tbls b #[] (H1 b m)
        exact ⟨_, hok' b _ z⟩
      refine ⟨rfl, ⟨fun b o e => ?_, fun b o e => ?_⟩, os,  bare⟩
      · by_cases m : b ∈ tb
        · obtain ⟨more, z⟩ := grow b m
          rw [tAt b m] at e
          cases e
          obtain ⟨p, hp, rfl⟩ := List.mem_map.mp m
          exact .inr (.inl ⟨((C p hp).tab (hT p hp)).isCodeTable, rfl, #[], more, rfl, by rw [Array.empty_append]; exact z⟩)
        · exact .inl (stay b o m e)
      · by_cases m : b ∈ tb
        · obtain ⟨more, z⟩ := grow b m
          exact ⟨_, z⟩
        · exact ⟨o, stay b o m e⟩
end L3
namespace L3
open PySem PySem.Spec L2
open PyProof.Rows hiding St
/-- what is known of the law's promise at the head's heap h; its defs know that nothing guards -/
def LawAtG (l : PySem.W.OpenLaw) (w : World) (K : PySem.W.Frag) (k n : Nat) (x : Str) (mg : Str → Option Value) (fa : Addr) (h : Heap) : Prop :=
  ∃ (fd : FuncData) (cs : List (Addr × Addr)) (sp : Sp), ((∀ p ∈ cs, h.get? p.2 = some { cls := .none, data := .fields #[] }) ∧ (∀ p ∈ cs, K.lookup p.2 = none) ∧ (∀ p ∈ cs, PySem.W.CodeHd h p.1 p.2)) ∧ (∀ (s : Shared) (u : Value), BindsTo s fd ⟨[u], []⟩ [(x, u)]) ∧
    (∀ (H : Hp) (a : Addr) (ns : List Int), ns.length ≤ n → (∀ z ∈ ns, Builtin.Int.intBits z ≤ 1048576) → (∀ p ∈ cs, H p.2 = some (.tbl #[])) → SqL K H a (ns.map V.int) → sp [.ref a] H (fun v _ => v = .bl true) fun _ _ _ => False)  ∧
    ∀ base : Heap, K.In base → base.Ns mainGlobals mg → (∀ p ∈ cs, LamX.TabB base mg p.1 p.2) → FnG l.prog w K mg base k fa fd [x] sp
theorem walkG {l : PySem.W.OpenLaw} {n k : Nat} {q : Program} {loose : List Str} {XP : (Str → Option Value) → Heap → Prop} {YP : World → Heap → Prop} {d : DefRec} {K : Params → PySem.W.Frag} {x : Str}
    (hn : l.most = some n) (hn2 : n ≤ sizeLine) (hdf : d.params.defaults = []) (hr : RoomG k callerA) (hY : ∀ (w : World) (h : Heap), YP w h → (K w.params).In h)
    (F : ∀ (w : World) (mg : Str → Option Value) (fa : Addr) (h : Heap), YP w h → (K w.params).In h → h.Ns mainGlobals mg → mg d.name = some (.ref fa) → LawAtG l w (K w.params) k n x mg fa h) :
    PySem.W.WalkO q loose XP YP l.row.toRowW d [] (fun f vs => PySem.call f vs) :=  by
  refine Att.attach_callB hn hdf fun w s₀ s₁ mg mb fa o pm cd doc a vs ns G Y ho hd hcd hmg hobj hints hlen hbits hg =>  ?_
  obtain ⟨fd, cs, sp, ⟨hT, nT, C⟩, hb, hsp, hF⟩ := F w mg fa _ Y (hY w _ Y) G.T.g hmg
  exact law_callG (hY w _ Y) G.T.g G.T.b G.T.builtins G.T.nolimit hg hT nT C G.T.bmain hobj hints (Nat.le_trans hlen hn2) hr hF hb fun H hH hS => hsp H a ns hlen hbits hH hS
end L3
namespace L3
open PySem PySem.Spec L2
open PyProof.Rows hiding St
/-! ### repr of data -/
mutual
/-- data whose text is known: ints of some size, no objects -/
def shD : D → Bool
  | .non => true
  | .bl _ => true
  | .int i => decide (i.natAbs.log2 <  1920)
  | .str _ => true
  | .tup ds => shDs ds
  | .lst ds => shDs ds
  | .dct kvs => kvs.isEmpty
  | _ => false
def shDs : List D → Bool
  | [] => true
  | d :: ds => shD d && shDs ds
end
mutual
/-- a list stands within -/
def lsD : D → Bool
  | .tup ds => lsDs ds
  | .lst _ => true
  | _ => false
def lsDs : List D → Bool
  | [] => false
  | d :: ds => lsD d || lsDs ds
end
mutual
theorem sh_py : ∀ d : D, shD d = true → (pyD d).showable = true
  | .non, _ => rfl
  | .bl _, _ => rfl
  | .int i, h => by unfold shD at h; simpa [pyD, PyData.showable] using h
  | .str _, _ => rfl
  | .tup ds, h => by unfold shD at h; simpa [pyD, PyData.showable] using sh_pys ds h
  | .lst ds, h => by unfold shD at h; simpa [pyD, PyData.showable] using sh_pys ds h
  | .dct _, _ => by simp [pyD, PyData.showable, PyData.showableKv]
  | .scr _, h => by cases h
  | .ins _ _, h => by cases h
  | .pen, h => by cases h
  | .exc _ _, h => by cases h
theorem sh_pys : ∀ ds : List D, shDs ds = true → PyData.showableAll (pyDs ds) = true
  | [], _ => rfl
  | d :: ds, h => by
    unfold shDs at h
    obtain ⟨h1, h2⟩ := Bool.and_eq_true_iff.mp h
    unfold pyDs PyData.showableAll
    rw [sh_py d h1, sh_pys ds h2]
    rfl
end
section
variable {P : Program} {w : World} {K : KC} {F R : Hp} {h : Heap} (ok : HOk P w (jn F R) h)
include ok
mutual
theorem reads_of : ∀ (d : D) (v : V) (u : Value), shD d = true → Rep K F v d → RelV v u → ∃ as, Reads h u (pyD d) as ∧ (lsD d = false → sysModules ∉ as)
  | .non, v, u, _, r, e => by rw [rep_non r] at e; rw [show u = Value.none from e]; exact ⟨[], .none, by simp⟩
  | .bl b, v, u, _, r, e => by rw [rep_bl r] at e; rw [show u = Value.bool b from e]; exact ⟨[], .bool b, by simp⟩
  | .int i, v, u, _, r, e => by
    rw [rep_int r] at e
    obtain ⟨t, rfl⟩ := (show ∃ t, u = Value.int i t from e)
    exact ⟨[], .int i t, by simp⟩
  | .str x, v, u, _, r, e => by
    rw [rep_str r] at e
    obtain ⟨t, rfl⟩ := (show ∃ t, u = Value.str x t from e)
    exact ⟨[], .str x t, by simp⟩
  | .tup ds, v, u, s, r, e => by
    obtain ⟨a, vs, rfl, ha, rs⟩ := rep_tup r
    obtain rfl : u = Value.ref a := e
    obtain ⟨_, its, rv, o, h1, h2, n, h3⟩ := (show ObjOk P w (jn F R) h a (.tup vs) from ok a _ (jn_l ha))
    unfold shD at s
    obtain ⟨as, r1, n1⟩ := reads_all ds vs its s rs rv
    refine ⟨as, ?_, n1⟩
    unfold pyD
    exact .tuple h1 h2 h3 r1
  | .lst ds, v, u, s, r, e => by
    obtain ⟨a, vs, rfl, ha, rs⟩ := rep_lst r
    obtain rfl : u = Value.ref a := e
    obtain ⟨_, its, n, rv, h1⟩ := (show ObjOk P w (jn F R) h a (.lst vs) from ok a _ (jn_l ha))
    unfold shD at s
    obtain ⟨as, r1, n1⟩ := reads_all ds vs its s rs rv
    refine ⟨a :: as, ?_, fun z => by cases z⟩
    unfold pyD
    exact .list h1 rfl rfl r1
  | .dct kvs, v, u, s, r, e => by
    unfold Rep at r
    obtain ⟨a, kv, rfl, ha, _, rk⟩ := r
    obtain rfl : u = Value.ref a := e
    unfold shD at s
    have e0 : kvs = [] := List.isEmpty_iff.mp s
    subst e0
    unfold RepK at rk
    subst rk
    obtain ⟨_, hsm, ks, kv, o, es, ep, h1, ⟨h2, _, _⟩, h3, _, h4, _⟩ := (show ObjOk P w (jn F R) h a (.dK []) from ok a _ (jn_l ha))
    cases kv
    have e1 : es.toList = [] := by
      cases h5 : es.toList with
      | nil => rfl
      | cons x y => rw [h5] at h4; cases h4
    refine ⟨a :: [] ++ [], ?_, fun _ z => ?_⟩
    · unfold pyD
      exact .dict h1 h2 h3 (by rw [e1]; exact .nil) (by rw [e1]; exact .nil)
    · have : a ≠ sysModules := fun q => by rw [q] at hsm; simp at hsm
      exact this (List.mem_singleton.mp (show sysModules ∈ [a] from z)).symm
  | .scr _, _, _, s, _, _ => by cases s
  | .ins _ _, _, _, s, _, _ => by cases s
  | .pen, _, _, s, _, _ => by cases s
  | .exc _ _, _, _, s, _, _ => by cases s
theorem reads_all : ∀ (ds : List D) (vs : List V) (us : List Value), shDs ds = true → Reps K F vs ds → Vals vs us → ∃ as, ReadsAll h us (pyDs ds) as ∧ (lsDs ds = false → sysModules ∉ as)
  | [], vs, us, _, r, e => by
    rw [reps_nil r] at e
    cases e
    exact ⟨[], .nil, by simp⟩
  | d :: ds, vs, us, s, r, e => by
    obtain ⟨v, vs', rfl, r1, r2⟩ := reps_cons r
    cases e with
    | cons e1 e2 =>
      unfold shDs at s
      obtain ⟨s1, s2⟩ := Bool.and_eq_true_iff.mp s
      obtain ⟨as, q1, n1⟩ := reads_of d v _ s1 r1 e1
      obtain ⟨bs, q2, n2⟩ := reads_all ds vs' _ s2 r2 e2
      refine ⟨as ++ bs, .cons q1 q2, fun y z => ?_⟩
      unfold lsDs at y
      obtain ⟨y1, y2⟩ := Bool.or_eq_false_iff.mp y
      exact (List.mem_append.mp z).elim (n1 y1) (n2 y2)
end
end
section
variable {B : Bs} {X : Cx} {W : WX} {e : Expr} {ra : RE} {pos : Pos}
/-- the text of data -/
def reprD (d : D) : Str := (pyD d).shown
def reprOk (d : D) : Bool := (shD d && (!(pyD d).hasDict || !lsD d)) && (decide ((pyD d).depth ≤ 60) && decide ((reprD d).length ≤ sizeLine))
def rRepr (re : RE) : RE := fun ρ Q E => re ρ (fun d => reprOk d = true ∧ Q (.str (reprD d))) E
def rRp (K : KC) : List V → Hp → VK → Prop := fun xs H Q => ∃ F R v d, xs = [v] ∧ H = jn F R ∧ Rep K F v d ∧ reprOk d = true ∧ Q (.str (reprD d)) H
theorem call_rp {T : List (Addr × Str)} (hg : X.A.guards = some []) (hu : X.A.units + 64 < cLine) : CallR X (.builtin "repr") (rRp (kc T X)) := by
  intro pins s σ H xs us Q I r ⟨F, R, v, d, e1, hH, rv, hok, q⟩
  subst e1 hH
  obtain ⟨u, rfl, ru⟩ := vals1  r
  unfold reprOk at hok
  obtain ⟨k1, k2⟩ := Bool.and_eq_true_iff.mp hok
  obtain ⟨k1, k0⟩ := Bool.and_eq_true_iff.mp k1
  obtain ⟨k2, k3⟩ := Bool.and_eq_true_iff.mp k2
  have k2 := of_decide_eq_true k2
  have k3 := of_decide_eq_true k3
  obtain ⟨as, rd, na⟩ := reads_of I.hok d v u k1 rv ru
  have sh := sh_py d k1
  have refs : ∀ a, u = .ref a → wpAny (model X.prog X.w) X.A (call (.builtin "repr") [u]) (EP X pins σ Q) X.xe s := fun a e => by
    subst e
    exact repr_of_reads' rd sh (fun hd => na (by rw [hd] at k0; simpa using k0)) hg (by omega) (fun _ _ z => z) (fun h' t tk hk => ⟨.str (reprD d), _, I.kept (t' := tk) hk, ⟨t, rfl⟩, q⟩) k3
  cases d with
  | non => rw [rep_non rv] at ru; obtain rfl : u = Value.none := ru; exact P.repr_of_none ⟨.str (reprD .non), _, I.tok _, ⟨_, rfl⟩, q⟩
  | bl b => rw [rep_bl rv] at ru; obtain rfl : u = Value.bool b := ru; exact P.repr_of_bool ⟨.str (reprD (.bl b)), _, I.tok _, ⟨_, rfl⟩, q⟩
  | int i => rw [rep_int rv] at ru; obtain ⟨t, rfl⟩ := (show ∃ t, u = Value.int i t from ru); exact P.repr_of_int (by unfold shD at k1; exact of_decide_eq_true k1) ⟨.str (reprD (.int i)), _, I.tok _, ⟨_, rfl⟩, q⟩
  | str x => rw [rep_str rv] at ru; obtain ⟨t, rfl⟩ := (show ∃ t, u = Value.str x t from ru); exact P.repr_of_str ⟨.str (reprD (.str x)), _, I.tok _, ⟨_, rfl⟩, q⟩ k3
  | tup ds => obtain ⟨a, vs, rfl, _⟩ := rep_tup rv; exact refs a ru
  | lst ds => obtain ⟨a, vs, rfl, _⟩ := rep_lst rv; exact refs a ru
  | dct kvs => unfold Rep at rv; obtain ⟨a, kv, rfl, _⟩ := rv; exact refs a ru
  | scr _ => cases k1
  | ins _ _ => cases k1
  | pen => cases k1
  | exc _ _ => cases k1
theorem de_repr {p : Pos} (hgd : X.A.guards = some []) (hu : X.A.units + 64 < cLine) (hg : Gl X "repr") (hm : X.mg "repr" = none) (ha : DE B X W e ra)
    (h1 : starEach [e] X.env = (false, eval e X.env) :: starEach [] X.env := by rfl) (hpl : (backTo pos (starEach [] X.env)).any (·.1) = false := by rfl) : DE B X W (.Call (.Name "repr" p) [e] [] pos) (rRepr ra) :=
  (pe_callB (call_rp (T := B.T) hgd hu) hg hm (by decide +kernel) (pa_cons ha pa_nil h1) (by decide) (by decide) h1 hpl).imp fun σ H Q ⟨F, R, ρ, Q', E', hH, w, r, k⟩ => by
    subst hH
    exact ⟨F, R, ρ, _, E', rfl, w, r, fun v d F' x dj rv q => ⟨F', R, v, d, rfl, rfl, rv, q.1, k.ok _ _ F' x dj (of_str _) q.2⟩, k.ex⟩
end
end L3
namespace L3
open PySem PySem.Spec L2
open PyProof.Rows hiding St
/-! ### texts of data: their signs, their size -/
def cpOk (x : Str) : Prop := ∀ c ∈ x.cps.toList, c < 0x110000
theorem strOk_iff {x : Str} : PyData.strOk x = true ↔ cpOk x := by
  unfold PyData.strOk cpOk
  rw [← Array.all_toList,  List.all_eq_true]
  exact ⟨fun h c hc => of_decide_eq_true (h c hc), fun h c hc => decide_eq_true (h c hc)⟩
theorem cpOk_append {x y : Str} (hx : cpOk x) (hy : cpOk y) : cpOk (x ++ y) := fun c hc => by
  have e : (x ++ y).cps = x.cps ++ y.cps := rfl
  rw [e, Array.toList_append] at hc
  exact (List.mem_append.mp hc).elim (hx c) (hy c)
theorem cpOk_lit {x : Str} (h : PyData.strOk x = true) : cpOk x := strOk_iff.mp h
theorem cpOk_textFrom : ∀ (ts : List Str) (k : Nat) (acc : Str), cpOk acc → (∀ t ∈ ts, cpOk t) → cpOk (textFrom k acc ts)
  | [], k, acc, h, _ => h
  | t :: ts, k, acc, h, ht => cpOk_textFrom ts (k + 1) _ (cpOk_append (cpOk_append h (by split <;> exact cpOk_lit (by decide +kernel))) (ht t (by simp))) fun x hx => ht x (by simp [hx])
theorem cpOk_join : ∀ (ts : List Str), (∀ t ∈ ts, cpOk t) → cpOk (Str.join ", " ts)
  | [], _ => cpOk_lit (by decide +kernel)
  | [x], h => h x (by simp)
  | x :: y :: r, h => by
    show cpOk (x ++ ", " ++ Str.join ", " (y :: r))
    exact cpOk_append (cpOk_append (h x (by simp)) (cpOk_lit (by decide +kernel))) (cpOk_join (y :: r) fun t ht => h t (by simp [ht]))
theorem cpOk_list {ts : List Str} (h : ∀ t ∈ ts, cpOk t) : cpOk (listText ts) := cpOk_append (cpOk_textFrom ts 0 _ (cpOk_lit (by decide +kernel)) h) (cpOk_lit (by decide +kernel))
theorem cpOk_tuple {ts : List Str} (h : ∀ t ∈ ts, cpOk t) : cpOk (tupleText ts) := cpOk_append (cpOk_append (cpOk_lit (by decide +kernel)) (cpOk_join ts h)) (by split <;> exact cpOk_lit (by decide +kernel))
theorem cpOk_int (i : Int) : cpOk (PyData.int i).shown := fun c hc => by
  by_cases h : c < 0x110000
  · exact h
  · exact absurd hc (shown_int_free' (k := c) (by omega) i)
mutual
/-- data with a text of known signs: ints of up to 1900 bits, texts, lists and tuples of them, {} -/
def txD : D → Bool
  | .non => true
  | .bl _ => true
  | .int i => decide (i.natAbs < 2 ^ 1900)
  | .str x => PyData.strOk x && PyData.strOk (reprText x)
  | .tup ds => txDs ds
  | .lst ds => txDs ds
  | .dct kvs => kvs.isEmpty
  | _ => false
def txDs : List D → Bool
  | [] => true
  | d :: ds => txD d && txDs ds
end
mutual
theorem tx_sh : ∀ d : D, txD d = true → shD d = true ∧ (pyD d).leavesShort 1921 = true ∧ cpOk (pyD d).shown
  | .non, _ => ⟨rfl, by simp [pyD, PyData.leavesShort], cpOk_lit (by decide +kernel)⟩
  | .bl b, _ => ⟨rfl, by simp [pyD, PyData.leavesShort], by cases b <;> exact cpOk_lit (by decide +kernel)⟩
  | .int i, h => by
    unfold txD at h
    have h := of_decide_eq_true h
    have hl : i.natAbs.log2 < 1920 := by
      by_cases z : i.natAbs = 0
      · rw [z]; decide
      · exact (Nat.log2_lt z).mpr (Nat.lt_of_lt_of_le h (Nat.pow_le_pow_right (by decide) (by decide)))
    refine ⟨by unfold shD; exact decide_eq_true hl, ?_, cpOk_int i⟩
    unfold pyD PyData.leavesShort
    exact decide_eq_true (int_text_len_1921 hl)
  | .str x, h => by
    unfold txD at h
    obtain ⟨h1, h2⟩ := Bool.and_eq_true_iff.mp h
    refine ⟨rfl, ?_, strOk_iff.mp h2⟩
    unfold pyD PyData.leavesShort
    rw [List.all_eq_true]
    intro c hc
    have := strOk_iff.mp h1 c hc
    exact decide_eq_true (by  omega)
  | .tup ds, h => by
    unfold txD at h
    obtain ⟨h1, h2, h3⟩ := tx_shs ds h
    refine ⟨by unfold shD; exact h1, by unfold pyD PyData.leavesShort; exact h2, ?_⟩
    unfold pyD PyData.shown
    exact cpOk_tuple h3
  | .lst ds, h => by
    unfold txD at h
    obtain ⟨h1, h2, h3⟩ := tx_shs ds h
    refine ⟨by unfold shD; exact h1, by unfold pyD PyData.leavesShort; exact h2, ?_⟩
    unfold pyD PyData.shown
    exact cpOk_list h3
  | .dct kvs, h => by
    unfold txD at h
    obtain rfl : kvs = [] := List.isEmpty_iff.mp h
    exact ⟨rfl, by simp [pyD, PyData.leavesShort, PyData.leavesShortKv], cpOk_lit (by decide +kernel)⟩
  | .scr _, h => by cases h
  | .ins _ _, h => by cases h
  | .pen, h => by cases h
  | .exc _ _, h => by cases h
theorem tx_shs : ∀ ds : List D, txDs ds = true → shDs ds = true ∧ PyData.leavesShortAll 1921 (pyDs ds) = true ∧ ∀ t ∈ PyData.shownAll (pyDs ds), cpOk t
  | [], _ => ⟨rfl, by simp [pyDs, PyData.leavesShortAll], by simp [pyDs, PyData.shownAll]⟩
  | d :: ds, h => by
    unfold txDs at h
    obtain ⟨h1, h2⟩ := Bool.and_eq_true_iff.mp h
    obtain ⟨a1, a2, a3⟩ := tx_sh d h1
    obtain ⟨b1, b2, b3⟩ := tx_shs ds h2
    refine ⟨by unfold shDs; rw [a1, b1]; rfl, by unfold pyDs PyData.leavesShortAll; rw [a2, b2]; rfl, fun t ht => ?_⟩
    unfold pyDs PyData.shownAll at ht
    rcases List.mem_cons.mp ht with rfl | ht
    · exact a3
    · exact b3 t ht
end
/-- data that repr tells -/
def rpD (d : D) : Bool := (txD d && (!(pyD d).hasDict || !lsD d)) && (decide ((pyD d).depth ≤ 60) && decide ((pyD d).bulk ≤ 8000))
theorem rpD_ok {d : D} (h : rpD d = true) : reprOk d = true ∧ PyData.strOk (reprD d) = true := by
  unfold rpD at h
  obtain ⟨h1, h2⟩ := Bool.and_eq_true_iff.mp h
  obtain ⟨h1, h0⟩ := Bool.and_eq_true_iff.mp h1
  obtain ⟨h2, h3⟩ := Bool.and_eq_true_iff.mp h2
  have h3 := of_decide_eq_true h3
  obtain ⟨a1, a2, a3⟩ := tx_sh d h1
  have hl := PyData.shown_le_bulk 1921 (by decide) (pyD d) a2
  refine ⟨?_, strOk_iff.mpr a3⟩
  have e : decide ((reprD d).length ≤ sizeLine) = true := decide_eq_true (by
    have : (1921 + 2) * (pyD d).bulk ≤ (1921 + 2) * 8000 := Nat.mul_le_mul_left _ h3
    rw [sizeLine_eq]
    show (pyD d).shown.length ≤ _
    omega)
  unfold reprOk
  rw [a1, h0, h2, e]
  rfl
theorem txD_int {i : Int} (h : i.natAbs < 2 ^ 1900) : txD (.int i) = true := decide_eq_true h
theorem txDs_of : ∀ {ds : List D}, (∀ d ∈ ds, txD d = true) → txDs ds = true
  | [], _ => rfl
  | d :: ds, h => by
    unfold txDs
    rw [h d (by simp), txDs_of fun x hx => h x (by simp [hx])]
    rfl
end L3
namespace L3
open PySem PySem.Spec L2
open PyProof.Rows hiding St
/-! ### ratios -/
def lowG (t b : Int) : Int := if 0 < b then ((t.natAbs.gcd b.natAbs : Nat) : Int) else -((t.natAbs.gcd b.natAbs : Nat) : Int)
theorem lowG_dvd_b (t b : Int) : lowG t b ∣ b := by
  unfold lowG
  have : ((t.natAbs.gcd b.natAbs : Nat) : Int) ∣ b := Int.ofNat_dvd_left.mpr (Nat.gcd_dvd_right _ _)
  split
  · exact this
  · exact Int.neg_dvd.mpr this
theorem lowG_dvd_t (t b : Int) : lowG t b ∣ t := by
  unfold lowG
  have : ((t.natAbs.gcd b.natAbs : Nat) : Int) ∣ t := Int.ofNat_dvd_left.mpr (Nat.gcd_dvd_left _ _)
  split
  · exact this
  · exact Int.neg_dvd.mpr this
theorem lowG_ne {t b : Int} (h : b ≠ 0) : lowG t b ≠ 0 := fun z => by
  have := lowG_dvd_b t b
  rw [z] at this
  exact h (Int.zero_dvd.mp this)
theorem lowG_le {t b : Int} (h : b ≠ 0) : (lowG t b).natAbs ≤ b.natAbs := Nat.le_of_dvd (by omega) (Int.natAbs_dvd_natAbs.mpr (lowG_dvd_b t b))
theorem low_bot {t b : Int} (h : b ≠ 0) : b.fdiv (lowG t b) = ((Rat.divInt t b).den : Nat) := by
  rw [Int.fdiv_eq_ediv_of_dvd (lowG_dvd_b t b), Rat.den_divInt, if_neg h]
  unfold lowG
  have e : b.gcd t = t.natAbs.gcd b.natAbs := by show b.natAbs.gcd t.natAbs = _; rw [Nat.gcd_comm]
  rw [e]
  split
  · rename_i hb
    have : b = (b.natAbs : Int) := by omega
    rw [Int.natCast_ediv]
    congr 1
  · rename_i hb
    have : b = -(b.natAbs : Int) := by omega
    rw [Int.ediv_neg, Int.natCast_ediv]
    conv => lhs; rw [this]
    have h2 : ((t.natAbs.gcd b.natAbs : Nat) : Int) ∣ (b.natAbs : Int) := Int.natCast_dvd_natCast.mpr (Nat.gcd_dvd_right _ _)
    rw [Int.neg_ediv_of_dvd]
    · simp
    · simpa using h2
theorem low_top {t b : Int} (h : b ≠ 0) : t.fdiv (lowG t b) = (Rat.divInt t b).num := by
  rw [Int.fdiv_eq_ediv_of_dvd (lowG_dvd_t t b), Rat.num_divInt]
  unfold lowG
  have e : b.gcd t = t.natAbs.gcd b.natAbs := by show b.natAbs.gcd t.natAbs = _; rw [Nat.gcd_comm]
  rw [e]
  have h2 : ((t.natAbs.gcd b.natAbs : Nat) : Int) ∣ t := Int.ofNat_dvd_left.mpr (Nat.gcd_dvd_left _ _)
  split
  · rename_i hb
    rw [Int.sign_eq_one_of_pos hb, Int.one_mul]
  · rename_i hb
    rw [Int.sign_eq_neg_one_of_neg (by omega), Int.ediv_neg, Int.neg_mul, Int.one_mul, Int.neg_ediv_of_dvd h2]
theorem low_one {t b : Int} (h : b ≠ 0) : b = lowG t b ↔ (Rat.divInt t b).den = 1 := by
  have e := low_bot (t := t) h
  have hd := lowG_dvd_b t b
  have hg := lowG_ne (t := t) h
  rw [Int.fdiv_eq_ediv_of_dvd hd] at e
  constructor
  · intro z
    rw [← z, Int.ediv_self h] at e
    omega
  · intro z
    rw [z] at e
    have := Int.ediv_mul_cancel hd
    rw [e] at this
    simpa using this.symm
/-- a ratio's one form -/
def ratD (r : Rat) : D := if r.den = 1 then .int r.num else .tup [.int r.num, .int (r.den : Nat)]
theorem ratD_1 {r : Rat} (h : r.den = 1) : ratD r = .int r.num := if_pos h
theorem ratD_2 {r : Rat} (h : r.den ≠ 1) : ratD r = .tup [.int r.num, .int (r.den : Nat)] := if_neg h
theorem ratD_int (i : Int) : ratD (i : Rat) = .int i := ratD_1 rfl
/-- num and den of a quotient are no greater -/
theorem divInt_num_le (t b : Int) : (Rat.divInt t b).num.natAbs ≤ t.natAbs := by
  by_cases h : b = 0
  · subst h
    simp
  · rw [← low_top h]
    exact natAbs_fdiv_le t _
theorem divInt_den_le {t b : Int} (h : b ≠ 0) : (Rat.divInt t b).den ≤ b.natAbs := by
  have := natAbs_fdiv_le b (lowG t b)
  rw [low_bot h] at this
  simpa using this
theorem log2_lt_of {n k : Nat} (h : n < 2 ^ k) (hk : 0 < k) : n.log2 < k := by
  by_cases z : n = 0
  · rw [z]
    simpa using hk
  · exact (Nat.log2_lt z).mpr h
def isIntD : D → Bool
  | .int _ => true
  | _ => false
theorem isIntD_eq {d : D} (h : isIntD d = true) : ∃ i, d = .int i := by
  cases d <;> first | exact ⟨_, rfl⟩ | (cases h; done)
theorem list2 {α : Type} {xs : List α} (h : xs.length = 2) : ∃ x y, xs = [x, y] := by
  match xs, h with
  | [x, y], _ => exact ⟨x, y, rfl⟩
def isLstD : D → Bool
  | .tup _ => true
  | .lst _ => true
  | .scr _ => true
  | _ => false
def lenD : D → Nat
  | .tup xs => xs.length
  | .lst xs => xs.length
  | _ => 0
def itemsL : D → List D
  | .tup xs => xs
  | .lst xs => xs
  | _ => []
theorem atJ_nat {α : Type} {xs : List α} {k : Nat} {d : α} (h : xs[k]? = some d) : atI xs (k : Int) = some d := by
  have hk := (List.getElem?_eq_some_iff.mp h).1
  unfold atI ixN
  rw [(if_pos (by omega)), if_pos (by omega)]
  simpa using h
/-- a list or a tuple -/
structure Sq (d : D) (xs : List D) : Prop where
  it : itemsL d = xs
  it2 : itemsOf d = some xs
  ls : isLstD d = true
  len : ∀ Q, gLen [d] Q = Q (.int xs.length)
  ix : ∀ (i : Int) (Q : D → Prop), gIx d (.int i) Q = match atI xs i with
    | some d => Q d
    | none => False
theorem sq_tup (xs : List D) : Sq (.tup xs) xs := ⟨rfl, rfl, rfl, fun _ => rfl, fun _ _ => rfl⟩
theorem sq_lst (xs : List D) : Sq (.lst xs) xs := ⟨rfl, rfl, rfl, fun _ => rfl, fun _ _ => rfl⟩
theorem sq_or {d : D} (h : plD d = true) : (∃ xs, Sq d xs ∧ xs.length ≤ 65536 ∧ ∀ x ∈ xs, plD x = true) ∨ isLstD d = false := by
  cases d with
  | tup xs => exact .inl ⟨xs, sq_tup xs, plD_tup h⟩
  | lst xs => exact .inl ⟨xs, sq_lst xs, plD_lst h⟩
  | scr _ => cases h
  | _ => exact .inr rfl
theorem rcb_len {d : D} {xs : List D} (sq : Sq d xs) {ρ : Env3} {re : RE} {Q : D → Prop} {E : XD → Prop} (hr : ∀ (Q : D → Prop) (E : XD → Prop), Q d → re ρ Q E) (q : Q (.int xs.length)) : rCB gLen (rCons re rNil) ρ Q E := by
  refine hr _ _ ?_
  dsimp only [rNil]
  rw [sq.len]
  exact q
theorem rd_get {n k : Nat} (h : k < n) : (rangeD 0 n).drop k = .int k :: (rangeD 0 n).drop (k + 1) := by
  have hl : k < (rangeD 0 n).length := by rw [rangeD_len]; exact h
  rw [List.drop_eq_getElem_cons hl]
  congr 1
  simp [rangeD]
theorem rd_mem {lo : Int} {n : Nat} {d : D} (h : d ∈ rangeD lo n) : ∃ i : Int, d = .int i := by
  unfold rangeD at h
  obtain ⟨i, _, rfl⟩ := List.mem_map.mp h
  exact ⟨_, rfl⟩
mutual
def tupD : D → D
  | .tup xs => .tup (tupDs xs)
  | .lst xs => .tup (tupDs xs)
  | d => d
def tupDs : List D → List D
  | [] => []
  | d :: ds => tupD d :: tupDs ds
end
theorem tupDs_map : ∀ ds : List D, tupDs ds = ds.map tupD
  | [] => rfl
  | d :: ds => by unfold tupDs; rw [tupDs_map ds]; rfl
mutual
def dpD : D → Nat
  | .tup xs => dpDs xs + 1
  | .lst xs => dpDs xs + 1
  | _ => 0
def dpDs : List D → Nat
  | [] => 0
  | d :: ds => max (dpD d) (dpDs ds)
end
theorem dpDs_mem : ∀ {ds : List D} {d : D}, d ∈ ds → dpD d ≤ dpDs ds
  | x :: ds, d, h => by
    unfold dpDs
    rcases (List.mem_cons.mp h) with rfl | h
    · exact Nat.le_max_left _ _
    · exact Nat.le_trans (dpDs_mem h) (Nat.le_max_right _ _)
theorem sz (n : Nat) (h : n ≤ 65536 := by decide) : n ≤ sizeLine := le_size h
theorem allBl_map (p : D → Bool) : ∀ xs : List D, allBl (xs.map fun d => D.bl (p d)) = some (xs.map p)
  | [] => rfl
  | d :: xs => by
    show (match blOf (D.bl (p d)), allBl (xs.map fun d => D.bl (p d)) with | some b, some bs => some (b :: bs) | _, _ => none) = _
    rw [allBl_map p xs]
    rfl
theorem gAll_map {p : D → Bool} {xs : List D} {Q : D → Prop} (h : Q (.bl (xs.all p))) : gAll [.lst (xs.map fun d => D.bl (p d))] Q := by
  show (match allBl (xs.map fun d => D.bl (p d)) with | some bs => Q (.bl (bs.all id)) | none => False)
  rw [allBl_map]
  show Q (.bl ((xs.map p).all id))
  rw [List.all_map]
  exact h
def isRatD : D → Bool
  | .int _ => true
  | .tup [.int a, .int b] => decide (1 < b) && decide (a.natAbs.gcd b.natAbs = 1)
  | _ => false
theorem isRatD_not {xs : List D} (h : ∀ a b, xs ≠ [.int a, .int b]) : isRatD (.tup xs) = false := by
  unfold isRatD
  split
  · rename_i e; cases e
  · rename_i a b e; cases e; exact absurd rfl (h a b)
  · rfl
def isRowD (v : D) (m : Int) : Bool := isLstD v && (decide (((itemsL v).length : Int) = m) && (itemsL v).all isRatD)
def bnE (w : Str) (d : D) : XD := exD "BadNumber" ["what", "number"] [.str w, d]
theorem sign_if (i : Int) : (if 0 < i then (1 : Int) else if i < 0 then -1 else 0) = i.sign := by
  split
  · rename_i h; exact (Int.sign_eq_one_of_pos h).symm
  · split
    · rename_i h; exact (Int.sign_eq_neg_one_of_neg h).symm
    · have : i = 0 := by omega
      subst this; rfl
theorem isRatD_rat (r : Rat) : isRatD (ratD r) = true := by
  by_cases hd : r.den = 1
  · rw [ratD_1 hd]
    rfl
  · rw [ratD_2 hd]
    have h0 := r.den_nz
    have h1 := r.reduced
    have e1 : decide (1 < (r.den : Int)) = true := decide_eq_true (by omega)
    have e2 : decide (r.num.natAbs.gcd ((r.den : Int)).natAbs = 1) = true := decide_eq_true (by simpa using h1)
    show (decide (1 < (r.den : Int)) && decide (r.num.natAbs.gcd ((r.den : Int)).natAbs = 1)) = true
    rw [e1, e2]
    rfl
theorem rat_of {d : D} (h : isRatD d = true) : ∃ r, d = ratD r := by
  unfold isRatD at h
  split at h
  · rename_i i
    exact ⟨(i : Rat), (ratD_int i).symm⟩
  · rename_i a b
    obtain ⟨h1, h2⟩ := Bool.and_eq_true_iff.mp h
    have h1 := of_decide_eq_true h1
    have h2 := of_decide_eq_true h2
    refine ⟨⟨a, b.natAbs, by omega, h2⟩, ?_⟩
    rw [ratD_2 (by show b.natAbs ≠ 1; omega)]
    show D.tup [.int a, .int b] = .tup [.int a, .int (b.natAbs : Int)]
    rw [show ((b.natAbs : Int)) = b by omega]
  · cases h
theorem ratD_inj {r s : Rat} (h : ratD r = ratD s) : r = s := by
  by_cases h1 : r.den = 1
  · rw [ratD_1 h1] at h
    by_cases h2 : s.den = 1
    · rw [ratD_1 h2] at h
      injection h with e
      exact Rat.ext e (h1.trans h2.symm)
    · rw [ratD_2 h2] at h
      cases h
  · rw [ratD_2 h1] at h
    by_cases h2 : s.den = 1
    · rw [ratD_1 h2] at h
      cases h
    · rw [ratD_2 h2] at h
      injection h with h
      injection h with ha hb
      injection hb with hb hc
      injection ha with ha
      injection hb with hb
      exact Rat.ext ha (by omega)
theorem ratD_pl (r : Rat) : plD (ratD r) = true := by
  by_cases hd : r.den = 1
  · rw [ratD_1 hd]; rfl
  · rw [ratD_2 hd]; rfl
theorem rneg_num (r : Rat) : (-r).num = -r.num := rfl
theorem rneg_den (r : Rat) : (-r).den = r.den := rfl
def Sz (n : Nat) (r : Rat) : Prop := r.num.natAbs < 2 ^ n ∧ r.den < 2 ^ n
theorem Sz.neg {n : Nat} {r : Rat} (h : Sz n r) : Sz n (-r) := ⟨by rw [rneg_num, Int.natAbs_neg]; exact h.1, by rw [rneg_den]; exact h.2⟩
theorem Sz.mono {m n : Nat} {r : Rat} (h : Sz m r) (hm : m ≤ n) : Sz n r := ⟨Nat.lt_of_lt_of_le h.1 (Nat.pow_le_pow_right (by decide) hm), Nat.lt_of_lt_of_le h.2 (Nat.pow_le_pow_right (by decide) hm)⟩
theorem mulOk_sz {a b : Int} {m n : Nat} (ha : a.natAbs < 2 ^ m) (hb : b.natAbs < 2 ^ n) (h : m + n ≤ 134217728) : IntMulOk a b := IntMulOk.of_le (intBits_le_iff.mpr ha) (intBits_le_iff.mpr hb) h
theorem mul_sz {a b : Int} {m n : Nat} (ha : a.natAbs < 2 ^ m) (hb : b.natAbs < 2 ^ n) : (a * b).natAbs < 2 ^ (m + n) := intBits_le_iff.mp (intBits_mul_le (intBits_le_iff.mpr ha) (intBits_le_iff.mpr hb))
theorem Sz.n {m : Nat} {r : Rat} (h : Sz m r) : r.num.natAbs < 2 ^ m := h.1
theorem Sz.d {m : Nat} {r : Rat} (h : Sz m r) : ((r.den : Nat) : Int).natAbs < 2 ^ m := h.2
theorem den_ne (r : Rat) : ((r.den : Nat) : Int) ≠ 0 := by have := r.den_nz; omega
theorem den_pos (r : Rat) : 0 < ((r.den : Nat) : Int) := by have := r.den_nz; omega
theorem rat_int {r : Rat} (h : r.den = 1) : r = ((r.num : Int) : Rat) := Rat.ext rfl h
theorem rat_add (r s : Rat) : Rat.divInt (r.num * (s.den : Nat) + s.num * (r.den : Nat)) ((r.den : Nat) * (s.den : Nat)) = r + s := by
  rw [← Rat.divInt_add_divInt _ _ (den_ne r) (den_ne s), Rat.num_divInt_den, Rat.num_divInt_den]
theorem rat_mul (r s : Rat) : Rat.divInt (r.num * s.num) ((r.den : Nat) * (s.den : Nat)) = r * s := by
  rw [← Rat.divInt_mul_divInt, Rat.num_divInt_den, Rat.num_divInt_den]
theorem rat_div (r s : Rat) : Rat.divInt (r.num * (s.den : Nat)) ((r.den : Nat) * s.num) = r / s := by
  rw [← Rat.divInt_mul_divInt, Rat.num_divInt_den, Rat.div_def, Rat.inv_def]
theorem add_int {r s : Rat} (h1 : r.den = 1) (h2 : s.den = 1) : ratD (r + s) = .int (r.num + s.num) := by
  rw [rat_int h1, rat_int h2, ← Rat.intCast_add, ratD_int]
  rfl
theorem mul_int' {r s : Rat} (h1 : r.den = 1) (h2 : s.den = 1) : ratD (r * s) = .int (r.num * s.num) := by
  rw [rat_int h1, rat_int h2, ← Rat.intCast_mul, ratD_int]
  rfl
theorem isI (r : Rat) : (r.den = 1 ∧ ratD r = .int r.num) ∨ (r.den ≠ 1 ∧ ratD r = .tup [.int r.num, .int (r.den : Nat)]) := by
  by_cases h : r.den = 1
  · exact .inl ⟨h, ratD_1 h⟩
  · exact .inr ⟨h, ratD_2 h⟩
theorem num_ne {s : Rat} (h : s ≠ 0) : s.num ≠ 0 := fun z => h (Rat.num_eq_zero.mp z)
theorem lt_dec (r s : Rat) : decide (r < s) = decide (r.num * (s.den : Nat) < s.num * (r.den : Nat)) := decide_eq_decide.mpr (Rat.lt_iff r s)
def dotR : List Rat → List Rat → Rat
  | r :: rs, s :: ss => r * s + dotR rs ss
  | _, _ => 0
/-- lists or tuples of ratios -/
def RowR (d : D) (rs : List Rat) : Prop := d = .tup (rs.map ratD) ∨ d = .lst (rs.map ratD)
def rowOk (d : D) : Bool := isLstD d && (itemsL d).all isRatD
def brE (w : Str) (d : D) : XD := exD "BadRow" ["what", "row"] [.str w, d]
def unE (w : Str) : XD := exD "Unlike" ["what"] [.str w]
end L3
namespace L3
open PySem PySem.Spec L2
open PyProof.Rows hiding St
/-! ### zip of two, lists or tuples in any mix -/
inductive ZK where
  | l
  | t
def ZK.it : ZK → Heap → Addr → Addr → Nat → Prop
  | .l, h, i, a, n => h.IsListIter i a n
  | .t, h, i, a, n => h.IsTupleIter i a n
def ZK.sq : ZK → PySem.W.Frag → Hp → Addr → List V → Prop
  | .l, K, H, a, xs => SqL K H a xs
  | .t, K, H, a, xs => SqT K H a xs
def ZK.is : ZK → Heap → Addr → Array Value → Prop
  | .l, h, a, its => h.IsList a its
  | .t, h, a, its => h.IsTuple a its
def ZK.ob : ZK → Addr → Obj
  | .l, a => { cls := .type "list_iterator", data := .fields #[.ref a, .int 0 0] }
  | .t, a => { cls := .type "tuple_iterator", data := .fields #[.ref a, .int 0 0] }
theorem ZK.draws (k : ZK) {prog : Program} {w : World} {A : Around} (hh : A.handled = none) (it a : Addr) (hne : a ≠ it) (items : Array Value) : Draws prog w A it [it, a] items.size (fun i v => items[i]? = some v) (fun i h => k.it h it a i ∧ k.is h a items) :=
  match k with
  | .l => Draws.list hh it a hne items
  | .t => Draws.tuple hh it a hne items
theorem ZK.begins (k : ZK) (a : Addr) (items : Array Value) : Begins (.ref a) (k.ob a) fun h => k.is h a items :=
  match k with
  | .l => begins_list a items
  | .t => begins_tuple a items
theorem ZK.start {k : ZK} {h : Heap} {i a : Addr} (g : h.get? i = some (k.ob a)) : k.it h i a 0 := by
  cases k
  · exact ⟨_, g, rfl, rfl⟩
  · exact ⟨_, g, rfl, rfl⟩
theorem ZK.obj {k : ZK} {h : Heap} {i a : Addr} {n : Nat} (st : k.it h i a n) : ∃ o, h.get? i = some o ∧ ∀ v, o.data ≠ .cell v := by
  cases k
  · obtain ⟨o, e, _, d⟩ := (st : h.IsListIter i a n)
    exact ⟨o, e, fun v q => by rw [d] at q; cases q⟩
  · obtain ⟨o, e, _, d⟩ := (st : h.IsTupleIter i a n)
    exact ⟨o, e, fun v q => by rw [d] at q; cases q⟩
theorem ZK.at {k : ZK} {h h' : Heap} {i a : Addr} {n : Nat} (st : k.it h i a n) (up : ∀ o, h.get? i = some o → h'.get? i = some o) : k.it h' i a n := by
  cases k
  · exact Heap.IsListIter.at st up
  · exact Heap.IsTupleIter.at st up
theorem ZK.lt {k : ZK} {h : Heap} {a : Addr} {its : Array Value} (p : k.is h a its) : a < h.objs.size := by
  cases k
  · obtain ⟨o, e, _⟩ := (p : h.IsList a its)
    exact Heap.lt_size e
  · obtain ⟨o, e, _⟩ := (p : h.IsTuple a its)
    exact Heap.lt_size e
theorem ZK.inv {k : ZK} {X : Cx} {pins : List (Addr × Obj)} {σ : L2.St} {H : Hp} {s : Shared} {a : Addr} {xs : List V} (I : Inv X pins σ H s) (q : k.sq X.K H a xs) : ∃ its, Vals xs its ∧ k.is s.heap a its.toArray := by
  cases k
  · obtain ⟨its, rv, p, _⟩ := I.list q
    exact ⟨its, rv, p.isList⟩
  · obtain ⟨its, rv, p, _⟩ := I.tuple q
    exact ⟨its, rv, p⟩
theorem ZK.inj {k : ZK} {X : Cx} {pins : List (Addr × Obj)} {σ : L2.St} {H : Hp} {s : Shared} {a : Addr} {xs ys : List V} (I : Inv X pins σ H s) (q : k.sq X.K H a xs) (r : k.sq X.K H a ys) : xs = ys := by
  cases k
  · exact I.list_inj q r
  · exact I.tuple_inj q r
def ItzG (K : PySem.W.Frag) (k1 k2 : ZK) (a b : Addr) : It :=
  ⟨fun i H => ∃ (xs ys : List V) (x y : V), k1.sq K H a xs ∧ k2.sq K H b ys ∧ xs[i]? = some x ∧ ys[i]? = some y,
    fun i H v H' => ∃ T x y, v = .ref T ∧ H T = none ∧ H' = upd H T (.tup [x, y]) ∧ (∀ xs, k1.sq K H a xs → xs[i]? = some x) ∧ ∀ ys, k2.sq K H b ys → ys[i]? = some y,
    fun i H => ∃ xs ys : List V, k1.sq K H a xs ∧ k2.sq K H b ys ∧ i ≤ xs.length ∧ i ≤ ys.length ∧ (xs.length ≤ i ∨ ys.length ≤ i)⟩
structure ZipG (z TI TO i1 i2 a b : Addr) : Prop where
  S : ZipSep2 z TI TO i1 i2 [i1, a] [i2, b]
  a1 : a ≠ i1
  b2 : b ≠ i2
theorem turn_zipG {P : Program} {w : World} {K : PySem.W.Frag} {elts : List Expr} {kk : Nat} {tpos : Pos} {k1 k2 : ZK} {a b z TI TO i1 i2 : Addr} (D : ZipG z TI TO i1 i2 a b) :
    Turn P w K (.Tuple elts kk tpos) (ItzG K k1 k2 a b) [z, TI, TO, i1, i2] z (fun i h => IsZip h z TI TO .none ∧ IsTupOf2 h TI (.ref i1) (.ref i2) ∧ (∃ x y, IsTupOf2 h TO x y) ∧ k1.it h i1 a i ∧ k2.it h i2 b i) where
  mem := by simp
  obj := fun i h st c hc => by
    obtain ⟨hz, hTI, ⟨x, y, hTO⟩, h1, h2⟩ :=  st
    have e' : c = z ∨ c = TI ∨ c = TO ∨ c = i1 ∨ c = i2 := by simpa using  hc
    rcases (e') with q | q | q | q | q
    · rw [q]; exact ⟨_, hz, fun v q => nomatch  q⟩
    · rw [q]; exact ⟨_, hTI, fun v q => nomatch  q⟩
    · rw [q]; exact ⟨_, hTO, fun v q => nomatch  q⟩
    · rw [q]; exact ZK.obj h1
    · rw [q]; exact ZK.obj h2
  keep := fun i h h' st k => by
    obtain ⟨hz, hTI, ⟨x, y, hTO⟩, h1, h2⟩ :=  st
    exact ⟨k z (by simp) _ hz, k TI (by simp) _ hTI, ⟨x, y, k TO (by simp) _ hTO⟩, ZK.at h1 fun o q => k i1 (by simp) o q, ZK.at h2 fun o q => k i2 (by simp) o q⟩
  item := by
    intro X hP hw hK hc i pins s σ H E I hf st  hg
    subst hP hw hK
    obtain ⟨hz, hTI, ⟨x0, y0, hTO⟩, h1, h2⟩ :=  st
    obtain ⟨xs, ys, x, y, hqx, hqy, hx, hy⟩ :=  hg
    obtain ⟨its, rv, p⟩ := ZK.inv I hqx
    obtain ⟨its2, rv2, p2⟩ := ZK.inv I hqy
    obtain ⟨u, hu, ru⟩ := rv.get  hx
    obtain ⟨u2, hu2, ru2⟩ := rv2.get  hy
    have hzl : z < s.heap.objs.size := Heap.lt_size  hz
    have hh : X.A.in1.handled = none := I.ok.hd hc
    refine wpAny_pyNext_zipD2_item D.S (k1.draws hh i1 a D.a1 its.toArray) (k2.draws hh i2 b D.b2 its2.toArray) hz hTI hTO ⟨h1, p⟩ ⟨h2, p2⟩ (by simpa using (List.getElem?_eq_some_iff.mp hu).1) (by simpa using (List.getElem?_eq_some_iff.mp hu2).1) fun w1 w2 h' tk e1 e2 z' TO' n1 n2 hT hsz hk => ?_
    have e1 : w1 = u := by
      rw [List.getElem?_toArray, hu] at e1
      exact (Option.some.inj e1).symm
    have e2 : w2 = u2 := by
      rw [List.getElem?_toArray, hu2] at e2
      exact (Option.some.inj e2).symm
    subst e1 e2
    refine ⟨_, rfl, wpAny_letOwnedTupleGo_zip (s := { s with heap := h', toks := tk }) z' fun h'' z'' sb => ?_⟩
    have hT2 : h''.get? s.heap.objs.size = some { cls := .type "tuple", data := .seq #[w1, w2] } := (sb.2 _ (Nat.ne_of_gt hzl)).trans hT
    have new : ObjOk X.prog X.w (upd H s.heap.objs.size (.tup [x, y])) h'' s.heap.objs.size (.tup [x, y])  :=
      ⟨by show 2 ≤ sizeLine; decide, [w1, w2], .cons ru (.cons ru2 .nil), ⟨_, hT2, rfl, _, rfl⟩⟩
    have I1 : Inv X pins σ (upd H s.heap.objs.size (.tup [x, y])) { s with heap := h'', toks := tk } :=
      I.turnedNew (t' := tk) (ch := [z, TI, TO, i1, i2]) (fun c o hb q => (sb.2 c (fun q' => hb (by simp [q']))).trans (hk c o (fun q' => hb (by simp [q'])) (fun q' => hb (by simp [q'])) (fun q' => hb (by simp [q'])) (fun q' => hb (by simp [q'])) q)) hf (Nat.le_refl _) new
    have S := D.S
    refine ⟨.ref s.heap.objs.size, _, I1, rfl, ⟨_, x, y, rfl, I.hok.fresh (Nat.le_refl _), rfl, fun l hl => by rw [ZK.inj I hl hqx]; exact hx, fun l hl => by rw [ZK.inj I hl hqy]; exact hy⟩, ⟨z'', ?_, ⟨w1, w2, ?_⟩, ?_, ?_⟩, fun c hcm => ?_⟩
    · exact (sb.2 _ S.TIz).trans (hk _ _ S.TIz S.TITO S.TIi1 S.TIi2 hTI)
    · exact (sb.2 _ S.TOz).trans TO'
    · exact ZK.at n1.1 fun o q => (sb.2 _ S.zi1.symm).trans q
    · exact ZK.at n2.1 fun o q => (sb.2 _ S.zi2.symm).trans q
    · have hlt : c < s.heap.objs.size :=  by
        have e' : c = z ∨ c = TI ∨ c = TO ∨ c = i1 ∨ c = i2 := by simpa using  hcm
        rcases (e') with q | q | q | q | q
        · rw [q]; exact hzl
        · rw [q]; exact Heap.lt_size  hTI
        · rw [q]; exact Heap.lt_size  hTO
        · rw [q]; obtain ⟨_, e1, _⟩ := ZK.obj h1; exact Heap.lt_size e1
        · rw [q]; obtain ⟨_, e2, _⟩ := ZK.obj h2; exact Heap.lt_size e2
      rw [(upd_ne (Nat.ne_of_lt hlt))]
      exact (hf c hcm).1
  done := by
    intro X hP hw hK hc i pins s σ H E I hf st  hg
    subst hP hw hK
    obtain ⟨hz, hTI, ⟨x0, y0, hTO⟩, h1, h2⟩ :=  st
    obtain ⟨xs, ys, hqx, hqy, l1, l2, hend⟩ := hg
    obtain ⟨its, rv, p⟩ := ZK.inv I hqx
    obtain ⟨its2, rv2, p2⟩ := ZK.inv I hqy
    have e1 := rv.length
    have e2 := rv2.length
    have hh : X.A.in1.handled = none := I.ok.hd hc
    refine wpAny_pyNext_zipD2_end D.S (k1.draws hh i1 a D.a1 its.toArray) (k2.draws hh i2 b D.b2 its2.toArray) hz hTI hTO ⟨h1, p⟩ ⟨h2, p2⟩ (by simp; omega) (by simp; omega) (by simp; omega) fun h' tk hk => ⟨rfl, I.turnedL (t' := tk) (ch := [z, TI, TO, i1, i2]) (fun c o hb q =>
      hk c o (fun q' => hb (by simp [q'])) (fun q' => hb (by simp [q'])) (fun q' => hb (by simp [q'])) (fun q' => hb (by simp [q'])) q)  hf⟩
  self := fun A i s Q E st h => wpAny_pyIter_zip st.1  h
def iZipG (K : PySem.W.Frag) (ta : TA) : TI := fun σ H R => ta σ H fun vs H1 => ∃ a b xs ys k1 k2, vs = [.ref a, .ref b] ∧ ZK.sq k1 K H1 a xs ∧ ZK.sq k2 K H1 b ys ∧ R (ItzG K k1 k2 a b) H1
theorem pi_zipG {X : Cx} {e e2 : Expr} {ta : TA} {p pos tpos : Pos} {elts : List Expr} {kk : Nat} (hg : Gl X "zip") (hm : X.mg "zip" = none) (ha : PA X [e, e2] ta)
    (hs :  starEach [e, e2] X.env = (false, eval e X.env) :: starEach [e2] X.env := by rfl) (hpl : (backTo pos (starEach [e2] X.env)).any (·.1) = false := by rfl) :
    PI X (.Tuple elts kk tpos) (.Call (.Name "zip" p) [e, e2] [] pos) (iZipG X.K ta) := by
  refine ⟨fun pins s σ H R I h =>  ?_⟩
  refine Call_ (ld_blt I hg hm PyProof.Rows.boot_zip (PyProof.Rows.callWith_type1 (thn (ha.run pos pins s σ H _ I h) fun us s1 ⟨vs, H1, I1, r1, q1⟩ => ?_) hs  hpl))
  obtain ⟨a, b, xs, ys, k1, k2, ex, hqx, hqy, q⟩ := q1
  subst ex
  cases r1 with
  | cons r rr =>
    cases rr with
    | cons r' rr =>
      cases rr
      cases r
      cases r'
      have fresh5 : ∀ c, c ∈ [s1.heap.objs.size + 4, s1.heap.objs.size + 2, s1.heap.objs.size + 3, s1.heap.objs.size, s1.heap.objs.size + 1] → FpOk X pins H1 c := fun c hcm =>  by
        have e' : c = s1.heap.objs.size + 4 ∨ c = s1.heap.objs.size + 2 ∨ c = s1.heap.objs.size + 3 ∨ c = s1.heap.objs.size ∨ c = s1.heap.objs.size + 1 := by simpa using  hcm
        have hle : s1.heap.objs.size ≤ c :=  by
          rcases (e') with z | z | z | z | z
          · rw [z]; exact Nat.le_add_right _  _
          · rw [z]; exact Nat.le_add_right _  _
          · rw [z]; exact Nat.le_add_right _  _
          · rw [z]; exact Nat.le_refl _
          · rw [z]; exact Nat.le_add_right _  _
        exact I1.fpOk hle (I1.hok.fresh  hle)
      obtain ⟨its, rv, p1⟩ := ZK.inv I1 hqx
      obtain ⟨its2, rv2, p2⟩ := ZK.inv I1 hqy
      have la := ZK.lt p1
      have lb := ZK.lt p2
      refine zip_begins2 (k1.begins a its.toArray) (k2.begins b its2.toArray) p1 p2 fun h' hz hTI hTO h1 h2 hsz hk => wpAny_pyIter_zip hz ?_
      have I2 : Inv X pins σ H1 { s1 with heap := h' } := I1.kept (t' := s1.toks)  hk
      have sep : ZipG (s1.heap.objs.size + 4) (s1.heap.objs.size + 2) (s1.heap.objs.size + 3) s1.heap.objs.size (s1.heap.objs.size + 1) a b :=
        ⟨zip_sep2 (fp1 := [a]) (fp2 := [b]) (by simpa using la) (by simpa using lb), Nat.ne_of_lt la, Nat.ne_of_lt (Nat.lt_succ_of_lt lb)⟩
      exact ⟨s1.heap.objs.size + 4, [s1.heap.objs.size + 4, s1.heap.objs.size + 2, s1.heap.objs.size + 3, s1.heap.objs.size, s1.heap.objs.size + 1], _, _, H1, rfl, I2, turn_zipG sep, ⟨hz, hTI, ⟨_, _, hTO⟩, ZK.start h1, ZK.start h2⟩, fresh5, q⟩
section
variable {K : KC} {F : Hp}
/-- what the items of a list or tuple are, at any later heap -/
def ZK.isD : ZK → D → List D → Prop
  | .l, d, ds => d = .lst ds
  | .t, d, ds => d = .tup ds
theorem ZK.sqD {k : ZK} {d : D} {ds : List D} {v : V} (e : k.isD d ds) (h : Rep K F v d) : ∃ a vs, v = .ref a ∧ Reps K F vs ds ∧ ∀ F' R, Ext K F F' → Dj F' R → k.sq K.K (jn F' R) a vs := by
  cases k
  · obtain rfl : d = .lst ds := e
    obtain ⟨a, vs, rfl, ha, ra⟩ := rep_lst h
    exact ⟨a, vs, rfl, ra, fun F' R x dj => sq_s (x.seqL (.of ha))⟩
  · obtain rfl : d = .tup ds := e
    obtain ⟨a, vs, rfl, ha, ra⟩ := rep_tup h
    exact ⟨a, vs, rfl, ra, fun F' R x dj => sq_t (x.tup ha)⟩
theorem Reps.get1 {K : KC} {F : Hp} {vs : List V} {ds : List D} (r : Reps K F vs ds) {i : Nat} {v : V} (h : vs[i]? = some v) : ∃ d, ds[i]? = some d ∧ Rep K F v d := r.getV h
theorem wk_zip {k1 k2 : ZK} {a b : Addr} {xs ys : List V} {ds es : List D} (h1 : ∀ F' R, Ext K F F' → Dj F' R → k1.sq K.K (jn F' R) a xs) (h2 : ∀ F' R, Ext K F F' → Dj F' R → k2.sq K.K (jn F' R) b ys) (r1 : Reps K F xs ds) (r2 : Reps K F ys es)
 : Wk K (ItzG K.K k1 k2 a b) (zipD ds es) F where
  go := fun F' R i x dj hl => by
    have l1 := r1.length
    have l2 := r2.length
    rw [zipD_length] at hl
    exact ⟨xs, ys, xs[i]'(by omega), ys[i]'(by omega), h1 F' R x dj, h2 F' R x dj, List.getElem?_eq_getElem _, List.getElem?_eq_getElem _⟩
  stop := fun F' R i x dj hl => by
    have l1 := r1.length
    have l2 := r2.length
    rw [zipD_length] at hl
    exact ⟨xs, ys, h1 F' R x dj, h2 F' R x dj, by omega, by omega, by omega⟩
  yld := fun F' R i y H' x dj hl ⟨T, u, v, e1, hT, e2, q1, q2⟩ => by
    obtain ⟨d, g1, s1⟩ := r1.getV (q1 xs (h1 F' R x dj))
    obtain ⟨e, g2, s2⟩ := r2.getV (q2 ys (h2 F' R x dj))
    subst e1 e2
    rw [jn_newF hT]
    refine ⟨_, .tup [d, e], rfl, Ext.newF hT, dj.newF hT, zipD_get g1 g2, ?_⟩
    unfold Rep
    exact ⟨T, [u, v], rfl, upd_same, Reps.cons (Rep.ext (x.trans (Ext.newF hT)) _ _ s1) (Reps.cons (Rep.ext (x.trans (Ext.newF hT)) _ _ s2) Reps.nil)⟩
end
section
variable {B : Bs} {X : Cx} {W : WX} {a b c e tg : Expr} {es rest : List Expr} {rs : RA} {pos tpos : Pos} {elts : List Expr} {kk : Nat}
theorem itemsZ {d : D} {ds : List D} (h : itemsOf d = some ds) (hs : ∀ xs, d ≠ .scr xs) : ∃ k : ZK, k.isD d ds := by
  cases d with
  | tup xs => cases h; exact ⟨.t, rfl⟩
  | lst xs => cases h; exact ⟨.l, rfl⟩
  | scr xs => exact absurd rfl (hs xs)
  | _ => cases h
/-- lists and tuples of one's own data -/
def itemsZ? : D → Option (List D)
  | .tup xs => some xs
  | .lst xs => some xs
  | _ => none
def rZip2 (rs : RA) : RA := fun ρ Q E => rs ρ (fun ds => match ds with
  | [d, e] => match itemsZ? d, itemsZ? e with
    | some xs, some ys => Q (zipD xs ys)
    | _, _ => False
  | _ => False) E
theorem itemsZk {d : D} {ds : List D} (h : itemsZ? d = some ds) : ∃ k : ZK, k.isD d ds := by
  cases d with
  | tup xs => cases h; exact ⟨.t, rfl⟩
  | lst xs => cases h; exact ⟨.l, rfl⟩
  | _ => cases h
theorem di_zip2 {p : Pos} (hg : Gl X "zip") (hm : X.mg "zip" = none) (ha : DA B X W [a, b] rs)
    (hs : starEach [a, b] X.env = (false, eval a X.env) :: starEach [b] X.env := by rfl) (hpl : (backTo pos (starEach [b] X.env)).any (·.1) = false := by rfl) :
    DI B X W (.Tuple elts kk tpos) (.Call (.Name "zip" p) [a, b] [] pos) (rZip2 rs) := (pi_zipG hg hm ha hs hpl).imp fun σ H Z ⟨F, R, ρ, Q', E', hH, w, q, kk, kx⟩ => by
  subst hH
  refine ⟨F, R, ρ, _, E', rfl, w, q, fun vs ds F' x dj rv q' => ?_, kx⟩
  split at q'
  · rename_i d e
    split at q'
    · rename_i xs ys e1 e2
      obtain ⟨v, u, rfl, h1, h2⟩ := reps_two rv
      obtain ⟨k1, z1⟩ := itemsZk e1
      obtain ⟨k2, z2⟩ := itemsZk e2
      obtain ⟨a1, vs1, rfl, r1, s1⟩ := ZK.sqD z1 h1
      obtain ⟨a2, vs2, rfl, r2, s2⟩ := ZK.sqD z2 h2
      exact ⟨a1, a2, vs1, vs2, k1, k2, rfl, s1 F' R (.refl _) dj, s2 F' R (.refl _) dj, kk _ _ F' x dj (wk_zip s1 s2 r1 r2) q'⟩
    · exact q'.elim
  · exact q'.elim
end
end L3
namespace L3
open PySem PySem.Spec L2
open PyProof.Rows hiding St
/-! ### i in a tuple or list of ints -/
def intsOf : List D → Option (List Int)
  | [] => some []
  | .int i :: ds => (intsOf ds).map (i :: ·)
  | _ => none
theorem intsOf_eq : ∀ {ds : List D} {js : List Int}, intsOf ds = some js → ds = js.map D.int
  | [], js, h => by cases h; rfl
  | d :: ds, js, h => by
    cases d with
    | int i =>
      cases h2 : intsOf ds with
      | none => simp [intsOf, h2] at h
      | some ks =>
        simp [intsOf, h2] at h
        subst h
        rw [intsOf_eq h2]
        rfl
    | _ => simp [intsOf] at h
def gInB (neg : Bool) : G2 := fun d e Q => match d, itemsZ? e with
  | .int i, some ds => match intsOf ds with
    | some js => Q (.bl (if neg then !decide (i ∈ js) else decide (i ∈ js)))
    | none => False
  | _, _ => False
abbrev gIn : G2 := gInB false
abbrev gNotIn : G2 := gInB true
theorem reps_intv {K : KC} {F : Hp} : ∀ {vs : List V} {js : List Int}, Reps K F vs (js.map D.int) → vs = js.map V.int
  | vs, [], h => reps_nil h
  | vs, j :: js, h => by
    obtain ⟨v, r, rfl, h1, h2⟩ := reps_cons h
    rw [rep_int h1, reps_intv h2]
    rfl
theorem inV_ints (i : Int) (js : List Int) : inV (.int i) (js.map V.int) = decide (i ∈ js) := by
  unfold inV
  rw [List.any_map]
  induction js with
  | nil => simp
  | cons j js ih =>
    rw [List.any_cons, ih]
    show (eqV (.int j) (.int i) || _) = _
    have e : eqV (.int j) (.int i) = decide (i = j) := by
      show (j == i) = _
      by_cases h : i = j
      · subst h; simp
      · simp [h, Ne.symm h]
    rw [e]
    simp [List.mem_cons]
section
variable {X : Cx} {T : List (Addr × Str)}
theorem op2_inB (neg : Bool) {op : CmpOp} (h : OpR X (compareOp op) (rIn X.K neg)) : Op2 X (compareOp op) (gInB neg) := fun T pins s σ H x y v u Q I rx ry ⟨F, R, d, e, Q', hH, dj, rd, re, g, k⟩ => by
  subst hH
  unfold gInB at g
  split at g
  · rename_i i ds hz
    split at g
    · rename_i js hj
      have ej := intsOf_eq hj
      subst ej
      obtain ⟨kk, z⟩ := itemsZk hz
      rw [rep_int rd] at rx
      obtain ⟨a, vs, rfl, rv, sq⟩ := ZK.sqD z re
      obtain rfl := reps_intv rv
      refine h pins s σ _ _ _ v u Q I rx ry ⟨a, js.map V.int, rfl, ?_, rfl, by rw [List.all_map, List.all_eq_true]; intro _ _; rfl, ?_⟩
      · have := sq F R (.refl _) dj
        cases kk
        · exact .inl this
        · exact .inr this
      · rw [inV_ints]
        exact k.now dj (of_bl _) g
    · exact g.elim
  · exact g.elim
theorem op2_in : Op2 X (compareOp .In) gIn := op2_inB false op_in_seq
theorem op2_notin : Op2 X (compareOp .NotIn) gNotIn := op2_inB true op_notIn_seq
end
end L3
namespace L3
open PySem PySem.Spec L2
open PyProof.Rows hiding St
/-- the int 0 -/
def zD : D → Bool
  | .int i => decide (i = 0)
  | _ => false
theorem zD_rat (r : Rat) : zD (ratD r) = decide (r = 0) := by
  rcases isI r with ⟨h1, e1⟩ | ⟨h1, e1⟩
  · rw [e1]
    exact decide_eq_decide.mpr Rat.num_eq_zero
  · rw [e1]
    exact (decide_eq_false fun z => h1 (by rw [z]; rfl)).symm
theorem ok2i (a b : Int) : okEq (.tup [.int a, .int b]) = true := by
  simp [okEq, pyD, pyDs, SeqAt.shaped, PyData.canLay0, PyData.canLayAll0, PyData.depth, PyData.depthAll]
theorem rat0 (r : Rat) : (ratD r = .int 0) ↔ r = 0 := ⟨fun h => ratD_inj (h.trans (ratD_int 0).symm), fun h => by rw [h]; exact ratD_int 0⟩
theorem gEq_rat0 (r : Rat) {Q : D → Prop} (q : Q (.bl (decide (r = 0)))) : gEq (ratD r) (.int 0) Q := by
  rcases isI r with ⟨h1, e1⟩ | ⟨h1, e1⟩
  · rw [e1]
    have e : decide (r = 0) = decide (r.num = 0) := decide_eq_decide.mpr Rat.num_eq_zero.symm
    rw [e] at q
    exact q
  · rw [e1]
    refine ⟨ok2i _ _, rfl, ?_⟩
    have e : decide (r = 0) = false := decide_eq_false fun z => h1 (by rw [z]; rfl)
    rw [e] at q
    exact q
theorem RowR.z {d : D} {rs : List Rat} (h : RowR d rs) : itemsZ? d = some (rs.map ratD) := by
  rcases h with rfl | rfl <;> rfl
theorem for_invG {g : G3} {body : RS} {N : En3} (I : List D → Env3 → Prop)
    (hstep : ∀ d ds ρ (K : Env3 → Prop), I (d :: ds) ρ → (∀ ρ', I ds ρ' → K ρ') → g d ρ (fun ρ' => body { N with nx := K, ct := K, bk := N.nx } ρ'))
    (hend : ∀ ρ, I [] ρ → N.nx ρ) : ∀ (ds : List D) (ρ : Env3), I ds ρ → forL g body N ds ρ
  | [], ρ, h => hend ρ h
  | d :: ds, ρ, h => hstep d ds ρ _ h fun ρ' h' => for_invG I hstep hend ds ρ' h'
/-- what the loops of dot keep: t / b, of k products -/
structure DotI (β k : Nat) (t b : Int) (acc : Rat) : Prop where
  pos : 0 < b
  val : Rat.divInt t b = acc
  hb : b.natAbs < 2 ^ (2 * β * k + 1)
  ht : t.natAbs < 2 ^ (2 * β * k + k + 1)
theorem dotI_0 {β : Nat} : DotI β 0 0 1 0 := ⟨by decide, by simp, by simp, by simp⟩
theorem pow_mono2 {a m n : Nat} (h : a < 2 ^ m) (hm : m ≤ n) : a < 2 ^ n := Nat.lt_of_lt_of_le h (Nat.pow_le_pow_right (by decide) hm)
theorem add_sz {a b : Int} {m n : Nat} (ha : a.natAbs < 2 ^ m) (hb : b.natAbs < 2 ^ n) : (a + b).natAbs < 2 ^ (max m n + 1) := intBits_le_iff.mp (intBits_add_le (intBits_le_iff.mpr ha) (intBits_le_iff.mpr hb))
theorem DotI.skip {β k : Nat} {t b : Int} {acc : Rat} (h : DotI β k t b acc) (p : Rat) (hp : p = 0) : DotI β (k + 1) t b (acc + p) := ⟨h.pos, by rw [hp, Rat.add_zero]; exact h.val, pow_mono2 h.hb (by rw [Nat.mul_succ]; omega), pow_mono2 h.ht (by rw [Nat.mul_succ]; omega)⟩
theorem divInt_same (t u b : Int) (hb : b ≠ 0) : Rat.divInt t b + Rat.divInt u b = Rat.divInt (t + u) b := by
  rw [Rat.divInt_add_divInt _ _ hb hb, ← Int.add_mul, Rat.divInt_mul_right hb]
theorem DotI.same {β k : Nat} {t b : Int} {acc : Rat} (h : DotI β k t b acc) {r s : Rat} (hr : Sz β r) (hs : Sz β s) (e : ((r.den : Nat) : Int) * (s.den : Nat) = b) : DotI β (k + 1) (t + r.num * s.num) b (acc + r * s) := by
  refine ⟨h.pos, ?_, pow_mono2 h.hb (by rw [Nat.mul_succ]; omega), ?_⟩
  · rw [← divInt_same _ _ _ (by have := h.pos; omega), h.val, ← e, rat_mul]
  · refine pow_mono2 (add_sz h.ht (mul_sz hr.n hs.n)) ?_
    rw [Nat.mul_succ]
    have : β + β = 2 * β := by omega
    rw [this]
    generalize 2 * β * k = A
    generalize 2 * β = B
    omega
theorem DotI.cross {β k : Nat} {t b : Int} {acc : Rat} (h : DotI β k t b acc) {r s : Rat} (hr : Sz β r) (hs : Sz β s) : DotI β (k + 1) (t * ((r.den : Nat) * (s.den : Nat)) + r.num * s.num * b) (b * ((r.den : Nat) * (s.den : Nat))) (acc + r * s) := by
  have hl : ((r.den : Nat) : Int) * (s.den : Nat) ≠ 0 := Int.mul_ne_zero (den_ne r) (den_ne s)
  have lsz := mul_sz hr.d hs.d
  refine ⟨Int.mul_pos h.pos (Int.mul_pos (den_pos r) (den_pos s)), ?_, ?_, ?_⟩
  · rw [← Rat.divInt_add_divInt _ _ (by have := h.pos; omega) hl, h.val, rat_mul]
  · refine pow_mono2 (mul_sz h.hb lsz) ?_
    rw [Nat.mul_succ]
    omega
  · refine pow_mono2 (add_sz (mul_sz h.ht lsz) (mul_sz (mul_sz hr.n hs.n) h.hb)) ?_
    rw [Nat.mul_succ]
    have : β + β = 2 * β := by omega
    rw [this]
    generalize 2 * β * k = A
    generalize 2 * β = B
    omega
theorem DotI.den {β k n : Nat} {t b : Int} {acc : Rat} (h : DotI β k t b acc) (hk : k ≤ n) (hn : 2 * β * n ≤ 7990) : b.natAbs < 2 ^ 8000 := pow_mono2 h.hb (by have := Nat.mul_le_mul_left (2 * β) hk; omega)
theorem sq_cs {d : D} (h : plD d = true) : (∃ xs, (d = .tup xs ∨ d = .lst xs) ∧ xs.length ≤ 65536 ∧ ∀ x ∈ xs, plD x = true) ∨ isLstD d = false := by
  cases d with
  | tup xs => exact .inl ⟨xs, .inl rfl, plD_tup h⟩
  | lst xs => exact .inl ⟨xs, .inr rfl, plD_lst h⟩
  | scr _ => cases h
  | _ => exact .inr rfl
theorem intsOf_map : ∀ js : List Int, intsOf (js.map D.int) = some js
  | [] => rfl
  | j :: js => by
    show (intsOf (js.map D.int)).map (j :: ·) = _
    rw [intsOf_map js]
    rfl
theorem gIn_of {w : Int} {js : List Int} {Q : D → Prop} (h : Q (.bl (decide (w ∈ js)))) : gIn (.int w) (.tup (js.map D.int)) Q := by
  show (match intsOf (js.map D.int) with | some js => _ | none => False)
  rw [intsOf_map]
  exact h
end L3
namespace L3
open PySem PySem.Spec L2
open PyProof.Rows hiding St
section
variable {B : Bs} {X : Cx} {W : WX} {a b c e tg : Expr} {es rest : List Expr} {ra rb rc re : RE} {rt t1 : RT} {rs ri ri1 : RA} {g g1 : G3} {pos : Pos}
/-! ### x is not True, x is not False -/
def rNotAny : R2 := fun x y H Q => ∃ b, y = .bl b ∧ Q (.bl (!decide (x = .bl b))) H
theorem op_notAny : OpR X (compareOp .IsNot) rNotAny := fun pins s σ H x y v u Q I rx ry ⟨b, e, q⟩ => by
  subst e
  obtain rfl : u = Value.bool b := ry
  by_cases h : x = .bl b
  · subst h
    obtain rfl : v = Value.bool b := rx
    exact wpAny_isNot_self rfl ⟨.bl false, H, I, rfl, by simpa using  q⟩
  · have hne : v ≠ Value.bool b := fun z => h (by
      subst z
      exact (RelV.inj (x := x) (y := .bl b) rx rfl))
    refine wpAny_isNot_other ?_ hne ⟨.bl true, H, I, rfl, by simpa [h] using q⟩
    cases x with
    | non => obtain rfl : v = Value.none := rx; rfl
    | bl c => obtain rfl : v = Value.bool c := rx; rfl
    | int i => obtain ⟨t, rfl⟩ := (show ∃ t, v = Value.int i t from rx); rfl
    | str z => obtain ⟨t, rfl⟩ := (show ∃ t, v = Value.str z t from rx); rfl
    | byt z => obtain ⟨t, rfl⟩ := (show ∃ t, v = Value.bytes z t from rx); rfl
    | flt z => obtain ⟨t, rfl⟩ := (show ∃ t, v = Value.float z t from rx); rfl
    | ref p => obtain rfl : v = Value.ref p := rx; rfl
    | ty n => obtain rfl : v = Value.type n := rx; rfl
def rIsNotB (b : Bool) (re : RE) : RE := fun ρ Q E => re ρ (fun d => Q (.bl (!isBlD b d))) E
theorem de_isnotB {bv : Bool} {j : Nat} {p : Pos} (h : DE B X W a ra) : DE B X W (.Compare a [.IsNot] [.Constant (.bool bv) j p] pos) (rIsNotB bv ra) := (pe_cmpR op_notAny h pe_bl (nobehind _ (by decide) (by decide))).imp fun σ H Q ⟨F, R, ρ, Q', E', hH, w, q, k⟩ => by
  subst hH
  exact ⟨F, R, ρ, _, E', rfl, w, q, fun v d F' x dj rv q' => ⟨bv, rfl, k.ok _ _ F' x dj (by rw [isBl_rep rv]; exact of_bl _) q'⟩, k.ex⟩
theorem dt_isnotB {bv : Bool} {j : Nat} {p : Pos} (h : DE B X W a ra) : DT B X W (.Compare a [.IsNot] [.Constant (.bool bv) j p] pos) (rTV (rIsNotB bv ra)) := (pt_cmpR op_notAny h pe_bl (nobehind _ (by decide) (by decide))).imp fun σ H Q ⟨F, R, ρ, Q', E', hH, w, q, k⟩ => by
  subst hH
  exact ⟨F, R, ρ, _, E', rfl, w, q, fun v d F' x dj rv q' => ⟨bv, rfl, _, rfl, k.ok _ _ F' x dj (by rw [isBl_rep rv]) q'⟩, k.ex⟩
/-! ### a, b = x, y: one of them a new list -/
def rParLE (i j : Nat) (ra : RA) (rb : RE) : RS := fun N ρ => (i < ρ.length ∧ j < ρ.length) ∧ ra ρ (fun ds => rb ρ (fun e => N.nx ((ρ.set i (.own ds)).set j (.val e))) N.ex) N.ex
def rParEL (i j : Nat) (ra : RE) (rb : RA) : RS := fun N ρ => (i < ρ.length ∧ j < ρ.length) ∧ ra ρ (fun d => rb ρ (fun es => N.nx ((ρ.set i (.val d)).set j (.own es))) N.ex) N.ex
theorem ds_parLE {i j : Nat} {x y : Str} {px py pt pt2 : Pos} {kt k2 : Nat} {r1 : RA} {r2 : RE} (hc : X.calm = true) (hN : X.N.Nodup) (hi : X.N[i]? = some x) (hj : X.N[j]? = some y) (hij : i ≠ j) (hx : X.env.scope.names.lookup x = some .local) (hy : X.env.scope.names.lookup y = some .local) (ha : FE B X W a r1) (hb : DE B X W b r2)
    (hw : swappedStores [.Tuple [.Name x px, .Name y py] kt pt] (.Tuple [a, b] k2 pt2) X.env = pure (some [x, y])) (hs : swapsWithSole [.Tuple [.Name x px, .Name y py] kt pt] (.Tuple [a, b] k2 pt2) pos.line X.env = pure false := by rfl) (h1 : starEach [a, b] X.env = (false, eval a X.env) :: starEach [b] X.env := by rfl) (h2 : starEach [b] X.env = (false, eval b X.env) :: starEach [] X.env := by rfl) :
    DS B X W (.Assign [.Tuple [.Name x px, .Name y py] kt pt] (.Tuple [a, b] k2 pt2) pos) (rParLE i j r1 r2) := (ps_par hc hN hi hj hij hx hy (pa_cons ha (pa_cons hb pa_nil h2) h1) hw hs).imp fun D σ H ⟨F, R, ρ, N, hH, w, ⟨⟨li, lj⟩, q⟩, k⟩ => by
  subst hH
  refine ⟨F, R, ρ, _, _, rfl, w, q, fun p vs ds F1 x1 dj1 rv _ q1 hp => ?_, fun x cls od F' e dj rx q' => k.ex x cls od σ F' R ρ (w.ext e dj) rx q'⟩
  have np := jn_none hp
  rw [jn_updR np.1]
  have djp : Dj F1 (upd R p (.lst vs)) := dj1.updR np.1
  refine ⟨F1, upd R p (.lst vs), ρ, _, N.ex, rfl, (w.ext x1 dj1).inn np.2 djp, q1, fun u e F2 x2 dj2 ru q2 => ?_, fun x cls od F' e dj rx q' => ?_⟩
  · obtain ⟨n2, d2⟩ := dj_down np.2 dj2
    refine ⟨.ref p, u, rfl, ?_⟩
    have w1 := (w.ext (x1.trans x2) d2).setN (Reps.ext x2 _ _ rv) (p := p) (by rw [jn_r n2]; exact np.2) i li
    have w2 := w1.setV ru j
    exact k.nx _ F2 _ _ w2 q2
  · obtain ⟨n2, d2⟩ := dj_down np.2 dj
    exact k.ex x cls od σ F' _ ρ ((w.ext (x1.trans e) d2).inn np.2 dj) rx q'
theorem ds_parEL {i j : Nat} {x y : Str} {px py pt pt2 : Pos} {kt k2 : Nat} {r1 : RE} {r2 : RA} (hc : X.calm = true) (hN : X.N.Nodup) (hi : X.N[i]? = some x) (hj : X.N[j]? = some y) (hij : i ≠ j) (hx : X.env.scope.names.lookup x = some .local) (hy : X.env.scope.names.lookup y = some .local) (ha : DE B X W a r1) (hb : FE B X W b r2)
    (hw : swappedStores [.Tuple [.Name x px, .Name y py] kt pt] (.Tuple [a, b] k2 pt2) X.env = pure (some [x, y])) (hs : swapsWithSole [.Tuple [.Name x px, .Name y py] kt pt] (.Tuple [a, b] k2 pt2) pos.line X.env = pure false := by rfl) (h1 : starEach [a, b] X.env = (false, eval a X.env) :: starEach [b] X.env := by rfl) (h2 : starEach [b] X.env = (false, eval b X.env) :: starEach [] X.env := by rfl) :
    DS B X W (.Assign [.Tuple [.Name x px, .Name y py] kt pt] (.Tuple [a, b] k2 pt2) pos) (rParEL i j r1 r2) := (ps_par hc hN hi hj hij hx hy (pa_cons ha (pa_cons hb pa_nil h2) h1) hw hs).imp fun D σ H ⟨F, R, ρ, N, hH, w, ⟨⟨li, lj⟩, q⟩, k⟩ => by
  subst hH
  refine ⟨F, R, ρ, _, _, rfl, w, q, fun v d F1 x1 dj1 rv q1 => ?_, fun x cls od F' e dj rx q' => k.ex x cls od σ F' R ρ (w.ext e dj) rx q'⟩
  refine ⟨F1, R, ρ, _, N.ex, rfl, w.ext x1 dj1, q1, fun p2 us es F2 x2 dj2 ru _ q2 hp2 => ?_, fun x cls od F' e dj rx q' => k.ex x cls od σ F' R ρ (w.ext (x1.trans e) dj) rx q'⟩
  have np2 := jn_none hp2
  refine ⟨v, .ref p2, rfl, ?_⟩
  have w1 := (w.ext (x1.trans x2) dj2).setV (Rep.ext x2 _ _ rv) i
  have w2 := w1.setN ru (p := p2) hp2 j (by rw [List.length_set]; exact lj)
  rw [jn_updR np2.1]
  exact k.nx _ F2 _ _ w2 q2
/-! ### min, max, sum of a list of ints -/
def gMinL : GC := fun ds Q => match ds with
  | [.lst xs] => match intsOf xs with
    | some js => 0 < js.length ∧ ∀ m ∈ js, (∀ y ∈ js, m ≤ y) → Q (.int m)
    | none => False
  | _ => False
def gMaxL : GC := fun ds Q => match ds with
  | [.lst xs] => match intsOf xs with
    | some js => 0 < js.length ∧ ∀ m ∈ js, (∀ y ∈ js, y ≤ m) → Q (.int m)
    | none => False
  | _ => False
def gSumL : GC := fun ds Q => match ds with
  | [.lst xs] => match intsOf xs with
    | some js => Q (.int js.sum)
    | none => False
  | _ => False
theorem lst_ints {K : KC} {F : Hp} {vs : List V} {xs : List D} {js : List Int} (rd : Reps K F vs [.lst xs]) (hj : intsOf xs = some js) : ∃ a, vs = [.ref a] ∧ F a = some (.lst (js.map V.int)) := by
  have ej := intsOf_eq hj
  subst ej
  obtain ⟨v, rfl, h⟩ := reps_one rd
  obtain ⟨a, ws, rfl, ha, ra⟩ := rep_lst h
  exact ⟨a, rfl, by rw [ha, reps_intv ra]⟩
theorem cr_minL (hc : X.calm = true) {T : List (Addr × Str)} : CallR X (.builtin "min") (lC (kc T X) gMinL) := fun pins s σ H xs us Q I r ⟨F, R, ds, Q', hH, dj, rd, g, k⟩ => by
  subst hH
  unfold gMinL at g
  split at g
  · split at g
    · rename_i js hj
      obtain ⟨a, rfl, ha⟩ := lst_ints rd hj
      exact cr_min hc pins s σ _ _ us Q I r ⟨a, js, rfl, sq_l (K := kc T X) ha, g.1, fun m hm hle => k.now dj (of_int _) (g.2 m hm hle)⟩
    · exact g.elim
  · exact g.elim
theorem cr_maxL (hc : X.calm = true) {T : List (Addr × Str)} : CallR X (.builtin "max") (lC (kc T X) gMaxL) := fun pins s σ H xs us Q I r ⟨F, R, ds, Q', hH, dj, rd, g, k⟩ => by
  subst hH
  unfold gMaxL at g
  split at g
  · split at g
    · rename_i js hj
      obtain ⟨a, rfl, ha⟩ := lst_ints rd hj
      exact cr_max hc pins s σ _ _ us Q I r ⟨a, js, rfl, sq_l (K := kc T X) ha, g.1, fun m hm hle => k.now dj (of_int _) (g.2 m hm hle)⟩
    · exact g.elim
  · exact g.elim
theorem cr_sumL (hc : X.calm = true) {T : List (Addr × Str)} : CallR X (.builtin "sum") (lC (kc T X) gSumL) := fun pins s σ H xs us Q I r ⟨F, R, ds, Q', hH, dj, rd, g, k⟩ => by
  subst hH
  unfold gSumL at g
  split at g
  · split at g
    · rename_i js hj
      obtain ⟨a, rfl, ha⟩ := lst_ints rd hj
      exact cr_sum hc pins s σ _ _ us Q I r ⟨a, js, rfl, sq_l (K := kc T X) ha, k.now dj (of_int _) g⟩
    · exact g.elim
  · exact g.elim
end
/-! ### list comprehensions over pairs -/
theorem compG_fm {g : G3} {t : RT} {re : RE} {vs : List Nat} {ρ : Env3} {Q : List D → Prop} {p : D → Bool} {f : D → D} : ∀ (ds acc : List D),
    (∀ d ∈ ds, ∀ (K : Env3 → Prop), (∀ ρ', (∀ (K : Bool → Prop), K (p d) → t ρ' K fun _ => False) → (p d = true → ∀ (K : D → Prop), K (f d) → re ρ' K fun _ => False) → K ρ') → g d (wipe3 ρ vs) K) →
    Q (acc ++ (ds.filter p).map f) → compL g t re vs ρ Q ds acc
  | [], acc, _, q => by simpa [compL] using q
  | d :: ds, acc, h, q => by
    refine h d (by simp) _ fun ρ' h1 h2 => h1 _ ?_
    cases e : p d with
    | true =>
      refine h2 e _ ?_
      refine compG_fm ds _ (fun x hx => h x (by simp [hx])) ?_
      rw [List.filter_cons_of_pos e] at q
      simpa using q
    | false =>
      refine compG_fm ds _ (fun x hx => h x (by simp [hx])) ?_
      rw [List.filter_cons_of_neg (by simp [e])] at q
      exact q
/-- for x, y in zip(..): the two names at i and j -/
theorem compZip {i j : Nat} {re : RE} {vs : List Nat} {ρ : Env3} {Q : List D → Prop} {f : D → D → D} (xs ys : List D)
    (h : ∀ x y, (x, y) ∈ xs.zip ys → ∀ (K : D → Prop), K (f x y) → re (((wipe3 ρ vs).set i (.val x)).set j (.val y)) K fun _ => False)
    (q : Q ((xs.zip ys).map fun p => f p.1 p.2)) : compL (g3Tup 2 (g3Cons (g3N i) (g3Cons (g3N j) g3Nil))) (rC true) re vs ρ Q (zipD xs ys) [] := by
  refine compG_fm (p := fun _ => true) (f := fun d => match d with | .tup [x, y] => f x y | _ => .non) _ [] (fun d hd K k => ?_) ?_
  · obtain ⟨⟨x, y⟩, hxy, rfl⟩ := List.mem_map.mp hd
    exact ⟨rfl, k _ (fun K kk => kk) fun _ K kk => h x y hxy K kk⟩
  · rw [List.nil_append, List.filter_eq_self.mpr (by simp)]
    unfold zipD
    rw [List.map_map]
    exact q
end L3
namespace L3
open PySem PySem.Spec L2
open PyProof.Rows hiding St
/-! ### comprehensions over things of which the data tells -/
theorem compG_g {γ : Type} {g : G3} {t : RT} {re : RE} {vs : List Nat} {ρ : Env3} {Q : List D → Prop} {w : γ → D} {p : γ → Bool} {f : γ → D} : ∀ (cs : List γ) (acc : List D),
    (∀ c ∈ cs, ∀ (K : Env3 → Prop), (∀ ρ', (∀ (K : Bool → Prop), K (p c) → t ρ' K fun _ => False) → (p c = true → ∀ (K : D → Prop), K (f c) → re ρ' K fun _ => False) → K ρ') → g (w c) (wipe3 ρ vs) K) →
    Q (acc ++ (cs.filter p).map f) → compL g t re vs ρ Q (cs.map w) acc
  | [], acc, _, q => by simpa [compL] using q
  | c :: cs, acc, h, q => by
    refine h c (by simp) _ fun ρ' h1 h2 => h1 _ ?_
    cases e : p c with
    | true =>
      refine h2 e _ ?_
      refine compG_g cs _ (fun x hx => h x (by simp [hx])) ?_
      rw [List.filter_cons_of_pos e] at q
      simpa using q
    | false =>
      refine compG_g cs _ (fun x hx => h x (by simp [hx])) ?_
      rw [List.filter_cons_of_neg (by simp [e])] at q
      exact q
theorem zipD_map {α β : Type} (u : α → D) (v : β → D) (xs : List α) (ys : List β) : zipD (xs.map u) (ys.map v) = (xs.zip ys).map fun p => .tup [u p.1, v p.2] := by
  unfold zipD
  rw [List.zip_map, List.map_map]
  rfl
/-- [.. for x, y in zip(..)] -/
theorem compZ2 {α β : Type} {u : α → D} {v : β → D} {f : α → β → D} {i j : Nat} {re : RE} {vs : List Nat} {ρ : Env3} {Q : List D → Prop} (xs : List α) (ys : List β)
    (h : ∀ x y, (x, y) ∈ xs.zip ys → ∀ (K : D → Prop), K (f x y) → re (((wipe3 ρ vs).set i (.val (u x))).set j (.val (v y))) K fun _ => False)
    (q : Q ((xs.zip ys).map fun p => f p.1 p.2)) : compL (g3Tup 2 (g3Cons (g3N i) (g3Cons (g3N j) g3Nil))) (rC true) re vs ρ Q (zipD (xs.map u) (ys.map v)) [] := by
  rw [zipD_map]
  refine compG_g (p := fun _ => true) (f := fun p => f p.1 p.2) _ [] (fun c hc K k => ⟨rfl, k _ (fun K kk => kk) fun _ K kk => h c.1 c.2 hc K kk⟩) ?_
  rw [List.nil_append, List.filter_eq_self.mpr (by simp)]
  exact q
theorem compM {α : Type} {u : α → D} {f : α → D} {i : Nat} {re : RE} {vs : List Nat} {ρ : Env3} {Q : List D → Prop} (xs : List α)
    (h : ∀ x ∈ xs, ∀ (K : D → Prop), K (f x) → re ((wipe3 ρ vs).set i (.val (u x))) K fun _ => False) (q : Q (xs.map f)) : compL (g3N i) (rC true) re vs ρ Q (xs.map u) [] := by
  refine compG_g (p := fun _ => true) (f := f) _ [] (fun c hc K k => k _ (fun K kk => kk) fun _ K kk => h c hc K kk) ?_
  rw [List.nil_append, List.filter_eq_self.mpr (by simp)]
  exact q
/-- [.. for k in range(n) if ..] -/
theorem compN {f : Nat → D} {p : Nat → Bool} {i : Nat} {t : RT} {re : RE} {vs : List Nat} {ρ : Env3} {Q : List D → Prop} (n : Nat)
    (h : ∀ k, k < n → (∀ (K : Bool → Prop), K (p k) → t ((wipe3 ρ vs).set i (.val (.int (0 + (k : Nat))))) K fun _ => False) ∧ (p k = true → ∀ (K : D → Prop), K (f k) → re ((wipe3 ρ vs).set i (.val (.int (0 + (k : Nat))))) K fun _ => False))
    (q : Q (((List.range n).filter p).map f)) : compL (g3N i) t re vs ρ Q (rangeD 0 n) [] :=
  compG_g (w := fun k : Nat => .int (0 + (k : Nat))) (p := p) (f := f) _ [] (fun c hc K k => k _ (h c (List.mem_range.mp hc)).1 (h c (List.mem_range.mp hc)).2) (by rw [List.nil_append]; exact q)
theorem compN1 {f : Nat → D} {i : Nat} {re : RE} {vs : List Nat} {ρ : Env3} {Q : List D → Prop} (n : Nat)
    (h : ∀ k, k < n → ∀ (K : D → Prop), K (f k) → re ((wipe3 ρ vs).set i (.val (.int (0 + (k : Nat))))) K fun _ => False)
    (q : Q ((List.range n).map f)) : compL (g3N i) (rC true) re vs ρ Q (rangeD 0 n) [] :=
  compN (p := fun _ => true) n (fun k hk => ⟨fun K kk => kk, fun _ => h k hk⟩) (by rw [List.filter_eq_self.mpr (by simp)]; exact q)
theorem allBl_of {α : Type} (p : α → Bool) : ∀ l : List α, allBl (l.map fun a => D.bl (p a)) = some (l.map p)
  | [] => rfl
  | a :: l => by
    show (match blOf (D.bl (p a)), allBl (l.map fun a => D.bl (p a)) with | some b, some bs => some (b :: bs) | _, _ => none) = _
    rw [allBl_of p l]
    rfl
theorem gAll_of {α : Type} {p : α → Bool} {l : List α} {Q : D → Prop} (h : Q (.bl (l.all p))) : gAll [.lst (l.map fun a => D.bl (p a))] Q := by
  show (match allBl (l.map fun a => D.bl (p a)) with | some bs => Q (.bl (bs.all id)) | none => False)
  rw [allBl_of]
  show Q (.bl ((l.map p).all id))
  rw [List.all_map]
  exact h
theorem at0 {xs : List D} {k : Nat} {d : D} (h : xs[k]? = some d) : atI xs (0 + (k : Nat)) = some d := by rw [Int.zero_add]; exact atJ_nat h
/-! ### rows, bundles, frames of ratios -/
def rowQ (r : List Rat) : D := .tup (r.map ratD)
def bunQ (b : List (List Rat)) : D := .tup (b.map rowQ)
def rowsQ (R : List (List (List Rat))) : D := .tup (R.map bunQ)
theorem Sz.add {m n : Nat} {r s : Rat} (hr : Sz m r) (hs : Sz n s) : Sz (m + n + 1) (r + s) := by
  rw [← rat_add]
  have h0 : ((r.den : Nat) : Int) * (s.den : Nat) ≠ 0 := Int.mul_ne_zero (den_ne r) (den_ne s)
  constructor
  · refine Nat.lt_of_le_of_lt (divInt_num_le _ _) (pow_mono2' (add_sz' (mul_sz hr.n hs.d) (mul_sz hs.n hr.d)) ?_)
    omega
  · refine Nat.lt_of_le_of_lt (divInt_den_le h0) (pow_mono2' (mul_sz hr.d hs.d) ?_)
    omega
where
  pow_mono2' {a m n : Nat} (h : a < 2 ^ m) (hm : m ≤ n) : a < 2 ^ n := Nat.lt_of_lt_of_le h (Nat.pow_le_pow_right (by decide) hm)
  add_sz' {a b : Int} {m n : Nat} (ha : a.natAbs < 2 ^ m) (hb : b.natAbs < 2 ^ n) : (a + b).natAbs < 2 ^ (max m n + 1) := intBits_le_iff.mp (intBits_add_le (intBits_le_iff.mpr ha) (intBits_le_iff.mpr hb))
theorem Sz.mul {m n : Nat} {r s : Rat} (hr : Sz m r) (hs : Sz n s) : Sz (m + n) (r * s) := by
  rw [← rat_mul]
  have h0 : ((r.den : Nat) : Int) * (s.den : Nat) ≠ 0 := Int.mul_ne_zero (den_ne r) (den_ne s)
  exact ⟨Nat.lt_of_le_of_lt (divInt_num_le _ _) (mul_sz hr.n hs.n), Nat.lt_of_le_of_lt (divInt_den_le h0) (mul_sz hr.d hs.d)⟩
theorem Sz.zero : Sz 1 (0 : Rat) := ⟨by decide, by decide⟩
theorem dot_sz {β : Nat} : ∀ (rs ss : List Rat), (∀ r ∈ rs, Sz β r) → (∀ s ∈ ss, Sz β s) → Sz (rs.length * (2 * β + 1) + 1) (dotR rs ss)
  | [], ss, _, _ => by
    show Sz _ 0
    exact Sz.zero.mono (by simp)
  | r :: rs, [], _, _ => by
    show Sz _ 0
    exact Sz.zero.mono (by omega)
  | r :: rs, s :: ss, hr, hs => by
    show Sz _ (r * s + dotR rs ss)
    refine ((hr r (by simp)).mul (hs s (by simp))).add (dot_sz rs ss (fun x h => hr x (by simp [h])) fun x h => hs x (by simp [h])) |>.mono ?_
    rw [List.length_cons, Nat.add_mul, Nat.one_mul]
    omega
theorem row_all (r : List Rat) : (r.map ratD).all isRatD = true := List.all_eq_true.mpr fun x hx => by
  obtain ⟨q, _, rfl⟩ := List.mem_map.mp hx
  exact isRatD_rat q
theorem isRow_q (r : List Rat) (m : Int) : isRowD (rowQ r) m = decide ((r.length : Int) = m) := by
  have e : isRowD (rowQ r) m = (true && (decide (((r.map ratD).length : Int) = m) && (r.map ratD).all isRatD)) := rfl
  rw [e, row_all, List.length_map, Bool.true_and, Bool.and_true]
theorem row_pl {r : List Rat} (h : r.length ≤ 65536) : plD (rowQ r) = true := plD_mkt (by rw [List.length_map]; exact h) fun x hx => by
  obtain ⟨q, _, rfl⟩ := List.mem_map.mp hx
  exact ratD_pl q
theorem bun_pl {b : List (List Rat)} (h : b.length ≤ 65536) (h2 : ∀ r ∈ b, r.length ≤ 65536) : plD (bunQ b) = true := plD_mkt (by rw [List.length_map]; exact h) fun x hx => by
  obtain ⟨q, hq, rfl⟩ := List.mem_map.mp hx
  exact row_pl (h2 q hq)
theorem tup_rat (r : Rat) : tupD (ratD r) = ratD r ∧ dpD (ratD r) ≤ 1 := by
  rcases isI r with ⟨_, e⟩ | ⟨_, e⟩ <;> rw [e]
  · exact ⟨rfl, Nat.zero_le _⟩
  · exact ⟨rfl, Nat.le_refl _⟩
theorem dpDs_le' {xs : List D} {n : Nat} (h : ∀ x ∈ xs, dpD x ≤ n) : dpDs xs ≤ n := by
  induction xs with
  | nil => exact Nat.zero_le _
  | cons x xs ih =>
    unfold dpDs
    exact Nat.max_le.mpr ⟨h x (by simp), ih fun y hy => h y (by simp [hy])⟩
theorem tup_map {xs : List D} {n : Nat} (h : ∀ x ∈ xs, tupD x = x ∧ dpD x ≤ n) : tupD (.tup xs) = .tup xs ∧ dpD (.tup xs) ≤ n + 1 := by
  constructor
  · unfold tupD
    rw [tupDs_map]
    exact congrArg D.tup ((List.map_congr_left fun x hx => (h x hx).1).trans (List.map_id _))
  · unfold dpD
    exact Nat.succ_le_succ (dpDs_le' fun x hx => (h x hx).2)
theorem tup_row (r : List Rat) : tupD (rowQ r) = rowQ r ∧ dpD (rowQ r) ≤ 2 := tup_map fun x hx => by
  obtain ⟨q, _, rfl⟩ := List.mem_map.mp hx
  exact tup_rat q
theorem tup_bun (b : List (List Rat)) : tupD (bunQ b) = bunQ b ∧ dpD (bunQ b) ≤ 3 := tup_map fun x hx => by
  obtain ⟨q, _, rfl⟩ := List.mem_map.mp hx
  exact tup_row q
theorem tup_rows (R : List (List (List Rat))) : tupD (rowsQ R) = rowsQ R ∧ dpD (rowsQ R) ≤ 4 := tup_map fun x hx => by
  obtain ⟨q, _, rfl⟩ := List.mem_map.mp hx
  exact tup_bun q
/-- the slacks of a load at a standing -/
def slQ (R : List (List (List Rat))) (L : List (List Rat)) (ss : List Rat) : List (List Rat) := (R.zip L).map fun p => (p.1.zip p.2).map fun q => dotR q.1 ss + q.2
/-- the least slack of each place is 0 -/
def ansQ (S : List (List Rat)) : Bool := S.all fun t => t.all (fun x => decide (0 ≤ x.num)) && t.any (fun x => decide (x = 0))
end L3
namespace Cl
open PySem PySem.Spec L2 L3
open PyProof.Rows hiding St
def excN : List Str := ["BadLoad", "BadRow"]
/-- ratios of up to 40 digits -/
def SmR (r : Rat) : Prop := r.num.natAbs < 10 ^ 40 ∧ r.den < 10 ^ 40
theorem SmR.neg {r : Rat} (h : SmR r) : SmR (-r) := ⟨by rw [rneg_num, Int.natAbs_neg]; exact h.1, by rw [rneg_den]; exact h.2⟩
theorem SmR.sz {r : Rat} (h : SmR r) : Sz 140 r := ⟨Nat.lt_trans h.1 (by decide +kernel), Nat.lt_trans h.2 (by decide +kernel)⟩
theorem sm_sz {r : Rat} (h : SmR r) : Sz 3900 r := h.sz.mono (by decide)
def sp_opposite : Sp3 := fun ds Q _ => ∃ r : Rat, ds = [ratD r] ∧ Q (ratD (-r))
theorem opp_read {r : Rat} {Q : D → Prop} {E : XD → Prop} {ρ : Env3} (q : Q (ratD (-r))) (r0 : ρ[0]? = some (.val (ratD r))) :
    rIte (rTV (rIs "int" (rVar 0))) (rUn gNeg (rVar 0)) (rTup (rCons (rUn gNeg (rOp gIx (rVar 0) (rC (.int 0)))) (rCons (rOp gIx (rVar 0) (rC (.int 1))) rNil))) ρ Q E := by
  dsimp only [rIte, rTV, rOp, rTup, rCons, rNil, rVar, rIs, rUn, rC]
  simp only [r0]
  by_cases hd : r.den = 1
  · rw [ratD_1 (r := -r) (by rw [rneg_den]; exact hd), rneg_num] at q
    rw [ratD_1 hd]
    exact ⟨rfl, q⟩
  · rw [ratD_2 (r := -r) (by rw [rneg_den]; exact hd), rneg_num, rneg_den] at q
    rw [ratD_2 hd]
    exact ⟨rfl, sz 2, q⟩
def sp_divided : Sp3 := fun ds Q _ => ∃ r s : Rat, ds = [ratD r, ratD s] ∧ Sz 3900 r ∧ Sz 3900 s ∧ s ≠ 0 ∧ Q (ratD (r / s))
def sp_is_below : Sp3 := fun ds Q _ => ∃ r s : Rat, ds = [ratD r, ratD s] ∧ Sz 3900 r ∧ Sz 3900 s ∧ Q (.bl (decide (r < s)))
def sp_summed : Sp3 := fun ds Q _ => ∃ x y rs ss β, ds = [x, y] ∧ RowR x rs ∧ RowR y ss ∧ rs.length = ss.length ∧ 2 * β * rs.length ≤ 7990 ∧ rs.length ≤ 4096 ∧ β ≤ 8000 ∧ (∀ r ∈ rs, Sz β r) ∧ (∀ s ∈ ss, Sz β s) ∧ Q (ratD (dotR rs ss))

structure FrOk (R : List (List (List Rat))) : Prop where
  h1 : 1 ≤ R.length
  h12 : R.length ≤ 12
  hb : ∀ b ∈ R, 1 ≤ b.length ∧ b.length ≤ 12 ∧ ∀ r ∈ b, r.length = R.length ∧ ∀ q ∈ r, SmR q
def IsFr (d : D) (R : List (List (List Rat))) : Prop := FrOk R ∧ ∃ fs, d = .ins "Frame" fs ∧ fs.lookup ("rows" : Str) = some (rowsQ R)
def lensQ (R : List (List (List Rat))) : List Nat := R.map List.length
/-- whether a value is a load of places with so many rows -/
def fitI (ns : List Nat) (d : D) : Bool := isLstD d && (decide ((itemsL d).length = ns.length) && (List.range ns.length).all fun i => isRowD ((itemsL d).getD i .non) ((ns.getD i 0 : Nat) : Int))
def blE : XD := exD "BadLoad" ["what"] [.str "load"]
def LdOk (R : List (List (List Rat))) (L : List (List Rat)) : Prop := L.map List.length = R.map List.length ∧ ∀ l ∈ L, ∀ x ∈ l, Sz 1900 x
def StOk (R : List (List (List Rat))) (ss : List Rat) : Prop := ss.length = R.length ∧ ∀ s ∈ ss, SmR s
def slP (ss : List Rat) (p : List (List Rat) × List Rat) : List Rat := (p.1.zip p.2).map fun q => dotR q.1 ss + q.2
def restQ (t : List Rat) : D := .tup (((List.range t.length).filter fun k => decide (t.getD k 1 = 0)).map fun k => .int (k : Nat))
def isTupD : D → Bool
  | .tup _ => true
  | _ => false
theorem dot12 {rs ss : List Rat} (h : rs.length ≤ 12) (hr : ∀ r ∈ rs, SmR r) (hs : ∀ s ∈ ss, SmR s) : Sz 3400 (dotR rs ss) := (dot_sz (β := 140) rs ss (fun r h => (hr r h).sz) fun s h => (hs s h).sz).mono (by omega)
theorem getD_of {α : Type} {xs : List α} {k : Nat} {x d : α} (h : xs[k]? = some x) : xs.getD k d = x := by
  rw [List.getD_eq_getElem?_getD, h]
  rfl
theorem get_lt {α : Type} {xs : List α} {k : Nat} (h : k < xs.length) : ∃ x, xs[k]? = some x ∧ x ∈ xs := ⟨xs[k], List.getElem?_eq_getElem h, List.getElem_mem h⟩
theorem map_get {α β : Type} {f : α → β} {xs : List α} {k : Nat} {x : α} (h : xs[k]? = some x) : (xs.map f)[k]? = some (f x) := by
  rw [List.getElem?_map, h]
  rfl
theorem ld_len {R : List (List (List Rat))} {L : List (List Rat)} (h : LdOk R L) : L.length = R.length := by
  have := congrArg List.length h.1
  simpa using this
/-- pairs of a bundle and its numbers are alike long -/
theorem ld_pair {R : List (List (List Rat))} {L : List (List Rat)} (h : L.map List.length = R.map List.length) : ∀ p ∈ R.zip L, p.1 ∈ R ∧ p.2 ∈ L ∧ p.2.length = p.1.length := by
  induction R generalizing L with
  | nil => intro p hp; simp at hp
  | cons b R ih =>
    cases L with
    | nil => intro p hp; simp at hp
    | cons l L =>
      simp only [List.map_cons, List.cons.injEq] at  h
      intro p hp
      rcases List.mem_cons.mp (show p ∈ (b, l) :: R.zip L from hp) with rfl | hp
      · exact ⟨by simp, by simp, h.1⟩
      · obtain ⟨a, b, c⟩ := ih h.2 p hp
        exact ⟨by simp [a], by simp [b], c⟩
theorem exN_mem {a b : List Rat} (h : a.length = b.length) : (a.zip b).length = a.length := by
  rw [List.length_zip, h]
  omega

def sp_is_integer : Sp3 := fun ds Q _ => match ds with
  | [d] => noIns d = true ∧ Q (.bl (isIntD d))
  | _ => False

def t_is_integer : RS := (rRet (rAndV (rIs "int" (rVar 0)) (rNotV (rIs "bool" (rVar 0)))))

theorem pl_is_integer : ∀ (ds : List D) (Q : D → Prop) (E : XD → Prop), ds.length = 1 → sp_is_integer ds Q E → t_is_integer { nx := fun _ => Q .non, rt := Q, ex := E } (start3 1 ds) := fun ds Q E hl h => by
  match ds, h with
  | [d], h =>
    obtain ⟨h1, h2⟩ := h
    refine ⟨h1, ?_⟩
    cases d <;> first | (cases h1; done) | exact h2 | exact ⟨h1, h2⟩

def sp_is_ratio : Sp3 := fun ds Q _ => match ds with
  | [d] => plD d = true ∧ Q (.bl (isRatD d))
  | _ => False

def t_is_ratio : RS := (rSeq (rIf (rNot (rTV (rIs "tuple" (rVar 0)))) (rRet (rCall 1 sp_is_integer (rCons (rVar 0) rNil))) rNext)
    (rSeq (rIf (rOr (rTV (rOp gNe (rCB gLen (rCons (rVar 0) rNil)) (rC (.int 2)))) (rOr (rNot (rTV (rCall 1 sp_is_integer (rCons (rOp gIx (rVar 0) (rC (.int 0))) rNil)))) (rNot (rTV (rCall 1 sp_is_integer (rCons (rOp gIx (rVar 0) (rC (.int 1))) rNil)))))) (rRet (rC (.bl false))) rNext)
    (rRet (rAndV (rOp gGt (rOp gIx (rVar 0) (rC (.int 1))) (rC (.int 1))) (rOp gEq (rCB gGcd (rCons (rOp gIx (rVar 0) (rC (.int 0))) (rCons (rOp gIx (rVar 0) (rC (.int 1))) rNil))) (rC (.int 1)))))))

theorem pl_is_ratio : ∀ (ds : List D) (Q : D → Prop) (E : XD → Prop), ds.length = 1 → sp_is_ratio ds Q E → t_is_ratio { nx := fun _ => Q .non, rt := Q, ex := E } (start3 1 ds) := fun ds Q E hl h => by
  match ds, h with
  | [d], h =>
    obtain ⟨h1, h2⟩ := h
    cases d with
    | tup xs =>
      obtain ⟨hl, hm⟩ := plD_tup h1
      refine ⟨rfl, ?_⟩
      conv => whnf
      split
      · rename_i e
        have e0 : isRatD (.tup xs) = false := isRatD_not fun a b w => by subst w; cases (nbT e)
        rw [e0] at h2
        exact h2
      · rename_i e
        have e1 : xs.length = 2 := by
          have := nbD e
          omega
        obtain ⟨x, y, rfl⟩ := list2 e1
        have hx := plD_noIns (hm x (by simp))
        have hy := plD_noIns (hm y (by simp))
        refine ⟨rfl, hx, ?_⟩
        conv => whnf
        split
        · rename_i ex
          have : isRatD (.tup [x, y]) = false := isRatD_not fun a b z => by cases z; cases (nbT ex)
          rw [this] at h2
          exact h2
        · rename_i e
          obtain ⟨a, rfl⟩ := isIntD_eq (nbF e)
          refine ⟨rfl, hy, ?_⟩
          conv => whnf
          split
          · rename_i e2
            have : isRatD (.tup [.int a, y]) = false := isRatD_not fun a b z => by cases z; cases (nbT e2)
            rw [this] at h2
            exact h2
          · rename_i e2
            obtain ⟨c, rfl⟩ := isIntD_eq (nbF e2)
            conv => whnf
            split
            · rename_i e3
              have e3 : decide (1 < c) = true := e3
              have e4 : isRatD (.tup [.int a, .int c]) = decide (((a.natAbs.gcd c.natAbs : Nat) : Int) = 1) := by
                show (decide (1 < c) && decide (a.natAbs.gcd c.natAbs = 1)) = _
                rw [e3, Bool.true_and]
                exact decide_eq_decide.mpr ((by omega))
              rw [e4] at h2
              exact h2
            · rename_i e3
              have e3 : decide (1 < c) = false := e3
              have e4 : isRatD (.tup [.int a, .int c]) = false := by
                show (decide (1 < c) && decide (a.natAbs.gcd c.natAbs = 1)) = _
                rw [e3, Bool.false_and]
              rw [e4] at h2
              exact h2
    | int i => exact ⟨rfl, rfl, rfl, h2⟩
    | non => exact ⟨rfl, rfl, rfl, h2⟩
    | bl b => exact ⟨rfl, rfl, rfl, h2⟩
    | str b => exact ⟨rfl, rfl, rfl, h2⟩
    | lst b => exact ⟨rfl, rfl, rfl, h2⟩
    | dct b => exact ⟨rfl, rfl, rfl, h2⟩
    | scr _ => cases h1
    | pen => cases h1
    | ins _ _ => cases h1
    | exc _ _ => cases h1

def sp_pair : Sp3 := fun ds Q _ => ∃ r : Rat, ds = [ratD r] ∧ Q (.tup [.int r.num, .int (r.den : Nat)])

def t_pair : RS := (rRet (rIte (rTV (rIs "int" (rVar 0))) (rTup (rCons (rVar 0) (rCons (rC (.int 1)) rNil))) (rVar 0)))

theorem pl_pair : ∀ (ds : List D) (Q : D → Prop) (E : XD → Prop), ds.length = 1 → sp_pair ds Q E → t_pair { nx := fun _ => Q .non, rt := Q, ex := E } (start3 1 ds) := fun ds Q E hl h => by
  obtain ⟨r, rfl, q⟩ := h
  by_cases hd : r.den = 1
  · rw [hd] at q
    rw [ratD_1 hd]
    exact ⟨rfl, by show 2 ≤ sizeLine; decide, q⟩
  · rw [ratD_2 hd]
    exact ⟨rfl, q⟩

def sp_in_lowest : Sp3 := fun ds Q _ => ∃ t b : Int, ds = [.int t, .int b] ∧ b ≠ 0 ∧ b.natAbs < 2 ^ 8000 ∧ Q (ratD (Rat.divInt t b))

def t_in_lowest : RS := (rSeq (rSet 2 (rIte (rTV (rOp gGt (rVar 1) (rC (.int 0)))) (rCB gGcd (rCons (rVar 0) (rCons (rVar 1) rNil))) (rUn gNeg (rCB gGcd (rCons (rVar 0) (rCons (rVar 1) rNil))))))
    (rRet (rIte (rTV (rOp gEq (rVar 1) (rVar 2))) (rOp gDiv (rVar 0) (rVar 2)) (rTup (rCons (rOp gDiv (rVar 0) (rVar 2)) (rCons (rOp gDiv (rVar 1) (rVar 2)) rNil))))))

theorem divOk_low {t b : Int} (h0 : b ≠ 0) (h1 : b.natAbs < 2 ^ 8000) : DivOk t (lowG t b) := ⟨lowG_ne h0, log2_lt_of (Nat.lt_of_le_of_lt (lowG_le h0) (Nat.lt_of_lt_of_le h1 (Nat.pow_le_pow_right (by decide) (by decide)))) (by decide)⟩
theorem divOk_low2 {t b : Int} (h0 : b ≠ 0) (h1 : b.natAbs < 2 ^ 8000) : DivOk b (lowG t b) := ⟨(divOk_low h0 h1).1, (divOk_low h0 h1).2⟩
/-- the end of in_lowest and of the law's own -/
theorem low_end {t b : Int} (h0 : b ≠ 0) (h1 : b.natAbs < 2 ^ 8000) {Q : D → Prop} {E : XD → Prop} {ρ : Env3} (q : Q (ratD (Rat.divInt t b))) (r0 : ρ[0]? = some (.val (.int t))) (r1 : ρ[1]? = some (.val (.int b))) (r2 : ρ[2]? = some (.val (.int (lowG t b)))) :
    rIte (rTV (rOp gEq (rVar 1) (rVar 2))) (rOp gDiv (rVar 0) (rVar 2)) (rTup (rCons (rOp gDiv (rVar 0) (rVar 2)) (rCons (rOp gDiv (rVar 1) (rVar 2)) rNil))) ρ Q E := by
  dsimp only [rIte, rTV, rOp, rTup, rCons, rNil, rVar]
  simp only [r0, r1, r2]
  show (match decide (b = lowG t b) with | true => _ | false => _)
  split
  · rename_i e
    have e := of_decide_eq_true e
    refine ⟨divOk_low h0 h1, ?_⟩
    rw [low_top h0, ← ratD_1 ((low_one h0).mp e)]
    exact q
  · rename_i e
    have e := of_decide_eq_false e
    refine ⟨divOk_low h0 h1, divOk_low2 h0 h1, by show 2 ≤ sizeLine; decide, ?_⟩
    rw [low_top h0, low_bot h0, ← ratD_2 fun z => e ((low_one h0).mpr z)]
    exact q
theorem pl_in_lowest : ∀ (ds : List D) (Q : D → Prop) (E : XD → Prop), ds.length = 2 → sp_in_lowest ds Q E → t_in_lowest { nx := fun _ => Q .non, rt := Q, ex := E } (start3 3 ds) := fun ds Q E hl h => by
  obtain ⟨t, b, rfl, h0, h1, q⟩ := h
  have key : ∀ g : Int, g = lowG t b → rRet (rIte (rTV (rOp gEq (rVar 1) (rVar 2))) (rOp gDiv (rVar 0) (rVar 2)) (rTup (rCons (rOp gDiv (rVar 0) (rVar 2)) (rCons (rOp gDiv (rVar 1) (rVar 2)) rNil)))) { nx := fun _ => Q .non, rt := Q, ex := E } [.val (.int t), .val (.int b), .val (.int g)] := fun g e => by
    subst e
    exact low_end h0 h1 q rfl rfl rfl
  unfold t_in_lowest
  conv => whnf
  split
  · rename_i e
    have e : decide (0 < b) = true := e
    exact key _ (by unfold lowG; rw [if_pos (of_decide_eq_true e)])
  · rename_i e
    have e : decide (0 < b) = false := e
    exact key _ (by unfold lowG; rw [if_neg (of_decide_eq_false e)])

def sp_added : Sp3 := fun ds Q _ => ∃ r s : Rat, ds = [ratD r, ratD s] ∧ Sz 3900 r ∧ Sz 3900 s ∧ Q (ratD (r + s))

def t_added : RS := (rSeq (rIf (rAnd (rTV (rIs "int" (rVar 0))) (rTV (rIs "int" (rVar 1)))) (rRet (rOp gAdd (rVar 0) (rVar 1))) rNext)
    (rSeq (rAsg (g3Tup 2 (g3Cons (g3Tup 2 (g3Cons (g3N 2) (g3Cons (g3N 3) g3Nil))) (g3Cons (g3Tup 2 (g3Cons (g3N 4) (g3Cons (g3N 5) g3Nil))) g3Nil))) (rTup (rCons (rCall 1 sp_pair (rCons (rVar 0) rNil)) (rCons (rCall 1 sp_pair (rCons (rVar 1) rNil)) rNil))))
    (rRet (rCall 2 sp_in_lowest (rCons (rOp gAdd (rOp gMul (rVar 2) (rVar 5)) (rOp gMul (rVar 4) (rVar 3))) (rCons (rOp gMul (rVar 3) (rVar 5)) rNil))))))

theorem pl_added : ∀ (ds : List D) (Q : D → Prop) (E : XD → Prop), ds.length = 2 → sp_added ds Q E → t_added { nx := fun _ => Q .non, rt := Q, ex := E } (start3 6 ds) := fun ds Q E hl h => by
  obtain ⟨r, s, rfl, hr, hs, q⟩ := h
  have main : (rSeq (rAsg (g3Tup 2 (g3Cons (g3Tup 2 (g3Cons (g3N 2) (g3Cons (g3N 3) g3Nil))) (g3Cons (g3Tup 2 (g3Cons (g3N 4) (g3Cons (g3N 5) g3Nil))) g3Nil))) (rTup (rCons (rCall 1 sp_pair (rCons (rVar 0) rNil)) (rCons (rCall 1 sp_pair (rCons (rVar 1) rNil)) rNil))))
    (rRet (rCall 2 sp_in_lowest (rCons (rOp gAdd (rOp gMul (rVar 2) (rVar 5)) (rOp gMul (rVar 4) (rVar 3))) (rCons (rOp gMul (rVar 3) (rVar 5)) rNil))))) { nx := fun _ => Q .non, rt := Q, ex := E } (start3 6 [ratD r, ratD s]) := by
    refine ⟨rfl, r, rfl, rfl, s, rfl, sz 2, rfl, rfl, rfl, ?_⟩
    refine ⟨mulOk_sz hr.n hs.d (by decide), mulOk_sz hs.n hr.d (by decide), mulOk_sz hr.d hs.d (by decide), rfl, _, _, rfl, Int.mul_ne_zero (den_ne r) (den_ne s), ?_, ?_⟩
    · exact Nat.lt_of_lt_of_le (mul_sz hr.d hs.d) (Nat.pow_le_pow_right (by decide) (by decide))
    · rw [rat_add]
      exact q
  rcases isI r with ⟨h1, e1⟩ | ⟨h1, e1⟩
  · rcases isI s with ⟨h2, e2⟩ | ⟨h2, e2⟩
    · rw [add_int h1 h2] at q
      rw [e1, e2]
      exact ⟨rfl, rfl, q⟩
    · rw [e1, e2] at main ⊢
      exact ⟨rfl, rfl, main⟩
  · rw [e1] at main ⊢
    exact ⟨rfl, main⟩

def sp_sign_of : Sp3 := fun ds Q _ => ∃ r : Rat, ds = [ratD r] ∧ Q (.int r.num.sign)

def t_sign_of : RS := (rSeq (rSet 1 (rIte (rTV (rIs "int" (rVar 0))) (rVar 0) (rOp gIx (rVar 0) (rC (.int 0)))))
    (rRet (rIte (rTV (rOp gGt (rVar 1) (rC (.int 0)))) (rC (.int 1)) (rIte (rTV (rOp gLt (rVar 1) (rC (.int 0)))) (rUn gNeg (rC (.int 1))) (rC (.int 0))))))

theorem pl_sign_of : ∀ (ds : List D) (Q : D → Prop) (E : XD → Prop), ds.length = 1 → sp_sign_of ds Q E → t_sign_of { nx := fun _ => Q .non, rt := Q, ex := E } (start3 2 ds) := fun ds Q E hl h => by
  obtain ⟨r, rfl, q⟩ := h
  rw [← sign_if] at q
  have key : ∀ d : D, rRet (rIte (rTV (rOp gGt (rVar 1) (rC (.int 0)))) (rC (.int 1)) (rIte (rTV (rOp gLt (rVar 1) (rC (.int 0)))) (rUn gNeg (rC (.int 1))) (rC (.int 0)))) { nx := fun _ => Q .non, rt := Q, ex := E } [.val d, .val (.int r.num)] := fun d => by
    conv => whnf
    split
    · rename_i e
      have e : decide (0 < r.num) = true := e
      rw [if_pos (of_decide_eq_true e)] at q
      exact q
    · rename_i e
      have e : decide (0 < r.num) = false := e
      rw [if_neg (of_decide_eq_false e)] at q
      conv => whnf
      split
      · rename_i e
        have e : decide (r.num < 0) = true := e
        rw [if_pos (of_decide_eq_true e)] at q
        exact q
      · rename_i e
        have e : decide (r.num < 0) = false := e
        rw [if_neg (of_decide_eq_false e)] at q
        exact q
  by_cases hd : r.den = 1
  · rw [ratD_1 hd]
    exact ⟨rfl, key _⟩
  · rw [ratD_2 hd]
    exact ⟨rfl, key _⟩


def t_summed : RS := (rSeq (rAsg (g3Tup 2 (g3Cons (g3N 2) (g3Cons (g3N 3) g3Nil))) (rTup (rCons (rC (.int 0)) (rCons (rC (.int 1)) rNil))))
    (rSeq (rFor (rZip2 (rCons (rVar 0) (rCons (rVar 1) rNil))) (g3Tup 2 (g3Cons (g3N 4) (g3Cons (g3N 5) g3Nil))) (rSeq (rIf (rOr (rTV (rOp gEq (rVar 4) (rC (.int 0)))) (rTV (rOp gEq (rVar 5) (rC (.int 0))))) rCont rNext)
    (rSeq (rAsg (g3Tup 2 (g3Cons (g3Tup 2 (g3Cons (g3N 6) (g3Cons (g3N 7) g3Nil))) (g3Cons (g3Tup 2 (g3Cons (g3N 8) (g3Cons (g3N 9) g3Nil))) g3Nil))) (rTup (rCons (rCall 1 sp_pair (rCons (rVar 4) rNil)) (rCons (rCall 1 sp_pair (rCons (rVar 5) rNil)) rNil))))
    (rSeq (rSet 7 (rOp gMul (rVar 7) (rVar 9)))
    (rIf (rTV (rOp gEq (rVar 7) (rVar 3))) (rSet 2 (rOp gAdd (rVar 2) (rOp gMul (rVar 6) (rVar 8)))) (rSeq (rSet 2 (rOp gAdd (rOp gMul (rVar 2) (rVar 7)) (rOp gMul (rOp gMul (rVar 6) (rVar 8)) (rVar 3))))
    (rSet 3 (rOp gMul (rVar 3) (rVar 7)))))))))
    (rRet (rCall 2 sp_in_lowest (rCons (rVar 2) (rCons (rVar 3) rNil))))))

theorem pl_summed : ∀ (ds : List D) (Q : D → Prop) (E : XD → Prop), ds.length = 2 → sp_summed ds Q E → t_summed { nx := fun _ => Q .non, rt := Q, ex := E } (start3 10 ds) := fun ds Q E hl h => by
  obtain ⟨x, y, rs, ss, β, rfl, hx, hy, hlen, hn, hn2, hβ, hr, hs, q⟩ := h
  refine ⟨sz 2, rfl, ?_⟩
  show match itemsZ? x, itemsZ? y with | some xs, some ys => _ | _, _ => _
  rw [hx.z, hy.z]
  refine for_invG (fun l ρ => ∃ (k : Nat) (rs' ss' : List Rat) (t b : Int) (acc : Rat) (a4 a5 a6 a7 a8 a9 : Sl), l = zipD (rs'.map ratD) (ss'.map ratD) ∧ rs'.length = ss'.length ∧ k + rs'.length = rs.length ∧ (∀ r ∈ rs', Sz β r) ∧ (∀ s ∈ ss', Sz β s) ∧ DotI β k t b acc ∧ acc + dotR rs' ss' = dotR rs ss ∧ ρ = [.val x, .val y, .val (.int t), .val (.int b), a4, a5, a6, a7, a8, a9]) (fun d l ρ K hI hK => ?_) (fun ρ hI => ?_) _ _ ⟨0, rs, ss, 0, 1, 0, .emp, .emp, .emp, .emp, .emp, .emp, rfl, hlen, by omega, hr, hs, dotI_0, by rw [Rat.zero_add], rfl⟩
  · obtain ⟨k, rs', ss', t, b, acc, a4, a5, a6, a7, a8, a9, el, hl', hk, hr', hs', dI, hv, rfl⟩ := hI
    match rs', ss', hl' with
    | [], [], _ => cases el
    | r :: rs1, s :: ss1, hl' =>
      cases el
      have hlen1 : rs1.length = ss1.length := by simpa using hl'
      have hk1 : k + 1 + rs1.length = rs.length := by simp only [List.length_cons] at hk; omega
      have zr := hr' r (by simp)
      have zs := hs' s (by simp)
      have hr1 : ∀ r ∈ rs1, Sz β r := fun r h => hr' r (by simp [h])
      have hs1 : ∀ s ∈ ss1, Sz β s := fun r h => hs' r (by simp [h])
      have hv : acc + (r * s + dotR rs1 ss1) = dotR rs ss := hv
      rw [← Rat.add_assoc] at hv
      have hkn : k ≤ rs.length := by omega
      have hB := Nat.mul_le_mul_left (2 * β) hkn
      have bad : r * s = 0 → ∀ a4 a5 a6 a7 a8 a9 : Sl, K [.val x, .val y, .val (.int t), .val (.int b), a4, a5, a6, a7, a8, a9] := fun z a4 a5 a6 a7 a8 a9 => hK _ ⟨k + 1, rs1, ss1, t, b, _, a4, a5, a6, a7, a8, a9, rfl, hlen1, hk1, hr1, hs1, dI.skip (r * s) z, hv, rfl⟩
      refine ⟨rfl, ?_⟩
      show gEq (ratD r) (.int 0) _
      refine gEq_rat0 r ?_
      conv => whnf
      split
      · rename_i e
        have e : decide (r = 0) = true := e
        exact bad (by rw [of_decide_eq_true e, Rat.zero_mul]) _ _ _ _ _ _
      · show gEq (ratD s) (.int 0) _
        refine gEq_rat0 s ?_
        conv => whnf
        split
        · rename_i e
          have e : decide (s = 0) = true := e
          exact bad (by rw [of_decide_eq_true e, Rat.mul_zero]) _ _ _ _ _ _
        · refine ⟨rfl, r, rfl, rfl, s, rfl, sz 2, rfl, rfl, rfl, mulOk_sz zr.d zs.d (by omega), ?_⟩
          have hlow := mul_sz zr.d zs.d
          conv => whnf
          split
          · rename_i e
            have e : decide (((r.den : Nat) : Int) * (s.den : Nat) = b) = true := e
            exact ⟨mulOk_sz zr.n zs.n (by omega), hK _ ⟨k + 1, rs1, ss1, _, b, _, _, _, _, _, _, _, rfl, hlen1, hk1, hr1, hs1, dI.same zr zs (of_decide_eq_true e), hv, rfl⟩⟩
          · exact ⟨mulOk_sz dI.ht hlow (by omega), mulOk_sz zr.n zs.n (by omega), mulOk_sz (mul_sz zr.n zs.n) dI.hb (by omega), mulOk_sz dI.hb hlow (by omega), hK _ ⟨k + 1, rs1, ss1, _, _, _, _, _, _, _, _, _, rfl, hlen1, hk1, hr1, hs1, dI.cross zr zs, hv, rfl⟩⟩
  · obtain ⟨k, rs', ss', t, b, acc, a4, a5, a6, a7, a8, a9, el, hl', hk, hr', hs', dI, hv, rfl⟩ := hI
    match rs', ss', hl' with
    | r :: rs1, s :: ss1, hl' => cases el
    | [], [], _ =>
      have hv : acc + 0 = dotR rs ss := hv
      rw [Rat.add_zero] at hv
      refine ⟨rfl, t, b, rfl, by have := dI.pos; omega, dI.den (n := rs.length) (by omega) hn, ?_⟩
      rw [dI.val, hv]
      exact q

def sr_as_tuples (n : Nat) : Sp3 := fun ds Q _ => match ds with
  | [d] => dpD d < n ∧ plD d = true ∧ Q (tupD d)
  | _ => False
def sp_as_tuples : Sp3 := sr_as_tuples 8

def t_as_tuples (spS : Sp3) : RS := (rSeq (rIf (rTV (rIs2 "list" "tuple" (rVar 0))) (rRet (rCB gTuple (rCons (rL (rComp (rIt (rVar 0)) (g3N 1) (rC true) (rCall 1 spS (rCons (rVar 1) rNil)) [1])) rNil))) rNext)
    (rRet (rVar 0)))

theorem zr_as_tuples : ∀ ds Q E, sr_as_tuples 0 ds Q E → False := fun ds Q E h => by
  match ds, h with
  | [d], h => exact Nat.not_lt_zero _ h.1
theorem pl_as_tuples (n : Nat) : ∀ (ds : List D) (Q : D → Prop) (E : XD → Prop), ds.length = 1 → sr_as_tuples (n + 1) ds Q E → t_as_tuples (sr_as_tuples n) { nx := fun _ => Q .non, rt := Q, ex := E } (start3 2 ds) := fun ds Q E hl h => by
  have seq : ∀ (xs : List D) (Q : D → Prop), xs.length ≤ 65536 → (∀ d ∈ xs, plD d = true) → dpDs xs < n → Q (.tup (tupDs xs)) → ∀ ρ : Env3, ρ.length = 2 → xs.length ≤ sizeLine ∧ compL (g3N 1) (rC true) (rCall 1 (sr_as_tuples n) (rCons (rVar 1) rNil)) [1] ρ (fun ds => gTuple [.lst ds] Q) xs [] := fun xs Q h1 h2 h3 q ρ hρ => by
    refine ⟨le_size h1, comp_map (f := tupD) xs (fun d hd K k => ?_) (by show Q (.tup (xs.map tupD)); rw [← tupDs_map]; exact q)⟩
    match ρ, hρ with
    | [a, b], _ => exact ⟨rfl, Nat.lt_of_le_of_lt (dpDs_mem hd) h3, h2 d hd, k⟩
  match ds, h with
  | [d], h =>
    obtain ⟨h0, h1, h2⟩ := h
    cases d with
    | tup xs =>
      obtain ⟨hl, hm⟩ := plD_tup h1
      exact ⟨rfl, seq xs Q hl hm (by unfold dpD at h0; omega) h2 _ rfl⟩
    | lst xs =>
      obtain ⟨hl, hm⟩ := plD_lst h1
      exact ⟨rfl, seq xs Q hl hm (by unfold dpD at h0; omega) h2 _ rfl⟩
    | int i => exact ⟨rfl, h2⟩
    | non => exact ⟨rfl, h2⟩
    | bl b => exact ⟨rfl, h2⟩
    | str b => exact ⟨rfl, h2⟩
    | dct b => exact ⟨rfl, h2⟩
    | scr _ => cases h1
    | pen => cases h1
    | ins _ _ => cases h1
    | exc _ _ => cases h1

def sp_is_list : Sp3 := fun ds Q _ => match ds with
  | [d] => noIns d = true ∧ Q (.bl (isLstD d))
  | _ => False

def t_is_list : RS := (rRet (rIs2 "list" "tuple" (rVar 0)))

theorem pl_is_list : ∀ (ds : List D) (Q : D → Prop) (E : XD → Prop), ds.length = 1 → sp_is_list ds Q E → t_is_list { nx := fun _ => Q .non, rt := Q, ex := E } (start3 1 ds) := fun ds Q E hl h => by
  match ds, h with
  | [d], h =>
    obtain ⟨h1, h2⟩ := h
    refine ⟨h1, ?_⟩
    cases d <;> first | (cases h1; done) | exact h2

def sp_is_row : Sp3 := fun ds Q _ => match ds with
  | [v, .int m] => plD v = true ∧ Q (.bl (isRowD v m))
  | _ => False

def t_is_row : RS := (rRet (rAndV (rCall 1 sp_is_list (rCons (rVar 0) rNil)) (rAndV (rOp gEq (rCB gLen (rCons (rVar 0) rNil)) (rVar 1)) (rCB gAll (rCons (rL (rComp (rIt (rVar 0)) (g3N 2) (rC true) (rCall 1 sp_is_ratio (rCons (rVar 2) rNil)) [2])) rNil)))))

theorem pl_is_row : ∀ (ds : List D) (Q : D → Prop) (E : XD → Prop), ds.length = 2 → sp_is_row ds Q E → t_is_row { nx := fun _ => Q .non, rt := Q, ex := E } (start3 3 ds) := fun ds Q E hl h => by
  match ds, h with
  | [v, .int m], h =>
    obtain ⟨h1, h2⟩ := h
    have key : ∀ (xs : List D) (v : D), xs.length ≤ 65536 → (∀ d ∈ xs, plD d = true) → itemsL v = xs → isLstD v = true → (isRowD v m = (decide ((xs.length : Int) = m) && xs.all isRatD)) := fun xs v _ _ e1 e2 => by
      unfold isRowD
      rw [e1, e2, Bool.true_and]
    cases v with
    | tup xs =>
      obtain ⟨hx, hm⟩ := plD_tup h1
      rw [key xs _ hx hm rfl rfl] at h2
      refine ⟨rfl, rfl, ?_⟩
      conv => whnf
      split
      · rename_i e
        have e : decide ((xs.length : Int) = m) = true := e
        rw [e, Bool.true_and] at h2
        exact ⟨le_size hx, comp_map (f := fun d => .bl (isRatD d)) xs (fun d hd K k => ⟨rfl, hm d hd, k⟩) (gAll_map h2)⟩
      · rename_i e
        have e : decide ((xs.length : Int) = m) = false := e
        rw [e, Bool.false_and] at h2
        exact h2
    | lst xs =>
      obtain ⟨hx, hm⟩ := plD_lst h1
      rw [key xs _ hx hm rfl rfl] at h2
      refine ⟨rfl, rfl, ?_⟩
      conv => whnf
      split
      · rename_i e
        have e : decide ((xs.length : Int) = m) = true := e
        rw [e, Bool.true_and] at h2
        exact ⟨le_size hx, comp_map (f := fun d => .bl (isRatD d)) xs (fun d hd K k => ⟨rfl, hm d hd, k⟩) (gAll_map h2)⟩
      · rename_i e
        have e : decide ((xs.length : Int) = m) = false := e
        rw [e, Bool.false_and] at h2
        exact h2
    | int i => exact ⟨rfl, rfl, h2⟩
    | non => exact ⟨rfl, rfl, h2⟩
    | bl b => exact ⟨rfl, rfl, h2⟩
    | str b => exact ⟨rfl, rfl, h2⟩
    | dct b => exact ⟨rfl, rfl, h2⟩
    | scr _ => cases h1
    | pen => cases h1
    | ins _ _ => cases h1
    | exc _ _ => cases h1

def sp_is_told_row : Sp3 := fun ds Q _ => ∃ v : D, ∃ m : Int, ds = [v, .int m] ∧ plD v = true ∧ Q (.bl (isTupD v && isRowD v m))

def t_is_told_row : RS := (rRet (rAndV (rIs "tuple" (rVar 0)) (rCall 2 sp_is_row (rCons (rVar 0) (rCons (rVar 1) rNil)))))

theorem pl_is_told_row : ∀ (ds : List D) (Q : D → Prop) (E : XD → Prop), ds.length = 2 → sp_is_told_row ds Q E → t_is_told_row { nx := fun _ => Q .non, rt := Q, ex := E } (start3 2 ds) := fun ds Q E hl h => by
  obtain ⟨v, m, rfl, hv, q⟩ := h
  refine ⟨plD_noIns hv, ?_⟩
  cases v <;> first | (cases hv; done) | exact q | exact ⟨rfl, hv, q⟩

def goodN (d : D) : Bool := isLstD d && (decide (1 ≤ (itemsL d).length) && decide ((itemsL d).length ≤ 12))
def bunErr (m : Int) (p : Nat) (b : D) : Option XD :=
  if goodN b = false then some (exD "BadFrame" ["what", "place"] [.str "bundle", .int p])
  else if (itemsL b).all (fun r => isRowD r m) = false then some (exD "BadFrame" ["what", "place"] [.str "row", .int p]) else none
def bunsErr (m : Int) : Nat → List D → Option XD
  | _, [] => none
  | p, b :: bs => match bunErr m p b with
    | some x => some x
    | none => bunsErr m (p + 1) bs
def frameErr (d : D) : Option XD := if goodN d = false then some (exD "BadFrame" ["what", "place"] [.str "rows", d]) else bunsErr (itemsL d).length 0 (itemsL d)
def sp_Frame___init__ : SpI := fun ds Q E => match ds with
  | [d] => (plD d = true ∧ dpD d < 8) ∧ match frameErr d with
    | some x => E x
    | none => Q [("rows", tupD d)]
  | _ => False

def t_Frame___init__ : RS := (rSeq (rIf (rOr (rNot (rTV (rCall 1 sp_is_list (rCons (rVar 1) rNil)))) (rNot (rTV (rChain gLe gLe (rC (.int 1)) (rCB gLen (rCons (rVar 1) rNil)) (rC (.int 12)))))) (rRaise "BadFrame" ["what", "place"] (rCons (rC (.str "rows")) (rCons (rVar 1) rNil))) rNext)
    (rSeq (rFor (rRange1 (rCons (rCB gLen (rCons (rVar 1) rNil)) rNil)) (g3N 2) (rSeq (rIf (rOr (rNot (rTV (rCall 1 sp_is_list (rCons (rOp gIx (rVar 1) (rVar 2)) rNil)))) (rNot (rTV (rChain gLe gLe (rC (.int 1)) (rCB gLen (rCons (rOp gIx (rVar 1) (rVar 2)) rNil)) (rC (.int 12)))))) (rRaise "BadFrame" ["what", "place"] (rCons (rC (.str "bundle")) (rCons (rVar 2) rNil))) rNext)
    (rIf (rNot (rTV (rCB gAll (rCons (rL (rComp (rIt (rOp gIx (rVar 1) (rVar 2))) (g3N 3) (rC true) (rCall 2 sp_is_row (rCons (rVar 3) (rCons (rCB gLen (rCons (rVar 1) rNil)) rNil))) [3])) rNil)))) (rRaise "BadFrame" ["what", "place"] (rCons (rC (.str "row")) (rCons (rVar 2) rNil))) rNext)))
    (rSelfC 0 "Frame" "rows" (rCall 1 sp_as_tuples (rCons (rVar 1) rNil)))))

/-- not is_list(d) or not 1 <= len(d) <= 12 -/
theorem need_n {d : D} (h : plD d = true) {K : Bool → Prop} {E : XD → Prop} {ρ : Env3} {re : RE} (hr : ∀ (Q : D → Prop) (E : XD → Prop), Q d → re ρ Q E) (k : K (!goodN d)) :
    rOr (rNot (rTV (rCall 1 sp_is_list (rCons re rNil)))) (rNot (rTV (rChain gLe gLe (rC (.int 1)) (rCB gLen (rCons re rNil)) (rC (.int 12))))) ρ K E := by
  refine hr _ _ ⟨rfl, plD_noIns h, ?_⟩
  rcases sq_or h with ⟨xs, sq, hl, hm⟩ | hn
  · rw [sq.ls]
    refine hr _ _ ?_
    dsimp only [rNil]
    rw [sq.len]
    unfold goodN at k
    rw [sq.ls, sq.it, Bool.true_and] at k
    conv => whnf
    split
    · rename_i e
      have e : decide (1 ≤ (xs.length : Int)) = true := e
      have e1 : decide (1 ≤ xs.length) = true := decide_eq_true (by have := of_decide_eq_true e; omega)
      rw [e1, Bool.true_and] at k
      have e2 : decide ((xs.length : Int) ≤ 12) = decide (xs.length ≤ 12) := decide_eq_decide.mpr (by omega)
      show K (!decide ((xs.length : Int) ≤ 12))
      rw [e2]
      exact k
    · rename_i e
      have e : decide (1 ≤ (xs.length : Int)) = false := e
      have e1 : decide (1 ≤ xs.length) = false := decide_eq_false (by have := of_decide_eq_false e; omega)
      rw [e1, Bool.false_and] at k
      exact k
  · rw [hn]
    unfold goodN at k
    rw [hn, Bool.false_and] at k
    exact k
theorem pl_Frame___init__ : ∀ (a : Addr) (ds : List D) (Q : List (Str × D) → Prop) (E : XD → Prop), ds.length = 1 → sp_Frame___init__ ds Q E → t_Frame___init__ { nx := nxI "Frame" a Q, rt := fun _ => False, ex := E } (startI "Frame" a 4 ds) := fun a ds Q E hl h => by
  match ds, h with
  | [d], h =>
    obtain ⟨⟨h1, h0⟩, h2⟩ := h
    dsimp only [t_Frame___init__, rSeq, rIf]
    refine need_n (re := rVar 1) (ρ := startI "Frame" a 4 [d]) h1 (fun Q E q => q) ?_
    conv => whnf
    split
    · rename_i e
      have eg : goodN d = false := nbT e
      unfold frameErr at h2
      rw [if_pos eg] at h2
      exact ⟨rfl, h2⟩
    · rename_i e
      have eg : goodN d = true := nbF e
      unfold frameErr at h2
      rw [if_neg (by rw [eg]; simp)] at h2
      rcases sq_or h1 with ⟨xs, sq, hxl, hm⟩ | hn
      · rw [sq.it] at h2
        dsimp only [rNext, rSeq, rFor, rRange1, rCons, rNil]
        refine rcb_len (ρ := startI "Frame" a 4 [d]) sq (fun Q E q => q) ?_
        refine ⟨⟨by omega, by have := hxl; omega⟩, ?_⟩
        have e0 : ((xs.length : Nat) : Int).toNat = xs.length := by omega
        show forL _ _ _ (rangeD 0 ((xs.length : Nat) : Int).toNat) _
        rw [e0]
        let I : List D → Env3 → Prop := fun l ρ => ∃ k u v, l = (rangeD 0 xs.length).drop k ∧ ρ = [.obj "Frame" a [], .val d, u, v] ∧ match bunsErr xs.length k (xs.drop k) with
          | some x => E x
          | none => Q [("rows", tupD d)]
        refine for_inv I (fun dk l ρ K hI hK => ?_) (fun ρ hI => ?_) _ _ ⟨0, .emp, .emp, rfl, rfl, h2⟩
        · obtain ⟨k, u, v, el, rfl, hq⟩ := hI
          have hk : k < xs.length := by
            by_cases hk : k < xs.length
            · exact hk
            · rw [List.drop_eq_nil_of_le (by rw [rangeD_len]; omega)] at el
              cases el
          rw [rd_get hk] at el
          cases el
          obtain ⟨b, hb⟩ : ∃ b, xs[k]? = some b := ⟨_, List.getElem?_eq_getElem hk⟩
          have ed : xs.drop k = b :: xs.drop (k + 1) := by
            obtain ⟨g1, g2⟩ := List.getElem?_eq_some_iff.mp hb
            rw [List.drop_eq_getElem_cons g1, g2]
          rw [ed] at hq
          have hb1 : plD b = true := hm b (List.mem_of_getElem? hb)
          have hix : ∀ Q : D → Prop, Q b → gIx d (.int (k : Nat)) Q := fun Q q => by
            rw [sq.ix, atJ_nat hb]
            exact q
          have hq : match bunErr xs.length k b with
            | some x => E x
            | none => match bunsErr xs.length (k + 1) (xs.drop (k + 1)) with
              | some x => E x
              | none => Q [("rows", tupD d)] := by
            unfold bunsErr at hq
            cases e9 : bunErr xs.length k b with
            | some x => rw [e9] at hq; exact hq
            | none => rw [e9] at hq; exact hq
          unfold bunErr at hq
          dsimp only [rSeq, rIf]
          refine need_n (re := rOp gIx (rVar 1) (rVar 2)) (ρ := [.obj "Frame" a [], .val d, .val (.int (k : Nat)), v]) hb1 (fun Q E q => hix Q q) ?_
          conv => whnf
          split
          · rename_i e
            rw [if_pos (nbT e)] at hq
            exact ⟨rfl, hq⟩
          · rename_i e
            rw [if_neg (by rw [nbF e]; simp)] at hq
            rcases sq_or hb1 with ⟨ys, sb, hyl, hy⟩ | hn
            · rw [sb.it] at hq
              dsimp only [rNext, rIf, rNot, rTV, rCB, rCons, rL, rComp, rIt, rOp]
              refine hix _ ?_
              rw [sb.it2]
              refine ⟨le_size hyl, comp_map (f := fun r => .bl (isRowD r xs.length)) ys (fun r hr K k => ?_) (gAll_map ?_)⟩
              · dsimp only [rCall, rCons, rNil]
                refine rcb_len (re := rVar 1) sq (fun Q E q => q) ?_
                exact ⟨rfl, hy r hr, k⟩
              · conv => whnf
                split
                · rename_i e2
                  rw [if_pos (nbT e2)] at hq
                  exact ⟨rfl, hq⟩
                · rename_i e2
                  rw [if_neg (by rw [nbF e2]; simp)] at hq
                  exact hK _ ⟨k + 1, _, _, rfl, rfl, hq⟩
            · have e3 := nbF e
              unfold goodN at e3
              rw [hn] at e3
              cases e3
        · obtain ⟨k, u, v, el, rfl, hq⟩ := hI
          have hk : xs.length ≤ k := by
            by_cases hk : k < xs.length
            · rw [rd_get hk] at el
              cases el
            · omega
          rw [List.drop_eq_nil_of_le hk] at hq
          exact ⟨rfl, rfl, h0, h1, by show 0 < 900; decide, rfl, rfl, hq⟩
      · unfold goodN at eg
        rw [hn] at eg
        cases eg

def sp_fits : Sp3 := fun ds Q _ => ∃ d R load, ds = [d, load] ∧ IsFr d R ∧ plD load = true ∧ Q (.bl (fitI (lensQ R) load))

def t_fits : RS := (rSeq (rIf (rOr (rNot (rTV (rCall 1 sp_is_list (rCons (rVar 1) rNil)))) (rTV (rOp gNe (rCB gLen (rCons (rVar 1) rNil)) (rCB gLen (rCons (rFld "Frame" "rows" (rVar 0)) rNil))))) (rRet (rC (.bl false))) rNext)
    (rRet (rCB gAll (rCons (rL (rComp (rRange1 (rCons (rCB gLen (rCons (rVar 1) rNil)) rNil)) (g3N 2) (rC true) (rCall 2 sp_is_row (rCons (rOp gIx (rVar 1) (rVar 2)) (rCons (rCB gLen (rCons (rOp gIx (rFld "Frame" "rows" (rVar 0)) (rVar 2)) rNil)) rNil))) [2])) rNil))))

theorem pl_fits : ∀ (ds : List D) (Q : D → Prop) (E : XD → Prop), ds.length = 2 → sp_fits ds Q E → t_fits { nx := fun _ => Q .non, rt := Q, ex := E } (start3 3 ds) := fun ds Q E hl h => by
  obtain ⟨d, R, load, rfl, ⟨fo, fs, rfl, hf⟩, hl, q⟩ := h
  refine ⟨rfl, plD_noIns hl, ?_⟩
  have h12 := fo.h12
  rcases sq_cs hl with ⟨xs, hd, hxl, hm⟩ | hn
  · have q2 : Q (.bl (decide (xs.length = (lensQ R).length) && (List.range (lensQ R).length).all fun i => isRowD (xs.getD i .non) (((lensQ R).getD i 0 : Nat) : Int))) := by
      rcases hd with rfl | rfl <;> exact q
    clear q
    have hll : (lensQ R).length = R.length := List.length_map ..
    rcases hd with rfl | rfl
    all_goals
      refine ⟨rfl, ?_⟩
      rw [hf]
      conv => whnf
      split
      · rename_i e
        have e : (!decide (((xs.length : Nat) : Int) = ((R.map bunQ).length : Nat))) = true := e
        have e := nbN e
        rw [List.length_map] at e
        rw [decide_eq_false (by rw [hll]; omega), Bool.false_and] at q2
        exact q2
      · rename_i e
        have e : (!decide (((xs.length : Nat) : Int) = ((R.map bunQ).length : Nat))) = false := e
        have e := nbD e
        rw [List.length_map] at e
        have hx : xs.length = R.length := by omega
        rw [decide_eq_true (by rw [hll]; exact hx), Bool.true_and, hll, ← hx] at q2
        refine ⟨⟨by omega, by omega⟩, ?_⟩
        have e0 : ((xs.length : Nat) : Int).toNat = xs.length := by omega
        show (rangeD 0 ((xs.length : Nat) : Int).toNat).length ≤ _ ∧ compL _ _ _ _ _ _ (rangeD 0 ((xs.length : Nat) : Int).toNat) _
        rw [e0]
        refine ⟨by rw [rangeD_len]; exact le_size hxl, compN1 (f := fun k => .bl (isRowD (xs.getD k .non) (((lensQ R).getD k 0 : Nat) : Int))) _ (fun k hk K kk => ?_) (gAll_of q2)⟩
        obtain ⟨x, gx, mx⟩ := get_lt hk
        obtain ⟨b, gb, mb⟩ := get_lt (xs := R) (k := k) (by omega)
        rw [getD_of gx, getD_of (show (lensQ R)[k]? = some b.length from map_get gb)] at kk
        show (match atI xs (0 + (k : Nat)) with | some d => _ | none => False)
        rw [at0 gx]
        refine ⟨rfl, ?_⟩
        rw [hf]
        show (match atI (R.map bunQ) (0 + (k : Nat)) with | some d => _ | none => False)
        rw [at0 (map_get gb)]
        refine ⟨rfl, hm x mx, ?_⟩
        show K (.bl (isRowD x (((b.map rowQ).length : Nat) : Int)))
        rw [List.length_map]
        exact kk
  · rw [hn]
    unfold fitI at q
    rw [hn, Bool.false_and] at q
    exact q

def sp_need_load : Sp3 := fun ds Q E => ∃ d R load, ds = [d, load] ∧ IsFr d R ∧ plD load = true ∧ (if fitI (lensQ R) load = true then Q .non else E blE)

def t_need_load : RS := (rIf (rNot (rTV (rCall 2 sp_fits (rCons (rVar 0) (rCons (rVar 1) rNil))))) (rRaise "BadLoad" ["what"] (rCons (rC (.str "load")) rNil)) rNext)

theorem pl_need_load : ∀ (ds : List D) (Q : D → Prop) (E : XD → Prop), ds.length = 2 → sp_need_load ds Q E → t_need_load { nx := fun _ => Q .non, rt := Q, ex := E } (start3 2 ds) := fun ds Q E hl h => by
  obtain ⟨d, R, load, rfl, fr, hl, q⟩ := h
  refine ⟨rfl, d, R, load, rfl, fr, hl, ?_⟩
  conv => whnf
  split
  · rename_i e
    rw [if_neg (by rw [nbT e]; simp)] at q
    exact ⟨rfl, q⟩
  · rename_i e
    rw [if_pos (nbF e)] at q
    exact q

def sp_need_row : Sp3 := fun ds Q E => ∃ d R row w, ds = [d, row, .str w] ∧ IsFr d R ∧ plD row = true ∧ (if isRowD row (R.length : Nat) = true then Q .non else E (brE w row))

def t_need_row : RS := (rIf (rNot (rTV (rCall 2 sp_is_row (rCons (rVar 1) (rCons (rCB gLen (rCons (rFld "Frame" "rows" (rVar 0)) rNil)) rNil))))) (rRaise "BadRow" ["what", "row"] (rCons (rVar 2) (rCons (rVar 1) rNil))) rNext)

theorem pl_need_row : ∀ (ds : List D) (Q : D → Prop) (E : XD → Prop), ds.length = 3 → sp_need_row ds Q E → t_need_row { nx := fun _ => Q .non, rt := Q, ex := E } (start3 3 ds) := fun ds Q E hl h => by
  obtain ⟨d, R, row, w, rfl, ⟨fo, fs, rfl, hf⟩, hl, q⟩ := h
  refine ⟨rfl, ?_⟩
  rw [hf]
  refine ⟨rfl, hl, ?_⟩
  have e0 : (((R.map bunQ).length : Nat) : Int) = (R.length : Nat) := by rw [List.length_map]
  rw [← e0] at q
  conv => whnf
  split
  · rename_i e
    have e : (!isRowD row (((R.map bunQ).length : Nat) : Int)) = true := e
    rw [if_neg (by rw [nbT e]; simp)] at q
    exact ⟨rfl, q⟩
  · rename_i e
    have e : (!isRowD row (((R.map bunQ).length : Nat) : Int)) = false := e
    rw [if_pos (nbF e)] at q
    exact q

def sp_slack_at : Sp3 := fun ds Q _ => ∃ rs x ss, ds = [rowQ rs, ratD x, rowQ ss] ∧ rs.length = ss.length ∧ rs.length ≤ 12 ∧ (∀ r ∈ rs, SmR r) ∧ (∀ s ∈ ss, SmR s) ∧ Sz 1900 x ∧ Q (ratD (dotR rs ss + x))

def t_slack_at : RS := (rRet (rCall 2 sp_added (rCons (rCall 2 sp_summed (rCons (rVar 0) (rCons (rVar 2) rNil))) (rCons (rVar 1) rNil))))

theorem sum12 {rs ss : List Rat} (hl : rs.length = ss.length) (h : rs.length ≤ 12) (hr : ∀ r ∈ rs, SmR r) (hs : ∀ s ∈ ss, SmR s) {Q : D → Prop} {E : XD → Prop} (q : Q (ratD (dotR rs ss))) : sp_summed [rowQ rs, rowQ ss] Q E := ⟨_, _, rs, ss, 140, rfl, .inl rfl, .inl rfl, hl, by omega, by omega, by decide, fun r h => (hr r h).sz, fun s h => (hs s h).sz, q⟩
theorem pl_slack_at : ∀ (ds : List D) (Q : D → Prop) (E : XD → Prop), ds.length = 3 → sp_slack_at ds Q E → t_slack_at { nx := fun _ => Q .non, rt := Q, ex := E } (start3 3 ds) := fun ds Q E hl h => by
  obtain ⟨rs, x, ss, rfl, h1, h2, h3, h4, h5, q⟩ := h
  exact ⟨rfl, sum12 h1 h2 h3 h4 ⟨rfl, _, _, rfl, (dot12 h2 h3 h4).mono (by decide), h5.mono (by decide), q⟩⟩

def sp_slacks_at : Sp3 := fun ds Q _ => ∃ d R L ss, ds = [d, .tup (L.map rowQ), rowQ ss] ∧ IsFr d R ∧ LdOk R L ∧ StOk R ss ∧ Q (.tup ((slQ R L ss).map rowQ))

def t_slacks_at : RS := (rSeq (rSetL 3 (rLst rNil))
    (rSeq (rFor (rZip2 (rCons (rFld "Frame" "rows" (rVar 0)) (rCons (rVar 1) rNil))) (g3Tup 2 (g3Cons (g3N 4) (g3Cons (g3N 5) g3Nil))) (rApp 3 (rCB gTuple (rCons (rL (rComp (rZip2 (rCons (rVar 4) (rCons (rVar 5) rNil))) (g3Tup 2 (g3Cons (g3N 6) (g3Cons (g3N 7) g3Nil))) (rC true) (rCall 3 sp_slack_at (rCons (rVar 6) (rCons (rVar 7) (rCons (rVar 2) rNil)))) [6, 7])) rNil))))
    (rFrz 3 (rRet (rCB gTuple (rCons (rVar 3) rNil))))))

/-- a slack of a place, its row and number -/
theorem at_pair {R : List (List (List Rat))} {L : List (List Rat)} {ss : List Rat} (fo : FrOk R) (ld : LdOk R L) (st : StOk R ss) {p : List (List Rat) × List Rat} (hp : p ∈ R.zip L) : (p.1.zip p.2).length ≤ 12 ∧ 1 ≤ (p.1.zip p.2).length ∧ ∀ r x, (r, x) ∈ p.1.zip p.2 → r.length = ss.length ∧ r.length ≤ 12 ∧ (∀ q ∈ r, SmR q) ∧ Sz 1900 x := by
  obtain ⟨h1, h2, h3⟩ := ld_pair ld.1 p hp
  obtain ⟨b1, b2, b3⟩ := fo.hb p.1 h1
  refine ⟨by rw [List.length_zip]; omega, by rw [List.length_zip]; omega, fun r x h => ?_⟩
  obtain ⟨m1, m2⟩ := List.of_mem_zip h
  obtain ⟨c1, c2⟩ := b3 r m1
  exact ⟨by rw [c1, st.1], by rw [c1]; exact fo.h12, c2, ld.2 p.2 h2 x m2⟩
theorem pl_slacks_at : ∀ (ds : List D) (Q : D → Prop) (E : XD → Prop), ds.length = 3 → sp_slacks_at ds Q E → t_slacks_at { nx := fun _ => Q .non, rt := Q, ex := E } (start3 8 ds) := fun ds Q E hl h => by
  obtain ⟨d, R, L, ss, rfl, ⟨fo, fs, rfl, hf⟩, ld, st, q⟩ := h
  refine ⟨by show 3 < 8; decide, by show 0 ≤ sizeLine; exact Nat.zero_le _, rfl, ?_⟩
  rw [hf]
  show forL _ _ _ (zipD (R.map bunQ) (L.map rowQ)) _
  rw [zipD_map]
  have hz : (R.zip L).length ≤ 12 := by rw [List.length_zip]; have := fo.h12; omega
  refine for_invG (fun l ρ => ∃ (done rest : List (List (List Rat) × List Rat)) (a b c e : Sl), done ++ rest = R.zip L ∧ l = rest.map (fun p => .tup [bunQ p.1, rowQ p.2]) ∧ ρ = [.val (.ins "Frame" fs), .val (.tup (L.map rowQ)), .val (rowQ ss), .own (done.map fun p => rowQ (slP ss p)), a, b, c, e]) (fun x l ρ K hI hK => ?_) (fun ρ hI => ?_) _ _ ⟨[], R.zip L, .emp, .emp, .emp, .emp, rfl, rfl, rfl⟩
  · obtain ⟨done, rest, a, b, c, e, hd, el, rfl⟩ := hI
    cases rest with
    | nil => cases el
    | cons p rest =>
      cases el
      have hp : p ∈ R.zip L := by rw [← hd]; simp
      obtain ⟨p1, p2, p3⟩ := at_pair fo ld st hp
      refine ⟨rfl, ?_⟩
      show (zipD (p.1.map rowQ) (p.2.map ratD)).length ≤ _ ∧ compL _ _ _ _ _ _ (zipD (p.1.map rowQ) (p.2.map ratD)) _
      refine ⟨by rw [zipD_length, List.length_map, List.length_map, ← List.length_zip]; exact le_size (by omega), compZ2 (f := fun r x => ratD (dotR r ss + x)) p.1 p.2 (fun r x hrx K' kk => ?_) ?_⟩
      · obtain ⟨c1, c2, c3, c4⟩ := p3 r x hrx
        exact ⟨rfl, r, x, ss, rfl, c1, c2, c3, st.2, c4, kk⟩
      · have hlen := congrArg List.length hd
        simp only [List.length_append, List.length_cons] at hlen
        refine ⟨by show (done.map fun p => rowQ (slP ss p)).length < sizeLine; rw [List.length_map]; exact Nat.lt_of_lt_of_le (by omega : done.length < 13) (by decide), hK _ ⟨done ++ [p], rest, .val (bunQ p.1), .val (rowQ p.2), c, e, by simp [hd], rfl, ?_⟩⟩
        rw [List.map_append]
        have e1 : D.tup ((p.1.zip p.2).map fun p => ratD (dotR p.1 ss + p.2)) = rowQ (slP ss p) := by
          unfold rowQ slP
          rw [List.map_map]
          rfl
        rw [e1]
        rfl
  · obtain ⟨done, rest, a, b, c, e, hd, el, rfl⟩ := hI
    cases rest with
    | cons x y => cases el
    | nil =>
      rw [List.append_nil] at hd
      subst hd
      have e1 : ((R.zip L).map fun p => rowQ (slP ss p)) = (slQ R L ss).map rowQ := by
        unfold slQ
        rw [List.map_map]
        rfl
      show Q (.tup ((R.zip L).map fun p => rowQ (slP ss p)))
      rw [e1]
      exact q

def sp_slacks : Sp3 := fun ds Q E => ∃ d R load st, ds = [d, load, st] ∧ IsFr d R ∧ plD load = true ∧ plD st = true ∧ (if fitI (lensQ R) load = true then (if isRowD st (R.length : Nat) = true then ∃ L ss, load = .tup (L.map rowQ) ∧ st = rowQ ss ∧ LdOk R L ∧ StOk R ss ∧ Q (.tup ((slQ R L ss).map rowQ)) else E (brE "standing" st)) else E blE)

def t_slacks : RS := (rSeq (rDrop (rCall 2 sp_need_load (rCons (rVar 0) (rCons (rVar 1) rNil))))
    (rSeq (rDrop (rCall 3 sp_need_row (rCons (rVar 0) (rCons (rVar 2) (rCons (rC (.str "standing")) rNil)))))
    (rRet (rCall 3 sp_slacks_at (rCons (rVar 0) (rCons (rVar 1) (rCons (rVar 2) rNil)))))))

theorem pl_slacks : ∀ (ds : List D) (Q : D → Prop) (E : XD → Prop), ds.length = 3 → sp_slacks ds Q E → t_slacks { nx := fun _ => Q .non, rt := Q, ex := E } (start3 3 ds) := fun ds Q E hl h => by
  obtain ⟨d, R, load, st, rfl, fr, h1, h2, q⟩ := h
  refine ⟨rfl, d, R, load, rfl, fr, h1, ?_⟩
  by_cases hf : fitI (lensQ R) load = true
  · rw [if_pos hf] at q ⊢
    refine ⟨rfl, d, R, st, "standing", rfl, fr, h2, ?_⟩
    by_cases hr : isRowD st (R.length : Nat) = true
    · rw [if_pos hr] at q ⊢
      obtain ⟨L, ss, rfl, rfl, ld, so, q⟩ := q
      exact ⟨rfl, d, R, L, ss, rfl, fr, ld, so, q⟩
    · rw [if_neg hr] at q ⊢
      exact q
  · rw [if_neg hf] at q ⊢
    exact q

def sp_resting : Sp3 := fun ds Q E => ∃ d R load st, ds = [d, load, st] ∧ IsFr d R ∧ plD load = true ∧ plD st = true ∧ (if fitI (lensQ R) load = true then (if isRowD st (R.length : Nat) = true then ∃ L ss, load = .tup (L.map rowQ) ∧ st = rowQ ss ∧ LdOk R L ∧ StOk R ss ∧ Q (.tup ((slQ R L ss).map restQ)) else E (brE "standing" st)) else E blE)

def t_resting : RS := (rSeq (rSet 3 (rCall 3 sp_slacks (rCons (rVar 0) (rCons (rVar 1) (rCons (rVar 2) rNil)))))
    (rRet (rCB gTuple (rCons (rL (rComp (rIt (rVar 3)) (g3N 4) (rC true) (rCB gTuple (rCons (rL (rComp (rRange1 (rCons (rCB gLen (rCons (rVar 4) rNil)) rNil)) (g3N 5) (rTV (rOp gEq (rOp gIx (rVar 4) (rVar 5)) (rC (.int 0)))) (rVar 5) [5])) rNil)) [4])) rNil))))

theorem sl_len {R : List (List (List Rat))} {L : List (List Rat)} {ss : List Rat} (fo : FrOk R) (ld : LdOk R L) (so : StOk R ss) : (slQ R L ss).length ≤ 12 ∧ ∀ t ∈ slQ R L ss, t.length ≤ 12 ∧ 1 ≤ t.length := by
  unfold slQ
  refine ⟨by rw [List.length_map, List.length_zip]; have := fo.h12; omega, fun t ht => ?_⟩
  obtain ⟨p, hp, rfl⟩ := List.mem_map.mp ht
  obtain ⟨p1, p2, _⟩ := at_pair fo ld so hp
  rw [List.length_map]
  exact ⟨p1, p2⟩
/-- [index for index in range(len(t)) if t[index] == 0] -/
theorem rest_comp {t : List Rat} {i j : Nat} {ρ : Env3} {vs : List Nat} {Q : D → Prop} (h12 : t.length ≤ 12) (r0 : ρ[i]? = some (.val (rowQ t))) (r1 : ∀ k : Int, ((wipe3 ρ vs).set j (.val (.int k)))[i]? = some (.val (rowQ t))) (r2 : ∀ k : Int, ((wipe3 ρ vs).set j (.val (.int k)))[j]? = some (.val (.int k))) (q : Q (restQ t)) {E : XD → Prop} :
    rCB gTuple (rCons (rL (rComp (rRange1 (rCons (rCB gLen (rCons (rVar i) rNil)) rNil)) (g3N j) (rTV (rOp gEq (rOp gIx (rVar i) (rVar j)) (rC (.int 0)))) (rVar j) vs)) rNil) ρ Q E := by
  dsimp only [rCB, rCons, rNil, rL, rComp, rRange1, rVar, rTV, rOp, rC]
  simp only [r0]
  have hl : ((t.map ratD).length : Nat) = t.length := List.length_map ..
  refine ⟨⟨by show -(2 ^ 62) ≤ (((t.map ratD).length : Nat) : Int); omega, by show (((t.map ratD).length : Nat) : Int) < 2 ^ 62; omega⟩, ?_⟩
  have e0 : (((t.map ratD).length : Nat) : Int).toNat = t.length := by omega
  show (rangeD 0 (((t.map ratD).length : Nat) : Int).toNat).length ≤ _ ∧ compL _ _ _ _ _ _ (rangeD 0 (((t.map ratD).length : Nat) : Int).toNat) _
  rw [e0]
  refine ⟨by rw [rangeD_len]; exact le_size (by omega), compN (p := fun k => decide (t.getD k 1 = 0)) (f := fun k => .int (k : Nat)) _ (fun k hk => ⟨fun K kk => ?_, fun _ K kk => ?_⟩) q⟩
  · show rTV (rOp gEq (rOp gIx (rVar i) (rVar j)) (rC (.int 0))) ((wipe3 ρ vs).set j (.val (.int (0 + (k : Nat))))) K _
    dsimp only [rTV, rOp, rVar, rC]
    rw [r1, r2]
    obtain ⟨x, gx, _⟩ := get_lt hk
    rw [getD_of gx] at kk
    show (match atI (t.map ratD) (0 + (k : Nat)) with | some d => _ | none => False)
    rw [at0 (map_get gx)]
    exact gEq_rat0 x kk
  · show rVar j ((wipe3 ρ vs).set j (.val (.int (0 + (k : Nat))))) K _
    unfold rVar
    rw [r2, Int.zero_add]
    exact kk
theorem pl_resting : ∀ (ds : List D) (Q : D → Prop) (E : XD → Prop), ds.length = 3 → sp_resting ds Q E → t_resting { nx := fun _ => Q .non, rt := Q, ex := E } (start3 6 ds) := fun ds Q E hl h => by
  obtain ⟨d, R, load, st, rfl, fr, h1, h2, q⟩ := h
  refine ⟨rfl, d, R, load, st, rfl, fr, h1, h2, ?_⟩
  by_cases hf : fitI (lensQ R) load = true
  · rw [if_pos hf] at q ⊢
    by_cases hr : isRowD st (R.length : Nat) = true
    · rw [if_pos hr] at q ⊢
      obtain ⟨L, ss, rfl, rfl, ld, so, q⟩ := q
      refine ⟨L, ss, rfl, rfl, ld, so, ?_⟩
      obtain ⟨s1, s2⟩ := sl_len fr.1 ld so
      refine ⟨by show ((slQ R L ss).map rowQ).length ≤ sizeLine; rw [List.length_map]; exact le_size (by omega), compM (f := restQ) (slQ R L ss) (fun t ht K kk => ?_) q⟩
      exact rest_comp (s2 t ht).1 rfl (fun _ => rfl) (fun _ => rfl) kk
    · rw [if_neg hr] at q ⊢
      exact q
  · rw [if_neg hf] at q ⊢
    exact q

def sp_answers_at : Sp3 := fun ds Q _ => ∃ d R L ss, ds = [d, .tup (L.map rowQ), rowQ ss] ∧ IsFr d R ∧ LdOk R L ∧ StOk R ss ∧ Q (.bl (ansQ (slQ R L ss)))

def t_answers_at : RS := (rSeq (rFor (rZip2 (rCons (rFld "Frame" "rows" (rVar 0)) (rCons (rVar 1) rNil))) (g3Tup 2 (g3Cons (g3N 3) (g3Cons (g3N 4) g3Nil))) (rSeq (rSetL 5 (rComp (rZip2 (rCons (rVar 3) (rCons (rVar 4) rNil))) (g3Tup 2 (g3Cons (g3N 6) (g3Cons (g3N 7) g3Nil))) (rC true) (rCall 1 sp_sign_of (rCons (rCall 3 sp_slack_at (rCons (rVar 6) (rCons (rVar 7) (rCons (rVar 2) rNil)))) rNil)) [6, 7]))
    (rFrz 5 (rIf (rOr (rTV (rOp gIn (rUn gNeg (rC (.int 1))) (rVar 5))) (rTV (rOp gNotIn (rC (.int 0)) (rVar 5)))) (rRet (rC (.bl false))) rNext))))
    (rRet (rC (.bl true))))

def okT (t : List Rat) : Bool := t.all (fun x => decide (0 ≤ x.num)) && t.any fun x => decide (x = 0)
theorem ans_cons (t : List Rat) (S : List (List Rat)) : ansQ (t :: S) = (okT t && ansQ S) := rfl
theorem sg_neg (t : List Rat) : decide ((-1 : Int) ∈ t.map fun x => x.num.sign) = !t.all (fun x => decide (0 ≤ x.num)) := by
  induction t with
  | nil => rfl
  | cons x t ih =>
    rw [List.map_cons, List.all_cons, Bool.not_and, ← ih]
    by_cases h : x.num < 0
    · simp [Int.sign_eq_neg_one_of_neg h, show ¬ 0 ≤ x.num by omega]
    · have : x.num.sign ≠ -1 := fun z => by
        have := Int.neg_of_sign_eq_neg_one z
        omega
      simp [Ne.symm this, show 0 ≤ x.num by omega]
theorem sg_zero (t : List Rat) : decide ((0 : Int) ∈ t.map fun x => x.num.sign) = t.any fun x => decide (x = 0) := by
  induction t with
  | nil => rfl
  | cons x t ih =>
    rw [List.map_cons, List.any_cons, ← ih]
    by_cases h : x = 0
    · subst h
      simp
    · have h2 := num_ne h
      have : x.num.sign ≠ 0 := fun z => h2 (Int.sign_eq_zero_iff_zero.mp z)
      simp [Ne.symm this, h]
theorem gIn_ofL {w : Int} {js : List Int} {Q : D → Prop} (h : Q (.bl (decide (w ∈ js)))) : gIn (.int w) (.lst (js.map D.int)) Q := by
  show (match intsOf (js.map D.int) with | some js => _ | none => False)
  rw [intsOf_map]
  exact h
theorem gNotIn_ofL {w : Int} {js : List Int} {Q : D → Prop} (h : Q (.bl (!decide (w ∈ js)))) : gNotIn (.int w) (.lst (js.map D.int)) Q := by
  show (match intsOf (js.map D.int) with | some js => _ | none => False)
  rw [intsOf_map]
  exact h
theorem pl_answers_at : ∀ (ds : List D) (Q : D → Prop) (E : XD → Prop), ds.length = 3 → sp_answers_at ds Q E → t_answers_at { nx := fun _ => Q .non, rt := Q, ex := E } (start3 8 ds) := fun ds Q E hl h => by
  obtain ⟨d, R, L, ss, rfl, ⟨fo, fs, rfl, hf⟩, ld, st, q⟩ := h
  refine ⟨rfl, ?_⟩
  rw [hf]
  show forL _ _ _ (zipD (R.map bunQ) (L.map rowQ)) _
  rw [zipD_map]
  refine for_invG (fun l ρ => ∃ (rest : List (List (List Rat) × List Rat)) (a b s c e : Sl), (∀ p ∈ rest, p ∈ R.zip L) ∧ ansQ (slQ R L ss) = ansQ (rest.map (slP ss)) ∧ l = rest.map (fun p => .tup [bunQ p.1, rowQ p.2]) ∧ ρ = [.val (.ins "Frame" fs), .val (.tup (L.map rowQ)), .val (rowQ ss), a, b, s, c, e]) (fun x l ρ K hI hK => ?_) (fun ρ hI => ?_) _ _ ⟨R.zip L, .emp, .emp, .emp, .emp, .emp, fun _ h => h, rfl, rfl, rfl⟩
  · obtain ⟨rest, a, b, s, c, e, hd, ha, el, rfl⟩ := hI
    cases rest with
    | nil => cases el
    | cons p rest =>
      cases el
      obtain ⟨p1, p2, p3⟩ := at_pair fo ld st (hd p (by simp))
      rw [List.map_cons, ans_cons] at ha
      refine ⟨rfl, by show 5 < 8; decide, ?_⟩
      show (zipD (p.1.map rowQ) (p.2.map ratD)).length ≤ _ ∧ compL _ _ _ _ _ _ (zipD (p.1.map rowQ) (p.2.map ratD)) _
      refine ⟨by rw [zipD_length, List.length_map, List.length_map, ← List.length_zip]; exact le_size (by omega), compZ2 (f := fun r x => .int (dotR r ss + x).num.sign) p.1 p.2 (fun r x hrx K' kk => ?_) ?_⟩
      · obtain ⟨c1, c2, c3, c4⟩ := p3 r x hrx
        exact ⟨rfl, r, x, ss, rfl, c1, c2, c3, st.2, c4, rfl, _, rfl, kk⟩
      · have e1 : ((p.1.zip p.2).map fun p => D.int (dotR p.1 ss + p.2).num.sign) = ((slP ss p).map fun x => x.num.sign).map D.int := by
          unfold slP
          rw [(List.map_map), List.map_map]
          rfl
        rw [e1]
        refine gIn_ofL ?_
        rw [sg_neg]
        conv => whnf
        split
        · rename_i e2
          have e2 : (!(slP ss p).all fun x => decide (0 ≤ x.num)) = true := e2
          have : okT (slP ss p) = false := by
            unfold okT
            rw [nbT e2]
            rfl
          rw [ha, this, Bool.false_and] at q
          exact q
        · rename_i e2
          have e2 : (!(slP ss p).all fun x => decide (0 ≤ x.num)) = false := e2
          refine gNotIn_ofL ?_
          rw [sg_zero]
          conv => whnf
          split
          · rename_i e3
            have e3 : (!(slP ss p).any fun x => decide (x = 0)) = true := e3
            have : okT (slP ss p) = false := by
              unfold okT
              rw [nbT e3, Bool.and_false]
            rw [ha, this, Bool.false_and] at q
            exact q
          · rename_i e3
            have e3 : (!(slP ss p).any fun x => decide (x = 0)) = false := e3
            have : okT (slP ss p) = true := by
              unfold okT
              rw [nbF e3, nbF e2]
              rfl
            refine hK _ ⟨rest, _, _, _, _, _, fun p hp => hd p (by simp [hp]), ?_, rfl, rfl⟩
            rw [ha, this, Bool.true_and]
  · obtain ⟨rest, a, b, s, c, e, hd, ha, el, rfl⟩ := hI
    cases rest with
    | cons x y => cases el
    | nil =>
      rw [ha] at q
      exact q

def sp_is_answer : Sp3 := fun ds Q E => ∃ d R load st, ds = [d, load, st] ∧ IsFr d R ∧ plD load = true ∧ plD st = true ∧ (if fitI (lensQ R) load = true then (if (isTupD st && isRowD st (R.length : Nat)) = true then ∃ L ss, load = .tup (L.map rowQ) ∧ st = rowQ ss ∧ LdOk R L ∧ StOk R ss ∧ Q (.bl (ansQ (slQ R L ss))) else Q (.bl false)) else E blE)

def t_is_answer : RS := (rSeq (rDrop (rCall 2 sp_need_load (rCons (rVar 0) (rCons (rVar 1) rNil))))
    (rRet (rAndV (rCall 2 sp_is_told_row (rCons (rVar 2) (rCons (rCB gLen (rCons (rFld "Frame" "rows" (rVar 0)) rNil)) rNil))) (rCall 3 sp_answers_at (rCons (rVar 0) (rCons (rVar 1) (rCons (rVar 2) rNil)))))))

theorem pl_is_answer : ∀ (ds : List D) (Q : D → Prop) (E : XD → Prop), ds.length = 3 → sp_is_answer ds Q E → t_is_answer { nx := fun _ => Q .non, rt := Q, ex := E } (start3 3 ds) := fun ds Q E hl h => by
  obtain ⟨d, R, load, st, rfl, fr, h1, h2, q⟩ := h
  refine ⟨rfl, d, R, load, rfl, fr, h1, ?_⟩
  by_cases hf : fitI (lensQ R) load = true
  · rw [if_pos hf] at q ⊢
    obtain ⟨fo, fs, rfl, hfs⟩ := fr
    refine ⟨rfl, ?_⟩
    rw [hfs]
    refine ⟨rfl, st, _, rfl, h2, ?_⟩
    have e0 : (((R.map bunQ).length : Nat) : Int) = (R.length : Nat) := by rw [List.length_map]
    rw [← e0] at q
    conv => whnf
    split
    · rename_i e
      have e : (isTupD st && isRowD st (((R.map bunQ).length : Nat) : Int)) = true := e
      rw [if_pos e] at q
      obtain ⟨L, ss, rfl, rfl, ld, so, q⟩ := q
      exact ⟨rfl, _, R, L, ss, rfl, ⟨fo, fs, rfl, hfs⟩, ld, so, q⟩
    · rename_i e
      have e : (isTupD st && isRowD st (((R.map bunQ).length : Nat) : Int)) = false := e
      rw [if_neg (by rw [e]; simp)] at q
      exact q
  · rw [if_neg hf] at q ⊢
    exact q

def sp__law_pen : Sp3 := fun ds Q _ => ∃ xs, ds = [.scr xs] ∧ xs.length ≤ 63 ∧ Q .pen

def t__law_pen : RS := (rSeq (rSet 1 (rC (.int 0)))
    (rSeq (rFor (rIt (rVar 0)) (g3N 2) (rSet 1 (rOp gMod (rCB gInt (rCons (rOp gAdd (rOp gMul (rVar 1) (rC (.int 47))) (rVar 2)) rNil)) (rC (.int 1000000007)))))
    (rRet (rPenNew (rListOf (rVar 0)) (rVar 1)))))

theorem pl__law_pen : ∀ (ds : List D) (Q : D → Prop) (E : XD → Prop), ds.length = 1 → sp__law_pen ds Q E → t__law_pen { nx := fun _ => Q .non, rt := Q, ex := E } (start3 3 ds) := fun ds Q E hl h => by
  obtain ⟨xs, rfl, hx, q⟩ := h
  let I : List D → Env3 → Prop := fun l ρ => ∃ (rest : List Int) (acc : Int) (c : Sl), l = rest.map D.int ∧ ρ = [.val (.scr xs), .val (.int acc), c] ∧ 0 ≤ acc ∧ acc < 1000000007
  refine for_inv I (fun d l ρ K hI hK => ?_) (fun ρ hI => ?_) _ _ ⟨xs, 0, .emp, rfl, rfl, by omega, by omega⟩
  · obtain ⟨rest, acc, c, el, rfl, h0, h1⟩ := hI
    cases rest with
    | nil => cases el
    | cons n rest =>
      cases el
      refine ⟨CMul.ok (.inr (by omega)), by omega, hK _ ⟨rest, _, _, rfl, rfl, ?_, ?_⟩⟩
      · exact Int.fmod_nonneg_of_pos _ (by omega)
      · exact Int.fmod_lt_of_pos _ (by omega)
  · obtain ⟨rest, acc, c, el, rfl, h0, h1⟩ := hI
    refine ⟨le_size (by rw [List.length_map]; omega), xs, rfl, acc, rfl, ⟨h0, by omega⟩, q⟩



def sp__law_pick : Sp3 := fun ds Q _ => ∃ d xs, ds = [.pen, d] ∧ (d = .tup xs ∨ d = .lst xs) ∧ 1 ≤ xs.length ∧ xs.length ≤ 65536 ∧ ∀ x ∈ xs, Q x

def t__law_pick : RS := (rRet (rOp gIx (rVar 1) (rCall 2 sp__law_draw (rCons (rVar 0) (rCons (rCB gLen (rCons (rVar 1) rNil)) rNil)))))

theorem pl__law_pick : ∀ (ds : List D) (Q : D → Prop) (E : XD → Prop), ds.length = 2 → sp__law_pick ds Q E → t__law_pick { nx := fun _ => Q .non, rt := Q, ex := E } (start3 2 ds) := fun ds Q E hl h => by
  obtain ⟨d, xs, rfl, hd, h1, h2, q⟩ := h
  have key : ∀ k : Int, 0 ≤ k → k < (xs.length : Nat) → ∃ x, atI xs k = some x ∧ Q x := fun k k0 k1 => by
    obtain ⟨n, rfl⟩ := Int.eq_ofNat_of_zero_le k0
    have hn : n < xs.length := by omega
    exact ⟨xs[n], atJ_nat (List.getElem?_eq_getElem hn), q _ (List.getElem_mem hn)⟩
  rcases hd with rfl | rfl
  · refine ⟨rfl, ⟨by omega, by omega⟩, fun k k0 k1 => ?_⟩
    obtain ⟨x, hx, qx⟩ := key k k0 k1
    show (match atI xs k with | some d => Q d | none => False)
    rw [hx]
    exact qx
  · refine ⟨rfl, ⟨by omega, by omega⟩, fun k k0 k1 => ?_⟩
    obtain ⟨x, hx, qx⟩ := key k k0 k1
    show (match atI xs k with | some d => Q d | none => False)
    rw [hx]
    exact qx

def sp__law_shuffled : Sp3 := fun ds Q _ => ∃ xs, ds = [.pen, .lst xs] ∧ xs.length ≤ 65536 ∧ ∀ ys : List D, ys.length = xs.length → (∀ y ∈ ys, y ∈ xs) → Q (.lst ys)

def t__law_shuffled : RS := (rSeq (rParLL 2 3 (rListOf (rVar 1)) (rLst rNil))
    (rSeq (rFor (rRange1 (rCons (rCB gLen (rCons (rVar 1) rNil)) rNil)) (g3N 4) (rAppPop 3 2 (rCall 2 sp__law_draw (rCons (rVar 0) (rCons (rLenO 2) rNil)))))
    (rFrz 3 (rRet (rVar 3)))))

theorem seq_nat {k n : Nat} (h : k < n) : seqIndex? (k : Int) n = some k := by
  have e : ixN n (k : Int) = some k := by
    unfold ixN
    rw [(if_pos (by omega)), if_pos (by omega)]
    rfl
  exact (ixN_seq e).1
theorem pl__law_shuffled : ∀ (ds : List D) (Q : D → Prop) (E : XD → Prop), ds.length = 2 → sp__law_shuffled ds Q E → t__law_shuffled { nx := fun _ => Q .non, rt := Q, ex := E } (start3 5 ds) := fun ds Q E hl h => by
  obtain ⟨xs, rfl, hx, q⟩ := h
  refine ⟨⟨by show 2 < 5; decide, by show 3 < 5; decide⟩, le_size hx, by show 0 ≤ sizeLine; exact Nat.zero_le _, ⟨by omega, by omega⟩, ?_⟩
  have e0 : ((xs.length : Nat) : Int).toNat = xs.length := by omega
  show forL _ _ _ (rangeD 0 ((xs.length : Nat) : Int).toNat) _
  rw [e0]
  let I : List D → Env3 → Prop := fun l ρ => ∃ (left found : List D) (c : Sl), l.length = left.length ∧ ρ = [.val .pen, .val (.lst xs), .own left, .own found, c] ∧ left.length + found.length = xs.length ∧ (∀ y ∈ left, y ∈ xs) ∧ ∀ y ∈ found, y ∈ xs
  refine for_inv I (fun d l ρ K hI hK => ?_) (fun ρ hI => ?_) _ _ ⟨xs, [], .emp, rangeD_len, rfl, by simp, fun _ h => h, by simp⟩
  · obtain ⟨left, found, c, el, rfl, hs, h1, h2⟩ := hI
    simp only [List.length_cons] at el
    refine ⟨rfl, ⟨by omega, by omega⟩, fun k k0 k1 => ?_⟩
    obtain ⟨n, rfl⟩ := Int.eq_ofNat_of_zero_le k0
    have hn : n < left.length := by omega
    refine ⟨⟨by omega, by omega⟩, Nat.lt_of_lt_of_le (by omega : found.length < 65537) (by decide), n, left[n], seq_nat hn, List.getElem?_eq_getElem hn, hK _ ⟨left.eraseIdx n, found ++ [left[n]], .val d, ?_, rfl, ?_, ?_, ?_⟩⟩
    · rw [List.length_eraseIdx, if_pos hn]
      omega
    · rw [List.length_eraseIdx, if_pos hn, List.length_append, List.length_singleton]
      omega
    · exact fun y hy => h1 y (List.mem_of_mem_eraseIdx hy)
    · intro y hy
      rcases (List.mem_append.mp hy) with hy | hy
      · exact h2 y hy
      · rw [List.mem_singleton.mp hy]
        exact h1 _ (List.getElem_mem hn)
  · obtain ⟨left, found, c, el, rfl, hs, h1, h2⟩ := hI
    simp only [List.length_nil] at el
    exact q found (by omega) h2

mutual
/-- None, bools, ints, texts, tuples of them -/
def tiD : D → Bool
  | .tup xs => decide (xs.length ≤ 65536) && tiDs xs
  | .int _ => true
  | .non => true
  | .bl _ => true
  | .str _ => true
  | _ => false
def tiDs : List D → Bool
  | [] => true
  | d :: ds => tiD d && tiDs ds
end
def sr__law_is (n : Nat) : Sp3 := fun ds Q _ => ∃ d, ds = [d, d] ∧ tiD d = true ∧ dpD d < n ∧ Q (.bl true)
def sp__law_is : Sp3 := sr__law_is 8

def t__law_is (spS : Sp3) : RS := (rSeq (rIf (rTV (rIs "tuple" (rVar 1))) (rSeq (rIf (rOr (rNot (rTV (rIs "tuple" (rVar 0)))) (rTV (rOp gNe (rCB gLen (rCons (rVar 0) rNil)) (rCB gLen (rCons (rVar 1) rNil))))) (rRet (rC (.bl false))) rNext)
    (rRet (rOp gEq (rL (rComp (rRange1 (rCons (rCB gLen (rCons (rVar 1) rNil)) rNil)) (g3N 2) (rNot (rTV (rCall 2 spS (rCons (rOp gIx (rVar 0) (rVar 2)) (rCons (rOp gIx (rVar 1) (rVar 2)) rNil))))) (rVar 2) [2])) (rL (rLst rNil))))) rNext)
    (rSeq (rIf (rTV (rIsN (rVar 1))) (rRet (rIsN (rVar 0))) rNext)
    (rSeq (rIf (rTV (rIsB true (rVar 1))) (rRet (rIsB true (rVar 0))) rNext)
    (rSeq (rIf (rTV (rIsB false (rVar 1))) (rRet (rIsB false (rVar 0))) rNext)
    (rSeq (rIf (rTV (rIs "str" (rVar 1))) (rRet (rAndV (rIs "str" (rVar 0)) (rOp gEq (rVar 0) (rVar 1)))) rNext)
    (rRet (rAndV (rIs "int" (rVar 0)) (rAndV (rNotV (rIs "bool" (rVar 0))) (rOp gEq (rVar 0) (rVar 1))))))))))

theorem zr__law_is : ∀ ds Q E, sr__law_is 0 ds Q E → False := fun ds Q E h => by
  obtain ⟨_, _, _, h, _⟩ := h
  exact Nat.not_lt_zero _ h
theorem tiDs_mem : ∀ {ds : List D}, tiDs ds = true → ∀ d ∈ ds, tiD d = true
  | [], _, d, h => by cases h
  | x :: ds, h, d, hd => by
    unfold tiDs at h
    obtain ⟨h1, h2⟩ := Bool.and_eq_true_iff.mp h
    rcases (List.mem_cons.mp hd) with rfl | hd
    · exact h1
    · exact tiDs_mem h2 d hd
theorem tiDs_of : ∀ {ds : List D}, (∀ d ∈ ds, tiD d = true) → tiDs ds = true
  | [], _ => rfl
  | x :: ds, h => by
    unfold tiDs
    rw [h x (by simp), tiDs_of fun d hd => h d (by simp [hd])]
    rfl
theorem pl__law_is (n : Nat) : ∀ (ds : List D) (Q : D → Prop) (E : XD → Prop), ds.length = 2 → sr__law_is (n + 1) ds Q E → t__law_is (sr__law_is n) { nx := fun _ => Q .non, rt := Q, ex := E } (start3 3 ds) := fun ds Q E hl h => by
  obtain ⟨d, rfl, ht, hd, q⟩ := h
  cases d with
  | tup xs =>
    unfold tiD at ht
    obtain ⟨hx, hm⟩ := Bool.and_eq_true_iff.mp ht
    have hx := of_decide_eq_true hx
    have hm := tiDs_mem hm
    unfold dpD at hd
    refine ⟨rfl, rfl, ?_⟩
    conv => whnf
    split
    · rename_i e
      exact absurd rfl (nbN e)
    · refine ⟨⟨by omega, by omega⟩, ?_⟩
      have e0 : ((xs.length : Nat) : Int).toNat = xs.length := by omega
      show (rangeD 0 ((xs.length : Nat) : Int).toNat).length ≤ _ ∧ compL _ _ _ _ _ _ (rangeD 0 ((xs.length : Nat) : Int).toNat) _
      rw [e0]
      refine ⟨by rw [rangeD_len]; exact le_size hx, comp_fm (p := fun _ => false) (f := fun d => d) _ [] (fun y hy => ⟨fun K k => ?_, fun h => by cases h⟩) ?_⟩
      · unfold rangeD at hy
        obtain ⟨i, hi, rfl⟩ := List.mem_map.mp hy
        have hi := List.mem_range.mp hi
        obtain ⟨x, hx1⟩ : ∃ x, xs[i]? = some x := ⟨_, List.getElem?_eq_getElem hi⟩
        have e1 : atI xs (0 + (i : Nat)) = some x := by rw [Int.zero_add]; exact atJ_nat hx1
        have hxm := List.mem_of_getElem? hx1
        show (match atI xs (0 + (i : Nat)) with | some d => _ | none => False)
        rw [e1]
        show (match atI xs (0 + (i : Nat)) with | some d => _ | none => False)
        rw [e1]
        exact ⟨rfl, x, rfl, hm x hxm, Nat.lt_of_le_of_lt (dpDs_mem hxm) (by omega), k⟩
      · rw [List.filter_eq_nil_iff.mpr (by simp)]
        exact ⟨by show 0 ≤ sizeLine; exact Nat.zero_le _, q⟩
  | int i =>
    refine ⟨rfl, rfl, rfl, rfl, ?_⟩
    conv => whnf
    have e : decide (i = i) = true := by simp
    rw [e]
    exact q
  | non => exact ⟨rfl, q⟩
  | bl b =>
    cases b
    · exact ⟨rfl, q⟩
    · exact ⟨rfl, q⟩
  | str x =>
    refine ⟨rfl, rfl, rfl, ?_⟩
    conv => whnf
    have e : decide (x = x) = true := by simp
    rw [e]
    exact q
  | lst _ => cases ht
  | dct b => cases ht
  | scr _ => cases ht
  | pen => cases ht
  | ins _ _ => cases ht
  | exc _ _ => cases ht
theorem rat_ti (r : Rat) : tiD (ratD r) = true ∧ dpD (ratD r) < 8 := by
  rcases isI r with ⟨h1, e1⟩ | ⟨h1, e1⟩ <;> rw [e1]
  · exact ⟨rfl, by show 0 < 8; decide⟩
  · exact ⟨rfl, by show 1 < 8; decide⟩
theorem is_rat {r : Rat} {Q : D → Prop} {E : XD → Prop} (q : Q (.bl true)) : sp__law_is [ratD r, ratD r] Q E := ⟨_, rfl, (rat_ti r).1, (rat_ti r).2, q⟩

def sp__law_says : Sp3 := fun ds Q _ => ∃ b : Bool, ds = [.bl b, .bl b] ∧ Q (.bl true)

def t__law_says : RS := (rRet (rIte (rTV (rVar 1)) (rIsB true (rVar 0)) (rIsB false (rVar 0))))

theorem pl__law_says : ∀ (ds : List D) (Q : D → Prop) (E : XD → Prop), ds.length = 2 → sp__law_says ds Q E → t__law_says { nx := fun _ => Q .non, rt := Q, ex := E } (start3 2 ds) := fun ds Q E hl h => by
  obtain ⟨b, rfl, q⟩ := h
  cases b
  · exact q
  · exact q

def sp__law_divisor : Sp3 := fun ds Q _ => ∃ a b : Int, ds = [.int a, .int b] ∧ Q (.int (a.natAbs.gcd b.natAbs : Nat))

def t__law_divisor : RS := (rSeq (rPar 0 1 (rCons (rCB gAbs (rCons (rVar 0) rNil)) (rCons (rCB gAbs (rCons (rVar 1) rNil)) rNil)))
    (rSeq (rWhile (rTV (rOp gNe (rVar 1) (rC (.int 0)))) (rPar 0 1 (rCons (rVar 1) (rCons (rOp gMod (rCB gInt (rCons (rVar 0) rNil)) (rVar 1)) rNil))))
    (rRet (rVar 0))))

abbrev gcT : RT := rTV (rOp gNe (rVar 1) (rC (.int 0)))
abbrev gcB : RS := rPar 0 1 (rCons (rVar 1) (rCons (rOp gMod (rCB gInt (rCons (rVar 0) rNil)) (rVar 1)) rNil))
theorem gcd_while {N : En3} {Q : D → Prop} (hn : ∀ m : Nat, ∀ x, Q (.int (m : Nat)) → N.nx [.val (.int (m : Nat)), x]) : ∀ (n a b : Nat), b ≤ n → Q (.int (a.gcd b : Nat)) → whL gcT gcB N (n + 1) [.val (.int (a : Nat)), .val (.int (b : Nat))]
  | n, a, 0, _, q => by
    rw [Nat.gcd_zero_right] at q
    exact hn a _ q
  | 0, a, b + 1, h, q => by omega
  | n + 1, a, b + 1, h, q => by
    refine ⟨by omega, ?_⟩
    have e2 : Int.fmod (a : Int) ((b + 1 : Nat) : Int) = ((a % (b + 1) : Nat) : Int) := by
      rw [(Int.fmod_eq_emod_of_nonneg _ (by omega))]
      rfl
    show whL gcT gcB N (n + 1) [.val (.int ((b + 1 : Nat) : Int)), .val (.int (Int.fmod (a : Int) ((b + 1 : Nat) : Int)))]
    rw [e2]
    have : a % (b + 1) < b + 1 := Nat.mod_lt a (Nat.succ_pos b)
    refine gcd_while hn n (b + 1) (a % (b + 1)) (by omega) ?_
    rw [Nat.gcd_comm, ← Nat.gcd_rec, Nat.gcd_comm]
    exact q
theorem abs_if (i : Int) : (if i < 0 then -i else i) = ((i.natAbs : Nat) : Int) := by split <;> omega
theorem pl__law_divisor : ∀ (ds : List D) (Q : D → Prop) (E : XD → Prop), ds.length = 2 → sp__law_divisor ds Q E → t__law_divisor { nx := fun _ => Q .non, rt := Q, ex := E } (start3 2 ds) := fun ds Q E hl h => by
  obtain ⟨a, b, rfl, q⟩ := h
  show rSeq (rWhile _ _) _ _ [.val (.int (if a < 0 then -a else a)), .val (.int (if b < 0 then -b else b))]
  rw [abs_if, abs_if]
  exact ⟨b.natAbs + 1, gcd_while (Q := Q) (fun m x q => q) _ _ _ (Nat.le_refl _) q⟩

def sp__law_low : Sp3 := sp_in_lowest

def t__law_low : RS := (rSeq (rSet 2 (rCall 2 sp__law_divisor (rCons (rVar 0) (rCons (rVar 1) rNil))))
    (rSeq (rIf (rTV (rOp gLt (rVar 1) (rC (.int 0)))) (rSet 2 (rUn gNeg (rVar 2))) rNext)
    (rRet (rIte (rTV (rOp gEq (rVar 1) (rVar 2))) (rOp gDiv (rVar 0) (rVar 2)) (rTup (rCons (rOp gDiv (rVar 0) (rVar 2)) (rCons (rOp gDiv (rVar 1) (rVar 2)) rNil)))))))

theorem pl__law_low : ∀ (ds : List D) (Q : D → Prop) (E : XD → Prop), ds.length = 2 → sp__law_low ds Q E → t__law_low { nx := fun _ => Q .non, rt := Q, ex := E } (start3 3 ds) := fun ds Q E hl h => by
  obtain ⟨t, b, rfl, h0, h1, q⟩ := h
  refine ⟨rfl, t, b, rfl, ?_⟩
  have key : ∀ g : Int, g = lowG t b → rRet (rIte (rTV (rOp gEq (rVar 1) (rVar 2))) (rOp gDiv (rVar 0) (rVar 2)) (rTup (rCons (rOp gDiv (rVar 0) (rVar 2)) (rCons (rOp gDiv (rVar 1) (rVar 2)) rNil)))) { nx := fun _ => Q .non, rt := Q, ex := E } [.val (.int t), .val (.int b), .val (.int g)] := fun g e => by
    subst e
    exact low_end h0 h1 q rfl rfl rfl
  conv => whnf
  split
  · rename_i e
    have e : decide (b < 0) = true := e
    exact key _ (by unfold lowG; rw [if_neg (by have := of_decide_eq_true e; omega)])
  · rename_i e
    have e : decide (b < 0) = false := e
    exact key _ (by unfold lowG; rw [if_pos (by have := of_decide_eq_false e; omega)])

def sp__law_pair : Sp3 := fun ds Q _ => ∃ r : Rat, ds = [ratD r] ∧ Q (.tup [.int r.num, .int (r.den : Nat)])

def t__law_pair : RS := (rRet (rIte (rTV (rIs "int" (rVar 0))) (rTup (rCons (rVar 0) (rCons (rC (.int 1)) rNil))) (rVar 0)))

theorem pl__law_pair : ∀ (ds : List D) (Q : D → Prop) (E : XD → Prop), ds.length = 1 → sp__law_pair ds Q E → t__law_pair { nx := fun _ => Q .non, rt := Q, ex := E } (start3 1 ds) := fun ds Q E hl h => by
  obtain ⟨r, rfl, q⟩ := h
  by_cases hd : r.den = 1
  · rw [hd] at q
    rw [ratD_1 hd]
    exact ⟨rfl, by show 2 ≤ sizeLine; decide, q⟩
  · rw [ratD_2 hd]
    exact ⟨rfl, q⟩

def sp__law_plus : Sp3 := fun ds Q _ => ∃ r s : Rat, ds = [ratD r, ratD s] ∧ Sz 3900 r ∧ Sz 3900 s ∧ Q (ratD (r + s))

def t__law_plus : RS := (rSeq (rPar 2 3 (rCons (rCall 1 sp__law_pair (rCons (rVar 0) rNil)) (rCons (rCall 1 sp__law_pair (rCons (rVar 1) rNil)) rNil)))
    (rRet (rCall 2 sp__law_low (rCons (rOp gAdd (rOp gMul (rOp gIx (rVar 2) (rC (.int 0))) (rOp gIx (rVar 3) (rC (.int 1)))) (rOp gMul (rOp gIx (rVar 3) (rC (.int 0))) (rOp gIx (rVar 2) (rC (.int 1))))) (rCons (rOp gMul (rOp gIx (rVar 2) (rC (.int 1))) (rOp gIx (rVar 3) (rC (.int 1)))) rNil)))))

theorem pl__law_plus : ∀ (ds : List D) (Q : D → Prop) (E : XD → Prop), ds.length = 2 → sp__law_plus ds Q E → t__law_plus { nx := fun _ => Q .non, rt := Q, ex := E } (start3 4 ds) := fun ds Q E hl h => by
  obtain ⟨r, s, rfl, hr, hs, q⟩ := h
  refine ⟨rfl, r, rfl, rfl, s, rfl, ?_⟩
  refine ⟨mulOk_sz hr.n hs.d (by decide), mulOk_sz hs.n hr.d (by decide), mulOk_sz hr.d hs.d (by decide), rfl, _, _, rfl, Int.mul_ne_zero (den_ne r) (den_ne s), ?_, ?_⟩
  · exact Nat.lt_of_lt_of_le (mul_sz hr.d hs.d) (Nat.pow_le_pow_right (by decide) (by decide))
  · rw [rat_add]
    exact q

def sp__law_opposite : Sp3 := sp_opposite

def t__law_opposite : RS := (rRet (rIte (rTV (rIs "int" (rVar 0))) (rUn gNeg (rVar 0)) (rTup (rCons (rUn gNeg (rOp gIx (rVar 0) (rC (.int 0)))) (rCons (rOp gIx (rVar 0) (rC (.int 1))) rNil)))))

theorem pl__law_opposite : ∀ (ds : List D) (Q : D → Prop) (E : XD → Prop), ds.length = 1 → sp__law_opposite ds Q E → t__law_opposite { nx := fun _ => Q .non, rt := Q, ex := E } (start3 1 ds) := fun ds Q E hl h => by
  obtain ⟨r, rfl, q⟩ := h
  exact opp_read (ρ := start3 1 [ratD r]) q rfl

def sp__law_minus : Sp3 := fun ds Q _ => ∃ r s : Rat, ds = [ratD r, ratD s] ∧ Sz 3900 r ∧ Sz 3900 s ∧ Q (ratD (r - s))

def t__law_minus : RS := (rRet (rCall 2 sp__law_plus (rCons (rVar 0) (rCons (rCall 1 sp__law_opposite (rCons (rVar 1) rNil)) rNil))))

theorem pl__law_minus : ∀ (ds : List D) (Q : D → Prop) (E : XD → Prop), ds.length = 2 → sp__law_minus ds Q E → t__law_minus { nx := fun _ => Q .non, rt := Q, ex := E } (start3 2 ds) := fun ds Q E hl h => by
  obtain ⟨r, s, rfl, hr, hs, q⟩ := h
  exact ⟨rfl, s, rfl, rfl, r, -s, rfl, hr, hs.neg, by rw [← Rat.sub_eq_add_neg]; exact q⟩

def sp__law_sign : Sp3 := fun ds Q _ => ∃ r : Rat, ds = [ratD r] ∧ Q (.int r.num.sign)

def t__law_sign : RS := (rSeq (rSet 1 (rOp gIx (rCall 1 sp__law_pair (rCons (rVar 0) rNil)) (rC (.int 0))))
    (rRet (rOp gSub (rCB gInt (rCons (rOp gGt (rVar 1) (rC (.int 0))) rNil)) (rCB gInt (rCons (rOp gLt (rVar 1) (rC (.int 0))) rNil)))))

theorem sign_b (i : Int) : (if decide (0 < i) = true then (1 : Int) else 0) - (if decide (i < 0) = true then 1 else 0) = i.sign := by
  rw [← sign_if]
  by_cases h : 0 < i
  · simp [h, show ¬ i < 0 by omega]
  · by_cases h2 : i < 0
    · simp [h, h2]
    · simp [h, h2]
theorem pl__law_sign : ∀ (ds : List D) (Q : D → Prop) (E : XD → Prop), ds.length = 1 → sp__law_sign ds Q E → t__law_sign { nx := fun _ => Q .non, rt := Q, ex := E } (start3 2 ds) := fun ds Q E hl h => by
  obtain ⟨r, rfl, q⟩ := h
  refine ⟨rfl, r, rfl, ?_⟩
  rw [← sign_b] at q
  exact q

def sp__law_dot : Sp3 := sp_summed

def t__law_dot : RS := (rSeq (rAsg (g3Tup 2 (g3Cons (g3N 2) (g3Cons (g3N 3) g3Nil))) (rTup (rCons (rC (.int 0)) (rCons (rC (.int 1)) rNil))))
    (rSeq (rFor (rZip2 (rCons (rVar 0) (rCons (rVar 1) rNil))) (g3Tup 2 (g3Cons (g3N 4) (g3Cons (g3N 5) g3Nil))) (rSeq (rPar 6 7 (rCons (rCall 1 sp__law_pair (rCons (rVar 4) rNil)) (rCons (rCall 1 sp__law_pair (rCons (rVar 5) rNil)) rNil)))
    (rSeq (rSet 8 (rOp gMul (rOp gIx (rVar 6) (rC (.int 1))) (rOp gIx (rVar 7) (rC (.int 1)))))
    (rIf (rTV (rOp gEq (rVar 8) (rVar 3))) (rSet 2 (rOp gAdd (rVar 2) (rOp gMul (rOp gIx (rVar 6) (rC (.int 0))) (rOp gIx (rVar 7) (rC (.int 0)))))) (rPar 2 3 (rCons (rOp gAdd (rOp gMul (rVar 2) (rVar 8)) (rOp gMul (rOp gMul (rOp gIx (rVar 6) (rC (.int 0))) (rOp gIx (rVar 7) (rC (.int 0)))) (rVar 3))) (rCons (rOp gMul (rVar 3) (rVar 8)) rNil)))))))
    (rRet (rCall 2 sp__law_low (rCons (rVar 2) (rCons (rVar 3) rNil))))))

theorem pl__law_dot : ∀ (ds : List D) (Q : D → Prop) (E : XD → Prop), ds.length = 2 → sp__law_dot ds Q E → t__law_dot { nx := fun _ => Q .non, rt := Q, ex := E } (start3 9 ds) := fun ds Q E hl h => by
  obtain ⟨x, y, rs, ss, β, rfl, hx, hy, hlen, hn, hn2, hβ, hr, hs, q⟩ := h
  refine ⟨sz 2, rfl, ?_⟩
  show match itemsZ? x, itemsZ? y with | some xs, some ys => _ | _, _ => _
  rw [hx.z, hy.z]
  refine for_invG (fun l ρ => ∃ (k : Nat) (rs' ss' : List Rat) (t b : Int) (acc : Rat) (a4 a5 a6 a7 a8 : Sl), l = zipD (rs'.map ratD) (ss'.map ratD) ∧ rs'.length = ss'.length ∧ k + rs'.length = rs.length ∧ (∀ r ∈ rs', Sz β r) ∧ (∀ s ∈ ss', Sz β s) ∧ DotI β k t b acc ∧ acc + dotR rs' ss' = dotR rs ss ∧ ρ = [.val x, .val y, .val (.int t), .val (.int b), a4, a5, a6, a7, a8]) (fun d l ρ K hI hK => ?_) (fun ρ hI => ?_) _ _ ⟨0, rs, ss, 0, 1, 0, .emp, .emp, .emp, .emp, .emp, rfl, hlen, by omega, hr, hs, dotI_0, by rw [Rat.zero_add], rfl⟩
  · obtain ⟨k, rs', ss', t, b, acc, a4, a5, a6, a7, a8, el, hl', hk, hr', hs', dI, hv, rfl⟩ := hI
    match rs', ss', hl' with
    | [], [], _ => cases el
    | r :: rs1, s :: ss1, hl' =>
      cases el
      have hlen1 : rs1.length = ss1.length := by simpa using hl'
      have hk1 : k + 1 + rs1.length = rs.length := by simp only [List.length_cons] at hk; omega
      have zr := hr' r (by simp)
      have zs := hs' s (by simp)
      have hr1 : ∀ r ∈ rs1, Sz β r := fun r h => hr' r (by simp [h])
      have hs1 : ∀ s ∈ ss1, Sz β s := fun r h => hs' r (by simp [h])
      have hv : acc + (r * s + dotR rs1 ss1) = dotR rs ss := hv
      rw [← Rat.add_assoc] at hv
      have hkn : k ≤ rs.length := by omega
      have hB := Nat.mul_le_mul_left (2 * β) hkn
      refine ⟨rfl, rfl, r, rfl, rfl, s, rfl, mulOk_sz zr.d zs.d (by omega), ?_⟩
      have hlow := mul_sz zr.d zs.d
      conv => whnf
      split
      · rename_i e
        have e : decide (((r.den : Nat) : Int) * (s.den : Nat) = b) = true := e
        exact ⟨mulOk_sz zr.n zs.n (by omega), hK _ ⟨k + 1, rs1, ss1, _, b, _, _, _, _, _, _, rfl, hlen1, hk1, hr1, hs1, dI.same zr zs (of_decide_eq_true e), hv, rfl⟩⟩
      · exact ⟨mulOk_sz dI.ht hlow (by omega), mulOk_sz zr.n zs.n (by omega), mulOk_sz (mul_sz zr.n zs.n) dI.hb (by omega), mulOk_sz dI.hb hlow (by omega), hK _ ⟨k + 1, rs1, ss1, _, _, _, _, _, _, _, _, rfl, hlen1, hk1, hr1, hs1, dI.cross zr zs, hv, rfl⟩⟩
  · obtain ⟨k, rs', ss', t, b, acc, a4, a5, a6, a7, a8, el, hl', hk, hr', hs', dI, hv, rfl⟩ := hI
    match rs', ss', hl' with
    | r :: rs1, s :: ss1, hl' => cases el
    | [], [], _ =>
      have hv : acc + 0 = dotR rs ss := hv
      rw [Rat.add_zero] at hv
      refine ⟨rfl, t, b, rfl, by have := dI.pos; omega, dI.den (n := rs.length) (by omega) hn, ?_⟩
      rw [dI.val, hv]
      exact q

def sp__law_is_whole : Sp3 := fun ds Q _ => match ds with
  | [d] => noIns d = true ∧ Q (.bl (isIntD d))
  | _ => False

def t__law_is_whole : RS := (rRet (rAndV (rIs "int" (rVar 0)) (rNotV (rIs "bool" (rVar 0)))))

theorem pl__law_is_whole : ∀ (ds : List D) (Q : D → Prop) (E : XD → Prop), ds.length = 1 → sp__law_is_whole ds Q E → t__law_is_whole { nx := fun _ => Q .non, rt := Q, ex := E } (start3 1 ds) := fun ds Q E hl h => by
  match ds, h with
  | [d], h =>
    obtain ⟨h1, h2⟩ := h
    refine ⟨h1, ?_⟩
    cases d <;> first | (cases h1; done) | exact h2 | exact ⟨h1, h2⟩

def sp__law_is_ratio : Sp3 := sp_is_ratio

def t__law_is_ratio : RS := (rSeq (rIf (rTV (rIs "tuple" (rVar 0))) (rSeq (rIf (rOr (rTV (rOp gNe (rCB gLen (rCons (rVar 0) rNil)) (rC (.int 2)))) (rOr (rNot (rTV (rCall 1 sp__law_is_whole (rCons (rOp gIx (rVar 0) (rC (.int 0))) rNil)))) (rNot (rTV (rCall 1 sp__law_is_whole (rCons (rOp gIx (rVar 0) (rC (.int 1))) rNil)))))) (rRet (rC (.bl false))) rNext)
    (rRet (rAndV (rOp gGt (rOp gIx (rVar 0) (rC (.int 1))) (rC (.int 1))) (rOp gEq (rCall 2 sp__law_divisor (rCons (rOp gIx (rVar 0) (rC (.int 0))) (rCons (rOp gIx (rVar 0) (rC (.int 1))) rNil))) (rC (.int 1)))))) rNext)
    (rRet (rCall 1 sp__law_is_whole (rCons (rVar 0) rNil))))

theorem pl__law_is_ratio : ∀ (ds : List D) (Q : D → Prop) (E : XD → Prop), ds.length = 1 → sp__law_is_ratio ds Q E → t__law_is_ratio { nx := fun _ => Q .non, rt := Q, ex := E } (start3 1 ds) := fun ds Q E hl h => by
  match ds, h with
  | [d], h =>
    obtain ⟨h1, h2⟩ := h
    cases d with
    | tup xs =>
      obtain ⟨hl, hm⟩ := plD_tup h1
      refine ⟨rfl, ?_⟩
      conv => whnf
      split
      · rename_i e
        have e0 : isRatD (.tup xs) = false := isRatD_not fun a b w => by subst w; cases (nbT e)
        rw [e0] at h2
        exact h2
      · rename_i e
        have e1 : xs.length = 2 := by
          have := nbD e
          omega
        obtain ⟨x, y, rfl⟩ := list2 e1
        have hx := plD_noIns (hm x (by simp))
        have hy := plD_noIns (hm y (by simp))
        refine ⟨rfl, hx, ?_⟩
        conv => whnf
        split
        · rename_i ex
          have : isRatD (.tup [x, y]) = false := isRatD_not fun a b z => by cases z; cases (nbT ex)
          rw [this] at h2
          exact h2
        · rename_i e
          obtain ⟨a, rfl⟩ := isIntD_eq (nbF e)
          refine ⟨rfl, hy, ?_⟩
          conv => whnf
          split
          · rename_i e2
            have : isRatD (.tup [.int a, y]) = false := isRatD_not fun a b z => by cases z; cases (nbT e2)
            rw [this] at h2
            exact h2
          · rename_i e2
            obtain ⟨c, rfl⟩ := isIntD_eq (nbF e2)
            conv => whnf
            split
            · rename_i e3
              have e3 : decide (1 < c) = true := e3
              refine ⟨rfl, a, c, rfl, ?_⟩
              have e4 : isRatD (.tup [.int a, .int c]) = decide (((a.natAbs.gcd c.natAbs : Nat) : Int) = 1) := by
                show (decide (1 < c) && decide (a.natAbs.gcd c.natAbs = 1)) = _
                rw [e3, Bool.true_and]
                exact decide_eq_decide.mpr ((by omega))
              rw [e4] at h2
              exact h2
            · rename_i e3
              have e3 : decide (1 < c) = false := e3
              have e4 : isRatD (.tup [.int a, .int c]) = false := by
                show (decide (1 < c) && decide (a.natAbs.gcd c.natAbs = 1)) = _
                rw [e3, Bool.false_and]
              rw [e4] at h2
              exact h2
    | int i => exact ⟨rfl, rfl, rfl, h2⟩
    | non => exact ⟨rfl, rfl, rfl, h2⟩
    | bl b => exact ⟨rfl, rfl, rfl, h2⟩
    | str b => exact ⟨rfl, rfl, rfl, h2⟩
    | lst b => exact ⟨rfl, rfl, rfl, h2⟩
    | dct b => exact ⟨rfl, rfl, rfl, h2⟩
    | scr _ => cases h1
    | pen => cases h1
    | ins _ _ => cases h1
    | exc _ _ => cases h1

/-- .int k, 0 to 10 ^ n - 1 -/
def sp__law_wide : Sp3 := fun ds Q _ => ∃ n : Nat, ds = [.pen, .int (n : Nat)] ∧ n ≤ 40 ∧ ∀ k : Nat, k < 10 ^ n → Q (.int (k : Nat))

def t__law_wide : RS := (rSeq (rAsg (g3Tup 2 (g3Cons (g3N 2) (g3Cons (g3N 3) g3Nil))) (rTup (rCons (rC (.int 0)) (rCons (rC (.int 1)) rNil))))
    (rSeq (rFor (rRange1 (rCons (rOp gDiv (rOp gAdd (rVar 1) (rC (.int 5))) (rC (.int 6))) rNil)) (g3N 4) (rSet 2 (rOp gAdd (rOp gMul (rVar 2) (rOp gPow (rC (.int 10)) (rC (.int 6)))) (rCall 2 sp__law_draw (rCons (rVar 0) (rCons (rOp gPow (rC (.int 10)) (rC (.int 6))) rNil))))))
    (rSeq (rFor (rRange1 (rCons (rVar 1) rNil)) (g3N 4) (rSet 3 (rOp gMul (rVar 3) (rC (.int 10)))))
    (rRet (rOp gMod (rCB gInt (rCons (rVar 2) rNil)) (rVar 3))))))

theorem lt_log {n k : Nat} (h : n < 2 ^ k) (hk : 0 < k) : n.log2 < k := log2_lt_of h hk
theorem pl__law_wide : ∀ (ds : List D) (Q : D → Prop) (E : XD → Prop), ds.length = 2 → sp__law_wide ds Q E → t__law_wide { nx := fun _ => Q .non, rt := Q, ex := E } (start3 5 ds) := fun ds Q E hl h => by
  obtain ⟨n, rfl, hn, q⟩ := h
  have fin : ∀ (f : Nat) (N : En3) (a : Sl), N.rt = Q → rRet (rOp gMod (rCB gInt (rCons (rVar 2) rNil)) (rVar 3)) N [.val .pen, .val (.int (n : Nat)), .val (.int (f : Nat)), .val (.int ((10 ^ n : Nat) : Int)), a] := fun f N a e => by
    have h10 : 0 < 10 ^ n := Nat.pow_pos (by decide)
    refine ⟨by omega, ?_⟩
    show N.rt (.int (Int.fmod (f : Int) ((10 ^ n : Nat) : Int)))
    rw [Int.fmod_eq_emod_of_nonneg _ (by omega), e]
    exact q (f % 10 ^ n) (Nat.mod_lt _ h10)
  have lp2 : ∀ (N : En3) (f : Nat) (a : Sl), N.rt = Q → rSeq (rFor (rRange1 (rCons (rVar 1) rNil)) (g3N 4) (rSet 3 (rOp gMul (rVar 3) (rC (.int 10))))) (rRet (rOp gMod (rCB gInt (rCons (rVar 2) rNil)) (rVar 3))) N [.val .pen, .val (.int (n : Nat)), .val (.int (f : Nat)), .val (.int 1), a] := fun N f a e => by
    refine ⟨⟨by omega, by omega⟩, ?_⟩
    show forL _ _ _ (rangeD 0 ((n : Nat) : Int).toNat) _
    rw [show ((n : Nat) : Int).toNat = n by omega]
    refine for_inv (fun l ρ => ∃ (i : Nat) (a : Sl), i + l.length = n ∧ ρ = [.val .pen, .val (.int (n : Nat)), .val (.int (f : Nat)), .val (.int ((10 ^ i : Nat) : Int)), a]) (fun d l ρ K hI hK => ?_) (fun ρ hI => ?_) _ _ ⟨0, a, by rw [rangeD_len]; omega, rfl⟩
    · obtain ⟨i, a, hi, rfl⟩ := hI
      refine ⟨CMul.ok (.inr (by omega)), hK _ ⟨i + 1, .val d, by simp only [List.length_cons] at hi; omega, ?_⟩⟩
      rw [Nat.pow_succ, Int.natCast_mul]
      rfl
    · obtain ⟨i, a, hi, rfl⟩ := hI
      obtain rfl : i = n := by simpa using hi
      exact fin f N a e
  have e7 : ∃ m : Nat, m ≤ 7 ∧ Int.fdiv (((n : Nat) : Int) + 5) 6 = (m : Nat) := ⟨(n + 5) / 6, by omega, by rw [Int.fdiv_eq_ediv_of_nonneg _ (by decide)]; omega⟩
  obtain ⟨m, hm, em⟩ := e7
  refine ⟨sz 2, rfl, ⟨by decide, by decide⟩, ⟨by show _ ≤ Int.fdiv (((n : Nat) : Int) + 5) 6; omega, by show Int.fdiv (((n : Nat) : Int) + 5) 6 < _; omega⟩, ?_⟩
  show forL _ _ _ (rangeD 0 (Int.fdiv (((n : Nat) : Int) + 5) 6).toNat) _
  rw [em, show ((m : Nat) : Int).toNat = m by omega]
  refine for_inv (fun l ρ => ∃ (i f : Nat) (a : Sl), i + l.length = m ∧ f < 10 ^ (6 * i) ∧ ρ = [.val .pen, .val (.int (n : Nat)), .val (.int (f : Nat)), .val (.int 1), a]) (fun d l ρ K hI hK => ?_) (fun ρ hI => ?_) _ _ ⟨0, 0, .emp, by rw [rangeD_len]; omega, by decide, rfl⟩
  · obtain ⟨i, f, a, hi, hf, rfl⟩ := hI
    have c6 : CPow 10 6 := ⟨by decide, by decide, by decide⟩
    have hm6 : IntMulOk (f : Int) ((10 : Int) ^ (6 : Int).toNat) := CMul.ok (.inr (by decide))
    refine ⟨c6, hm6, c6, rfl, ⟨by decide, by decide⟩, fun k k0 k1 => ?_⟩
    obtain ⟨k, rfl⟩ := Int.eq_ofNat_of_zero_le k0
    have k1 : (k : Int) < 1000000 := k1
    refine hK _ ⟨i + 1, f * 1000000 + k, .val d, by simp only [List.length_cons] at hi; omega, ?_, ?_⟩
    · rw [Nat.mul_add, Nat.pow_add]
      have : f + 1 ≤ 10 ^ (6 * i) := hf
      have h2 : (f + 1) * 1000000 ≤ 10 ^ (6 * i) * 1000000 := Nat.mul_le_mul_right _ this
      have h3 : (10 : Nat) ^ (6 * 1) = 1000000 := by decide
      rw [h3]
      omega
    · have e : (10 : Int) ^ (6 : Int).toNat = 1000000 := by decide
      show [Sl.val .pen, .val (.int (n : Nat)), .val (.int ((f : Int) * (10 : Int) ^ (6 : Int).toNat + (k : Int))), .val (.int 1), .val d] = _
      rw [e]
      simp
  · obtain ⟨i, f, a, hi, hf, rfl⟩ := hI
    exact lp2 _ f a rfl

def sp__law_number : Sp3 := fun ds Q _ => ∃ s : Int, ds = [.pen, .int s] ∧ 0 ≤ s ∧ s ≤ 3 ∧ ∀ r, SmR r → Q (ratD r)

def t__law_number : RS := (rSeq (rIf (rTV (rOp gEq (rVar 1) (rC (.int 0)))) (rRet (rOp gSub (rCall 2 sp__law_draw (rCons (rVar 0) (rCons (rC (.int 7)) rNil))) (rC (.int 3)))) rNext)
    (rSeq (rIf (rTV (rOp gEq (rVar 1) (rC (.int 1)))) (rRet (rCall 2 sp__law_low (rCons (rOp gSub (rCall 2 sp__law_draw (rCons (rVar 0) (rCons (rC (.int 19)) rNil))) (rC (.int 9))) (rCons (rOp gAdd (rC (.int 1)) (rCall 2 sp__law_draw (rCons (rVar 0) (rCons (rC (.int 6)) rNil)))) rNil)))) rNext)
    (rSeq (rIf (rTV (rOp gEq (rVar 1) (rC (.int 2)))) (rRet (rCall 2 sp__law_low (rCons (rOp gSub (rCall 2 sp__law_draw (rCons (rVar 0) (rCons (rC (.int 1999)) rNil))) (rC (.int 999))) (rCons (rOp gAdd (rC (.int 1)) (rCall 2 sp__law_draw (rCons (rVar 0) (rCons (rC (.int 97)) rNil)))) rNil)))) rNext)
    (rRet (rCall 2 sp__law_low (rCons (rOp gMul (rOp gSub (rC (.int 1)) (rOp gMul (rC (.int 2)) (rCall 2 sp__law_draw (rCons (rVar 0) (rCons (rC (.int 2)) rNil))))) (rCall 2 sp__law_wide (rCons (rVar 0) (rCons (rC (.int 40)) rNil)))) (rCons (rOp gAdd (rC (.int 1)) (rCall 2 sp__law_wide (rCons (rVar 0) (rCons (rC (.int 39)) rNil)))) rNil)))))))

theorem smR_div {t b : Int} (h0 : b ≠ 0) (h1 : t.natAbs < 10 ^ 40) (h2 : b.natAbs < 10 ^ 40) : SmR (Rat.divInt t b) := ⟨Nat.lt_of_le_of_lt (divInt_num_le t b) h1, Nat.lt_of_le_of_lt (divInt_den_le h0) h2⟩
theorem p40 : (10 : Nat) ^ 40 < 2 ^ 8000 := by decide +kernel
theorem pl__law_number : ∀ (ds : List D) (Q : D → Prop) (E : XD → Prop), ds.length = 2 → sp__law_number ds Q E → t__law_number { nx := fun _ => Q .non, rt := Q, ex := E } (start3 2 ds) := fun ds Q E hl h => by
  obtain ⟨s, rfl, h0, h3, q⟩ := h
  have low : ∀ t b : Int, b ≠ 0 → t.natAbs < 10 ^ 40 → b.natAbs < 10 ^ 40 → sp__law_low [.int t, .int b] Q E := fun t b hb h1 h2 => ⟨t, b, rfl, hb, Nat.lt_trans h2 p40, q _ (smR_div hb h1 h2)⟩
  conv => whnf
  split
  · refine ⟨rfl, ⟨by decide, by decide⟩, fun k k0 k1 => ?_⟩
    have := q ((k - 3 : Int) : Rat) ⟨by show (k - 3).natAbs < _; omega, by show (1 : Nat) < 10 ^ 40; decide +kernel⟩
    rw [ratD_int] at this
    exact this
  · conv => whnf
    split
    · refine ⟨rfl, ⟨by decide, by decide⟩, fun k k0 k1 => ?_⟩
      refine ⟨rfl, ⟨by decide, by decide⟩, fun l l0 l1 => ?_⟩
      exact ⟨rfl, low (k - 9) (1 + l) (by omega) (by omega) (by omega)⟩
    · conv => whnf
      split
      · refine ⟨rfl, ⟨by decide, by decide⟩, fun k k0 k1 => ?_⟩
        refine ⟨rfl, ⟨by decide, by decide⟩, fun l l0 l1 => ?_⟩
        exact ⟨rfl, low (k - 999) (1 + l) (by omega) (by omega) (by omega)⟩
      · refine ⟨rfl, ⟨by decide, by decide⟩, fun k k0 k1 => ?_⟩
        refine ⟨CMul.ok (.inl (by decide)), rfl, 40, rfl, by decide, fun a ha => ?_⟩
        refine ⟨CMul.ok (.inl (by omega)), rfl, 39, rfl, by decide, fun b hb => ?_⟩
        refine ⟨rfl, low ((1 - 2 * k) * (a : Int)) (1 + (b : Int)) (by omega) ?_ ?_⟩
        · have hk : k = 0 ∨ k = 1 := by omega
          rcases hk with rfl | rfl
          · simpa using ha
          · simpa using ha
        · have : (10 : Nat) ^ 39 + 1 ≤ 10 ^ 40 := by decide +kernel
          omega

def sp__law_row : Sp3 := fun ds Q _ => ∃ m s : Int, ds = [.pen, .int m, .int s] ∧ (0 ≤ m ∧ m ≤ 4096) ∧ (0 ≤ s ∧ s ≤ 3) ∧ ∀ rs : List Rat, rs.length = m.toNat → (∀ r ∈ rs, SmR r) → Q (.tup (rs.map ratD))

def t__law_row : RS := (rRet (rCB gTuple (rCons (rL (rComp (rRange1 (rCons (rVar 1) rNil)) (g3N 3) (rC true) (rIte (rTV (rOp gGt (rCall 2 sp__law_draw (rCons (rVar 0) (rCons (rC (.int 4)) rNil))) (rC (.int 0)))) (rCall 2 sp__law_number (rCons (rVar 0) (rCons (rVar 2) rNil))) (rC (.int 0))) [3])) rNil)))

theorem smR_0 : SmR 0 := ⟨by decide +kernel, by decide +kernel⟩
/-- data that is one of many, each a ratio -/
theorem rats_of {P : Rat → Prop} : ∀ {ys : List D}, (∀ y ∈ ys, ∃ r, P r ∧ y = ratD r) → ∃ rs : List Rat, ys = rs.map ratD ∧ ∀ r ∈ rs, P r
  | [], _ => ⟨[], rfl, by simp⟩
  | y :: ys, h => by
    obtain ⟨rs, rfl, h2⟩ := rats_of (P := P) (ys := ys) fun z hz => h z (by simp [hz])
    obtain ⟨r, hr, rfl⟩ := h y (by simp)
    refine ⟨r :: rs, rfl, fun z hz => ?_⟩
    rcases (List.mem_cons.mp hz) with rfl | hz
    · exact hr
    · exact h2 z hz
theorem pl__law_row : ∀ (ds : List D) (Q : D → Prop) (E : XD → Prop), ds.length = 3 → sp__law_row ds Q E → t__law_row { nx := fun _ => Q .non, rt := Q, ex := E } (start3 4 ds) := fun ds Q E hl h => by
  obtain ⟨m, s, rfl, ⟨m0, m1⟩, ⟨s0, s1⟩, q⟩ := h
  refine ⟨⟨by omega, by omega⟩, by rw [rangeD_len]; exact le_size (by omega), ?_⟩
  refine comp_dem (P := fun y => ∃ r, SmR r ∧ y = ratD r) _ [] (fun d hd K k => ?_) (fun ys hy hP => ?_)
  · refine ⟨rfl, ⟨by decide, by decide⟩, fun k1 k10 k11 => ?_⟩
    conv => whnf
    split
    · exact ⟨rfl, s, rfl, s0, s1, fun r hr => k _ ⟨r, hr, rfl⟩⟩
    · exact k _ ⟨0, smR_0, (ratD_int 0).symm⟩
  · rw [rangeD_len] at hy
    obtain ⟨rs, rfl, hr⟩ := rats_of hP
    rw [List.nil_append]
    exact q rs (by simpa using hy) hr

def sp__law_counts : Sp3 := fun ds Q _ => ∃ p m : Nat, ds = [.pen, .int (p : Nat), .int (m : Nat)] ∧ p ≤ 4096 ∧ 1 ≤ m ∧ m ≤ 65536 ∧ ∀ ns : List Nat, ns.length = p → (∀ n ∈ ns, 1 ≤ n ∧ n ≤ 4) → Q (.tup (ns.map fun n => .int (n : Nat)))

def t__law_counts : RS := (rSeq (rParLE 3 4 (rLst rNil) (rVar 2))
    (rSeq (rFor (rRange1 (rCons (rVar 1) rNil)) (g3N 5) (rSeq (rSet 6 (rCB gMin2 (rCons (rCall 2 sp__law_pick (rCons (rVar 0) (rCons (rL (rLst (rCons (rC (.int 1)) (rCons (rC (.int 2)) (rCons (rC (.int 2)) (rCons (rC (.int 2)) (rCons (rC (.int 3)) (rCons (rC (.int 4)) rNil)))))))) rNil))) (rCons (rVar 4) rNil))))
    (rSeq (rApp 3 (rVar 6))
    (rSet 4 (rOp gDiv (rVar 4) (rVar 6))))))
    (rFrz 3 (rRet (rCB gTuple (rCons (rCall 2 sp__law_shuffled (rCons (rVar 0) (rCons (rVar 3) rNil))) rNil))))))

theorem nats_of {P : Nat → Prop} : ∀ {ys : List D}, (∀ y ∈ ys, ∃ n : Nat, P n ∧ y = .int (n : Nat)) → ∃ ns : List Nat, ys = (ns.map fun n => D.int (n : Nat)) ∧ ∀ n ∈ ns, P n
  | [], _ => ⟨[], rfl, by simp⟩
  | y :: ys, h => by
    obtain ⟨rs, rfl, h2⟩ := nats_of (P := P) (ys := ys) fun z hz => h z (by simp [hz])
    obtain ⟨r, hr, rfl⟩ := h y (by simp)
    refine ⟨r :: rs, rfl, fun z hz => ?_⟩
    rcases (List.mem_cons.mp hz) with rfl | hz
    · exact hr
    · exact h2 z hz
theorem pl__law_counts : ∀ (ds : List D) (Q : D → Prop) (E : XD → Prop), ds.length = 3 → sp__law_counts ds Q E → t__law_counts { nx := fun _ => Q .non, rt := Q, ex := E } (start3 7 ds) := fun ds Q E hl h => by
  obtain ⟨p, m, rfl, hp, hm, hm2, q⟩ := h
  refine ⟨⟨by show 3 < 7; decide, by show 4 < 7; decide⟩, by show 0 ≤ sizeLine; exact Nat.zero_le _, ⟨by omega, by omega⟩, ?_⟩
  have e0 : ((p : Nat) : Int).toNat = p := by omega
  show forL _ _ _ (rangeD 0 ((p : Nat) : Int).toNat) _
  rw [e0]
  refine for_inv (fun l ρ => ∃ (found : List Nat) (left : Nat) (a b : Sl), found.length + l.length = p ∧ (∀ n ∈ found, 1 ≤ n ∧ n ≤ 4) ∧ 1 ≤ left ∧ left ≤ 65536 ∧ ρ = [.val .pen, .val (.int (p : Nat)), .val (.int (m : Nat)), .own (found.map fun n => .int (n : Nat)), .val (.int (left : Nat)), a, b]) (fun d l ρ K hI hK => ?_) (fun ρ hI => ?_) _ _ ⟨[], m, .emp, .emp, by rw [rangeD_len, List.length_nil, Nat.zero_add], by simp, hm, hm2, rfl⟩
  · obtain ⟨found, left, a, b, hc, hf, h1, h2, rfl⟩ := hI
    simp only [List.length_cons] at hc
    refine ⟨sz 6, rfl, _, [.int 1, .int 2, .int 2, .int 2, .int 3, .int 4], rfl, .inr rfl, by decide, by decide, fun x hx => ?_⟩
    obtain ⟨n, rfl, n1, n4⟩ : ∃ n : Nat, x = .int (n : Nat) ∧ 1 ≤ n ∧ n ≤ 4 := by
      simp only [List.mem_cons, List.mem_nil_iff, or_false] at hx
      rcases hx with rfl | rfl | rfl | rfl | rfl | rfl
      · exact ⟨1, rfl, by decide, by decide⟩
      · exact ⟨2, rfl, by decide, by decide⟩
      · exact ⟨2, rfl, by decide, by decide⟩
      · exact ⟨2, rfl, by decide, by decide⟩
      · exact ⟨3, rfl, by decide, by decide⟩
      · exact ⟨4, rfl, by decide, by decide⟩
    obtain ⟨k, hk, k1, k4, kl⟩ : ∃ k : Nat, (if ((left : Nat) : Int) < ((n : Nat) : Int) then ((left : Nat) : Int) else ((n : Nat) : Int)) = (k : Nat) ∧ 1 ≤ k ∧ k ≤ 4 ∧ k ≤ left := by
      by_cases hlt : left < n
      · exact ⟨left, by rw [if_pos (by omega)], h1, by omega, Nat.le_refl _⟩
      · exact ⟨n, by rw [if_neg (by omega)], n1, n4, by omega⟩
    have e2 : Int.fdiv ((left : Nat) : Int) ((k : Nat) : Int) = ((left / k : Nat) : Int) := by
      rw [Int.fdiv_eq_ediv_of_nonneg _ (by omega)]
      rfl
    have dv : DivOk ((left : Nat) : Int) (if ((left : Nat) : Int) < ((n : Nat) : Int) then ((left : Nat) : Int) else ((n : Nat) : Int)) := by
      rw [hk]
      exact ⟨by omega, Nat.lt_of_lt_of_le (log2_lt_of (n := ((k : Nat) : Int).natAbs) (k := 8) (by omega) (by decide)) (by decide)⟩
    refine ⟨by rw [List.length_map]; exact Nat.lt_of_lt_of_le (by omega : found.length < 65536) (by decide), dv, ?_⟩
    refine hK _ ⟨found ++ [k], left / k, .val d, .val (.int (k : Nat)), by rw [List.length_append, List.length_singleton]; omega, fun n hn => ?_, Nat.div_pos kl (by omega), Nat.le_trans (Nat.div_le_self _ _) h2, ?_⟩
    · rcases List.mem_append.mp hn with hn | hn
      · exact hf n hn
      · rw [List.mem_singleton.mp hn]
        exact ⟨k1, k4⟩
    · show [Sl.val .pen, .val (.int (p : Nat)), .val (.int (m : Nat)), .own ((found.map fun n => D.int (n : Nat)) ++ [.int (if ((left : Nat) : Int) < ((n : Nat) : Int) then ((left : Nat) : Int) else ((n : Nat) : Int))]), .val (.int (Int.fdiv ((left : Nat) : Int) (if ((left : Nat) : Int) < ((n : Nat) : Int) then ((left : Nat) : Int) else ((n : Nat) : Int)))), .val d, .val (.int (if ((left : Nat) : Int) < ((n : Nat) : Int) then ((left : Nat) : Int) else ((n : Nat) : Int)))] = _
      rw [hk, e2, List.map_append]
      rfl
  · obtain ⟨found, left, a, b, hc, hf, h1, h2, rfl⟩ := hI
    refine ⟨rfl, _, rfl, by rw [List.length_map]; simp only [List.length_nil] at hc; omega, fun ys hy hm => ?_⟩
    obtain ⟨ns, rfl, hn⟩ := nats_of (P := fun n => 1 ≤ n ∧ n ≤ 4) (ys := ys) fun y hy => by
      obtain ⟨n, h, rfl⟩ := List.mem_map.mp (hm y hy)
      exact ⟨n, hf n h, rfl⟩
    refine q ns ?_ hn
    rw [List.length_map, List.length_map] at hy
    simp only [List.length_nil] at hc
    omega

def sp__law_any_frame : Sp3 := fun ds Q _ => ∃ (ns : List Nat) (s : Int), ds = [.pen, .tup (ns.map fun n => .int (n : Nat)), .int s] ∧ (1 ≤ ns.length ∧ ns.length ≤ 12) ∧ (∀ n ∈ ns, 1 ≤ n ∧ n ≤ 12) ∧ (0 ≤ s ∧ s ≤ 3) ∧ ∀ R, FrOk R → R.length = ns.length → Q (rowsQ R)

def t__law_any_frame : RS := (rSeq (rSet 3 (rCB gLen (rCons (rVar 1) rNil)))
    (rRet (rCB gTuple (rCons (rL (rComp (rIt (rVar 1)) (g3N 4) (rC true) (rCB gTuple (rCons (rL (rComp (rRange1 (rCons (rVar 4) rNil)) (g3N 5) (rC true) (rCall 3 sp__law_row (rCons (rVar 0) (rCons (rVar 3) (rCons (rVar 2) rNil)))) [5])) rNil)) [4])) rNil))))

theorem rowsq_of {n : Nat} : ∀ {ys : List D}, (∀ y ∈ ys, ∃ r : List Rat, (r.length = n ∧ ∀ x ∈ r, SmR x) ∧ y = rowQ r) → ∃ b : List (List Rat), ys = b.map rowQ ∧ ∀ r ∈ b, r.length = n ∧ ∀ x ∈ r, SmR x
  | [], _ => ⟨[], rfl, by simp⟩
  | y :: ys, h => by
    obtain ⟨rs, rfl, h2⟩ := rowsq_of (ys := ys) fun z hz => h z (by simp [hz])
    obtain ⟨r, hr, rfl⟩ := h y (by simp)
    refine ⟨r :: rs, rfl, fun z hz => ?_⟩
    rcases (List.mem_cons.mp hz) with rfl | hz
    · exact hr
    · exact h2 z hz
theorem bunsq_of {P : List (List Rat) → Prop} : ∀ {ys : List D}, (∀ y ∈ ys, ∃ b, P b ∧ y = bunQ b) → ∃ R : List (List (List Rat)), ys = R.map bunQ ∧ ∀ b ∈ R, P b
  | [], _ => ⟨[], rfl, by simp⟩
  | y :: ys, h => by
    obtain ⟨rs, rfl, h2⟩ := bunsq_of (P := P) (ys := ys) fun z hz => h z (by simp [hz])
    obtain ⟨r, hr, rfl⟩ := h y (by simp)
    refine ⟨r :: rs, rfl, fun z hz => ?_⟩
    rcases (List.mem_cons.mp hz) with rfl | hz
    · exact hr
    · exact h2 z hz
theorem pl__law_any_frame : ∀ (ds : List D) (Q : D → Prop) (E : XD → Prop), ds.length = 3 → sp__law_any_frame ds Q E → t__law_any_frame { nx := fun _ => Q .non, rt := Q, ex := E } (start3 6 ds) := fun ds Q E hl h => by
  obtain ⟨ns, s, rfl, ⟨h1, h12⟩, hn, ⟨s0, s3⟩, q⟩ := h
  have hml : ((ns.map fun n => D.int (n : Nat)).length : Nat) = ns.length := List.length_map ..
  refine ⟨by show (ns.map fun n => D.int (n : Nat)).length ≤ sizeLine; rw [hml]; exact le_size (by omega), comp_dem (P := fun y => ∃ b : List (List Rat), (1 ≤ b.length ∧ b.length ≤ 12 ∧ ∀ r ∈ b, r.length = ns.length ∧ ∀ x ∈ r, SmR x) ∧ y = bunQ b) _ [] (fun d hd K k => ?_) (fun ys hy hP => ?_)⟩
  · obtain ⟨n, hmem, rfl⟩ := List.mem_map.mp hd
    obtain ⟨n1, n12⟩ := hn n hmem
    refine ⟨⟨by omega, by omega⟩, ?_⟩
    have e0 : ((n : Nat) : Int).toNat = n := by omega
    show (rangeD 0 ((n : Nat) : Int).toNat).length ≤ _ ∧ compL _ _ _ _ _ _ (rangeD 0 ((n : Nat) : Int).toNat) _
    rw [e0]
    refine ⟨by rw [rangeD_len]; exact le_size (by omega), comp_dem (P := fun y => ∃ r : List Rat, (r.length = ns.length ∧ ∀ x ∈ r, SmR x) ∧ y = rowQ r) _ [] (fun z hz K' k' => ?_) (fun zs hz hP => ?_)⟩
    · refine ⟨rfl, _, s, rfl, ⟨by rw [hml]; omega, by rw [hml]; omega⟩, ⟨s0, s3⟩, fun rs hrl hr => k' _ ⟨rs, ⟨?_, hr⟩, rfl⟩⟩
      rw [hrl, hml]
      omega
    · rw [rangeD_len] at hz
      obtain ⟨b, rfl, hb⟩ := rowsq_of hP
      rw [List.length_map] at hz
      rw [List.nil_append]
      exact k _ ⟨b, ⟨by omega, by omega, hb⟩, rfl⟩
  · obtain ⟨R, rfl, hR⟩ := bunsq_of hP
    rw [List.length_map, hml] at hy
    rw [List.nil_append]
    exact q R ⟨by omega, by omega, fun b hb => ⟨(hR b hb).1, (hR b hb).2.1, fun r hr => ⟨by rw [((hR b hb).2.2 r hr).1, hy], ((hR b hb).2.2 r hr).2⟩⟩⟩ hy

def sp__law_slacks : Sp3 := fun ds Q _ => ∃ R L ss, ds = [rowsQ R, .tup (L.map rowQ), rowQ ss] ∧ FrOk R ∧ LdOk R L ∧ StOk R ss ∧ Q (.tup ((slQ R L ss).map rowQ))

def t__law_slacks : RS := (rSeq (rSetL 3 (rLst rNil))
    (rSeq (rFor (rZip2 (rCons (rVar 0) (rCons (rVar 1) rNil))) (g3Tup 2 (g3Cons (g3N 4) (g3Cons (g3N 5) g3Nil))) (rApp 3 (rCB gTuple (rCons (rL (rComp (rZip2 (rCons (rVar 4) (rCons (rVar 5) rNil))) (g3Tup 2 (g3Cons (g3N 6) (g3Cons (g3N 7) g3Nil))) (rC true) (rCall 2 sp__law_plus (rCons (rCall 2 sp__law_dot (rCons (rVar 6) (rCons (rVar 2) rNil))) (rCons (rVar 7) rNil))) [6, 7])) rNil))))
    (rFrz 3 (rRet (rCB gTuple (rCons (rVar 3) rNil))))))

theorem lsum12 {rs ss : List Rat} (hl : rs.length = ss.length) (h : rs.length ≤ 12) (hr : ∀ r ∈ rs, SmR r) (hs : ∀ s ∈ ss, SmR s) {Q : D → Prop} {E : XD → Prop} (q : Q (ratD (dotR rs ss))) : sp__law_dot [rowQ rs, rowQ ss] Q E := ⟨_, _, rs, ss, 140, rfl, .inl rfl, .inl rfl, hl, by omega, by omega, by decide, fun r h => (hr r h).sz, fun s h => (hs s h).sz, q⟩
theorem pl__law_slacks : ∀ (ds : List D) (Q : D → Prop) (E : XD → Prop), ds.length = 3 → sp__law_slacks ds Q E → t__law_slacks { nx := fun _ => Q .non, rt := Q, ex := E } (start3 8 ds) := fun ds Q E hl h => by
  obtain ⟨R, L, ss, rfl, fo, ld, st, q⟩ := h
  refine ⟨by show 3 < 8; decide, by show 0 ≤ sizeLine; exact Nat.zero_le _, ?_⟩
  show forL _ _ _ (zipD (R.map bunQ) (L.map rowQ)) _
  rw [zipD_map]
  have hz : (R.zip L).length ≤ 12 := by rw [List.length_zip]; have := fo.h12; omega
  refine for_invG (fun l ρ => ∃ (done rest : List (List (List Rat) × List Rat)) (a b c e : Sl), done ++ rest = R.zip L ∧ l = rest.map (fun p => .tup [bunQ p.1, rowQ p.2]) ∧ ρ = [.val (rowsQ R), .val (.tup (L.map rowQ)), .val (rowQ ss), .own (done.map fun p => rowQ (slP ss p)), a, b, c, e]) (fun x l ρ K hI hK => ?_) (fun ρ hI => ?_) _ _ ⟨[], R.zip L, .emp, .emp, .emp, .emp, rfl, rfl, rfl⟩
  · obtain ⟨done, rest, a, b, c, e, hd, el, rfl⟩ := hI
    cases rest with
    | nil => cases el
    | cons p rest =>
      cases el
      have hp : p ∈ R.zip L := by rw [← hd]; simp
      obtain ⟨p1, p2, p3⟩ := at_pair fo ld st hp
      refine ⟨rfl, ?_⟩
      show (zipD (p.1.map rowQ) (p.2.map ratD)).length ≤ _ ∧ compL _ _ _ _ _ _ (zipD (p.1.map rowQ) (p.2.map ratD)) _
      refine ⟨by rw [zipD_length, List.length_map, List.length_map, ← List.length_zip]; exact le_size (by omega), compZ2 (f := fun r x => ratD (dotR r ss + x)) p.1 p.2 (fun r x hrx K' kk => ?_) ?_⟩
      · obtain ⟨c1, c2, c3, c4⟩ := p3 r x hrx
        exact ⟨rfl, lsum12 c1 c2 c3 st.2 ⟨rfl, _, _, rfl, (dot12 c2 c3 st.2).mono (by decide), c4.mono (by decide), kk⟩⟩
      · have hlen := congrArg List.length hd
        simp only [List.length_append, List.length_cons] at hlen
        refine ⟨by show (done.map fun p => rowQ (slP ss p)).length < sizeLine; rw [List.length_map]; exact Nat.lt_of_lt_of_le (by omega : done.length < 13) (by decide), hK _ ⟨done ++ [p], rest, .val (bunQ p.1), .val (rowQ p.2), c, e, by simp [hd], rfl, ?_⟩⟩
        rw [List.map_append]
        have e1 : D.tup ((p.1.zip p.2).map fun p => ratD (dotR p.1 ss + p.2)) = rowQ (slP ss p) := by
          unfold rowQ slP
          rw [List.map_map]
          rfl
        rw [e1]
        rfl
  · obtain ⟨done, rest, a, b, c, e, hd, el, rfl⟩ := hI
    cases rest with
    | cons x y => cases el
    | nil =>
      rw [List.append_nil] at hd
      subst hd
      have e1 : ((R.zip L).map fun p => rowQ (slP ss p)) = (slQ R L ss).map rowQ := by
        unfold slQ
        rw [List.map_map]
        rfl
      show Q (.tup ((R.zip L).map fun p => rowQ (slP ss p)))
      rw [e1]
      exact q

def sp__law_answers : Sp3 := fun ds Q _ => ∃ R L ss, ds = [rowsQ R, .tup (L.map rowQ), rowQ ss] ∧ FrOk R ∧ LdOk R L ∧ StOk R ss ∧ Q (.bl (ansQ (slQ R L ss)))

def t__law_answers : RS := (rSeq (rFor (rIt (rCall 3 sp__law_slacks (rCons (rVar 0) (rCons (rVar 1) (rCons (rVar 2) rNil))))) (g3N 3) (rSeq (rSetL 4 (rComp (rIt (rVar 3)) (g3N 5) (rC true) (rCall 1 sp__law_sign (rCons (rVar 5) rNil)) [5]))
    (rFrz 4 (rIf (rTV (rOp gNe (rCB gMinL (rCons (rVar 4) rNil)) (rC (.int 0)))) (rRet (rC (.bl false))) rNext))))
    (rRet (rC (.bl true))))

theorem min_ok {t : List Rat} (h : 1 ≤ t.length) {m : Int} (hm : m ∈ t.map fun x => x.num.sign) (hle : ∀ y ∈ t.map (fun x => x.num.sign), m ≤ y) : decide (m = 0) = okT t := by
  unfold okT
  have h1 := sg_neg t
  have h2 := sg_zero t
  by_cases e : m = 0
  · subst e
    have n1 : decide ((-1 : Int) ∈ t.map fun x => x.num.sign) = false := decide_eq_false fun z => by have := hle _ z; omega
    rw [n1] at h1
    rw [decide_eq_true hm] at h2
    rw [← h2, nbF h1.symm]
    rfl
  · rw [decide_eq_false e]
    by_cases n1 : (-1 : Int) ∈ t.map fun x => x.num.sign
    · rw [decide_eq_true n1] at h1
      rw [nbT h1.symm]
      rfl
    · have n2 : (0 : Int) ∉ t.map fun x => x.num.sign := fun z => by
        have a1 := hle _ z
        obtain ⟨x, hx, ex⟩ := List.mem_map.mp hm
        have : m = -1 := by
          have := Int.sign_trichotomy x.num
          omega
        exact n1 (this ▸ hm)
      rw [decide_eq_false n2] at h2
      rw [← h2, Bool.and_false]
theorem gMin_of {js : List Int} {Q : D → Prop} (h : 0 < js.length) (q : ∀ m ∈ js, (∀ y ∈ js, m ≤ y) → Q (.int m)) : gMinL [.lst (js.map D.int)] Q := by
  show (match intsOf (js.map D.int) with | some js => _ | none => False)
  rw [intsOf_map]
  exact ⟨h, q⟩
theorem pl__law_answers : ∀ (ds : List D) (Q : D → Prop) (E : XD → Prop), ds.length = 3 → sp__law_answers ds Q E → t__law_answers { nx := fun _ => Q .non, rt := Q, ex := E } (start3 6 ds) := fun ds Q E hl h => by
  obtain ⟨R, L, ss, rfl, fo, ld, st, q⟩ := h
  refine ⟨rfl, R, L, ss, rfl, fo, ld, st, ?_⟩
  obtain ⟨s1, s2⟩ := sl_len fo ld st
  show forL _ _ _ ((slQ R L ss).map rowQ) _
  refine for_inv (fun l ρ => ∃ (rest : List (List Rat)) (a b c : Sl), (∀ t ∈ rest, t ∈ slQ R L ss) ∧ ansQ (slQ R L ss) = ansQ rest ∧ l = rest.map rowQ ∧ ρ = [.val (rowsQ R), .val (.tup (L.map rowQ)), .val (rowQ ss), a, b, c]) (fun x l ρ K hI hK => ?_) (fun ρ hI => ?_) _ _ ⟨slQ R L ss, .emp, .emp, .emp, fun _ h => h, rfl, rfl, rfl⟩
  · obtain ⟨rest, a, b, c, hd, ha, el, rfl⟩ := hI
    cases rest with
    | nil => cases el
    | cons t rest =>
      cases el
      obtain ⟨t12, t1⟩ := s2 t (hd t (by simp))
      rw [ans_cons] at ha
      refine ⟨by show 4 < 6; decide, by show (t.map ratD).length ≤ sizeLine; rw [List.length_map]; exact le_size (by omega), compM (f := fun x => .int x.num.sign) t (fun x hx K' kk => ⟨rfl, x, rfl, kk⟩) ?_⟩
      have e1 : (t.map fun x => D.int x.num.sign) = (t.map fun x => x.num.sign).map D.int := by rw [List.map_map]; rfl
      rw [e1]
      show (match intsOf ((t.map fun x => x.num.sign).map D.int) with | some js => _ | none => False)
      rw [intsOf_map]
      refine ⟨by rw [List.length_map]; omega, fun m hm hle => ?_⟩
      have hok := min_ok t1 hm hle
      conv => whnf
      split
      · rename_i e2
        have e2 : (!decide (m = 0)) = true := e2
        have e2 := nbT e2
        rw [e2] at hok
        rw [ha, ← hok, Bool.false_and] at q
        exact q
      · rename_i e2
        have e2 : (!decide (m = 0)) = false := e2
        have e2 := nbF e2
        rw [e2] at hok
        refine hK _ ⟨rest, _, _, _, fun t h => hd t (by simp [h]), ?_, rfl, rfl⟩
        rw [ha, ← hok, Bool.true_and]
  · obtain ⟨rest, a, b, c, hd, ha, el, rfl⟩ := hI
    cases rest with
    | cons x y => cases el
    | nil =>
      rw [ha] at q
      exact q

/-- drawn slacks from 0 on, one of each place 0 -/
def MOk (R : List (List (List Rat))) (M : List (List Rat)) : Prop := M.map List.length = R.map List.length ∧ ∀ t ∈ M, (∀ m ∈ t, 0 ≤ m.num ∧ SmR m) ∧ ∃ m ∈ t, m = 0
def ldP (ss : List Rat) (p : List (List Rat) × List Rat) : List Rat := (p.1.zip p.2).map fun q => q.2 - dotR q.1 ss
def ldQ (R : List (List (List Rat))) (M : List (List Rat)) (ss : List Rat) : List (List Rat) := (R.zip M).map (ldP ss)
def sp__law_load_at : Sp3 := fun ds Q _ => ∃ R ss, ∃ s : Int, ds = [.pen, rowsQ R, rowQ ss, .int s] ∧ FrOk R ∧ R.length ≤ 5 ∧ StOk R ss ∧ (0 ≤ s ∧ s ≤ 3) ∧ ∀ M, MOk R M → Q (.tup ((ldQ R M ss).map rowQ))

def t__law_load_at : RS := (rSeq (rSetL 4 (rLst rNil))
    (rSeq (rFor (rIt (rVar 1)) (g3N 5) (rSeq (rParEL 6 7 (rCall 2 sp__law_draw (rCons (rVar 0) (rCons (rCB gLen (rCons (rVar 5) rNil)) rNil))) (rLst rNil))
    (rSeq (rFor (rRange1 (rCons (rCB gLen (rCons (rVar 5) rNil)) rNil)) (g3N 8) (rSeq (rSet 9 (rIte (rAnd (rTV (rOp gNe (rVar 8) (rVar 6))) (rTV (rOp gGt (rCall 2 sp__law_draw (rCons (rVar 0) (rCons (rC (.int 4)) rNil))) (rC (.int 0))))) (rCall 2 sp__law_number (rCons (rVar 0) (rCons (rVar 3) rNil))) (rC (.int 0))))
    (rSeq (rSet 9 (rIte (rTV (rOp gGt (rCall 1 sp__law_sign (rCons (rVar 9) rNil)) (rC (.int 0)))) (rVar 9) (rCall 1 sp__law_opposite (rCons (rVar 9) rNil))))
    (rApp 7 (rCall 2 sp__law_minus (rCons (rVar 9) (rCons (rCall 2 sp__law_dot (rCons (rOp gIx (rVar 5) (rVar 8)) (rCons (rVar 2) rNil))) rNil)))))))
    (rFrz 7 (rApp 4 (rCB gTuple (rCons (rVar 7) rNil)))))))
    (rFrz 4 (rRet (rCB gTuple (rCons (rVar 4) rNil))))))

theorem zip_snoc {α β : Type} : ∀ (as : List α) (bs : List β) (a : α) (b : β), as[bs.length]? = some a → as.zip (bs ++ [b]) = as.zip bs ++ [(a, b)]
  | [], [], a, b, h => by simp at h
  | x :: as, [], a, b, h => by
    simp at h
    subst h
    simp
  | [], y :: bs, a, b, h => by simp at h
  | x :: as, y :: bs, a, b, h => by
    have h2 : as[bs.length]? = some a := by simpa using h
    have := zip_snoc as bs a b h2
    simp [this]
theorem MOk.nil : MOk [] [] := ⟨rfl, by simp⟩
theorem pl__law_load_at : ∀ (ds : List D) (Q : D → Prop) (E : XD → Prop), ds.length = 4 → sp__law_load_at ds Q E → t__law_load_at { nx := fun _ => Q .non, rt := Q, ex := E } (start3 10 ds) := fun ds Q E hl h => by
  obtain ⟨R, ss, s, rfl, fo, h5, st, ⟨s0, s3⟩, q⟩ := h
  refine ⟨by show 4 < 10; decide, by show 0 ≤ sizeLine; exact Nat.zero_le _, ?_⟩
  show forL _ _ _ (R.map bunQ) _
  refine for_inv (fun l ρ => ∃ (dR rest : List (List (List Rat))) (dM : List (List Rat)) (a b c e f : Sl), dR ++ rest = R ∧ MOk dR dM ∧ l = rest.map bunQ ∧ ρ = [.val .pen, .val (rowsQ R), .val (rowQ ss), .val (.int s), .own ((ldQ dR dM ss).map rowQ), a, b, c, e, f]) (fun x l ρ K hI hK => ?_) (fun ρ hI => ?_) _ _ ⟨[], R, [], .emp, .emp, .emp, .emp, .emp, rfl, MOk.nil, rfl, rfl⟩
  · obtain ⟨dR, rest, dM, a, b, c, e, f, hd, mo, el, rfl⟩ := hI
    cases rest with
    | nil => cases el
    | cons bn rest =>
      cases el
      obtain ⟨b1, b12, b3⟩ := fo.hb bn (by rw [← hd]; simp)
      have hbl : ((bn.map rowQ).length : Nat) = bn.length := List.length_map ..
      refine ⟨⟨by show 6 < 10; decide, by show 7 < 10; decide⟩, rfl, ⟨by show 0 < (((bn.map rowQ).length : Nat) : Int); omega, by show (((bn.map rowQ).length : Nat) : Int) < _; omega⟩, fun j j0 j1 => ?_⟩
      have j1 : j < (((bn.map rowQ).length : Nat) : Int) := j1
      obtain ⟨j, rfl⟩ := Int.eq_ofNat_of_zero_le j0
      have j1 : j < bn.length := by omega
      refine ⟨by show 0 ≤ sizeLine; exact Nat.zero_le _, ⟨by show -(2 ^ 62) ≤ (((bn.map rowQ).length : Nat) : Int); omega, by show (((bn.map rowQ).length : Nat) : Int) < 2 ^ 62; omega⟩, ?_⟩
      have e0 : (((bn.map rowQ).length : Nat) : Int).toNat = bn.length := by omega
      show forL _ _ _ (rangeD 0 (((bn.map rowQ).length : Nat) : Int).toNat) _
      rw [e0]
      have hdl := congrArg List.length hd
      simp only [List.length_append, List.length_cons] at hdl
      have mlen : dM.length = dR.length := by simpa using congrArg List.length mo.1
      refine for_inv (fun l2 ρ2 => ∃ (ms : List Rat) (e f : Sl), l2 = (rangeD 0 bn.length).drop ms.length ∧ ms.length ≤ bn.length ∧ (∀ m ∈ ms, 0 ≤ m.num ∧ SmR m) ∧ (j < ms.length → ∃ m ∈ ms, m = 0) ∧ ρ2 = [.val .pen, .val (rowsQ R), .val (rowQ ss), .val (.int s), .own ((ldQ dR dM ss).map rowQ), .val (bunQ bn), .val (.int (j : Nat)), .own ((ldP ss (bn, ms)).map ratD), e, f]) (fun d l2 ρ2 K2 hI2 hK2 => ?_) (fun ρ2 hI2 => ?_) _ _ ⟨[], e, f, rfl, Nat.zero_le _, by simp, fun z => absurd z (Nat.not_lt_zero _), ?_⟩
      · obtain ⟨ms, e, f, el, hml, hms, hz, rfl⟩ := hI2
        have hk : ms.length < bn.length := by
          by_cases hk : ms.length < bn.length
          · exact hk
          · rw [List.drop_eq_nil_of_le (by rw [rangeD_len]; omega)] at el
            cases el
        rw [rd_get hk] at el
        cases el
        obtain ⟨r, gr, mr⟩ := get_lt hk
        obtain ⟨r1, r2⟩ := b3 r mr
        have r12 : r.length ≤ 5 := by omega
        have dsz : Sz 1500 (dotR r ss) := (dot_sz (β := 140) r ss (fun x h => (r2 x h).sz) fun x h => (st.2 x h).sz).mono (by omega)
        -- the last step: number m is taken
        have last : ∀ m : Rat, 0 ≤ m.num → SmR m → (ms.length = j → m = 0) → ∀ N : En3, N.nx = K2 → rApp 7 (rCall 2 sp__law_minus (rCons (rVar 9) (rCons (rCall 2 sp__law_dot (rCons (rOp gIx (rVar 5) (rVar 8)) (rCons (rVar 2) rNil))) rNil))) N [.val .pen, .val (rowsQ R), .val (rowQ ss), .val (.int s), .own ((ldQ dR dM ss).map rowQ), .val (bunQ bn), .val (.int (j : Nat)), .own ((ldP ss (bn, ms)).map ratD), .val (.int (ms.length : Nat)), .val (ratD m)] := by
          intro m m0 hm hj N en
          show (match atI (bn.map rowQ) ((ms.length : Nat) : Int) with | some d => _ | none => False)
          rw [atJ_nat (map_get gr)]
          refine ⟨rfl, lsum12 (by rw [r1, st.1]) (by omega) r2 st.2 ⟨rfl, m, dotR r ss, rfl, sm_sz hm, dsz.mono (by decide), ?_⟩⟩
          have hpl : (ldP ss (bn, ms)).length = ms.length := by
            show ((bn.zip ms).map _).length = _
            rw [List.length_map, List.length_zip]
            omega
          refine ⟨by rw [List.length_map, hpl]; exact Nat.lt_of_lt_of_le (by omega : ms.length < 13) (by decide), ?_⟩
          rw [en]
          refine hK2 _ ⟨ms ++ [m], .val (.int (ms.length : Nat)), .val (ratD m), by rw [List.length_append, List.length_singleton], by rw [List.length_append, List.length_singleton]; omega, fun x hx => ?_, fun hjl => ?_, ?_⟩
          · rcases List.mem_append.mp hx with hx |  hx
            · exact hms x hx
            · rw [List.mem_singleton.mp hx]
              exact ⟨m0, hm⟩
          · by_cases hj2 : j < ms.length
            · obtain ⟨y, hy, ey⟩ := hz hj2
              exact ⟨y, List.mem_append_left _ hy, ey⟩
            · have hjl2 : j < ms.length + 1 := by simpa using hjl
              exact ⟨m, by simp, hj (by omega)⟩
          · have e1 : ldP ss (bn, ms ++ [m]) = ldP ss (bn, ms) ++ [m - dotR r ss] := by
              show (bn.zip (ms ++ [m])).map _ = (bn.zip ms).map _ ++ [_]
              rw [zip_snoc bn ms r m gr, List.map_append]
              rfl
            rw [e1, List.map_append]
            rfl
        have mid : ∀ m : Rat, SmR m → (ms.length = j → m = 0) → ∀ N : En3, N.nx = K2 → (rSeq (rSet 9 (rIte (rTV (rOp gGt (rCall 1 sp__law_sign (rCons (rVar 9) rNil)) (rC (.int 0)))) (rVar 9) (rCall 1 sp__law_opposite (rCons (rVar 9) rNil))))
    (rApp 7 (rCall 2 sp__law_minus (rCons (rVar 9) (rCons (rCall 2 sp__law_dot (rCons (rOp gIx (rVar 5) (rVar 8)) (rCons (rVar 2) rNil))) rNil))))) N [.val .pen, .val (rowsQ R), .val (rowQ ss), .val (.int s), .own ((ldQ dR dM ss).map rowQ), .val (bunQ bn), .val (.int (j : Nat)), .own ((ldP ss (bn, ms)).map ratD), .val (.int (ms.length : Nat)), .val (ratD m)] := by
          intro m hm hj N en
          refine ⟨rfl, m, rfl, ?_⟩
          conv => whnf
          split
          · rename_i e2
            have e2 : decide (0 < m.num.sign) = true := e2
            have e2 := of_decide_eq_true e2
            exact last m (Int.le_of_lt (Int.sign_pos_iff.mp e2)) hm hj N en
          · rename_i e2
            have e2 : decide (0 < m.num.sign) = false := e2
            have e2 := of_decide_eq_false e2
            refine ⟨rfl, m, rfl, ?_⟩
            refine last (-m) ?_ hm.neg (fun z => by rw [hj z]; rfl) N en
            rw [rneg_num]
            have : ¬ 0 < m.num := fun z => e2 (Int.sign_pos_iff.mpr z)
            omega
        have zero : ∀ N : En3, N.nx = K2 → (rSeq (rSet 9 (rIte (rTV (rOp gGt (rCall 1 sp__law_sign (rCons (rVar 9) rNil)) (rC (.int 0)))) (rVar 9) (rCall 1 sp__law_opposite (rCons (rVar 9) rNil))))
    (rApp 7 (rCall 2 sp__law_minus (rCons (rVar 9) (rCons (rCall 2 sp__law_dot (rCons (rOp gIx (rVar 5) (rVar 8)) (rCons (rVar 2) rNil))) rNil))))) N [.val .pen, .val (rowsQ R), .val (rowQ ss), .val (.int s), .own ((ldQ dR dM ss).map rowQ), .val (bunQ bn), .val (.int (j : Nat)), .own ((ldP ss (bn, ms)).map ratD), .val (.int (ms.length : Nat)), .val (.int 0)] := fun N en => by
          have := mid 0 smR_0 (fun _ => rfl) N en
          have e0 : ratD 0 = .int 0 := ratD_int 0
          rw [e0] at this
          exact this
        conv => whnf
        split
        · rename_i e2
          have e2 : (!decide (((ms.length : Nat) : Int) = ((j : Nat) : Int))) = true := e2
          have e2 := nbN e2
          refine ⟨rfl, ⟨by decide, by decide⟩, fun k k0 k1 => ?_⟩
          conv => whnf
          split
          · exact ⟨rfl, s, rfl, s0, s3, fun m hm => mid m hm (fun z => absurd (by omega) e2) _ rfl⟩
          · exact zero _ rfl
        · exact zero _ rfl
      · obtain ⟨ms, e, f, el, hml, hms, hz, rfl⟩ := hI2
        have hk : ms.length = bn.length := by
          by_cases hk : ms.length < bn.length
          · rw [rd_get hk] at el
            cases el
          · omega
        have hql : (ldQ dR dM ss).length ≤ 12 := by
          unfold ldQ
          rw [List.length_map, List.length_zip]
          omega
        refine ⟨by show ((ldQ dR dM ss).map rowQ).length < sizeLine; rw [List.length_map]; exact Nat.lt_of_lt_of_le (by omega : (ldQ dR dM ss).length < 13) (by decide), hK _ ⟨dR ++ [bn], rest, dM ++ [ms], .val (bunQ bn), .val (.int (j : Nat)), .val (.lst ((ldP ss (bn, ms)).map ratD)), e, f, by simp [hd], ⟨by rw [List.map_append, List.map_append, mo.1]; show _ ++ [ms.length] = _ ++ [bn.length]; rw [hk], fun t ht => ?_⟩, rfl, ?_⟩⟩
        · rcases List.mem_append.mp ht with ht | ht
          · exact mo.2 t ht
          · rw [List.mem_singleton.mp ht]
            exact ⟨hms, hz (by omega)⟩
        · have e1 : ldQ (dR ++ [bn]) (dM ++ [ms]) ss = ldQ dR dM ss ++ [ldP ss (bn, ms)] := by
            unfold ldQ
            rw [List.zip_append mlen.symm, List.map_append]
            rfl
          rw [e1, List.map_append]
          rfl
      · have e3 : ldP ss (bn, []) = [] := by simp [ldP]
        rw [e3]
        rfl
  · obtain ⟨dR, rest, dM, a, b, c, e, f, hd, mo, el, rfl⟩ := hI
    cases rest with
    | cons x y => cases el
    | nil =>
      rw [List.append_nil] at hd
      subst hd
      exact q dM mo

def sp__law_made : Sp3 := fun ds Q _ => ∃ R, ds = [rowsQ R] ∧ FrOk R ∧ ∀ d, IsFr d R → Q d

def t__law_made : RS := (rRet (rMake 1 "Frame" sp_Frame___init__ (rCons (rVar 0) rNil)))

theorem good_n {xs : List D} (h1 : 1 ≤ xs.length) (h2 : xs.length ≤ 12) : goodN (.tup xs) = true := by
  unfold goodN
  show (true && (decide (1 ≤ xs.length) && decide (xs.length ≤ 12))) = true
  rw [decide_eq_true h1, decide_eq_true h2]
  rfl
theorem fr_err {R : List (List (List Rat))} (fo : FrOk R) : frameErr (rowsQ R) = none := by
  unfold frameErr
  rw [if_neg (by rw [show goodN (rowsQ R) = true from good_n (by rw [List.length_map]; exact fo.h1) (by rw [List.length_map]; exact fo.h12)]; simp)]
  show bunsErr (((R.map bunQ).length : Nat) : Int) 0 (R.map bunQ) = none
  rw [List.length_map]
  have : ∀ (bs : List (List (List Rat))) (p : Nat), (∀ b ∈ bs, b ∈ R) → bunsErr (R.length : Nat) p (bs.map bunQ) = none := by
    intro bs
    induction bs with
    | nil => intro p _; rfl
    | cons b bs ih =>
      intro p h
      obtain ⟨b1, b2, b3⟩ := fo.hb b (h b (by simp))
      have e : bunErr (R.length : Nat) p (bunQ b) = none := by
        unfold bunErr
        rw [if_neg (by rw [show goodN (bunQ b) = true from good_n (by rw [List.length_map]; exact b1) (by rw [List.length_map]; exact b2)]; simp)]
        have e2 : (itemsL (bunQ b)).all (fun r => isRowD r (R.length : Nat)) = true := by
          rw [List.all_eq_true]
          intro x hx
          obtain ⟨r, hr, rfl⟩ := List.mem_map.mp (show x ∈ b.map rowQ from hx)
          rw [isRow_q]
          exact decide_eq_true (by rw [(b3 r hr).1])
        rw [if_neg (by rw [e2]; simp)]
      rw [List.map_cons]
      unfold bunsErr
      rw [e]
      exact ih _ fun b hb => h b (by simp [hb])
  exact this R 0 fun b h => h
theorem rows_pl' {R : List (List (List Rat))} (fo : FrOk R) : plD (rowsQ R) = true := plD_mkt (by rw [List.length_map]; have := fo.h12; omega) fun x hx => by
  obtain ⟨b, hb, rfl⟩ := List.mem_map.mp  hx
  obtain ⟨b1, b2, b3⟩ := fo.hb b hb
  exact bun_pl (by omega) fun r hr => by rw [(b3 r hr).1]; have := fo.h12; omega
theorem pl__law_made : ∀ (ds : List D) (Q : D → Prop) (E : XD → Prop), ds.length = 1 → sp__law_made ds Q E → t__law_made { nx := fun _ => Q .non, rt := Q, ex := E } (start3 1 ds) := fun ds Q E hl h => by
  obtain ⟨R, rfl, fo, q⟩ := h
  refine ⟨rfl, ⟨rows_pl' fo, by have := (tup_rows R).2; omega⟩, ?_⟩
  rw [fr_err fo, (tup_rows R).1]
  exact q _ ⟨fo, _, rfl, rfl⟩

def kdA (y : XD) (t : D) : Prop := (y.cls = "BadRow" ∧ ∃ x_what x_row : D, y.fs = [(("row" : Str), x_row), (("what" : Str), x_what)] ∧ reprOk x_row = true ∧ t = .tup [.str "row", x_what, .str (reprD x_row)]) ∨ (y.cls = "BadLoad" ∧ ∃ x_what : D, y.fs = [(("what" : Str), x_what)] ∧ t = .tup [.str "load", x_what])
def kdB (y : XD) (t : D) : Prop := False
abbrev kd (y : XD) (t : D) : Prop := kdA y t ∨ kdB y t
theorem xm_BadLoad : ("BadLoad" : Str) ∈ excN := by decide +kernel
theorem xm_BadRow : ("BadRow" : Str) ∈ excN := by decide +kernel
theorem kdA_mem {y : XD} {t : D} (h : kdA y t) : y.cls ∈ excN := by
  rcases h with ⟨h, _⟩ | ⟨h, _⟩
  · rw [h]; exact xm_BadRow
  · rw [h]; exact xm_BadLoad
theorem kdB_mem {y : XD} {t : D} (h : kdB y t) : y.cls ∈ excN := h.elim
theorem kd_mem {y : XD} {t : D} (h : kd y t) : y.cls ∈ excN := h.elim kdA_mem kdB_mem
def sp__law_more_kinds : XD → (D → Prop) → Prop := fun y Q => (∃ t, kdB y t ∧ Q (.lst [t])) ∨ (∃ t, kdA y t ∧ Q (.lst []))

def t__law_more_kinds : RS := (rSeq (rSetL 1 (rLst rNil))
    (rSeq (rIf (rTV (rIsX excN (· == "NoPlace") (rVar 0))) (rApp 1 (rTup (rCons (rC (.str "place")) (rCons (rRepr rNever) rNil)))) rNext)
    (rSeq (rIf (rTV (rIsX excN (· == "NoRow") (rVar 0))) (rApp 1 (rTup (rCons (rC (.str "norow")) (rCons (rRepr rNever) (rCons (rRepr rNever) rNil))))) rNext)
    (rSeq (rIf (rTV (rIsX excN (· == "NoWall") (rVar 0))) (rApp 1 (rTup (rCons (rC (.str "wall")) (rCons (rRepr rNever) rNil)))) rNext)
    (rSeq (rIf (rTV (rIsX excN (· == "NoName") (rVar 0))) (rApp 1 (rTup (rCons (rC (.str "noname")) (rCons (rRepr rNever) rNil)))) rNext)
    (rSeq (rIf (rTV (rIsX excN (· == "TakenName") (rVar 0))) (rApp 1 (rTup (rCons (rC (.str "taken")) (rCons (rRepr rNever) rNil)))) rNext)
    (rSeq (rIf (rTV (rIsX excN (· == "Unlike") (rVar 0))) (rApp 1 (rTup (rCons (rC (.str "unlike")) (rCons rNever rNil)))) rNext)
    (rSeq (rIf (rTV (rIsX excN (· == "Flat") (rVar 0))) (rApp 1 (rTup (rCons (rC (.str "flat")) (rCons (rRepr rNever) rNil)))) rNext)
    (rSeq (rIf (rTV (rIsX excN (· == "NotOnce") (rVar 0))) (rApp 1 (rTup (rCons (rC (.str "once")) (rCons rNever rNil)))) rNext)
    (rSeq (rIf (rTV (rIsX excN (· == "NotPlain") (rVar 0))) (rApp 1 (rTup (rCons (rC (.str "plain")) (rCons (rRepr rNever) rNil)))) rNext)
    (rSeq (rIf (rTV (rIsX excN (· == "TooMany") (rVar 0))) (rApp 1 (rTup (rCons (rC (.str "many")) (rCons rNever (rCons rNever (rCons rNever rNil)))))) rNext)
    (rSeq (rIf (rTV (rIsX excN (· == "NotKept") (rVar 0))) (rApp 1 (rTup (rCons (rC (.str "kept")) (rCons rNever (rCons rNever rNil))))) rNext)
    (rSeq (rIf (rTV (rIsX excN (· == "NothingToUndo") (rVar 0))) (rApp 1 (rTup (rCons (rC (.str "undo")) rNil))) rNext)
    (rSeq (rIf (rTV (rIsX excN (· == "NothingToRedo") (rVar 0))) (rApp 1 (rTup (rCons (rC (.str "redo")) rNil))) rNext)
    (rFrz 1 (rRet (rVar 1)))))))))))))))))

theorem pl__law_more_kinds : ∀ (x : XD) (Q : D → Prop), sp__law_more_kinds x Q → t__law_more_kinds { nx := fun _ => Q .non, rt := Q, ex := fun _ => False } (start3 2 [.exc x.cls x.fs]) := fun x Q h => by
  obtain ⟨c, fs⟩ := x
  rcases h with ⟨t, h, q⟩ | ⟨t, h, q⟩
  · exact h.elim
  · rcases h with ⟨hc, x_what, x_row, hf, hr_row, rfl⟩ | ⟨hc, x_what, hf, rfl⟩
    · have hc : c = "BadRow" := hc
      have hf : fs = _ := hf
      subst hc hf
      exact ⟨by show 1 < 2; decide, by show 0 ≤ sizeLine; exact Nat.zero_le _, xm_BadRow, xm_BadRow, xm_BadRow, xm_BadRow, xm_BadRow, xm_BadRow, xm_BadRow, xm_BadRow, xm_BadRow, xm_BadRow, xm_BadRow, xm_BadRow, xm_BadRow, q⟩
    · have hc : c = "BadLoad" := hc
      have hf : fs = _ := hf
      subst hc hf
      exact ⟨by show 1 < 2; decide, by show 0 ≤ sizeLine; exact Nat.zero_le _, xm_BadLoad, xm_BadLoad, xm_BadLoad, xm_BadLoad, xm_BadLoad, xm_BadLoad, xm_BadLoad, xm_BadLoad, xm_BadLoad, xm_BadLoad, xm_BadLoad, xm_BadLoad, xm_BadLoad, q⟩

theorem kdi_BadLoad {x_what : D}  : kd (exD "BadLoad" ["what"] [x_what]) (.tup [.str "load", x_what]) := .inl (.inr (⟨rfl, x_what, rfl, rfl⟩))
theorem kdi_BadRow {x_what x_row : D} (hr_row : reprOk x_row = true) : kd (exD "BadRow" ["what", "row"] [x_what, x_row]) (.tup [.str "row", x_what, .str (reprD x_row)]) := .inl (.inl ⟨rfl, x_what, x_row, rfl, hr_row, rfl⟩)
def sp__law_kinds : XD → (D → Prop) → Prop := fun y Q => ∃ t, kd y t ∧ Q (.lst [t])

def t__law_kinds : RS := (rSeq (rSetL 1 (rLst rNil))
    (rSeq (rIf (rTV (rIsX excN (· == "BadNumber") (rVar 0))) (rApp 1 (rTup (rCons (rC (.str "number")) (rCons rNever (rCons (rRepr rNever) rNil))))) rNext)
    (rSeq (rIf (rTV (rIsX excN (· == "BadRow") (rVar 0))) (rApp 1 (rTup (rCons (rC (.str "row")) (rCons (rXf "BadRow" "what" (rVar 0)) (rCons (rRepr (rXf "BadRow" "row" (rVar 0))) rNil))))) rNext)
    (rSeq (rIf (rTV (rIsX excN (· == "BadTable") (rVar 0))) (rApp 1 (rTup (rCons (rC (.str "table")) (rCons rNever rNil)))) rNext)
    (rSeq (rIf (rTV (rIsX excN (· == "BadFrame") (rVar 0))) (rApp 1 (rTup (rCons (rC (.str "frame")) (rCons rNever (rCons (rRepr rNever) rNil))))) rNext)
    (rSeq (rIf (rTV (rIsX excN (· == "BadLoad") (rVar 0))) (rApp 1 (rTup (rCons (rC (.str "load")) (rCons (rXf "BadLoad" "what" (rVar 0)) rNil)))) rNext)
    (rSeq (rIf (rTV (rIsX excN (· == "BadNet") (rVar 0))) (rApp 1 (rTup (rCons (rC (.str "net")) (rCons rNever (rCons (rRepr rNever) rNil))))) rNext)
    (rSeq (rIf (rTV (rIsX excN (· == "BadHouse") (rVar 0))) (rApp 1 (rTup (rCons (rC (.str "house")) (rCons rNever (rCons (rRepr rNever) rNil))))) rNext)
    (rSeq (rIf (rTV (rIsX excN (· == "BadWeb") (rVar 0))) (rApp 1 (rTup (rCons (rC (.str "web")) (rCons rNever (rCons (rRepr rNever) rNil))))) rNext)
    (rSeq (rIf (rTV (rIsX excN (· == "BadName") (rVar 0))) (rApp 1 (rTup (rCons (rC (.str "badname")) (rCons (rRepr rNever) rNil)))) rNext)
    (rSeq (rIf (rTV (rIsX excN (· == "BadText") (rVar 0))) (rApp 1 (rTup (rCons (rC (.str "text")) (rCons rNever (rCons rNever rNil))))) rNext)
    (rFrz 1 (rRet (rOp gAdd (rVar 1) (rCallP sp__law_more_kinds (rVar 0))))))))))))))))

theorem pl__law_kinds : ∀ (x : XD) (Q : D → Prop), sp__law_kinds x Q → t__law_kinds { nx := fun _ => Q .non, rt := Q, ex := fun _ => False } (start3 2 [.exc x.cls x.fs]) := fun x Q h => by
  obtain ⟨c, fs⟩ := x
  obtain ⟨t, h, q⟩ := h
  rcases h with h | h
  · rcases h with ⟨hc, x_what, x_row, hf, hr_row, rfl⟩ | ⟨hc, x_what, hf, rfl⟩
    · have hc : c = "BadRow" := hc
      have hf : fs = _ := hf
      subst hc hf
      exact ⟨by show 1 < 2; decide, by show 0 ≤ sizeLine; exact Nat.zero_le _, xm_BadRow, xm_BadRow, rfl, rfl, hr_row, by show 3 ≤ sizeLine; decide, by show 0 < sizeLine; decide, xm_BadRow, xm_BadRow, xm_BadRow, xm_BadRow, xm_BadRow, xm_BadRow, xm_BadRow, xm_BadRow, .inr ⟨_, .inl ⟨rfl, x_what, x_row, rfl, hr_row, rfl⟩, by show 1 + 0 ≤ sizeLine; decide, q⟩⟩
    · have hc : c = "BadLoad" := hc
      have hf : fs = _ := hf
      subst hc hf
      exact ⟨by show 1 < 2; decide, by show 0 ≤ sizeLine; exact Nat.zero_le _, xm_BadLoad, xm_BadLoad, xm_BadLoad, xm_BadLoad, xm_BadLoad, rfl, by show 2 ≤ sizeLine; decide, by show 0 < sizeLine; decide, xm_BadLoad, xm_BadLoad, xm_BadLoad, xm_BadLoad, xm_BadLoad, .inr ⟨_, .inr (⟨rfl, x_what, rfl, rfl⟩), by show 1 + 0 ≤ sizeLine; decide, q⟩⟩
  · exact h.elim

def ft__law_fault : XD → (D → Prop) → Prop := fun y Q => ∃ t, kd y t ∧ nxD t = true ∧ Q t

def t__law_fault : RS := (rSeq (rSet 1 (rCallP sp__law_kinds (rVar 2)))
    (rSet 1 (rIte (rAnd (rTV (rOp gEq (rCB gLen (rCons (rVar 1) rNil)) (rC (.int 1)))) (rTV (rIsX excN (fun _ => true) (rVar 2)))) (rOp gIx (rVar 1) (rC (.int 0))) (rTup (rCons (rC (.str "several")) (rCons (rCB gLen (rCons (rVar 1) rNil)) rNil))))))

theorem ft__law_fault_cls : ∀ y Q, ft__law_fault y Q → y.cls ∈ excN := fun y Q h => kd_mem h.choose_spec.1
theorem pl__law_fault : ∀ (y : XD) (Q : D → Prop), ft__law_fault y Q → t__law_fault { nx := fun ρ => ∃ d, (ρ[1]? : Option Sl) = some (.val d) ∧ nxD d = true ∧ Q d, rt := fun _ => False, ex := fun _ => False } [.emp, .emp, .val (.exc y.cls y.fs)] := fun y Q h => by
  obtain ⟨c, fs⟩ := y
  obtain ⟨t, hk, hn, q⟩ := h
  exact ⟨t, hk, kd_mem hk, t, rfl, hn, q⟩
theorem told3 (a b c : Str) : eqD (.tup [.str a, .str b, .str c]) (.tup [.str a, .str b, .str c]) = true := by
  simp [eqD, pyD, pyDs, PyData.eqv, PyData.eqvAll]
theorem ok3 {a b c : Str} (ha : PyData.strOk a = true) (hb : PyData.strOk b = true) (hc : PyData.strOk c = true) : okEq (.tup [.str a, .str b, .str c]) = true := by
  simp [okEq, pyD, pyDs, SeqAt.shaped, PyData.canLay0, PyData.canLayAll0, PyData.depth, PyData.depthAll, ha, hb, hc]
/-- fault told == (a, b, c) -/
theorem told_3 {y : XD} {a b c : Str} (hk : kd y (.tup [.str a, .str b, .str c])) (ha : PyData.strOk a = true) (hb : PyData.strOk b = true) (hc : PyData.strOk c = true) {Q : D → Prop} (q : Q (.bl true)) : ft__law_fault y (fun v => gEq v (.tup [.str a, .str b, .str c]) Q) := by
  refine ⟨_, hk, rfl, ?_⟩
  have k := ok3 ha hb hc
  refine ⟨k, k, ?_⟩
  rw [told3]
  exact q
theorem told_2 {y : XD} {a b : Str} (hk : kd y (.tup [.str a, .str b])) (ha : PyData.strOk a = true) (hb : PyData.strOk b = true) {Q : D → Prop} (q : Q (.bl true)) : ft__law_fault y (fun v => gEq v (.tup [.str a, .str b]) Q) := by
  refine ⟨_, hk, rfl, ?_⟩
  have k : okEq (.tup [.str a, .str b]) = true := by
    simp [okEq, pyD, pyDs, SeqAt.shaped, PyData.canLay0, PyData.canLayAll0, PyData.depth, PyData.depthAll, ha, hb]
  have e : eqD (.tup [.str a, .str b]) (.tup [.str a, .str b]) = true := by
    simp [eqD, pyD, pyDs, PyData.eqv, PyData.eqvAll]
  refine ⟨k, k, ?_⟩
  rw [e]
  exact q
theorem ft_of {y : XD} {t : D} (hk : kd y t) (hn : nxD t = true) {Q : D → Prop} (q : Q t) : ft__law_fault y Q := ⟨t, hk, hn, q⟩

def oddL : List D := [.non, .bl true, .bl false, .str "1", .str "", .tup [.int 1, .int 1], .tup [.int 2, .int 4], .tup [.int 1, .int 0], .tup [.int 1, .int (-2)], .lst [.int 1, .int 2], .tup [.int 1, .int 2, .int 3], .tup [.bl true, .int 2], .tup [], .tup [.int 0, .int 3], .dct []]
def sp__law_odd : Sp3 := fun ds Q _ => ds = [.pen] ∧ ∀ d ∈ oddL, Q d

def t__law_odd : RS := (rRet (rCall 2 sp__law_pick (rCons (rVar 0) (rCons (rL (rLst (rCons (rC .non) (rCons (rC (.bl true)) (rCons (rC (.bl false)) (rCons (rC (.str "1")) (rCons (rC (.str "")) (rCons (rTup (rCons (rC (.int 1)) (rCons (rC (.int 1)) rNil))) (rCons (rTup (rCons (rC (.int 2)) (rCons (rC (.int 4)) rNil))) (rCons (rTup (rCons (rC (.int 1)) (rCons (rC (.int 0)) rNil))) (rCons (rTup (rCons (rC (.int 1)) (rCons (rUn gNeg (rC (.int 2))) rNil))) (rCons (rL (rLst (rCons (rC (.int 1)) (rCons (rC (.int 2)) rNil)))) (rCons (rTup (rCons (rC (.int 1)) (rCons (rC (.int 2)) (rCons (rC (.int 3)) rNil)))) (rCons (rTup (rCons (rC (.bl true)) (rCons (rC (.int 2)) rNil))) (rCons (rTup rNil) (rCons (rTup (rCons (rC (.int 0)) (rCons (rC (.int 3)) rNil))) (rCons (rC (.dct [])) rNil))))))))))))))))) rNil))))

theorem pl__law_odd : ∀ (ds : List D) (Q : D → Prop) (E : XD → Prop), ds.length = 1 → sp__law_odd ds Q E → t__law_odd { nx := fun _ => Q .non, rt := Q, ex := E } (start3 1 ds) := fun ds Q E hl h => by
  obtain ⟨rfl, q⟩ := h
  exact ⟨sz 2, sz 2, sz 2, sz 2, sz 2, sz 3, sz 2, sz 0, sz 2, sz 15, rfl, _, oddL, rfl, .inr rfl, by decide, by decide, q⟩
/-- a drawn value: plain, with a text -/
def AnyD (d : D) : Prop := plD d = true ∧ rpD d = true
theorem tx_of {i : Int} (h : i.natAbs < 10 ^ 45) : txD (.int i) = true := txD_int (Nat.lt_trans h (by decide +kernel))
theorem any_int {i : Int} (h : i.natAbs < 10 ^ 45) : AnyD (.int i) := ⟨rfl, by unfold rpD; rw [tx_of h]; rfl⟩
theorem any_2 {i j : Int} (h : i.natAbs < 10 ^ 45) (h2 : j.natAbs < 10 ^ 45) : AnyD (.tup [.int i, .int j]) := ⟨rfl, by
  have e : txD (.tup [.int i, .int j]) = (txD (.int i) && (txD (.int j) && true)) := rfl
  unfold rpD; rw [e, tx_of h, tx_of h2]; rfl⟩
theorem any_2l {i j : Int} (h : i.natAbs < 10 ^ 45) (h2 : j.natAbs < 10 ^ 45) : AnyD (.lst [.int i, .int j]) := ⟨rfl, by
  have e : txD (.lst [.int i, .int j]) = (txD (.int i) && (txD (.int j) && true)) := rfl
  unfold rpD; rw [e, tx_of h, tx_of h2]; rfl⟩
theorem any_3 {i j k : Int} (h : i.natAbs < 10 ^ 45) (h2 : j.natAbs < 10 ^ 45) (h3 : k.natAbs < 10 ^ 45) : AnyD (.tup [.int i, .int j, .int k]) := ⟨rfl, by
  have e : txD (.tup [.int i, .int j, .int k]) = (txD (.int i) && (txD (.int j) && (txD (.int k) && true))) := rfl
  unfold rpD; rw [e, tx_of h, tx_of h2, tx_of h3]; rfl⟩
theorem any_rat {r : Rat} (h : SmR r) : AnyD (ratD r) := by
  have h45 : (10 : Nat) ^ 40 < 10 ^ 45 := by decide +kernel
  by_cases hd : r.den = 1
  · rw [ratD_1 hd]
    exact any_int (Nat.lt_trans h.1 h45)
  · rw [ratD_2 hd]
    exact any_2 (Nat.lt_trans h.1 h45) (by show r.den < _; exact Nat.lt_trans h.2 h45)
theorem any_odd : ∀ d ∈ oddL, AnyD d := fun d hd => by
  unfold oddL at hd
  simp only [List.mem_cons, List.mem_nil_iff, or_false] at hd
  rcases hd with rfl | rfl | rfl | rfl | rfl | rfl | rfl | rfl | rfl | rfl | rfl | rfl | rfl | rfl | rfl <;> exact ⟨by decide +kernel, by decide +kernel⟩

/-- a drawn row, right or bent -/
def RowD (n : Nat) (d : D) : Prop := plD d = true ∧ rpD d = true ∧ (rowOk d = true → ∃ rs : List Rat, d = .tup (rs.map ratD) ∧ rs.length ≤ 24 ∧ ∀ r ∈ rs, Sz n r)
def sp__law_bent_row : Sp3 := fun ds Q _ => ∃ (n : Nat) (rs : List Rat), ds = [.pen, .tup (rs.map ratD)] ∧ 140 ≤ n ∧ n ≤ 1900 ∧ rs.length ≤ 12 ∧ (∀ r ∈ rs, Sz n r) ∧ ∀ d, RowD n d → isRowD d (rs.length : Nat) = false → Q d

def t__law_bent_row : RS := (rSeq (rSet 2 (rCall 2 sp__law_draw (rCons (rVar 0) (rCons (rC (.int 4)) rNil))))
    (rSeq (rIf (rAnd (rTV (rOp gEq (rVar 2) (rC (.int 0)))) (rTV (rOp gGt (rCB gLen (rCons (rVar 1) rNil)) (rC (.int 0))))) (rRet (rSl (rVar 1) (rC none) (rPart (rUn gNeg (rC (.int 1)))))) rNext)
    (rSeq (rIf (rTV (rOp gEq (rVar 2) (rC (.int 1)))) (rRet (rOp gAdd (rVar 1) (rTup (rCons (rCall 2 sp__law_draw (rCons (rVar 0) (rCons (rC (.int 3)) rNil))) rNil)))) rNext)
    (rSeq (rIf (rAnd (rTV (rOp gEq (rVar 2) (rC (.int 2)))) (rTV (rOp gGt (rCB gLen (rCons (rVar 1) rNil)) (rC (.int 0))))) (rSeq (rSet 3 (rCall 2 sp__law_draw (rCons (rVar 0) (rCons (rCB gLen (rCons (rVar 1) rNil)) rNil))))
    (rRet (rOp gAdd (rOp gAdd (rSl (rVar 1) (rC none) (rPart (rVar 3))) (rTup (rCons (rCall 1 sp__law_odd (rCons (rVar 0) rNil)) rNil))) (rSl (rVar 1) (rPart (rOp gAdd (rVar 3) (rC (.int 1)))) (rC none))))) rNext)
    (rRet (rCall 2 sp__law_pick (rCons (rVar 0) (rCons (rL (rLst (rCons (rC .non) (rCons (rC (.int 3)) (rCons (rC (.str "row")) (rCons (rC (.bl true)) (rCons (rC (.dct [])) rNil))))))) rNil))))))))

/-- small data, as an item of a row -/
def elD (d : D) : Bool := (plD d && txD d) && (decide ((pyD d).depth ≤ 5) && decide ((pyD d).bulk ≤ 100))
theorem elD_of {d : D} (h1 : plD d = true) (h2 : txD d = true) (h3 : (pyD d).depth ≤ 5) (h4 : (pyD d).bulk ≤ 100) : elD d = true := by
  unfold elD
  rw [h1, h2, decide_eq_true h3, decide_eq_true h4]
  rfl
theorem elD_to {d : D} (h : elD d = true) : plD d = true ∧ txD d = true ∧ (pyD d).depth ≤ 5 ∧ (pyD d).bulk ≤ 100 := by
  unfold elD at h
  obtain ⟨h1, h2⟩ := Bool.and_eq_true_iff.mp h
  obtain ⟨a, b⟩ := Bool.and_eq_true_iff.mp h1
  obtain ⟨c, d⟩ := Bool.and_eq_true_iff.mp h2
  exact ⟨a, b, of_decide_eq_true c, of_decide_eq_true d⟩
theorem els {xs : List D} (h : ∀ x ∈ xs, elD x = true) : PyData.depthAll (pyDs xs) ≤ 5 ∧ PyData.bulkAll (pyDs xs) ≤ 101 * xs.length := by
  induction xs with
  | nil => simp [pyDs, PyData.depthAll, PyData.bulkAll]
  | cons x xs ih =>
    obtain ⟨i1, i2⟩ := ih fun z hz => h z (by simp [hz])
    obtain ⟨_, _, h3, h4⟩ := elD_to (h x (by simp))
    simp only [pyDs, PyData.depthAll, PyData.bulkAll, List.length_cons]
    omega
theorem row_of {xs : List D} (h : ∀ x ∈ xs, elD x = true) (hl : xs.length ≤ 70) (hd : PyData.hasDictAll (pyDs xs) = false ∨ lsDs xs = false) : plD (.tup xs) = true ∧ rpD (.tup xs) = true := by
  obtain ⟨e1, e2⟩ := els h
  refine ⟨plD_mkt (by omega) fun x hx => (elD_to (h x hx)).1, ?_⟩
  have t : txD (.tup xs) = true := by
    unfold txD
    exact txDs_of fun x hx => (elD_to (h x hx)).2.1
  have hz : (!(pyD (.tup xs)).hasDict || !lsD (.tup xs)) = true := by
    unfold pyD PyData.hasDict lsD
    rcases hd with hd | hd <;> rw [hd] <;> simp
  have d1 : decide ((pyD (.tup xs)).depth ≤ 60) = true := decide_eq_true (by unfold pyD PyData.depth; omega)
  have d2 : decide ((pyD (.tup xs)).bulk ≤ 8000) = true := decide_eq_true (by unfold pyD PyData.bulk; omega)
  unfold rpD
  rw [t, hz, d1, d2]
  rfl
theorem el_rat {r : Rat} {n : Nat} (hn : n ≤ 1900) (h0 : Sz n r) : elD (ratD r) = true := by
  have h := h0.mono hn
  rcases isI r with ⟨h1, e1⟩ | ⟨h1, e1⟩
  · rw [e1]
    exact elD_of rfl (txD_int h.1) (Nat.zero_le _) (Nat.zero_le _)
  · rw [e1]
    have e : txD (.tup [.int r.num, .int (r.den : Nat)]) = (txD (.int r.num) && (txD (.int (r.den : Nat)) && true)) := rfl
    refine elD_of rfl ?_ (by show max 0 (max 0 0) + 1 ≤ 5; decide) (by show 0 + 1 + (0 + 1 + 0) ≤ 100; decide)
    rw [e, txD_int h.1, txD_int (show ((r.den : Nat) : Int).natAbs < 2 ^ 1900 from h.2)]
    rfl
theorem no_rat (r : Rat) : (pyD (ratD r)).hasDict = false ∧ lsD (ratD r) = false := by
  rcases isI r with ⟨h1, e1⟩ | ⟨h1, e1⟩ <;> rw [e1] <;> exact ⟨rfl, rfl⟩
theorem no_rats : ∀ rs : List Rat, PyData.hasDictAll (pyDs (rs.map ratD)) = false ∧ lsDs (rs.map ratD) = false
  | [] => ⟨rfl, rfl⟩
  | r :: rs => by
    obtain ⟨a, b⟩ := no_rat r
    obtain ⟨c, d⟩ := no_rats rs
    simp only [List.map_cons, pyDs, PyData.hasDictAll, lsDs, a, b, c, d]
    exact ⟨rfl, rfl⟩
theorem RowD.rats {n : Nat} {rs : List Rat} (hn : n ≤ 1900) (hl : rs.length ≤ 24) (h : ∀ r ∈ rs, Sz n r) : RowD n (.tup (rs.map ratD)) := by
  obtain ⟨a, b⟩ := row_of (xs := rs.map ratD) (fun x hx => by
    obtain ⟨r, hr, rfl⟩ := List.mem_map.mp hx
    exact el_rat hn (h r hr)) (by rw [List.length_map]; omega) (.inl (no_rats rs).1)
  exact ⟨a, b, fun _ => ⟨rs, rfl, hl, h⟩⟩
theorem odd_el : ∀ d ∈ oddL, elD d = true ∧ isRatD d = false ∧ ((pyD d).hasDict = false ∨ lsD d = false) := fun d hd => by
  unfold oddL at hd
  simp only [List.mem_cons, List.mem_nil_iff, or_false] at hd
  rcases hd with rfl | rfl | rfl | rfl | rfl | rfl | rfl | rfl | rfl | rfl | rfl | rfl | rfl | rfl | rfl <;> exact ⟨by decide +kernel, by decide +kernel, by decide +kernel⟩
theorem dict_app : ∀ (rs : List Rat) (ys : List D), PyData.hasDictAll (pyDs (rs.map ratD ++ ys)) = PyData.hasDictAll (pyDs ys) ∧ lsDs (rs.map ratD ++ ys) = lsDs ys
  | [], ys => ⟨rfl, rfl⟩
  | r :: rs, ys => by
    obtain ⟨a, b⟩ := no_rat r
    obtain ⟨c, d⟩ := dict_app rs ys
    simp only [List.map_cons, List.cons_append, pyDs, PyData.hasDictAll, lsDs, a, b, c, d]
    exact ⟨rfl, rfl⟩
theorem RowD.mid {n : Nat} {as bs : List Rat} {o : D} (hn : n ≤ 1900) (ho : o ∈ oddL) (ha : as.length ≤ 24) (hb : bs.length ≤ 24) (h1 : ∀ r ∈ as, Sz n r) (h2 : ∀ r ∈ bs, Sz n r) : RowD n (.tup (as.map ratD ++ [o] ++ bs.map ratD)) := by
  obtain ⟨o1, o2, o3⟩ := odd_el o ho
  obtain ⟨a, b⟩ := row_of (xs := as.map ratD ++ [o] ++ bs.map ratD) (fun x hx => by
    rcases (List.mem_append.mp hx) with hx | hx
    · rcases List.mem_append.mp hx with hx |  hx
      · obtain ⟨r, hr, rfl⟩ := List.mem_map.mp hx
        exact el_rat hn (h1 r hr)
      · rw [List.mem_singleton.mp hx]
        exact o1
    · obtain ⟨r, hr, rfl⟩ := List.mem_map.mp hx
      exact el_rat hn (h2 r hr)) (by simp only [List.length_append, List.length_map, List.length_cons, List.length_nil]; omega) (by
    rw [List.append_assoc, (dict_app as _).1, (dict_app as _).2]
    obtain ⟨c, d⟩ := no_rats bs
    show PyData.hasDictAll (pyD o :: pyDs (bs.map ratD)) = false ∨ (lsD o || lsDs (bs.map ratD)) = false
    simp only [PyData.hasDictAll, c, d, Bool.or_false]
    exact o3)
  refine ⟨a, b, fun z => ?_⟩
  unfold rowOk at z
  obtain ⟨_, z⟩ := Bool.and_eq_true_iff.mp z
  have := (List.all_eq_true.mp (show (as.map ratD ++ [o] ++ bs.map ratD).all isRatD = true from z)) o (by simp)
  rw [o2] at this
  cases this
theorem cut_map {rs : List Rat} {lo hi : Option Int} : L3.cutD (rs.map ratD) lo hi = (L3.cutD rs lo hi).map ratD := by
  unfold L3.cutD
  rw [List.length_map, List.map_take, List.map_drop]
theorem cut_mem {α : Type} {rs : List α} {lo hi : Option Int} {r : α} (h : r ∈ L3.cutD rs lo hi) : r ∈ rs := List.mem_of_mem_drop (List.mem_of_mem_take h)
theorem cut_len {α : Type} {rs : List α} {lo hi : Option Int} : (L3.cutD rs lo hi).length ≤ rs.length := by
  unfold L3.cutD
  rw [(List.length_take), List.length_drop]
  omega
theorem cut_last {α : Type} {rs : List α} (h : 0 < rs.length) : (L3.cutD rs none (some (-1))).length + 1 = rs.length := by
  unfold L3.cutD
  have e : HT.sIx rs.length rs.length (some (-1)) = rs.length - 1 := by
    show (if (-1 : Int) < 0 then ((-1 : Int) + (rs.length : Int)).toNat else min (-1 : Int).toNat rs.length) = _
    rw [if_pos (by decide)]
    omega
  rw [e, HT.sIx_none, List.length_take, List.length_drop]
  omega
theorem odd_row {as bs : List D} {o : D} (ho : isRatD o = false) (m : Int) : isRowD (.tup (as ++ [o] ++ bs)) m = false := by
  have e : isRowD (.tup (as ++ [o] ++ bs)) m = (true && (decide (((as ++ [o] ++ bs).length : Int) = m) && (as ++ [o] ++ bs).all isRatD)) := rfl
  have e2 : (as ++ [o] ++ bs).all isRatD = false := by
    rw [List.all_append, List.all_append]
    simp [ho]
  rw [e, e2, Bool.and_false, Bool.and_false]
theorem row_ne {rs : List Rat} {m : Nat} (h : rs.length ≠ m) : isRowD (.tup (rs.map ratD)) (m : Nat) = false := by
  rw [show D.tup (rs.map ratD) = rowQ rs from rfl, isRow_q]
  exact decide_eq_false (by  omega)
theorem sz_int {k : Int} {n : Nat} (hn : 140 ≤ n) (h : k.natAbs < 10 ^ 40) : Sz n (k : Rat) := Sz.mono (m := 140) ⟨Nat.lt_trans h (by decide +kernel), by show (1 : Nat) < 2 ^ 140; decide +kernel⟩ hn
theorem smR_int {k : Int} (h : k.natAbs < 10 ^ 40) : SmR (k : Rat) := ⟨h, by show (1 : Nat) < 10 ^ 40; decide +kernel⟩
theorem pl__law_bent_row : ∀ (ds : List D) (Q : D → Prop) (E : XD → Prop), ds.length = 2 → sp__law_bent_row ds Q E → t__law_bent_row { nx := fun _ => Q .non, rt := Q, ex := E } (start3 4 ds) := fun ds Q E hl h => by
  obtain ⟨n, rs, rfl, n140, hn, hl, hr, q⟩ := h
  have hcut : 0 < rs.length → Q (.tup (L3.cutD (rs.map ratD) none (some (-1)))) := fun h0 => by
    rw [cut_map]
    have := cut_last h0
    exact q _ (RowD.rats hn (by have := cut_len (rs := rs) (lo := none) (hi := some (-1)); omega) fun r h => hr r (cut_mem h)) (row_ne (by omega))
  have lst : ∀ (N : En3) (w : Int) (a : Sl), N.rt = Q → rRet (rCall 2 sp__law_pick (rCons (rVar 0) (rCons (rL (rLst (rCons (rC .non) (rCons (rC (.int 3)) (rCons (rC (.str "row")) (rCons (rC (.bl true)) (rCons (rC (.dct [])) rNil))))))) rNil))) N [.val .pen, .val (.tup (rs.map ratD)), .val (.int w), a] := fun N w a e => by
    refine ⟨sz 5, rfl, _, _, rfl, .inr rfl, by show 1 ≤ 5; decide, by show 5 ≤ 65536; decide, fun x hx => ?_⟩
    rw [e]
    suffices h : RowD n x ∧ isRowD x (rs.length : Nat) = false from q x h.1 h.2
    simp only [List.mem_cons, List.mem_nil_iff, or_false] at hx
    rcases hx with rfl | rfl | rfl | rfl | rfl <;> exact ⟨⟨by decide +kernel, by decide +kernel, fun z => by cases z⟩, rfl⟩
  have mid : ∀ (N : En3) (w : Int) (a : Sl), N.rt = Q → (rSeq (rIf (rAnd (rTV (rOp gEq (rVar 2) (rC (.int 2)))) (rTV (rOp gGt (rCB gLen (rCons (rVar 1) rNil)) (rC (.int 0))))) (rSeq (rSet 3 (rCall 2 sp__law_draw (rCons (rVar 0) (rCons (rCB gLen (rCons (rVar 1) rNil)) rNil))))
    (rRet (rOp gAdd (rOp gAdd (rSl (rVar 1) (rC none) (rPart (rVar 3))) (rTup (rCons (rCall 1 sp__law_odd (rCons (rVar 0) rNil)) rNil))) (rSl (rVar 1) (rPart (rOp gAdd (rVar 3) (rC (.int 1)))) (rC none))))) rNext)
    (rRet (rCall 2 sp__law_pick (rCons (rVar 0) (rCons (rL (rLst (rCons (rC .non) (rCons (rC (.int 3)) (rCons (rC (.str "row")) (rCons (rC (.bl true)) (rCons (rC (.dct [])) rNil))))))) rNil))))) N [.val .pen, .val (.tup (rs.map ratD)), .val (.int w), a] := fun N w a e => by
    conv => whnf
    split
    · conv => whnf
      split
      · rename_i e2
        have e2 : decide (0 < (((rs.map ratD).length : Nat) : Int)) = true := e2
        have e3 := of_decide_eq_true e2
        rw [List.length_map] at e3
        refine ⟨rfl, ⟨by show 0 < (((rs.map ratD).length : Nat) : Int); rw [List.length_map]; omega, by show (((rs.map ratD).length : Nat) : Int) < _; rw [List.length_map]; omega⟩, fun k k0 k1 => ?_⟩
        refine ⟨rfl, rfl, fun o ho => ⟨sz 1, ?_, ?_⟩⟩
        · show (L3.cutD (rs.map ratD) none (some k)).length + 1 ≤ sizeLine
          have := cut_len (rs := rs.map ratD) (lo := none) (hi := some k)
          rw [List.length_map] at this
          exact le_size (by omega)
        · refine ⟨?_, ?_⟩
          · show (L3.cutD (rs.map ratD) none (some k) ++ [o]).length + (L3.cutD (rs.map ratD) (some (k + 1)) none).length ≤ sizeLine
            have h1 := cut_len (rs := rs.map ratD) (lo := none) (hi := some k)
            have h2 := cut_len (rs := rs.map ratD) (lo := some (k + 1)) (hi := none)
            rw [List.length_map] at h1 h2
            rw [(List.length_append), List.length_singleton]
            exact le_size (by omega)
          · show N.rt (.tup (L3.cutD (rs.map ratD) none (some k) ++ [o] ++ L3.cutD (rs.map ratD) (some (k + 1)) none))
            rw [e, cut_map, cut_map]
            exact q _ (RowD.mid hn ho (by have := cut_len (rs := rs) (lo := none) (hi := some k); omega) (by have := cut_len (rs := rs) (lo := some (k + 1)) (hi := none); omega) (fun r h => hr r (cut_mem h)) fun r h => hr r (cut_mem h)) (odd_row (odd_el o ho).2.1 _)
      · exact lst N w a e
    · exact lst N w a e
  have one : ∀ (N : En3) (w : Int) (a : Sl), N.rt = Q → (rSeq (rIf (rTV (rOp gEq (rVar 2) (rC (.int 1)))) (rRet (rOp gAdd (rVar 1) (rTup (rCons (rCall 2 sp__law_draw (rCons (rVar 0) (rCons (rC (.int 3)) rNil))) rNil)))) rNext)
    (rSeq (rIf (rAnd (rTV (rOp gEq (rVar 2) (rC (.int 2)))) (rTV (rOp gGt (rCB gLen (rCons (rVar 1) rNil)) (rC (.int 0))))) (rSeq (rSet 3 (rCall 2 sp__law_draw (rCons (rVar 0) (rCons (rCB gLen (rCons (rVar 1) rNil)) rNil))))
    (rRet (rOp gAdd (rOp gAdd (rSl (rVar 1) (rC none) (rPart (rVar 3))) (rTup (rCons (rCall 1 sp__law_odd (rCons (rVar 0) rNil)) rNil))) (rSl (rVar 1) (rPart (rOp gAdd (rVar 3) (rC (.int 1)))) (rC none))))) rNext)
    (rRet (rCall 2 sp__law_pick (rCons (rVar 0) (rCons (rL (rLst (rCons (rC .non) (rCons (rC (.int 3)) (rCons (rC (.str "row")) (rCons (rC (.bl true)) (rCons (rC (.dct [])) rNil))))))) rNil)))))) N [.val .pen, .val (.tup (rs.map ratD)), .val (.int w), a] := fun N w a e => by
    conv => whnf
    split
    · refine ⟨rfl, ⟨by decide, by decide⟩, fun k k0 k1 => ⟨sz 1, ?_, ?_⟩⟩
      · show (rs.map ratD).length + 1 ≤ sizeLine
        rw [List.length_map]
        exact le_size (by omega)
      · show N.rt (.tup (rs.map ratD ++ [.int k]))
        rw [e, ← ratD_int k]
        have : rs.map ratD ++ [ratD (k : Rat)] = (rs ++ [(k : Rat)]).map ratD := by simp
        rw [this]
        refine q _ (RowD.rats hn (by simp; omega) fun r hr' => ?_) (row_ne (by rw [List.length_append, List.length_singleton]; omega))
        rcases List.mem_append.mp hr' with h | h
        · exact hr r h
        · rw [List.mem_singleton.mp h]
          exact sz_int n140 (by omega)
    · exact mid N w a e
  refine ⟨rfl, ⟨by decide, by decide⟩, fun w w0 w1 => ?_⟩
  conv => whnf
  split
  · conv => whnf
    split
    · rename_i e2
      have e2 : decide (0 < (((rs.map ratD).length : Nat) : Int)) = true := e2
      have e2 := of_decide_eq_true e2
      rw [List.length_map] at e2
      exact hcut (by omega)
    · exact one _ w .emp rfl
  · exact one _ w .emp rfl

def sp__law_is_list : Sp3 := fun ds Q _ => match ds with
  | [d] => plD d = true ∧ Q (.bl (isLstD d))
  | _ => False

def t__law_is_list : RS := (rRet (rIs2 "list" "tuple" (rVar 0)))

theorem pl__law_is_list : ∀ (ds : List D) (Q : D → Prop) (E : XD → Prop), ds.length = 1 → sp__law_is_list ds Q E → t__law_is_list { nx := fun _ => Q .non, rt := Q, ex := E } (start3 1 ds) := fun ds Q E hl h => by
  match ds, h with
  | [d], h =>
    obtain ⟨h1, h2⟩ := h
    refine ⟨plD_noIns h1, ?_⟩
    cases d <;> first | (cases h1; done) | exact h2

def sp__law_is_any_row : Sp3 := fun ds Q _ => ∃ v : D, ∃ m : Int, ds = [v, .int m] ∧ plD v = true ∧ Q (.bl (isRowD v m))

def t__law_is_any_row : RS := (rSeq (rIf (rOr (rNot (rTV (rCall 1 sp__law_is_list (rCons (rVar 0) rNil)))) (rTV (rOp gNe (rCB gLen (rCons (rVar 0) rNil)) (rVar 1)))) (rRet (rC (.bl false))) rNext)
    (rRet (rOp gEq (rL (rComp (rIt (rVar 0)) (g3N 2) (rNot (rTV (rCall 1 sp__law_is_ratio (rCons (rVar 2) rNil)))) (rVar 2) [2])) (rL (rLst rNil)))))

theorem filt_nil {xs : List D} : (xs.filter fun d => !isRatD d).isEmpty = xs.all isRatD := by
  induction xs with
  | nil => rfl
  | cons x xs ih =>
    rw [List.filter_cons, List.all_cons]
    cases h : isRatD x <;> simp [ih]
theorem pl__law_is_any_row : ∀ (ds : List D) (Q : D → Prop) (E : XD → Prop), ds.length = 2 → sp__law_is_any_row ds Q E → t__law_is_any_row { nx := fun _ => Q .non, rt := Q, ex := E } (start3 3 ds) := fun ds Q E hl h => by
  obtain ⟨v, m, rfl, hv, q⟩ := h
  refine ⟨rfl, hv, ?_⟩
  have fin : ∀ (xs : List D) (N : En3), xs.length ≤ 65536 → (∀ d ∈ xs, plD d = true) → itemsOf v = some xs → N.rt = Q → Q (.bl (xs.all isRatD)) → rRet (rOp gEq (rL (rComp (rIt (rVar 0)) (g3N 2) (rNot (rTV (rCall 1 sp__law_is_ratio (rCons (rVar 2) rNil)))) (rVar 2) [2])) (rL (rLst rNil))) N [.val v, .val (.int m), .emp] := by
    intro xs N hxl hm hi e q
    show (match itemsOf v with | some ds => _ | none => False)
    rw [hi]
    refine ⟨le_size hxl, comp_fm (p := fun d => !isRatD d) (f := fun d => d) xs [] (fun d hd => ⟨fun K k => ⟨rfl, hm d hd, k⟩, fun _ K k => k⟩) ?_⟩
    rw [List.nil_append, List.map_id']
    refine ⟨by show 0 ≤ sizeLine; exact Nat.zero_le _, ?_⟩
    show N.rt (.bl (xs.filter fun d => !isRatD d).isEmpty)
    rw [filt_nil, e]
    exact q
  rcases sq_cs hv with ⟨xs, hd, hxl, hm⟩ | hn
  · have q2 : Q (.bl (decide ((xs.length : Int) = m) && xs.all isRatD)) := by
      rcases hd with rfl | rfl <;> exact q
    clear q
    have q := q2
    clear q2
    rcases hd with rfl | rfl
    all_goals
      conv => whnf
      split
      · rename_i e
        have e : (!decide (((xs.length : Nat) : Int) = m)) = true := e
        rw [nbT e, Bool.false_and] at q
        exact q
      · rename_i e
        have e : (!decide (((xs.length : Nat) : Int) = m)) = false := e
        rw [nbF e, Bool.true_and] at q
        exact fin xs _ hxl hm rfl rfl q
  · rw [hn]
    unfold isRowD at q
    rw [hn, Bool.false_and] at q
    exact q

def sp__law_fits : Sp3 := fun ds Q _ => ∃ R load, ds = [rowsQ R, load] ∧ FrOk R ∧ plD load = true ∧ Q (.bl (fitI (lensQ R) load))

def t__law_fits : RS := (rSeq (rIf (rOr (rNot (rTV (rCall 1 sp__law_is_list (rCons (rVar 1) rNil)))) (rTV (rOp gNe (rCB gLen (rCons (rVar 1) rNil)) (rCB gLen (rCons (rVar 0) rNil))))) (rRet (rC (.bl false))) rNext)
    (rRet (rOp gEq (rL (rComp (rRange1 (rCons (rCB gLen (rCons (rVar 0) rNil)) rNil)) (g3N 2) (rNot (rTV (rCall 2 sp__law_is_any_row (rCons (rOp gIx (rVar 1) (rVar 2)) (rCons (rCB gLen (rCons (rOp gIx (rVar 0) (rVar 2)) rNil)) rNil))))) (rVar 2) [2])) (rL (rLst rNil)))))

theorem filt_all {n : Nat} {p : Nat → Bool} {f : Nat → D} : (((List.range n).filter fun k => !p k).map f).isEmpty = (List.range n).all p := by
  have : ∀ l : List Nat, ((l.filter fun k => !p k).map f).isEmpty = l.all p := by
    intro l
    induction l with
    | nil => rfl
    | cons x l ih =>
      rw [List.filter_cons, List.all_cons]
      cases h : p x <;> simp_all
  exact this _
theorem pl__law_fits : ∀ (ds : List D) (Q : D → Prop) (E : XD → Prop), ds.length = 2 → sp__law_fits ds Q E → t__law_fits { nx := fun _ => Q .non, rt := Q, ex := E } (start3 3 ds) := fun ds Q E hl h => by
  obtain ⟨R, load, rfl, fo, hl, q⟩ := h
  refine ⟨rfl, hl, ?_⟩
  have h12 := fo.h12
  rcases sq_cs hl with ⟨xs, hd, hxl, hm⟩ | hn
  · have q2 : Q (.bl (decide (xs.length = (lensQ R).length) && (List.range (lensQ R).length).all fun i => isRowD (xs.getD i .non) (((lensQ R).getD i 0 : Nat) : Int))) := by
      rcases hd with rfl | rfl <;> exact q
    clear q
    have hll : (lensQ R).length = R.length := List.length_map ..
    rcases hd with rfl | rfl
    all_goals
      conv => whnf
      split
      · rename_i e
        have e : (!decide (((xs.length : Nat) : Int) = ((R.map bunQ).length : Nat))) = true := e
        have e := nbN e
        rw [List.length_map] at e
        rw [decide_eq_false (by rw [hll]; omega), Bool.false_and] at q2
        exact q2
      · rename_i e
        have e : (!decide (((xs.length : Nat) : Int) = ((R.map bunQ).length : Nat))) = false := e
        have e := nbD e
        have hRl : ((R.map bunQ).length : Nat) = R.length := List.length_map ..
        have hx : xs.length = R.length := by omega
        rw [decide_eq_true (by rw [hll]; exact hx), Bool.true_and, hll] at q2
        refine ⟨⟨by show -(2 ^ 62) ≤ (((R.map bunQ).length : Nat) : Int); omega, by show (((R.map bunQ).length : Nat) : Int) < 2 ^ 62; omega⟩, ?_⟩
        have e0 : (((R.map bunQ).length : Nat) : Int).toNat = R.length := by omega
        show (rangeD 0 (((R.map bunQ).length : Nat) : Int).toNat).length ≤ _ ∧ compL _ _ _ _ _ _ (rangeD 0 (((R.map bunQ).length : Nat) : Int).toNat) _
        rw [e0]
        refine ⟨by rw [rangeD_len]; exact le_size (by omega), compN (p := fun k => !isRowD (xs.getD k .non) (((lensQ R).getD k 0 : Nat) : Int)) (f := fun k => .int (0 + (k : Nat))) _ (fun k hk => ⟨fun K kk => ?_, fun _ K kk => kk⟩) ⟨by show 0 ≤ sizeLine; exact Nat.zero_le _, ?_⟩⟩
        · obtain ⟨x, gx, mx⟩ := get_lt (xs := xs) (k := k) (by omega)
          obtain ⟨b, gb, mb⟩ := get_lt hk
          rw [getD_of gx, getD_of (show (lensQ R)[k]? = some b.length from map_get gb)] at kk
          show (match atI xs (0 + (k : Nat)) with | some d => _ | none => False)
          rw [at0 gx]
          show (match atI (R.map bunQ) (0 + (k : Nat)) with | some d => _ | none => False)
          rw [at0 (map_get gb)]
          refine ⟨rfl, x, _, rfl, hm x mx, ?_⟩
          show K (!isRowD x (((b.map rowQ).length : Nat) : Int))
          rw [List.length_map]
          exact kk
        · show Q (.bl (((List.range R.length).filter fun k => !isRowD (xs.getD k .non) (((lensQ R).getD k 0 : Nat) : Int)).map fun k => D.int (0 + (k : Nat))).isEmpty)
          rw [filt_all (p := fun k => isRowD (xs.getD k .non) (((lensQ R).getD k 0 : Nat) : Int))]
          exact q2
  · rw [hn]
    unfold fitI at q
    rw [hn, Bool.false_and] at q
    exact q

def Lq (L : List (List Rat)) : Prop := ∀ l ∈ L, ∀ x ∈ l, Sz 1900 x
def LoadX (d : D) : Prop := plD d = true ∧ ∀ R, fitI (lensQ R) d = true → ∃ L, d = .tup (L.map rowQ) ∧ Lq L
def sp__law_bent_load : Sp3 := fun ds Q _ => ∃ L : List (List Rat), ds = [.pen, .tup (L.map rowQ)] ∧ (1 ≤ L.length ∧ L.length ≤ 12) ∧ (∀ l ∈ L, l.length ≤ 12) ∧ Lq L ∧ ∀ d, LoadX d → Q d

def t__law_bent_load : RS := (rSeq (rSet 2 (rCall 2 sp__law_draw (rCons (rVar 0) (rCons (rCB gLen (rCons (rVar 1) rNil)) rNil))))
    (rSeq (rIf (rTV (rOp gEq (rCall 2 sp__law_draw (rCons (rVar 0) (rCons (rC (.int 4)) rNil))) (rC (.int 0)))) (rRet (rCall 2 sp__law_pick (rCons (rVar 0) (rCons (rL (rLst (rCons (rSl (rVar 1) (rC none) (rPart (rUn gNeg (rC (.int 1))))) (rCons (rOp gAdd (rVar 1) (rSl (rVar 1) (rC none) (rPart (rC (.int 1))))) (rCons (rC .non) (rCons (rC (.int 7)) (rCons (rC (.str "load")) (rCons (rC (.dct [])) rNil)))))))) rNil)))) rNext)
    (rRet (rOp gAdd (rOp gAdd (rSl (rVar 1) (rC none) (rPart (rVar 2))) (rTup (rCons (rCall 2 sp__law_bent_row (rCons (rVar 0) (rCons (rOp gIx (rVar 1) (rVar 2)) rNil))) rNil))) (rSl (rVar 1) (rPart (rOp gAdd (rVar 2) (rC (.int 1)))) (rC none))))))

theorem ld_pl {L : List (List Rat)} (h : L.length ≤ 65536) (h2 : ∀ l ∈ L, l.length ≤ 65536) : plD (.tup (L.map rowQ)) = true := plD_mkt (by rw [List.length_map]; exact h) fun x hx => by
  obtain ⟨l, hl, rfl⟩ := List.mem_map.mp hx
  exact row_pl (h2 l hl)
theorem LoadX.of {L : List (List Rat)} (h : L.length ≤ 65536) (h2 : ∀ l ∈ L, l.length ≤ 65536) (hq : Lq L) : LoadX (.tup (L.map rowQ)) := ⟨ld_pl h h2, fun _ _ => ⟨L, rfl, hq⟩⟩
theorem LoadX.no {d : D} (h : plD d = true) (hn : isLstD d = false) : LoadX d := ⟨h, fun R z => by
  unfold fitI at z
  rw [hn] at z
  cases z⟩
/-- of a load that fits each item is a row -/
theorem fit_row {ns : List Nat} {xs : List D} (h : fitI ns (.tup xs) = true) : ∀ x ∈ xs, rowOk x = true := fun x hx => by
  unfold fitI at h
  obtain ⟨_, h⟩ := Bool.and_eq_true_iff.mp h
  obtain ⟨h1, h2⟩ := Bool.and_eq_true_iff.mp h
  have h1 : xs.length = ns.length := of_decide_eq_true h1
  obtain ⟨k, hk, rfl⟩ := List.getElem_of_mem hx
  have := List.all_eq_true.mp h2 k (List.mem_range.mpr (by omega))
  have e : (itemsL (D.tup xs)).getD k .non = xs[k] := getD_of (List.getElem?_eq_getElem hk)
  rw [e] at this
  unfold isRowD at this
  obtain ⟨a, b⟩ := Bool.and_eq_true_iff.mp this
  obtain ⟨_, c⟩ := Bool.and_eq_true_iff.mp b
  unfold rowOk
  rw [a, c]
  rfl
theorem LoadX.mid {as bs : List (List Rat)} {x : D} (ha : as.length ≤ 12) (hb : bs.length ≤ 12) (a2 : ∀ l ∈ as, l.length ≤ 12) (b2 : ∀ l ∈ bs, l.length ≤ 12) (qa : Lq as) (qb : Lq bs) (hx : RowD 1900 x) : LoadX (.tup (as.map rowQ ++ [x] ++ bs.map rowQ)) := by
  refine ⟨plD_mkt (by simp only [List.length_append, List.length_map, List.length_singleton]; omega) fun y hy => ?_, fun R z => ?_⟩
  · rcases List.mem_append.mp hy with hy | hy
    · rcases List.mem_append.mp hy with hy | hy
      · obtain ⟨l, hl, rfl⟩ := List.mem_map.mp hy
        exact row_pl (by have := a2 l hl; omega)
      · rw [List.mem_singleton.mp hy]
        exact hx.1
    · obtain ⟨l, hl, rfl⟩ := List.mem_map.mp hy
      exact row_pl (by have := b2 l hl; omega)
  · obtain ⟨rs, rfl, _, hr⟩ := hx.2.2 (fit_row z x (by simp))
    refine ⟨as ++ [rs] ++ bs, by simp [rowQ], fun l hl => ?_⟩
    rcases List.mem_append.mp hl with hl | hl
    · rcases List.mem_append.mp hl with hl | hl
      · exact qa l hl
      · rw [List.mem_singleton.mp hl]
        exact hr
    · exact qb l hl
theorem cutq_map {L : List (List Rat)} {lo hi : Option Int} : L3.cutD (L.map rowQ) lo hi = (L3.cutD L lo hi).map rowQ := by
  unfold L3.cutD
  rw [List.length_map, List.map_take, List.map_drop]
theorem pl__law_bent_load : ∀ (ds : List D) (Q : D → Prop) (E : XD → Prop), ds.length = 2 → sp__law_bent_load ds Q E → t__law_bent_load { nx := fun _ => Q .non, rt := Q, ex := E } (start3 3 ds) := fun ds Q E hl h => by
  obtain ⟨L, rfl, ⟨l1, l12⟩, hr, hq, q⟩ := h
  have hLl : ((L.map rowQ).length : Nat) = L.length := List.length_map ..
  have cl : ∀ lo hi, (L3.cutD L lo hi).length ≤ 12 := fun lo hi => Nat.le_trans cut_len l12
  have c2 : ∀ lo hi, ∀ l ∈ L3.cutD L lo hi, l.length ≤ 12 := fun lo hi l h => hr l (cut_mem h)
  have cq : ∀ lo hi, Lq (L3.cutD L lo hi) := fun lo hi l h => hq l (cut_mem h)
  refine ⟨rfl, ⟨by show 0 < (((L.map rowQ).length : Nat) : Int); omega, by show (((L.map rowQ).length : Nat) : Int) < _; omega⟩, fun k k0 k1 => ?_⟩
  have k1 : k < (((L.map rowQ).length : Nat) : Int) := k1
  obtain ⟨k, rfl⟩ := Int.eq_ofNat_of_zero_le k0
  refine ⟨rfl, ⟨by decide, by decide⟩, fun w w0 w1 => ?_⟩
  conv => whnf
  split
  · refine ⟨?_, sz 6, rfl, _, _, rfl, .inr rfl, by show 1 ≤ 6; decide, by show 6 ≤ 65536; decide, fun x hx => ?_⟩
    · show (L.map rowQ).length + (L3.cutD (L.map rowQ) none (some 1)).length ≤ sizeLine
      have := cut_len (rs := L.map rowQ) (lo := none) (hi := some 1)
      rw [hLl] at this ⊢
      exact le_size (by omega)
    · refine q x ?_
      simp only [List.mem_cons, List.mem_nil_iff, or_false] at hx
      rcases hx with rfl | rfl | rfl | rfl | rfl | rfl
      · rw [cutq_map]
        exact .of (by have := cl none (some (-1)); omega) (fun l h => by have := c2 _ _ l h; omega) (cq _ _)
      · rw [cutq_map, ← List.map_append]
        refine .of (by rw [List.length_append]; have := cl none (some 1); omega) (fun l h => ?_) fun l h => ?_
        · rcases List.mem_append.mp h with h |  h
          · have := hr l h; omega
          · have := c2 _ _ l h; omega
        · rcases List.mem_append.mp h with h |  h
          · exact hq l h
          · exact cq _ _ l h
      · exact .no rfl rfl
      · exact .no rfl rfl
      · exact .no rfl rfl
      · exact .no rfl rfl
  · obtain ⟨l, gl, ml⟩ := get_lt (xs := L) (k := k) (by omega)
    show (match atI (L.map rowQ) ((k : Nat) : Int) with | some d => _ | none => False)
    rw [atJ_nat (map_get gl)]
    refine ⟨rfl, 1900, l, rfl, by decide, by decide, hr l ml, hq l ml, fun x hx _ => ⟨sz 1, ?_, ?_⟩⟩
    · show (L3.cutD (L.map rowQ) none (some (k : Int))).length + 1 ≤ sizeLine
      rw [cutq_map, List.length_map]
      exact le_size (by have := cl none (some (k : Int)); omega)
    · refine ⟨?_, ?_⟩
      · show (L3.cutD (L.map rowQ) none (some (k : Int)) ++ [x]).length + (L3.cutD (L.map rowQ) (some ((k : Int) + 1)) none).length ≤ sizeLine
        rw [cutq_map, cutq_map, List.length_append, List.length_map, List.length_map, List.length_singleton]
        exact le_size (by have := cl none (some (k : Int)); have := cl (some ((k : Int) + 1)) none; omega)
      · show Q (.tup (L3.cutD (L.map rowQ) none (some (k : Int)) ++ [x] ++ L3.cutD (L.map rowQ) (some ((k : Int) + 1)) none))
        rw [cutq_map, cutq_map]
        exact q _ (.mid (cl _ _) (cl _ _) (c2 _ _) (c2 _ _) (cq _ _) (cq _ _) hx)

def sp__law_moved : Sp3 := fun ds Q _ => ∃ L : List (List Rat), ds = [.pen, .tup (L.map rowQ)] ∧ (1 ≤ L.length ∧ L.length ≤ 12) ∧ (∀ l ∈ L, 1 ≤ l.length ∧ l.length ≤ 12 ∧ ∀ x ∈ l, Sz 1700 x) ∧ ∀ L', L'.map List.length = L.map List.length → Lq L' → Q (.tup (L'.map rowQ))

def t__law_moved : RS := (rSeq (rSet 2 (rCall 2 sp__law_draw (rCons (rVar 0) (rCons (rCB gLen (rCons (rVar 1) rNil)) rNil))))
    (rSeq (rSet 3 (rCall 2 sp__law_draw (rCons (rVar 0) (rCons (rCB gLen (rCons (rOp gIx (rVar 1) (rVar 2)) rNil)) rNil))))
    (rSeq (rSet 4 (rCall 2 sp__law_pick (rCons (rVar 0) (rCons (rL (rLst (rCons (rC (.int 1)) (rCons (rUn gNeg (rC (.int 1))) (rCons (rTup (rCons (rC (.int 1)) (rCons (rC (.int 7)) rNil))) (rCons (rTup (rCons (rUn gNeg (rC (.int 1))) (rCons (rOp gPow (rC (.int 10)) (rC (.int 30))) rNil))) (rCons (rOp gPow (rC (.int 10)) (rC (.int 39))) rNil))))))) rNil))))
    (rSeq (rSet 5 (rOp gAdd (rOp gAdd (rSl (rOp gIx (rVar 1) (rVar 2)) (rC none) (rPart (rVar 3))) (rTup (rCons (rCall 2 sp__law_plus (rCons (rOp gIx (rOp gIx (rVar 1) (rVar 2)) (rVar 3)) (rCons (rVar 4) rNil))) rNil))) (rSl (rOp gIx (rVar 1) (rVar 2)) (rPart (rOp gAdd (rVar 3) (rC (.int 1)))) (rC none))))
    (rRet (rOp gAdd (rOp gAdd (rSl (rVar 1) (rC none) (rPart (rVar 2))) (rTup (rCons (rVar 5) rNil))) (rSl (rVar 1) (rPart (rOp gAdd (rVar 2) (rC (.int 1)))) (rC none))))))))

theorem cut_at {α : Type} {xs : List α} {k : Nat} (h : k < xs.length) : L3.cutD xs none (some (k : Int)) = xs.take k ∧ L3.cutD xs (some ((k : Int) + 1)) none = xs.drop (k + 1) := by
  unfold L3.cutD
  have e1 : HT.sIx xs.length xs.length (some (k : Int)) = k := by rw [HT.sIx_nat]; omega
  have e2 : HT.sIx xs.length 0 (some ((k : Int) + 1)) = k + 1 := by
    have := HT.sIx_nat xs.length 0 (k + 1)
    rw [show (((k + 1 : Nat) : Nat) : Int) = (k : Int) + 1 by omega] at this
    rw [this]
    omega
  rw [e1, e2, HT.sIx_none, HT.sIx_none]
  constructor
  · simp
  · exact List.take_of_length_le (by rw [List.length_drop]; omega)
/-- one item is changed -/
def putAt {α : Type} (xs : List α) (k : Nat) (x : α) : List α := xs.take k ++ [x] ++ xs.drop (k + 1)
theorem putAt_map {α β : Type} (f : α → β) (xs : List α) (k : Nat) (x : α) : (putAt xs k x).map f = (xs.map f).take k ++ [f x] ++ (xs.map f).drop (k + 1) := by
  unfold putAt
  rw [List.map_append, List.map_append, List.map_take, List.map_drop]
  rfl
theorem putAt_len {α : Type} {xs : List α} {k : Nat} {x : α} (h : k < xs.length) : (putAt xs k x).length = xs.length := by
  unfold putAt
  simp only [List.length_append, List.length_take, List.length_drop, List.length_singleton]
  omega
theorem putAt_mem {α : Type} {xs : List α} {k : Nat} {x y : α} (h : y ∈ putAt xs k x) : y = x ∨ y ∈ xs := by
  unfold putAt at h
  rcases (List.mem_append.mp h) with h | h
  · rcases List.mem_append.mp h with h |  h
    · exact .inr (List.mem_of_mem_take h)
    · exact .inl (List.mem_singleton.mp h)
  · exact .inr (List.mem_of_mem_drop h)
theorem putAt_lens {α : Type} {xs : List (List α)} {k : Nat} {x y : List α} (g : xs[k]? = some y) (h : x.length = y.length) : (putAt xs k x).map List.length = xs.map List.length := by
  obtain ⟨g1, g2⟩ := List.getElem?_eq_some_iff.mp g
  rw [putAt_map, h, ← g2]
  have e : (xs[k]).length = (xs.map List.length)[k]'(by rw [List.length_map]; exact g1) := by rw [List.getElem_map]
  rw [e, List.append_assoc, List.singleton_append, ← List.drop_eq_getElem_cons, List.take_append_drop]
theorem pl__law_moved : ∀ (ds : List D) (Q : D → Prop) (E : XD → Prop), ds.length = 2 → sp__law_moved ds Q E → t__law_moved { nx := fun _ => Q .non, rt := Q, ex := E } (start3 6 ds) := fun ds Q E hl h => by
  obtain ⟨L, rfl, ⟨l1, l12⟩, hr, q⟩ := h
  have hLl : ((L.map rowQ).length : Nat) = L.length := List.length_map ..
  refine ⟨rfl, ⟨by show 0 < (((L.map rowQ).length : Nat) : Int); omega, by show (((L.map rowQ).length : Nat) : Int) < _; omega⟩, fun k k0 k1 => ?_⟩
  have k1 : k < (((L.map rowQ).length : Nat) : Int) := k1
  obtain ⟨k, rfl⟩ := Int.eq_ofNat_of_zero_le k0
  have kl : k < L.length := by omega
  obtain ⟨l, gl, ml⟩ := get_lt kl
  obtain ⟨a1, a12, asz⟩ := hr l ml
  have hll : ((l.map ratD).length : Nat) = l.length := List.length_map ..
  have at1 : ∀ Q : D → Prop, Q (rowQ l) → gIx (.tup (L.map rowQ)) (.int ((k : Nat) : Int)) Q := fun Q q => by
    show (match atI (L.map rowQ) ((k : Nat) : Int) with | some d => Q d | none => False)
    rw [atJ_nat (map_get gl)]
    exact q
  refine at1 _ ?_
  refine ⟨rfl, ⟨by show 0 < (((l.map ratD).length : Nat) : Int); omega, by show (((l.map ratD).length : Nat) : Int) < _; omega⟩, fun i i0 i1 => ?_⟩
  have i1 : i < (((l.map ratD).length : Nat) : Int) := i1
  obtain ⟨i, rfl⟩ := Int.eq_ofNat_of_zero_le i0
  have il : i < l.length := by omega
  obtain ⟨x, gx, mx⟩ := get_lt il
  have at2 : ∀ Q : D → Prop, Q (ratD x) → gIx (rowQ l) (.int ((i : Nat) : Int)) Q := fun Q q => by
    show (match atI (l.map ratD) ((i : Nat) : Int) with | some d => Q d | none => False)
    rw [atJ_nat (map_get gx)]
    exact q
  have c30 : CPow 10 30 := ⟨by decide, by decide, by decide⟩
  have c39 : CPow 10 39 := ⟨by decide, by decide, by decide⟩
  refine ⟨sz 2, c30, sz 2, c39, sz 5, rfl, _, _, rfl, .inr rfl, by show 1 ≤ 5; decide, by show 5 ≤ 65536; decide, fun y hy => ?_⟩
  obtain ⟨r, rfl, hrs⟩ : ∃ r, y = ratD r ∧ Sz 140 r := by
    have mk : ∀ y : D, isRatD y = true → ∀ a b : Int, (y = .int a ∨ y = .tup [.int a, .int b]) → a.natAbs < 2 ^ 140 → b.natAbs < 2 ^ 140 → ∃ r, y = ratD r ∧ Sz 140 r := fun y h a b hy ha hb => by
      obtain ⟨r, rfl⟩ := rat_of h
      refine ⟨r, rfl, ?_⟩
      rcases isI r with ⟨e0, e1⟩ | ⟨e0, e1⟩ <;> rw [e1] at hy
      · rcases hy with hy | hy
        · cases hy
          exact ⟨ha, by rw [e0]; decide⟩
        · cases hy
      · rcases hy with hy | hy
        · cases hy
        · injection hy with hy
          injection hy with h1 h2
          injection h2 with h2 _
          injection h1 with h1
          injection h2 with h2
          exact ⟨by rw [h1]; exact ha, by show ((r.den : Nat) : Int).natAbs < _; rw [h2]; exact hb⟩
    simp only [List.mem_cons, List.mem_nil_iff, or_false] at hy
    rcases hy with rfl | rfl | rfl | rfl | rfl
    · exact mk _ rfl 1 0 (.inl rfl) (by decide) (by decide)
    · exact mk _ rfl (-1) 0 (.inl rfl) (by decide) (by decide)
    · exact mk _ (by decide +kernel) 1 7 (.inr rfl) (by decide) (by decide)
    · exact mk _ (by decide +kernel) (-1) _ (.inr rfl) (by decide) (by decide +kernel)
    · exact mk _ rfl _ 0 (.inl rfl) (by decide +kernel) (by decide)
  obtain ⟨c1, c2⟩ := cut_at (xs := l.map ratD) (k := i) (by omega)
  obtain ⟨c3, c4⟩ := cut_at (xs := L.map rowQ) (k := k) (by omega)
  refine at1 _ (at1 _ (at2 _ ?_))
  have hsx : Sz 1900 (x + r) := ((asz x mx).add hrs).mono (by decide)
  refine ⟨rfl, x, r, rfl, (asz x mx).mono (by decide), hrs.mono (by decide), sz 1, ?_, ?_⟩
  · show (L3.cutD (l.map ratD) none (some (i : Int))).length + 1 ≤ sizeLine
    rw [c1, List.length_take]
    exact le_size (by omega)
  · refine at1 _ ⟨?_, ?_⟩
    · show (L3.cutD (l.map ratD) none (some (i : Int)) ++ [ratD (x + r)]).length + (L3.cutD (l.map ratD) (some ((i : Int) + 1)) none).length ≤ sizeLine
      rw [c1, c2, List.length_append, List.length_take, List.length_drop, List.length_singleton]
      exact le_size (by omega)
    · have er : D.tup (L3.cutD (l.map ratD) none (some (i : Int)) ++ [ratD (x + r)] ++ L3.cutD (l.map ratD) (some ((i : Int) + 1)) none) = rowQ (putAt l i (x + r)) := by
        rw [c1, c2]
        unfold rowQ
        rw [putAt_map]
      have fin : ∀ t : D, t = rowQ (putAt l i (x + r)) → (rRet (rOp gAdd (rOp gAdd (rSl (rVar 1) (rC none) (rPart (rVar 2))) (rTup (rCons (rVar 5) rNil))) (rSl (rVar 1) (rPart (rOp gAdd (rVar 2) (rC (.int 1)))) (rC none)))) { nx := fun _ => Q .non, rt := Q, ex := E } [.val .pen, .val (.tup (L.map rowQ)), .val (.int (k : Nat)), .val (.int (i : Nat)), .val (ratD r), .val t] := fun t et => by
        subst et
        refine ⟨sz 1, ?_, ?_⟩
        · show (L3.cutD (L.map rowQ) none (some (k : Int))).length + 1 ≤ sizeLine
          rw [c3, List.length_take]
          exact le_size (by omega)
        · refine ⟨?_, ?_⟩
          · show (L3.cutD (L.map rowQ) none (some (k : Int)) ++ [rowQ (putAt l i (x + r))]).length + (L3.cutD (L.map rowQ) (some ((k : Int) + 1)) none).length ≤ sizeLine
            rw [c3, c4, List.length_append, List.length_take, List.length_drop, List.length_singleton]
            exact le_size (by omega)
          · have eR : D.tup (L3.cutD (L.map rowQ) none (some (k : Int)) ++ [rowQ (putAt l i (x + r))] ++ L3.cutD (L.map rowQ) (some ((k : Int) + 1)) none) = .tup ((putAt L k (putAt l i (x + r))).map rowQ) := by
              rw [c3, c4, putAt_map]
            show Q (D.tup (L3.cutD (L.map rowQ) none (some (k : Int)) ++ [rowQ (putAt l i (x + r))] ++ L3.cutD (L.map rowQ) (some ((k : Int) + 1)) none))
            rw [eR]
            refine q _ (putAt_lens gl (putAt_len il)) fun t ht y hy => ?_
            rcases putAt_mem ht with rfl | ht
            · rcases putAt_mem hy with rfl | hy
              · exact hsx
              · exact (asz y hy).mono (by decide)
            · exact ((hr t ht).2.2 y hy).mono (by decide)
      exact fin _ er

def sp__law_resting : Sp3 := fun ds Q _ => ∃ R L ss, ds = [rowsQ R, .tup (L.map rowQ), rowQ ss] ∧ FrOk R ∧ LdOk R L ∧ StOk R ss ∧ Q (.tup ((slQ R L ss).map restQ))

def t__law_resting : RS := (rSeq (rSetL 3 (rLst rNil))
    (rSeq (rFor (rIt (rCall 3 sp__law_slacks (rCons (rVar 0) (rCons (rVar 1) (rCons (rVar 2) rNil))))) (g3N 4) (rApp 3 (rCB gTuple (rCons (rL (rComp (rRange1 (rCons (rCB gLen (rCons (rVar 4) rNil)) rNil)) (g3N 5) (rTV (rOp gEq (rOp gIx (rVar 4) (rVar 5)) (rC (.int 0)))) (rVar 5) [5])) rNil))))
    (rFrz 3 (rRet (rCB gTuple (rCons (rVar 3) rNil))))))

theorem pl__law_resting : ∀ (ds : List D) (Q : D → Prop) (E : XD → Prop), ds.length = 3 → sp__law_resting ds Q E → t__law_resting { nx := fun _ => Q .non, rt := Q, ex := E } (start3 6 ds) := fun ds Q E hl h => by
  obtain ⟨R, L, ss, rfl, fo, ld, st, q⟩ := h
  refine ⟨by show 3 < 6; decide, by show 0 ≤ sizeLine; exact Nat.zero_le _, rfl, R, L, ss, rfl, fo, ld, st, ?_⟩
  obtain ⟨s1, s2⟩ := sl_len fo ld st
  show forL _ _ _ ((slQ R L ss).map rowQ) _
  refine for_inv (fun l ρ => ∃ (done rest : List (List Rat)) (a c : Sl), done ++ rest = slQ R L ss ∧ l = rest.map rowQ ∧ ρ = [.val (rowsQ R), .val (.tup (L.map rowQ)), .val (rowQ ss), .own (done.map restQ), a, c]) (fun x l ρ K hI hK => ?_) (fun ρ hI => ?_) _ _ ⟨[], slQ R L ss, .emp, .emp, rfl, rfl, rfl⟩
  · obtain ⟨done, rest, a, c, hd, el, rfl⟩ := hI
    cases rest with
    | nil => cases el
    | cons t rest =>
      cases el
      obtain ⟨t12, t1⟩ := s2 t (by rw [← hd]; simp)
      have hlen := congrArg List.length hd
      simp only [List.length_append, List.length_cons] at hlen
      unfold rApp
      show rCB gTuple _ [.val (rowsQ R), .val (.tup (L.map rowQ)), .val (rowQ ss), .own (done.map restQ), .val (rowQ t), c] _ _
      refine rest_comp (ρ := [.val (rowsQ R), .val (.tup (L.map rowQ)), .val (rowQ ss), .own (done.map restQ), .val (rowQ t), c]) t12 rfl (fun _ => rfl) (fun _ => rfl) ⟨by show (done.map restQ).length < sizeLine; rw [List.length_map]; exact Nat.lt_of_lt_of_le (by omega : done.length < 13) (by decide), hK _ ⟨done ++ [t], rest, .val (rowQ t), c, by simp [hd], rfl, ?_⟩⟩
      rw [List.map_append]
      rfl
  · obtain ⟨done, rest, a, c, hd, el, rfl⟩ := hI
    cases rest with
    | cons x y => cases el
    | nil =>
      rw [List.append_nil] at hd
      subst hd
      exact q

def sp__law_right : Sp3 := fun ds Q _ => ∃ R L ss, ds = [rowsQ R, .tup (L.map rowQ), rowQ ss] ∧ FrOk R ∧ LdOk R L ∧ StOk R ss ∧ Q (.bl true)

def t__law_right : RS := (rSeq (rSet 3 (rCall 1 sp__law_made (rCons (rVar 0) rNil)))
    (rSeq (rIf (rNot (rTV (rCall 2 sp__law_is (rCons (rCall 3 sp_slacks (rCons (rVar 3) (rCons (rVar 1) (rCons (rVar 2) rNil)))) (rCons (rCall 3 sp__law_slacks (rCons (rVar 0) (rCons (rVar 1) (rCons (rVar 2) rNil)))) rNil))))) (rRet (rC (.bl false))) rNext)
    (rSeq (rIf (rNot (rTV (rCall 2 sp__law_is (rCons (rCall 3 sp_resting (rCons (rVar 3) (rCons (rVar 1) (rCons (rVar 2) rNil)))) (rCons (rCall 3 sp__law_resting (rCons (rVar 0) (rCons (rVar 1) (rCons (rVar 2) rNil)))) rNil))))) (rRet (rC (.bl false))) rNext)
    (rSeq (rSet 4 (rCall 3 sp__law_answers (rCons (rVar 0) (rCons (rVar 1) (rCons (rVar 2) rNil)))))
    (rSeq (rIf (rTV (rIsNotB false (rCall 3 sp_is_answer (rCons (rVar 3) (rCons (rVar 1) (rCons (rL (rListOf (rVar 2))) rNil)))))) (rRet (rC (.bl false))) rNext)
    (rRet (rCall 2 sp__law_says (rCons (rCall 3 sp_is_answer (rCons (rVar 3) (rCons (rVar 1) (rCons (rVar 2) rNil)))) (rCons (rVar 4) rNil)))))))))

theorem LdOk.pl {R : List (List (List Rat))} {L : List (List Rat)} (fo : FrOk R) (ld : LdOk R L) : L.length ≤ 12 ∧ ∀ l ∈ L, 1 ≤ l.length ∧ l.length ≤ 12 := by
  have e := ld_len ld
  refine ⟨by have := fo.h12; omega, fun l hl => ?_⟩
  have : l.length ∈ R.map List.length := by
    rw [← ld.1]
    exact List.mem_map.mpr ⟨l, hl, rfl⟩
  obtain ⟨b, hb, e2⟩ := List.mem_map.mp this
  have := fo.hb b hb
  omega
theorem st_pl {R : List (List (List Rat))} {ss : List Rat} (fo : FrOk R) (st : StOk R ss) : plD (rowQ ss) = true := row_pl (by have := st.1; have := fo.h12; omega)
theorem load_pl {R : List (List (List Rat))} {L : List (List Rat)} (fo : FrOk R) (ld : LdOk R L) : plD (.tup (L.map rowQ)) = true := by
  obtain ⟨a, b⟩ := ld.pl fo
  exact ld_pl (by omega) fun l h => by have := b l h; omega
theorem load_fit {R : List (List (List Rat))} {L : List (List Rat)} (ld : LdOk R L) : fitI (lensQ R) (.tup (L.map rowQ)) = true := by
  have e := ld_len ld
  have e2 : (lensQ R).length = R.length := List.length_map ..
  have a1 : decide ((itemsL (D.tup (L.map rowQ))).length = (lensQ R).length) = true := decide_eq_true (by show (L.map rowQ).length = _; rw [List.length_map, e, e2])
  unfold fitI
  rw [a1, show isLstD (D.tup (L.map rowQ)) = true from rfl, Bool.true_and, Bool.true_and, List.all_eq_true]
  intro k hk
  have hk := List.mem_range.mp hk
  obtain ⟨l, gl, _⟩ := get_lt (xs := L) (k := k) (by omega)
  obtain ⟨b, gb, _⟩ := get_lt (xs := R) (k := k) (by omega)
  rw [show (itemsL (D.tup (L.map rowQ))).getD k .non = rowQ l from getD_of (map_get gl), getD_of (show (lensQ R)[k]? = some b.length from map_get gb), isRow_q]
  have : (L.map List.length)[k]? = (R.map List.length)[k]? := by rw [ld.1]
  rw [map_get gl, map_get gb] at this
  injection this with this
  exact decide_eq_true (by  omega)
theorem tiD_mk {xs : List D} (h : xs.length ≤ 65536) (h2 : ∀ x ∈ xs, tiD x = true) : tiD (.tup xs) = true := by
  unfold tiD
  rw [decide_eq_true h, tiDs_of h2]
  rfl
theorem row_ti {r : List Rat} (h : r.length ≤ 65536) : tiD (rowQ r) = true ∧ dpD (rowQ r) ≤ 2 := ⟨tiD_mk (by rw [List.length_map]; exact h) fun x hx => by
  obtain ⟨q, _, rfl⟩ := List.mem_map.mp hx
  exact (rat_ti q).1, (tup_row r).2⟩
theorem rest_ti {t : List Rat} (h : t.length ≤ 12) : tiD (restQ t) = true ∧ dpD (restQ t) ≤ 2 := by
  refine ⟨tiD_mk (by rw [List.length_map]; have := List.length_filter_le (fun k => decide (t.getD k 1 = 0)) (List.range t.length); rw [List.length_range] at this; omega) fun x hx => ?_, ?_⟩
  · obtain ⟨q, _, rfl⟩ := List.mem_map.mp hx
    rfl
  · unfold restQ dpD
    refine Nat.succ_le_succ (dpDs_le' (n := 1) fun x hx => ?_)
    obtain ⟨q, _, rfl⟩ := List.mem_map.mp hx
    exact Nat.zero_le _
theorem is_tups {xs : List D} (h : xs.length ≤ 65536) (h2 : ∀ x ∈ xs, tiD x = true ∧ dpD x ≤ 2) {Q : D → Prop} {E : XD → Prop} (q : Q (.bl true)) : sp__law_is [.tup xs, .tup xs] Q E := by
  refine ⟨_, rfl, tiD_mk h fun x hx => (h2 x hx).1, ?_, q⟩
  unfold dpD
  have := dpDs_le' (n := 2) fun x hx => (h2 x hx).2
  omega
theorem pl__law_right : ∀ (ds : List D) (Q : D → Prop) (E : XD → Prop), ds.length = 3 → sp__law_right ds Q E → t__law_right { nx := fun _ => Q .non, rt := Q, ex := E } (start3 5 ds) := fun ds Q E hl h => by
  obtain ⟨R, L, ss, rfl, fo, ld, st, q⟩ := h
  refine ⟨rfl, R, rfl, fo, fun d fr => ?_⟩
  obtain ⟨s1, s2⟩ := sl_len fo ld st
  have lp := load_pl fo ld
  have sp := st_pl fo st
  have lf := load_fit ld
  have sr : isRowD (rowQ ss) (R.length : Nat) = true := by rw [isRow_q]; exact decide_eq_true (by rw [st.1])
  have sl : ∀ (Q : D → Prop) (E : XD → Prop), Q (.tup ((slQ R L ss).map rowQ)) → sp_slacks [d, .tup (L.map rowQ), rowQ ss] Q E := fun Q E q => ⟨d, R, _, _, rfl, fr, lp, sp, by rw [if_pos lf, if_pos sr]; exact ⟨L, ss, rfl, rfl, ld, st, q⟩⟩
  have rs : ∀ (Q : D → Prop) (E : XD → Prop), Q (.tup ((slQ R L ss).map restQ)) → sp_resting [d, .tup (L.map rowQ), rowQ ss] Q E := fun Q E q => ⟨d, R, _, _, rfl, fr, lp, sp, by rw [if_pos lf, if_pos sr]; exact ⟨L, ss, rfl, rfl, ld, st, q⟩⟩
  have t1 : ∀ x ∈ (slQ R L ss).map rowQ, tiD x = true ∧ dpD x ≤ 2 := fun x hx => by
    obtain ⟨t, ht, rfl⟩ := List.mem_map.mp hx
    exact row_ti (by have := s2 t ht; omega)
  have t2 : ∀ x ∈ (slQ R L ss).map restQ, tiD x = true ∧ dpD x ≤ 2 := fun x hx => by
    obtain ⟨t, ht, rfl⟩ := List.mem_map.mp hx
    exact rest_ti (s2 t ht).1
  refine ⟨rfl, sl _ _ ⟨rfl, R, L, ss, rfl, fo, ld, st, rfl, is_tups (by rw [List.length_map]; omega) t1 ?_⟩⟩
  refine ⟨rfl, rs _ _ ⟨rfl, R, L, ss, rfl, fo, ld, st, rfl, is_tups (by rw [List.length_map]; omega) t2 ?_⟩⟩
  refine ⟨rfl, R, L, ss, rfl, fo, ld, st, ?_⟩
  have lpl : plD (.lst (ss.map ratD)) = true := plD_mkl (by rw [List.length_map]; have := st.1; have := fo.h12; omega) (plD_tup sp).2
  refine ⟨by show (ss.map ratD).length ≤ sizeLine; rw [List.length_map]; exact le_size (by have := st.1; have := fo.h12; omega), rfl, d, R, _, _, rfl, fr, lp, lpl, ?_⟩
  rw [if_pos lf, if_neg (by show ¬ (false && isRowD (.lst (ss.map ratD)) (R.length : Nat)) = true; simp)]
  refine ⟨rfl, d, R, _, _, rfl, fr, lp, sp, ?_⟩
  rw [if_pos lf, if_pos (by show (true && isRowD (rowQ ss) (R.length : Nat)) = true; rw [sr]; rfl)]
  exact ⟨L, ss, rfl, rfl, ld, st, rfl, _, rfl, q⟩

def sp__law_faults_right : Sp3 := fun ds Q _ => ∃ R L ss, ds = [.pen, rowsQ R, .tup (L.map rowQ), rowQ ss] ∧ FrOk R ∧ LdOk R L ∧ StOk R ss ∧ Q (.bl true)

def t__law_faults_right : RS := (rSeq (rSet 4 (rCall 1 sp__law_made (rCons (rVar 1) rNil)))
    (rSeq (rSet 5 (rIte (rTV (rOp gEq (rCall 2 sp__law_draw (rCons (rVar 0) (rCons (rC (.int 2)) rNil))) (rC (.int 0)))) (rCall 2 sp__law_bent_load (rCons (rVar 0) (rCons (rVar 2) rNil))) (rVar 2)))
    (rSeq (rSet 6 (rCall 2 sp__law_bent_row (rCons (rVar 0) (rCons (rVar 3) rNil))))
    (rSeq (rSet 7 (rIte (rNot (rTV (rCall 2 sp__law_fits (rCons (rVar 1) (rCons (rVar 5) rNil))))) (rTup (rCons (rC (.str "load")) (rCons (rC (.str "load")) rNil))) (rC .non)))
    (rSeq (rIf (rTV (rOp gNe (rFault ft__law_fault (rCall 3 sp_is_answer (rCons (rVar 4) (rCons (rVar 5) (rCons (rVar 6) rNil))))) (rVar 7))) (rRet (rC (.bl false))) rNext)
    (rSeq (rIf (rAnd (rTV (rIsN (rVar 7))) (rTV (rIsNotB false (rCall 3 sp_is_answer (rCons (rVar 4) (rCons (rVar 5) (rCons (rVar 6) rNil))))))) (rRet (rC (.bl false))) rNext)
    (rSeq (rIf (rAnd (rTV (rIsN (rVar 7))) (rNot (rTV (rCall 2 sp__law_is_any_row (rCons (rVar 6) (rCons (rCB gLen (rCons (rVar 1) rNil)) rNil)))))) (rSet 7 (rTup (rCons (rC (.str "row")) (rCons (rC (.str "standing")) (rCons (rRepr (rVar 6)) rNil))))) rNext)
    (rSeq (rIf (rTV (rOp gNe (rFault ft__law_fault (rCall 3 sp_slacks (rCons (rVar 4) (rCons (rVar 5) (rCons (rVar 6) rNil))))) (rVar 7))) (rRet (rC (.bl false))) rNext)
    (rRet (rOp gEq (rFault ft__law_fault (rCall 3 sp_resting (rCons (rVar 4) (rCons (rVar 5) (rCons (rVar 6) rNil))))) (rVar 7)))))))))))

theorem told2n {a b : Str} (ha : PyData.strOk a = true) (hb : PyData.strOk b = true) {Q : D → Prop} (q : Q (.bl false)) : gNe (.tup [.str a, .str b]) (.tup [.str a, .str b]) Q := by
  have k : okEq (.tup [.str a, .str b]) = true := by
    simp [okEq, pyD, pyDs, SeqAt.shaped, PyData.canLay0, PyData.canLayAll0, PyData.depth, PyData.depthAll, ha, hb]
  have e : eqD (.tup [.str a, .str b]) (.tup [.str a, .str b]) = true := by
    simp [eqD, pyD, pyDs, PyData.eqv, PyData.eqvAll]
  refine ⟨k, k, ?_⟩
  rw [e]
  exact q
theorem told3n {a b c : Str} (ha : PyData.strOk a = true) (hb : PyData.strOk b = true) (hc : PyData.strOk c = true) {Q : D → Prop} (q : Q (.bl false)) : gNe (.tup [.str a, .str b, .str c]) (.tup [.str a, .str b, .str c]) Q := by
  have k := ok3 ha hb hc
  refine ⟨k, k, ?_⟩
  rw [told3]
  exact q
theorem gNe_non {Q : D → Prop} (q : Q (.bl false)) : gNe .non .non Q := ⟨rfl, rfl, q⟩
theorem isRow_list {v : D} {n : Nat} (hl : isLstD v = false) : isRowD v (n : Nat) = false := by
  unfold isRowD
  rw [hl]
  rfl
theorem pl__law_faults_right : ∀ (ds : List D) (Q : D → Prop) (E : XD → Prop), ds.length = 4 → sp__law_faults_right ds Q E → t__law_faults_right { nx := fun _ => Q .non, rt := Q, ex := E } (start3 8 ds) := fun ds Q E hl h => by
  obtain ⟨R, L, ss, rfl, fo, ld, st, q⟩ := h
  refine ⟨rfl, R, rfl, fo, fun d fr => ?_⟩
  obtain ⟨a12, ab⟩ := ld.pl fo
  have e0 := ld_len ld
  have hRl : ((R.map bunQ).length : Nat) = R.length := List.length_map ..
  have kld : kd blE (.tup [.str "load", .str "load"]) := kdi_BadLoad (x_what := .str "load")
  have rest : ∀ (bent odd : D), LoadX bent → RowD 140 odd → isRowD odd (ss.length : Nat) = false → ∀ N : En3, N.rt = Q → (rSeq (rSet 7 (rIte (rNot (rTV (rCall 2 sp__law_fits (rCons (rVar 1) (rCons (rVar 5) rNil))))) (rTup (rCons (rC (.str "load")) (rCons (rC (.str "load")) rNil))) (rC .non)))
    (rSeq (rIf (rTV (rOp gNe (rFault ft__law_fault (rCall 3 sp_is_answer (rCons (rVar 4) (rCons (rVar 5) (rCons (rVar 6) rNil))))) (rVar 7))) (rRet (rC (.bl false))) rNext)
    (rSeq (rIf (rAnd (rTV (rIsN (rVar 7))) (rTV (rIsNotB false (rCall 3 sp_is_answer (rCons (rVar 4) (rCons (rVar 5) (rCons (rVar 6) rNil))))))) (rRet (rC (.bl false))) rNext)
    (rSeq (rIf (rAnd (rTV (rIsN (rVar 7))) (rNot (rTV (rCall 2 sp__law_is_any_row (rCons (rVar 6) (rCons (rCB gLen (rCons (rVar 1) rNil)) rNil)))))) (rSet 7 (rTup (rCons (rC (.str "row")) (rCons (rC (.str "standing")) (rCons (rRepr (rVar 6)) rNil))))) rNext)
    (rSeq (rIf (rTV (rOp gNe (rFault ft__law_fault (rCall 3 sp_slacks (rCons (rVar 4) (rCons (rVar 5) (rCons (rVar 6) rNil))))) (rVar 7))) (rRet (rC (.bl false))) rNext)
    (rRet (rOp gEq (rFault ft__law_fault (rCall 3 sp_resting (rCons (rVar 4) (rCons (rVar 5) (rCons (rVar 6) rNil))))) (rVar 7)))))))) N [.val .pen, .val (rowsQ R), .val (.tup (L.map rowQ)), .val (rowQ ss), .val d, .val bent, .val odd, .emp] := by
    intro bent odd hb ho hor N en
    have hor : isRowD odd (R.length : Nat) = false := by rw [← st.1]; exact hor
    refine ⟨rfl, R, bent, rfl, fo, hb.1, ?_⟩
    conv => whnf
    split
    · rename_i e
      have e : (!fitI (lensQ R) bent) = true := e
      have nf : ¬ fitI (lensQ R) bent = true := by rw [nbT e]; simp
      refine ⟨sz 2, rfl, d, R, _, _, rfl, fr, hb.1, ho.1, ?_⟩
      rw [if_neg nf]
      refine ft_of kld rfl (told2n (by decide +kernel) (by decide +kernel) ?_)
      refine ⟨rfl, d, R, _, _, rfl, fr, hb.1, ho.1, ?_⟩
      rw [if_neg nf]
      refine ft_of kld rfl (told2n (by decide +kernel) (by decide +kernel) ?_)
      refine ⟨rfl, d, R, _, _, rfl, fr, hb.1, ho.1, ?_⟩
      rw [if_neg nf]
      exact told_2 kld (by decide +kernel) (by decide +kernel) (by rw [en]; exact q)
    · rename_i e
      have e : (!fitI (lensQ R) bent) = false := e
      have yf : fitI (lensQ R) bent = true := nbF e
      have na : ¬ (isTupD odd && isRowD odd (R.length : Nat)) = true := by rw [hor, Bool.and_false]; simp
      obtain ⟨k1, k2⟩ := rpD_ok ho.2.1
      refine ⟨rfl, d, R, _, _, rfl, fr, hb.1, ho.1, ?_⟩
      rw [if_pos yf, if_neg na]
      refine gNe_non ?_
      refine ⟨rfl, d, R, _, _, rfl, fr, hb.1, ho.1, ?_⟩
      rw [if_pos yf, if_neg na]
      refine ⟨rfl, odd, _, rfl, ho.1, ?_⟩
      have e1 : isRowD odd (((R.map bunQ).length : Nat) : Int) = false := by rw [hRl]; exact hor
      rw [e1]
      refine ⟨k1, sz 3, ?_⟩
      have kr : kd (brE "standing" odd) (.tup [.str "row", .str "standing", .str (reprD odd)]) := kdi_BadRow k1
      refine ⟨rfl, d, R, _, _, rfl, fr, hb.1, ho.1, ?_⟩
      rw [if_pos yf, if_neg (by rw [hor]; simp)]
      refine ft_of kr rfl (told3n (by decide +kernel) (by decide +kernel) k2 ?_)
      refine ⟨rfl, d, R, _, _, rfl, fr, hb.1, ho.1, ?_⟩
      rw [if_pos yf, if_neg (by rw [hor]; simp)]
      exact told_3 kr (by decide +kernel) (by decide +kernel) k2 (by rw [en]; exact q)
  have bentP : ∀ bent, LoadX bent → ∀ N : En3, N.rt = Q → (rSeq (rSet 6 (rCall 2 sp__law_bent_row (rCons (rVar 0) (rCons (rVar 3) rNil))))
    (rSeq (rSet 7 (rIte (rNot (rTV (rCall 2 sp__law_fits (rCons (rVar 1) (rCons (rVar 5) rNil))))) (rTup (rCons (rC (.str "load")) (rCons (rC (.str "load")) rNil))) (rC .non)))
    (rSeq (rIf (rTV (rOp gNe (rFault ft__law_fault (rCall 3 sp_is_answer (rCons (rVar 4) (rCons (rVar 5) (rCons (rVar 6) rNil))))) (rVar 7))) (rRet (rC (.bl false))) rNext)
    (rSeq (rIf (rAnd (rTV (rIsN (rVar 7))) (rTV (rIsNotB false (rCall 3 sp_is_answer (rCons (rVar 4) (rCons (rVar 5) (rCons (rVar 6) rNil))))))) (rRet (rC (.bl false))) rNext)
    (rSeq (rIf (rAnd (rTV (rIsN (rVar 7))) (rNot (rTV (rCall 2 sp__law_is_any_row (rCons (rVar 6) (rCons (rCB gLen (rCons (rVar 1) rNil)) rNil)))))) (rSet 7 (rTup (rCons (rC (.str "row")) (rCons (rC (.str "standing")) (rCons (rRepr (rVar 6)) rNil))))) rNext)
    (rSeq (rIf (rTV (rOp gNe (rFault ft__law_fault (rCall 3 sp_slacks (rCons (rVar 4) (rCons (rVar 5) (rCons (rVar 6) rNil))))) (rVar 7))) (rRet (rC (.bl false))) rNext)
    (rRet (rOp gEq (rFault ft__law_fault (rCall 3 sp_resting (rCons (rVar 4) (rCons (rVar 5) (rCons (rVar 6) rNil))))) (rVar 7))))))))) N [.val .pen, .val (rowsQ R), .val (.tup (L.map rowQ)), .val (rowQ ss), .val d, .val bent, .emp, .emp] := by
    intro bent hb N en
    exact ⟨rfl, 140, ss, rfl, by decide, by decide, by have := st.1; have := fo.h12; omega, fun s h => (st.2 s h).sz, fun odd ho hor => rest bent odd hb ho hor N en⟩
  refine ⟨rfl, ⟨by decide, by decide⟩, fun w w0 w1 => ?_⟩
  conv => whnf
  split
  · exact ⟨rfl, L, rfl, ⟨by have := fo.h1; omega, a12⟩, fun l h => (ab l h).2, ld.2, fun bent hb => bentP bent hb _ rfl⟩
  · exact bentP _ (.of (by omega) (fun l h => by have := ab l h; omega) ld.2) _ rfl

def sp_law : Sp3 := fun ds Q _ => ∃ xs, ds = [.scr xs] ∧ xs.length ≤ 63 ∧ Q (.bl true)

def t_law : RS := (rSeq (rSet 1 (rCall 1 sp__law_pen (rCons (rVar 0) rNil)))
    (rSeq (rFor (rRange1 (rCons (rC (.int 3)) rNil)) (g3N 2) (rSeq (rSet 3 (rCall 3 sp__law_any_frame (rCons (rVar 1) (rCons (rCall 3 sp__law_counts (rCons (rVar 1) (rCons (rOp gAdd (rC (.int 1)) (rCall 2 sp__law_draw (rCons (rVar 1) (rCons (rC (.int 5)) rNil)))) (rCons (rC (.int 64)) rNil)))) (rCons (rCall 2 sp__law_pick (rCons (rVar 1) (rCons (rL (rLst (rCons (rC (.int 0)) (rCons (rC (.int 1)) (rCons (rC (.int 1)) (rCons (rC (.int 3)) rNil)))))) rNil))) rNil)))))
    (rSeq (rSet 4 (rCall 3 sp__law_row (rCons (rVar 1) (rCons (rCB gLen (rCons (rVar 3) rNil)) (rCons (rCall 2 sp__law_pick (rCons (rVar 1) (rCons (rL (rLst (rCons (rC (.int 0)) (rCons (rC (.int 1)) (rCons (rC (.int 2)) (rCons (rC (.int 3)) rNil)))))) rNil))) rNil)))))
    (rSeq (rSet 5 (rCall 4 sp__law_load_at (rCons (rVar 1) (rCons (rVar 3) (rCons (rVar 4) (rCons (rCall 2 sp__law_draw (rCons (rVar 1) (rCons (rC (.int 3)) rNil))) rNil))))))
    (rSeq (rIf (rOr (rTV (rIsNotB true (rCall 3 sp_is_answer (rCons (rCall 1 sp__law_made (rCons (rVar 3) rNil)) (rCons (rVar 5) (rCons (rVar 4) rNil)))))) (rNot (rTV (rCall 3 sp__law_right (rCons (rVar 3) (rCons (rVar 5) (rCons (rVar 4) rNil))))))) (rRet (rC (.bl false))) rNext)
    (rIf (rOr (rNot (rTV (rCall 3 sp__law_right (rCons (rVar 3) (rCons (rCall 2 sp__law_moved (rCons (rVar 1) (rCons (rVar 5) rNil))) (rCons (rVar 4) rNil)))))) (rNot (rTV (rCall 4 sp__law_faults_right (rCons (rVar 1) (rCons (rVar 3) (rCons (rVar 5) (rCons (rVar 4) rNil)))))))) (rRet (rC (.bl false))) rNext))))))
    (rRet (rC (.bl true)))))

theorem sl_ld {ss : List Rat} : ∀ {R : List (List (List Rat))} {M : List (List Rat)}, M.map List.length = R.map List.length → slQ R (ldQ R M ss) ss = M
  | [], [], _ => rfl
  | [], m :: M, h => by simp at h
  | b :: R, [], h => by simp at h
  | b :: R, m :: M, h => by
    simp only [List.map_cons, List.cons.injEq] at  h
    have ih := sl_ld (ss := ss) h.2
    show slP ss (b, ldP ss (b, m)) :: slQ R (ldQ R M ss) ss = m :: M
    rw [ih]
    congr 1
    have : ∀ (b : List (List Rat)) (m : List Rat), m.length = b.length → slP ss (b, ldP ss (b, m)) = m := by
      intro b
      induction b with
      | nil => intro m h; cases m with
        | nil => rfl
        | cons _ _ => simp at h
      | cons r b ih =>
        intro m h
        cases m with
        | nil => simp at h
        | cons x m =>
          show (dotR r ss + (x - dotR r ss)) :: slP ss (b, ldP ss (b, m)) = x :: m
          rw [ih m (by simpa using h)]
          congr 1
          grind
    exact this b m h.1
theorem ans_M {M : List (List Rat)} (h : ∀ t ∈ M, (∀ m ∈ t, 0 ≤ m.num ∧ SmR m) ∧ ∃ m ∈ t, m = 0) : ansQ M = true := by
  unfold ansQ
  rw [List.all_eq_true]
  intro t ht
  obtain ⟨a, m, hm, e⟩ := h t ht
  rw [show t.all (fun x => decide (0 ≤ x.num)) = true from List.all_eq_true.mpr fun x hx => decide_eq_true (a x hx).1, show t.any (fun x => decide (x = 0)) = true from List.any_eq_true.mpr ⟨m, hm, decide_eq_true e⟩]
  rfl
theorem ld_ok {R : List (List (List Rat))} {M : List (List Rat)} {ss : List Rat} (fo : FrOk R) (h5 : R.length ≤ 5) (st : StOk R ss) (mo : MOk R M) : (ldQ R M ss).map List.length = R.map List.length ∧ ∀ l ∈ ldQ R M ss, ∀ x ∈ l, Sz 1700 x := by
  constructor
  · have : ∀ (R : List (List (List Rat))) (M : List (List Rat)), M.map List.length = R.map List.length → (ldQ R M ss).map List.length = R.map List.length := by
      intro R
      induction R with
      | nil => intro M _; rfl
      | cons b R ih =>
        intro M h
        cases M with
        | nil => simp at h
        | cons m M =>
          simp only [List.map_cons, List.cons.injEq] at  h
          show (ldP ss (b, m)).length :: (ldQ R M ss).map List.length = _
          have e : (ldP ss (b, m)).length = b.length := by
            unfold ldP
            rw [List.length_map, List.length_zip]
            show min b.length m.length = b.length
            omega
          rw [ih M h.2, e]
          rfl
    exact this R M mo.1
  · intro l hl x hx
    obtain ⟨p, hp, rfl⟩ := List.mem_map.mp  hl
    obtain ⟨h1, h2, _⟩ := ld_pair mo.1 p hp
    obtain ⟨q, hq, rfl⟩ := List.mem_map.mp hx
    obtain ⟨m1, m2⟩ := List.of_mem_zip (show (q.1, q.2) ∈ p.1.zip p.2 from hq)
    obtain ⟨r1, r2⟩ := (fo.hb p.1 h1).2.2 q.1 m1
    have dsz : Sz 1500 (dotR q.1 ss) := (dot_sz (β := 140) q.1 ss (fun x h => (r2 x h).sz) fun x h => (st.2 x h).sz).mono (by omega)
    have := (((mo.2 p.2 h2).1 q.2 m2).2.sz.add dsz.neg).mono (n := 1700) (by decide)
    rw [← Rat.sub_eq_add_neg] at this
    exact this
theorem pl_law : ∀ (ds : List D) (Q : D → Prop) (E : XD → Prop), ds.length = 1 → sp_law ds Q E → t_law { nx := fun _ => Q .non, rt := Q, ex := E } (start3 6 ds) := fun ds Q E hl h => by
  obtain ⟨xs, rfl, hx, q⟩ := h
  refine ⟨rfl, xs, rfl, hx, ?_⟩
  refine ⟨⟨by decide, by decide⟩, ?_⟩
  refine for_inv (fun l ρ => ∃ a b c e : Sl, ρ = [.val (.scr xs), .val .pen, a, b, c, e]) (fun d l ρ K hI hK => ?_) (fun ρ hI => ?_) _ _ ⟨.emp, .emp, .emp, .emp, rfl⟩
  · obtain ⟨a, b, c, e, rfl⟩ := hI
    refine ⟨rfl, ⟨by decide, by decide⟩, fun p p0 p1 => ?_⟩
    obtain ⟨n, hn⟩ : ∃ n : Nat, 1 + p = (n : Nat) := ⟨(1 + p).toNat, by omega⟩
    refine ⟨rfl, n, 64, by rw [← hn]; rfl, by omega, by decide, by decide, fun ns hns hn4 => ?_⟩
    refine ⟨sz 4, rfl, _, [.int 0, .int 1, .int 1, .int 3], rfl, .inr rfl, by decide, by decide, fun z hz => ?_⟩
    obtain ⟨s, rfl, s0, s3⟩ : ∃ s : Int, z = .int s ∧ 0 ≤ s ∧ s ≤ 3 := by
      simp only [List.mem_cons, List.mem_nil_iff, or_false] at hz
      rcases hz with rfl | rfl | rfl | rfl
      · exact ⟨0, rfl, by decide, by decide⟩
      · exact ⟨1, rfl, by decide, by decide⟩
      · exact ⟨1, rfl, by decide, by decide⟩
      · exact ⟨3, rfl, by decide, by decide⟩
    refine ⟨rfl, ns, s, rfl, ⟨by omega, by omega⟩, fun n h => by have := hn4 n h; omega, ⟨s0, s3⟩, fun R fo hR => ?_⟩
    have hRl : ((R.map bunQ).length : Nat) = R.length := List.length_map ..
    have h5 : R.length ≤ 5 := by omega
    refine ⟨sz 4, rfl, _, [.int 0, .int 1, .int 2, .int 3], rfl, .inr rfl, by decide, by decide, fun z hz => ?_⟩
    obtain ⟨s2, rfl, s20, s23⟩ : ∃ s : Int, z = .int s ∧ 0 ≤ s ∧ s ≤ 3 := by
      simp only [List.mem_cons, List.mem_nil_iff, or_false] at hz
      rcases hz with rfl | rfl | rfl | rfl
      · exact ⟨0, rfl, by decide, by decide⟩
      · exact ⟨1, rfl, by decide, by decide⟩
      · exact ⟨2, rfl, by decide, by decide⟩
      · exact ⟨3, rfl, by decide, by decide⟩
    refine ⟨rfl, _, s2, rfl, ⟨by rw [hRl]; omega, by rw [hRl]; omega⟩, ⟨s20, s23⟩, fun ss hss hsm => ?_⟩
    have st : StOk R ss := ⟨by rw [hss, hRl]; omega, hsm⟩
    refine ⟨rfl, ⟨by decide, by decide⟩, fun w w0 w1 => ?_⟩
    refine ⟨rfl, R, ss, w, rfl, fo, h5, st, ⟨w0, by omega⟩, fun M mo => ?_⟩
    obtain ⟨e1, e2⟩ := ld_ok fo h5 st mo
    have ld : LdOk R (ldQ R M ss) := ⟨e1, fun l h x hx => (e2 l h x hx).mono (by decide)⟩
    refine ⟨rfl, R, rfl, fo, fun d fr => ?_⟩
    have sr : isRowD (rowQ ss) (R.length : Nat) = true := by rw [isRow_q]; exact decide_eq_true (by rw [st.1])
    refine ⟨rfl, d, R, _, _, rfl, fr, load_pl fo ld, st_pl fo st, ?_⟩
    rw [if_pos (load_fit ld), if_pos (by show (true && isRowD (rowQ ss) (R.length : Nat)) = true; rw [sr]; rfl)]
    refine ⟨_, ss, rfl, rfl, ld, st, ?_⟩
    rw [sl_ld mo.1, ans_M mo.2]
    refine ⟨rfl, R, _, ss, rfl, fo, ld, st, ?_⟩
    obtain ⟨lp1, lp2⟩ := ld.pl fo
    have hll := ld_len ld
    refine ⟨rfl, _, rfl, ⟨by have := fo.h1; omega, lp1⟩, fun l h => ⟨(lp2 l h).1, (lp2 l h).2, e2 l h⟩, fun L' hL' hq => ?_⟩
    exact ⟨rfl, R, L', ss, rfl, fo, ⟨hL'.trans e1, hq⟩, st, rfl, R, _, ss, rfl, fo, ld, st, hK _ ⟨_, _, _, _, rfl⟩⟩
  · obtain ⟨a, b, c, e, rfl⟩ := hI
    exact q

end Cl
namespace Cl
open PySem PySem.Spec L2 L3
open PyProof.Rows hiding St
def topS (i : Nat) : Stmt := PySem.Challenge.pw_onerests_k07_slacks_and_answers.main.body.getD i (.Pass ⟨0, 0, 0, 0⟩)
def cfE (l c : Nat) : Nat → Expr → Option Scope
  | 0, _ => none
  | n + 1, .ListComp e gs sc p => if p.line == l && p.col == c then some sc else (cfE l c n e).orElse fun _ => gs.findSome? fun g => (cfE l c n g.iter).orElse fun _ => g.ifs.findSome? (cfE l c n)
  | n + 1, .Call f as _ _ => (f :: as).findSome? (cfE l c n)
  | n + 1, .Tuple es _ _ => es.findSome? (cfE l c n)
  | n + 1, .List es _ => es.findSome? (cfE l c n)
  | n + 1, .BinOp a _ b _ => [a, b].findSome? (cfE l c n)
  | n + 1, .Compare a _ bs _ => (a :: bs).findSome? (cfE l c n)
  | n + 1, .BoolOp _ es _ => es.findSome? (cfE l c n)
  | n + 1, .UnaryOp _ a _ => cfE l c n a
  | n + 1, .IfExp a b d _ => [a, b, d].findSome? (cfE l c n)
  | n + 1, .Subscript a b _ => [a, b].findSome? (cfE l c n)
  | n + 1, .Attribute a _ _ => cfE l c n a
  | _, _ => none
def cfS (l c : Nat) : Nat → Stmt → Option Scope
  | 0, _ => none
  | _ + 1, .Return (some e) _ => cfE l c 14 e
  | _ + 1, .Assign _ e _ => cfE l c 14 e
  | _ + 1, .Expr e _ => cfE l c 14 e
  | n + 1, .If t b o _ => (cfE l c 14 t).orElse fun _ => (b ++ o).findSome? (cfS l c n)
  | n + 1, .For _ i b o _ => (cfE l c 14 i).orElse fun _ => (b ++ o).findSome? (cfS l c n)
  | n + 1, .While t b o _ => (cfE l c 14 t).orElse fun _ => (b ++ o).findSome? (cfS l c n)
  | _, _ => none
/-- the scope of the comprehension that begins at line l, column c -/
def cfD (l c : Nat) (st : Stmt) : Scope := ((defBody st).findSome? (cfS l c 12)).getD (defScope st)
/-- .. with the names that lie in a cell of the scope around -/
def cfR (l c : Nat) (st : Stmt) (up : Scope) : Scope := { cfD l c st with «names» := (cfD l c st).names.map fun (n, k) => if (k == .free && up.kind == .function && up.names.lookup n == some .cell) then (n, .cell) else (n, k) }
structure DefAt (K : PySem.W.Frag) (mg : Str → Option Value) (ps : List Str) (f : Addr) (fd : FuncData) : Prop where
  k : PySem.W.keepIn K (.ref f) = true
  b : Binds K fd ps []
structure DefG (K : PySem.W.Frag) (mg : Str → Option Value) (x : Str) (ps : List Str) (f : Addr) (fd : FuncData) : Prop extends DefAt K mg ps f fd where
  g : mg x = some (.ref f)
def suiteOf (st : Stmt) : List Stmt := match defBody st with
  | _ :: .Try _ (.ExceptHandler _ _ b _ :: _) _ _ _ :: _ => b
  | _ => []
def suiteOf0 (st : Stmt) : Stmt := (suiteOf st).getD 0 (.Pass ⟨0, 0, 0, 0⟩)
def suiteOf1 (st : Stmt) : List Stmt := (suiteOf st).drop 1
structure Zn (mg : Str → Option Value) : Prop where
  ValueError : mg "ValueError" = none
  abs : mg "abs" = none
  all : mg "all" = none
  bool : mg "bool" = none
  int : mg "int" = none
  isinstance : mg "isinstance" = none
  len : mg "len" = none
  list : mg "list" = none
  min : mg "min" = none
  range : mg "range" = none
  repr : mg "repr" = none
  str : mg "str" = none
  tuple : mg "tuple" = none
  zip : mg "zip" = none
  c_MOST_PLACES : ∃ t, mg "MOST_PLACES" = some (.int 12 t)
  c_MOST_ROWS : ∃ t, mg "MOST_ROWS" = some (.int 12 t)
  f_gcd : mg "gcd" = some (.builtin "math.gcd")
structure Yn (K : PySem.W.Frag) (mg : Str → Option Value) : Prop where
  Frame_rows : FldOk K mg "Frame" "rows"
structure XnOk (K : PySem.W.Frag) (mg : Str → Option Value) : Prop where
  m_BadFrame : mg "BadFrame" = some (.ref (cmOf mg "BadFrame"))
  k_BadFrame : ∀ c ∈ excN, XcC K (cmOf mg c) ∧ PySem.W.kitOne K (.ref (cmOf mg c)) (.ref (cmOf mg "BadFrame")) = some (c == "BadFrame")
  m_BadHouse : mg "BadHouse" = some (.ref (cmOf mg "BadHouse"))
  k_BadHouse : ∀ c ∈ excN, XcC K (cmOf mg c) ∧ PySem.W.kitOne K (.ref (cmOf mg c)) (.ref (cmOf mg "BadHouse")) = some (c == "BadHouse")
  m_BadLoad : mg "BadLoad" = some (.ref (cmOf mg "BadLoad"))
  k_BadLoad : ∀ c ∈ excN, XcC K (cmOf mg c) ∧ PySem.W.kitOne K (.ref (cmOf mg c)) (.ref (cmOf mg "BadLoad")) = some (c == "BadLoad")
  m_BadName : mg "BadName" = some (.ref (cmOf mg "BadName"))
  k_BadName : ∀ c ∈ excN, XcC K (cmOf mg c) ∧ PySem.W.kitOne K (.ref (cmOf mg c)) (.ref (cmOf mg "BadName")) = some (c == "BadName")
  m_BadNet : mg "BadNet" = some (.ref (cmOf mg "BadNet"))
  k_BadNet : ∀ c ∈ excN, XcC K (cmOf mg c) ∧ PySem.W.kitOne K (.ref (cmOf mg c)) (.ref (cmOf mg "BadNet")) = some (c == "BadNet")
  m_BadNumber : mg "BadNumber" = some (.ref (cmOf mg "BadNumber"))
  k_BadNumber : ∀ c ∈ excN, XcC K (cmOf mg c) ∧ PySem.W.kitOne K (.ref (cmOf mg c)) (.ref (cmOf mg "BadNumber")) = some (c == "BadNumber")
  m_BadRow : mg "BadRow" = some (.ref (cmOf mg "BadRow"))
  k_BadRow : ∀ c ∈ excN, XcC K (cmOf mg c) ∧ PySem.W.kitOne K (.ref (cmOf mg c)) (.ref (cmOf mg "BadRow")) = some (c == "BadRow")
  m_BadTable : mg "BadTable" = some (.ref (cmOf mg "BadTable"))
  k_BadTable : ∀ c ∈ excN, XcC K (cmOf mg c) ∧ PySem.W.kitOne K (.ref (cmOf mg c)) (.ref (cmOf mg "BadTable")) = some (c == "BadTable")
  m_BadText : mg "BadText" = some (.ref (cmOf mg "BadText"))
  k_BadText : ∀ c ∈ excN, XcC K (cmOf mg c) ∧ PySem.W.kitOne K (.ref (cmOf mg c)) (.ref (cmOf mg "BadText")) = some (c == "BadText")
  m_BadWeb : mg "BadWeb" = some (.ref (cmOf mg "BadWeb"))
  k_BadWeb : ∀ c ∈ excN, XcC K (cmOf mg c) ∧ PySem.W.kitOne K (.ref (cmOf mg c)) (.ref (cmOf mg "BadWeb")) = some (c == "BadWeb")
  m_Flat : mg "Flat" = some (.ref (cmOf mg "Flat"))
  k_Flat : ∀ c ∈ excN, XcC K (cmOf mg c) ∧ PySem.W.kitOne K (.ref (cmOf mg c)) (.ref (cmOf mg "Flat")) = some (c == "Flat")
  m_NoName : mg "NoName" = some (.ref (cmOf mg "NoName"))
  k_NoName : ∀ c ∈ excN, XcC K (cmOf mg c) ∧ PySem.W.kitOne K (.ref (cmOf mg c)) (.ref (cmOf mg "NoName")) = some (c == "NoName")
  m_NoPlace : mg "NoPlace" = some (.ref (cmOf mg "NoPlace"))
  k_NoPlace : ∀ c ∈ excN, XcC K (cmOf mg c) ∧ PySem.W.kitOne K (.ref (cmOf mg c)) (.ref (cmOf mg "NoPlace")) = some (c == "NoPlace")
  m_NoRow : mg "NoRow" = some (.ref (cmOf mg "NoRow"))
  k_NoRow : ∀ c ∈ excN, XcC K (cmOf mg c) ∧ PySem.W.kitOne K (.ref (cmOf mg c)) (.ref (cmOf mg "NoRow")) = some (c == "NoRow")
  m_NoWall : mg "NoWall" = some (.ref (cmOf mg "NoWall"))
  k_NoWall : ∀ c ∈ excN, XcC K (cmOf mg c) ∧ PySem.W.kitOne K (.ref (cmOf mg c)) (.ref (cmOf mg "NoWall")) = some (c == "NoWall")
  m_NotKept : mg "NotKept" = some (.ref (cmOf mg "NotKept"))
  k_NotKept : ∀ c ∈ excN, XcC K (cmOf mg c) ∧ PySem.W.kitOne K (.ref (cmOf mg c)) (.ref (cmOf mg "NotKept")) = some (c == "NotKept")
  m_NotOnce : mg "NotOnce" = some (.ref (cmOf mg "NotOnce"))
  k_NotOnce : ∀ c ∈ excN, XcC K (cmOf mg c) ∧ PySem.W.kitOne K (.ref (cmOf mg c)) (.ref (cmOf mg "NotOnce")) = some (c == "NotOnce")
  m_NotPlain : mg "NotPlain" = some (.ref (cmOf mg "NotPlain"))
  k_NotPlain : ∀ c ∈ excN, XcC K (cmOf mg c) ∧ PySem.W.kitOne K (.ref (cmOf mg c)) (.ref (cmOf mg "NotPlain")) = some (c == "NotPlain")
  m_NothingToRedo : mg "NothingToRedo" = some (.ref (cmOf mg "NothingToRedo"))
  k_NothingToRedo : ∀ c ∈ excN, XcC K (cmOf mg c) ∧ PySem.W.kitOne K (.ref (cmOf mg c)) (.ref (cmOf mg "NothingToRedo")) = some (c == "NothingToRedo")
  m_NothingToUndo : mg "NothingToUndo" = some (.ref (cmOf mg "NothingToUndo"))
  k_NothingToUndo : ∀ c ∈ excN, XcC K (cmOf mg c) ∧ PySem.W.kitOne K (.ref (cmOf mg c)) (.ref (cmOf mg "NothingToUndo")) = some (c == "NothingToUndo")
  m_TakenName : mg "TakenName" = some (.ref (cmOf mg "TakenName"))
  k_TakenName : ∀ c ∈ excN, XcC K (cmOf mg c) ∧ PySem.W.kitOne K (.ref (cmOf mg c)) (.ref (cmOf mg "TakenName")) = some (c == "TakenName")
  m_TooMany : mg "TooMany" = some (.ref (cmOf mg "TooMany"))
  k_TooMany : ∀ c ∈ excN, XcC K (cmOf mg c) ∧ PySem.W.kitOne K (.ref (cmOf mg c)) (.ref (cmOf mg "TooMany")) = some (c == "TooMany")
  m_Unlike : mg "Unlike" = some (.ref (cmOf mg "Unlike"))
  k_Unlike : ∀ c ∈ excN, XcC K (cmOf mg c) ∧ PySem.W.kitOne K (.ref (cmOf mg c)) (.ref (cmOf mg "Unlike")) = some (c == "Unlike")
  v_ValueError : ∀ c ∈ excN, XcC K (cmOf mg c) ∧ PySem.W.kitOne K (.ref (cmOf mg c)) (.type "ValueError") = some true
  f_BadLoad_what : XfOk K mg "BadLoad" "what"
  f_BadRow_row : XfOk K mg "BadRow" "row"
  f_BadRow_what : XfOk K mg "BadRow" "what"
def XrOk (K : PySem.W.Frag) (mg : Str → Option Value) (CS : Addr) : Prop := ∀ c ∈ excN, PySem.W.exmOne K (.ref (cmOf mg c)) (.ref CS) = some true
theorem x_one {P : Str → Prop} (h0 : P "BadLoad") (h1 : P "BadRow") : ∀ c ∈ excN, P c := fun c hc => by
  unfold excN at hc
  simp only [List.mem_cons, List.mem_nil_iff, or_false] at hc
  rcases hc with rfl | rfl
  · exact h0
  · exact h1
theorem fn_zero {P : Program} {w : World} {K : PySem.W.Frag} {mg : Str → Option Value} {base : Heap} {k : Nat} {f : Addr} {fd : FuncData} {ps : List Str} {KK : KC} {n : Nat} {sp : Sp3} (h : ∀ ds Q E, sp ds Q E → False) : FnOk P w K mg base (L2.CX P w) k f fd ps (lSp KK n sp) := by
  refine ⟨fun vs H Q E z => ?_, fun A outer s H args us vs Q E _ _ _ _ z => ?_⟩
  · obtain ⟨_, _, _, _, _, _, _, _, _, _, hs, _⟩ := z
    exact (h _ _ _ hs).elim
  · obtain ⟨_, _, _, _, _, _, _, _, _, _, hs, _⟩ := z
    exact (h _ _ _ hs).elim
theorem jn_none' (F : Hp) : jn F (fun _ => none) = F := by
  funext a
  unfold jn
  cases F a <;> rfl
abbrev s_BadFrame___init__ : Stmt := inClass (topS 6) 0
theorem sc_BadFrame___init__ : FnScope ["self", "what", "place"] ["self", "what", "place"] (defScope s_BadFrame___init__) := ⟨rfl, rfl, rfl, by decide +kernel, rfl, by decide +kernel, by decide +kernel⟩
abbrev s_BadLoad___init__ : Stmt := inClass (topS 7) 0
theorem sc_BadLoad___init__ : FnScope ["self", "what"] ["self", "what"] (defScope s_BadLoad___init__) := ⟨rfl, rfl, rfl, by decide +kernel, rfl, by decide +kernel, by decide +kernel⟩
abbrev s_BadRow___init__ : Stmt := inClass (topS 4) 0
theorem sc_BadRow___init__ : FnScope ["self", "what", "row"] ["self", "what", "row"] (defScope s_BadRow___init__) := ⟨rfl, rfl, rfl, by decide +kernel, rfl, by decide +kernel, by decide +kernel⟩
abbrev s__law_draw : Stmt := topS 54
theorem sc__law_draw : FnScope ["pen", "many", "cell", "digit", "blend"] ["pen", "many"] (defScope s__law_draw) := ⟨rfl, rfl, rfl, by decide +kernel, rfl, by decide +kernel, by decide +kernel⟩
set_option maxHeartbeats 8100000 in
theorem ok__law_draw {P : Program} {w : World} {K : PySem.W.Frag} {mg : Str → Option Value} {base : Heap} {T : List (Addr × Str)} (zlen : mg "len" = none) (zint : mg "int" = none) {f : Addr} {fd : FuncData} (F : Fun K "_law_draw" "_law_draw" s__law_draw f fd) :
    FnOk P w K mg base (L2.CX P w) 1 f fd ["pen", "many"] (lSp ⟨K, cmOf mg, [], T⟩ 2 sp__law_draw) := by
  refine F.okX sc__law_draw (fun vs H Q E h => ?_) (fun cdv A outer s H vs Q E hr h => ?_)
  · obtain ⟨_, _, _, _, _, _, _, _, _, hl, _⟩ := h
    exact hl
  · have hu := hu_of hr
    have gk : ∀ {X : Cx} {e : Expr} {pos : Pos} {k : Str} {j : Nat} {p2 : Pos}, X.A.units + 1 < cLine → PE X e (tVar 0) → PE X (.Subscript e (.Constant (.str k) j p2) pos) (tDGet (tVar 0) (tC (.str k))) := fun hu he => pe_dget hu he pe_str (fun _ _ => rfl)
    have int1 : ∀ {X : Cx} {e : Expr} {p pos : Pos} {te : TE}, Gl X "int" → X.mg "int" = none → PE X e te → starEach (e :: []) X.env = (false, eval e X.env) :: starEach [] X.env → (backTo pos (starEach [] X.env)).any (·.1) = false → PE X (.Call (.Name "int" p) [e] [] pos) (tCB cbInt (tCons te tNil)) :=
      fun hg hm he h1 h2 => pe_callTy call_int1 hg hm (by decide +kernel) (pa_cons he pa_nil h1) (by decide) (by decide) h1 h2
    refine ⟨_, pss_cons (ps_dput hu (pv 0) pe_str (pe_op op_add (gk hu (pv 0)) pe_int) rfl)
      (pss_cons (ps_if (PW.pt (pw_and (pt_cmpR op_eq (gk hu (pv 0)) pe_int (nobehind _ (by decide) (by decide))) (pw_and1 (pt_cmpR op_lt (gk hu (pv 0)) (by exact pe_callB call_len_seq rfl zlen (by decide +kernel) (by exact pa_cons (gk hu (pv 0)) pa_nil)) (nobehind _ (by decide) (by decide))))))
        (pss_cons (ps_set (i := 2) sc__law_draw.nd rfl (.inl rfl) (pe_ix ix_list (gk hu (pv 0)) (gk hu (pv 0)) (fun _ _ => rfl)))
          (pss_cons (ps_dput hu (pv 0) pe_str (pe_op op_add (gk hu (pv 0)) pe_int) rfl)
            (pss_one (ps_if (pt_cmpR op_ge (pv 2) (pe_op op_pow pe_int pe_int) (nobehind _ (by decide) (by decide)))
              (pss_one (ps_dput hu (pv 0) pe_str (pe_op op_sub (pv 2) (pe_op op_pow pe_int pe_int)) rfl))
              (pss_one (ps_dput hu (pv 0) pe_str (pe_op op_mod (by exact int1 rfl zint (pe_op op_add (pe_op op_mul (gk hu (pv 0)) pe_int) (pv 2)) rfl rfl) pe_int) rfl)))))) pss_nil)
      (pss_cons (ps_if (pt_cmpR op_gt (gk hu (pv 0)) pe_int (nobehind _ (by decide) (by decide)))
        (pss_cons (ps_set (i := 3) sc__law_draw.nd rfl (.inl rfl) (pe_op op_mod (by exact int1 rfl zint (gk hu (pv 0)) rfl rfl) (pv 1)))
          (pss_cons (ps_dput hu (pv 0) pe_str (pe_op op_fdiv (gk hu (pv 0)) (pv 1)) rfl)
            (pss_one (ps_ret (pv 3))))) pss_nil)
      (pss_cons (ps_set (i := 4) sc__law_draw.nd rfl (.inl rfl) (pe_op op_mod (by exact int1 rfl zint (pe_op op_add (pe_op op_add (pe_op op_mul (gk hu (pv 0)) pe_int) (pe_op op_mul (gk hu (pv 0)) pe_int)) pe_int) rfl rfl) pe_int))
      (pss_cons (ps_set (i := 4) sc__law_draw.nd rfl (.inl rfl) (pe_op op_mod (by exact int1 rfl zint (pe_op op_add (pe_op op_add (pe_op op_mul (pv 4) (pv 4)) (pe_op op_mul pe_int (pv 4))) (gk hu (pv 0))) rfl rfl) pe_int))
      (pss_cons (ps_dput hu (pv 0) pe_str (pe_op op_mod (by exact int1 rfl zint (pe_op op_add (pe_op op_mul (pv 4) pe_int) pe_int) rfl rfl) pe_int) rfl)
      (pss_one (ps_ret (pe_op op_mod (by exact int1 rfl zint (pe_op op_fdiv (pv 4) pe_int) rfl rfl) (pv 1))))))))), ?_⟩
    exact pure_draw (K := ⟨K, cmOf mg, [], T⟩) h
abbrev s_is_integer : Stmt := topS 27
theorem sc_is_integer : FnScope ["value"] ["value"] (defScope s_is_integer) := ⟨rfl, rfl, rfl, by decide +kernel, rfl, by decide +kernel, by decide +kernel⟩
theorem dv_is_integer {P : Program} {w : World} {K : PySem.W.Frag} {mg : Str → Option Value} {base : Heap} {B : Bs} (Z : Zn mg) (Y : Yn K mg)
    {f : Addr} {cdv : Value} {fd : FuncData} {A : Around} {outer : List Env} {s : Shared} {H : Hp} {E : XK} (hr : Room 0 (A.deeper (envOfC "is_integer" (defScope s_is_integer) s.heap.objs.size f cdv)))
    (tk : Takes (cxOf (L2.CX P w) P w K mg base ["value"] "is_integer" (defScope s_is_integer) f cdv A outer s H E) (WD E)) :
    DSs B (cxOf (L2.CX P w) P w K mg base ["value"] "is_integer" (defScope s_is_integer) f cdv A outer s H E) (WD E) (defBody s_is_integer) t_is_integer :=
    (dss_one (ds_ret (de_and (de_is rfl Z.isinstance rfl Z.int (by decide +kernel) (by decide +kernel) (de_name (pv 0))) (de_one (de_not (de_is rfl Z.isinstance rfl Z.bool (by decide +kernel) (by decide +kernel) (de_name (pv 0))))))))

abbrev s_is_ratio : Stmt := topS 28
theorem sc_is_ratio : FnScope ["value"] ["value"] (defScope s_is_ratio) := ⟨rfl, rfl, rfl, by decide +kernel, rfl, by decide +kernel, by decide +kernel⟩
theorem dv_is_ratio {P : Program} {w : World} {K : PySem.W.Frag} {mg : Str → Option Value} {base : Heap} {B : Bs} (Z : Zn mg) (Y : Yn K mg)
    {f_is_integer : Addr} {fd_is_integer : FuncData} (D_is_integer : DefG K mg "is_integer" ["value"] f_is_integer fd_is_integer) (G_is_integer : FnOk P w K mg base (L2.CX P w) 1 f_is_integer fd_is_integer ["value"] (lSp ⟨K, cmOf mg, [], B.T⟩ 1 sp_is_integer))
    {f : Addr} {cdv : Value} {fd : FuncData} {A : Around} {outer : List Env} {s : Shared} {H : Hp} {E : XK} (hr : Room 1 (A.deeper (envOfC "is_ratio" (defScope s_is_ratio) s.heap.objs.size f cdv)))
    (tk : Takes (cxOf (L2.CX P w) P w K mg base ["value"] "is_ratio" (defScope s_is_ratio) f cdv A outer s H E) (WD E)) :
    DSs B (cxOf (L2.CX P w) P w K mg base ["value"] "is_ratio" (defScope s_is_ratio) f cdv A outer s H E) (WD E) (defBody s_is_ratio) t_is_ratio :=
    (dss_cons (ds_if (dt_not (dt_val (de_is rfl Z.isinstance rfl Z.tuple (by decide +kernel) (by decide +kernel) (de_name (pv 0))))) (dss_one (ds_ret (de_call G_is_integer (hr.mono (by decide)) rfl D_is_integer.g D_is_integer.k D_is_integer.b tk (by exact (da_cons (de_name (pv 0)) da_nil))))) dss_nil)
    (dss_cons (ds_if (dt_w (dw_or (dt_cmp (op2_ne hr.units) (de_cb cr_len rfl Z.len (by decide +kernel) (by exact (da_cons (de_name (pv 0)) da_nil))) de_int (nobehind _ (by decide) (by decide))) (dw_or (dt_not (dt_val (de_call G_is_integer (hr.mono (by decide)) rfl D_is_integer.g D_is_integer.k D_is_integer.b tk (by exact (da_cons (de_ix (de_name (pv 0)) de_int (fun _ _ => rfl)) da_nil))))) (dw_or1 (dt_not (dt_val (de_call G_is_integer (hr.mono (by decide)) rfl D_is_integer.g D_is_integer.k D_is_integer.b tk (by exact (da_cons (de_ix (de_name (pv 0)) de_int (fun _ _ => rfl)) da_nil))))))))) (dss_one (ds_ret de_bl)) dss_nil)
    (dss_one (ds_ret (de_and (de_cmp op2_gt (de_ix (de_name (pv 0)) de_int (fun _ _ => rfl)) de_int (nobehind _ (by decide) (by decide))) (de_one (de_cmp (op2_eq hr.units) (de_cf cr_gcd3 rfl Z.f_gcd (by exact (da_cons (de_ix (de_name (pv 0)) de_int (fun _ _ => rfl)) (da_cons (de_ix (de_name (pv 0)) de_int (fun _ _ => rfl)) da_nil)))) de_int (nobehind _ (by decide) (by decide)))))))))

abbrev s_pair : Stmt := topS 29
theorem sc_pair : FnScope ["number"] ["number"] (defScope s_pair) := ⟨rfl, rfl, rfl, by decide +kernel, rfl, by decide +kernel, by decide +kernel⟩
theorem dv_pair {P : Program} {w : World} {K : PySem.W.Frag} {mg : Str → Option Value} {base : Heap} {B : Bs} (Z : Zn mg) (Y : Yn K mg)
    {f : Addr} {cdv : Value} {fd : FuncData} {A : Around} {outer : List Env} {s : Shared} {H : Hp} {E : XK} (hr : Room 0 (A.deeper (envOfC "pair" (defScope s_pair) s.heap.objs.size f cdv)))
    (tk : Takes (cxOf (L2.CX P w) P w K mg base ["number"] "pair" (defScope s_pair) f cdv A outer s H E) (WD E)) :
    DSs B (cxOf (L2.CX P w) P w K mg base ["number"] "pair" (defScope s_pair) f cdv A outer s H E) (WD E) (defBody s_pair) t_pair :=
    (dss_one (ds_ret (de_ite (dt_val (de_is rfl Z.isinstance rfl Z.int (by decide +kernel) (by decide +kernel) (de_name (pv 0)))) (de_tup (by exact (da_cons (de_name (pv 0)) (da_cons de_int da_nil)))) (de_name (pv 0)))))

abbrev s_in_lowest : Stmt := topS 30
theorem sc_in_lowest : FnScope ["top", "bottom", "by"] ["top", "bottom"] (defScope s_in_lowest) := ⟨rfl, rfl, rfl, by decide +kernel, rfl, by decide +kernel, by decide +kernel⟩
theorem dv_in_lowest {P : Program} {w : World} {K : PySem.W.Frag} {mg : Str → Option Value} {base : Heap} {B : Bs} (Z : Zn mg) (Y : Yn K mg)
    {f : Addr} {cdv : Value} {fd : FuncData} {A : Around} {outer : List Env} {s : Shared} {H : Hp} {E : XK} (hr : Room 0 (A.deeper (envOfC "in_lowest" (defScope s_in_lowest) s.heap.objs.size f cdv)))
    (tk : Takes (cxOf (L2.CX P w) P w K mg base ["top", "bottom", "by"] "in_lowest" (defScope s_in_lowest) f cdv A outer s H E) (WD E)) :
    DSs B (cxOf (L2.CX P w) P w K mg base ["top", "bottom", "by"] "in_lowest" (defScope s_in_lowest) f cdv A outer s H E) (WD E) (defBody s_in_lowest) t_in_lowest :=
    (dss_cons (ds_set sc_in_lowest.nd rfl (by first | exact Or.inl rfl | exact Or.inr rfl) (de_ite (dt_cmp op2_gt (de_name (pv 1)) de_int (nobehind _ (by decide) (by decide))) (de_cf cr_gcd3 rfl Z.f_gcd (by exact (da_cons (de_name (pv 0)) (da_cons (de_name (pv 1)) da_nil)))) (de_un un1_neg (de_cf cr_gcd3 rfl Z.f_gcd (by exact (da_cons (de_name (pv 0)) (da_cons (de_name (pv 1)) da_nil)))))))
    (dss_one (ds_ret (de_ite (dt_cmp (op2_eq hr.units) (de_name (pv 1)) (de_name (pv 2)) (nobehind _ (by decide) (by decide))) (de_op op2_div (de_name (pv 0)) (de_name (pv 2))) (de_tup (by exact (da_cons (de_op op2_div (de_name (pv 0)) (de_name (pv 2))) (da_cons (de_op op2_div (de_name (pv 1)) (de_name (pv 2))) da_nil))))))))

abbrev s_added : Stmt := topS 31
theorem sc_added : FnScope ["one", "other", "top", "bottom", "high", "low"] ["one", "other"] (defScope s_added) := ⟨rfl, rfl, rfl, by decide +kernel, rfl, by decide +kernel, by decide +kernel⟩
theorem dv_added {P : Program} {w : World} {K : PySem.W.Frag} {mg : Str → Option Value} {base : Heap} {B : Bs} (Z : Zn mg) (Y : Yn K mg)
    {f_pair : Addr} {fd_pair : FuncData} (D_pair : DefG K mg "pair" ["number"] f_pair fd_pair) (G_pair : FnOk P w K mg base (L2.CX P w) 1 f_pair fd_pair ["number"] (lSp ⟨K, cmOf mg, [], B.T⟩ 1 sp_pair))
    {f_in_lowest : Addr} {fd_in_lowest : FuncData} (D_in_lowest : DefG K mg "in_lowest" ["top", "bottom"] f_in_lowest fd_in_lowest) (G_in_lowest : FnOk P w K mg base (L2.CX P w) 1 f_in_lowest fd_in_lowest ["top", "bottom"] (lSp ⟨K, cmOf mg, [], B.T⟩ 2 sp_in_lowest))
    {f : Addr} {cdv : Value} {fd : FuncData} {A : Around} {outer : List Env} {s : Shared} {H : Hp} {E : XK} (hr : Room 1 (A.deeper (envOfC "added" (defScope s_added) s.heap.objs.size f cdv)))
    (tk : Takes (cxOf (L2.CX P w) P w K mg base ["one", "other", "top", "bottom", "high", "low"] "added" (defScope s_added) f cdv A outer s H E) (WD E)) :
    DSs B (cxOf (L2.CX P w) P w K mg base ["one", "other", "top", "bottom", "high", "low"] "added" (defScope s_added) f cdv A outer s H E) (WD E) (defBody s_added) t_added :=
    (dss_cons (ds_if (dt_w (dw_and (dt_val (de_is rfl Z.isinstance rfl Z.int (by decide +kernel) (by decide +kernel) (de_name (pv 0)))) (dw_and1 (dt_val (de_is rfl Z.isinstance rfl Z.int (by decide +kernel) (by decide +kernel) (de_name (pv 1))))))) (dss_one (ds_ret (de_op op2_add (de_name (pv 0)) (de_name (pv 1))))) dss_nil)
    (dss_cons (ds_asg (de_tup (by exact (da_cons (de_call G_pair (hr.mono (by decide)) rfl D_pair.g D_pair.k D_pair.b tk (by exact (da_cons (de_name (pv 0)) da_nil))) (da_cons (de_call G_pair (hr.mono (by decide)) rfl D_pair.g D_pair.k D_pair.b tk (by exact (da_cons (de_name (pv 1)) da_nil))) da_nil)))) (dg_tup rfl (dgs_cons (dg_tup rfl (dgs_cons (dg_name sc_added.nd rfl (by first | exact Or.inl rfl | exact Or.inr rfl)) (dgs_cons (dg_name sc_added.nd rfl (by first | exact Or.inl rfl | exact Or.inr rfl)) dgs_nil))) (dgs_cons (dg_tup rfl (dgs_cons (dg_name sc_added.nd rfl (by first | exact Or.inl rfl | exact Or.inr rfl)) (dgs_cons (dg_name sc_added.nd rfl (by first | exact Or.inl rfl | exact Or.inr rfl)) dgs_nil))) dgs_nil))))
    (dss_one (ds_ret (de_call G_in_lowest (hr.mono (by decide)) rfl D_in_lowest.g D_in_lowest.k D_in_lowest.b tk (by exact (da_cons (de_op op2_add (de_op op2_mul (de_name (pv 2)) (de_name (pv 5))) (de_op op2_mul (de_name (pv 4)) (de_name (pv 3)))) (da_cons (de_op op2_mul (de_name (pv 3)) (de_name (pv 5))) da_nil))))))))

abbrev s_sign_of : Stmt := topS 32
theorem sc_sign_of : FnScope ["number", "top"] ["number"] (defScope s_sign_of) := ⟨rfl, rfl, rfl, by decide +kernel, rfl, by decide +kernel, by decide +kernel⟩
theorem dv_sign_of {P : Program} {w : World} {K : PySem.W.Frag} {mg : Str → Option Value} {base : Heap} {B : Bs} (Z : Zn mg) (Y : Yn K mg)
    {f : Addr} {cdv : Value} {fd : FuncData} {A : Around} {outer : List Env} {s : Shared} {H : Hp} {E : XK} (hr : Room 0 (A.deeper (envOfC "sign_of" (defScope s_sign_of) s.heap.objs.size f cdv)))
    (tk : Takes (cxOf (L2.CX P w) P w K mg base ["number", "top"] "sign_of" (defScope s_sign_of) f cdv A outer s H E) (WD E)) :
    DSs B (cxOf (L2.CX P w) P w K mg base ["number", "top"] "sign_of" (defScope s_sign_of) f cdv A outer s H E) (WD E) (defBody s_sign_of) t_sign_of :=
    (dss_cons (ds_set sc_sign_of.nd rfl (by first | exact Or.inl rfl | exact Or.inr rfl) (de_ite (dt_val (de_is rfl Z.isinstance rfl Z.int (by decide +kernel) (by decide +kernel) (de_name (pv 0)))) (de_name (pv 0)) (de_ix (de_name (pv 0)) de_int (fun _ _ => rfl))))
    (dss_one (ds_ret (de_ite (dt_cmp op2_gt (de_name (pv 1)) de_int (nobehind _ (by decide) (by decide))) de_int (de_ite (dt_cmp op2_lt (de_name (pv 1)) de_int (nobehind _ (by decide) (by decide))) (de_un un1_neg de_int) de_int)))))

abbrev s_summed : Stmt := topS 33
theorem sc_summed : FnScope ["row", "other", "top", "bottom", "one", "two", "high", "low", "up", "down"] ["row", "other"] (defScope s_summed) := ⟨rfl, rfl, rfl, by decide +kernel, rfl, by decide +kernel, by decide +kernel⟩
theorem dv_summed {P : Program} {w : World} {K : PySem.W.Frag} {mg : Str → Option Value} {base : Heap} {B : Bs} (Z : Zn mg) (Y : Yn K mg)
    {f_pair : Addr} {fd_pair : FuncData} (D_pair : DefG K mg "pair" ["number"] f_pair fd_pair) (G_pair : FnOk P w K mg base (L2.CX P w) 1 f_pair fd_pair ["number"] (lSp ⟨K, cmOf mg, [], B.T⟩ 1 sp_pair))
    {f_in_lowest : Addr} {fd_in_lowest : FuncData} (D_in_lowest : DefG K mg "in_lowest" ["top", "bottom"] f_in_lowest fd_in_lowest) (G_in_lowest : FnOk P w K mg base (L2.CX P w) 1 f_in_lowest fd_in_lowest ["top", "bottom"] (lSp ⟨K, cmOf mg, [], B.T⟩ 2 sp_in_lowest))
    {f : Addr} {cdv : Value} {fd : FuncData} {A : Around} {outer : List Env} {s : Shared} {H : Hp} {E : XK} (hr : Room 1 (A.deeper (envOfC "summed" (defScope s_summed) s.heap.objs.size f cdv)))
    (tk : Takes (cxOf (L2.CX P w) P w K mg base ["row", "other", "top", "bottom", "one", "two", "high", "low", "up", "down"] "summed" (defScope s_summed) f cdv A outer s H E) (WD E)) :
    DSs B (cxOf (L2.CX P w) P w K mg base ["row", "other", "top", "bottom", "one", "two", "high", "low", "up", "down"] "summed" (defScope s_summed) f cdv A outer s H E) (WD E) (defBody s_summed) t_summed :=
    (dss_cons (ds_asg (de_tup (by exact (da_cons de_int (da_cons de_int da_nil)))) (dg_tup rfl (dgs_cons (dg_name sc_summed.nd rfl (by first | exact Or.inl rfl | exact Or.inr rfl)) (dgs_cons (dg_name sc_summed.nd rfl (by first | exact Or.inl rfl | exact Or.inr rfl)) dgs_nil))))
    (dss_cons (ds_for (passes_of rfl) rfl (di_zip2 rfl Z.zip (by exact (da_cons (de_name (pv 0)) (da_cons (de_name (pv 1)) da_nil)))) (dg_tup rfl (dgs_cons (dg_name sc_summed.nd rfl (by first | exact Or.inl rfl | exact Or.inr rfl)) (dgs_cons (dg_name sc_summed.nd rfl (by first | exact Or.inl rfl | exact Or.inr rfl)) dgs_nil))) (fun _ => (dss_cons (ds_if (dt_w (dw_or (dt_cmp (op2_eq hr.units) (de_name (pv 4)) de_int (nobehind _ (by decide) (by decide))) (dw_or1 (dt_cmp (op2_eq hr.units) (de_name (pv 5)) de_int (nobehind _ (by decide) (by decide)))))) (dss_one ds_cont) dss_nil)
    (dss_cons (ds_asg (de_tup (by exact (da_cons (de_call G_pair (hr.mono (by decide)) rfl D_pair.g D_pair.k D_pair.b tk (by exact (da_cons (de_name (pv 4)) da_nil))) (da_cons (de_call G_pair (hr.mono (by decide)) rfl D_pair.g D_pair.k D_pair.b tk (by exact (da_cons (de_name (pv 5)) da_nil))) da_nil)))) (dg_tup rfl (dgs_cons (dg_tup rfl (dgs_cons (dg_name sc_summed.nd rfl (by first | exact Or.inl rfl | exact Or.inr rfl)) (dgs_cons (dg_name sc_summed.nd rfl (by first | exact Or.inl rfl | exact Or.inr rfl)) dgs_nil))) (dgs_cons (dg_tup rfl (dgs_cons (dg_name sc_summed.nd rfl (by first | exact Or.inl rfl | exact Or.inr rfl)) (dgs_cons (dg_name sc_summed.nd rfl (by first | exact Or.inl rfl | exact Or.inr rfl)) dgs_nil))) dgs_nil))))
    (dss_cons (ds_set sc_summed.nd rfl (by first | exact Or.inl rfl | exact Or.inr rfl) (de_op op2_mul (de_name (pv 7)) (de_name (pv 9))))
    (dss_one (ds_if (dt_cmp (op2_eq hr.units) (de_name (pv 7)) (de_name (pv 3)) (nobehind _ (by decide) (by decide))) (dss_one (ds_set sc_summed.nd rfl (by first | exact Or.inl rfl | exact Or.inr rfl) (de_op op2_add (de_name (pv 2)) (de_op op2_mul (de_name (pv 6)) (de_name (pv 8)))))) (dss_cons (ds_set sc_summed.nd rfl (by first | exact Or.inl rfl | exact Or.inr rfl) (de_op op2_add (de_op op2_mul (de_name (pv 2)) (de_name (pv 7))) (de_op op2_mul (de_op op2_mul (de_name (pv 6)) (de_name (pv 8))) (de_name (pv 3)))))
    (dss_one (ds_set sc_summed.nd rfl (by first | exact Or.inl rfl | exact Or.inr rfl) (de_op op2_mul (de_name (pv 3)) (de_name (pv 7)))))))))))))
    (dss_one (ds_ret (de_call G_in_lowest (hr.mono (by decide)) rfl D_in_lowest.g D_in_lowest.k D_in_lowest.b tk (by exact (da_cons (de_name (pv 2)) (da_cons (de_name (pv 3)) da_nil))))))))

abbrev s_as_tuples : Stmt := topS 35
theorem sc_as_tuples : FnScope ["value", "one"] ["value"] (defScope s_as_tuples) := ⟨rfl, rfl, rfl, by decide +kernel, rfl, by decide +kernel, by decide +kernel⟩
theorem dv_as_tuples {P : Program} {w : World} {K : PySem.W.Frag} {mg : Str → Option Value} {base : Heap} {B : Bs} (Z : Zn mg) (Y : Yn K mg)
    {f : Addr} {cdv : Value} {fd : FuncData} {A : Around} {outer : List Env} {s : Shared} {H : Hp} {E : XK}
    {d : Nat} {spS : Sp3} (D_self : DefG K mg "as_tuples" ["value"] f fd) (G_self : FnOk P w K mg base (L2.CX P w) (0 + d) f fd ["value"] (lSp ⟨K, cmOf mg, [], B.T⟩ 1 spS)) (hr : Room (0 + d) (A.deeper (envOfC "as_tuples" (defScope s_as_tuples) s.heap.objs.size f cdv)))
    (tk : Takes (cxOf (L2.CX P w) P w K mg base ["value", "one"] "as_tuples" (defScope s_as_tuples) f cdv A outer s H E) (WD E)) :
    DSs B (cxOf (L2.CX P w) P w K mg base ["value", "one"] "as_tuples" (defScope s_as_tuples) f cdv A outer s H E) (WD E) (defBody s_as_tuples) (t_as_tuples spS) :=
    (dss_cons (ds_if (dt_val (de_is2 rfl Z.isinstance rfl Z.list (by decide +kernel) rfl Z.tuple (by decide +kernel) (by decide +kernel) (by decide +kernel) (de_name (pv 0)))) (dss_one (ds_ret (de_ct cr_tuple rfl Z.tuple (by decide +kernel) (by exact (da_cons (de_new (by exact (fe_comp rfl sc_as_tuples.nd (by exact (di_seq (de_name (pv 0)))) (blkOk_by (own := [("one", 1)]) (N := ["value", "one"]) (sc := defScope s_as_tuples) (by decide +kernel)) (fun _ _ _ _ _ => by exact (dg_name sc_as_tuples.nd rfl (by first | exact Or.inl rfl | exact Or.inr rfl))) (fun _ _ _ _ _ => by exact dts_nil) (fun _ _ _ _ _ => by exact (de_call G_self (hr.mono (by omega)) rfl D_self.g D_self.k D_self.b takes0 (by exact (da_cons (de_name (pv 1)) da_nil)))) (by decide)))) da_nil))))) dss_nil)
    (dss_one (ds_ret (de_name (pv 0)))))

abbrev s_is_list : Stmt := topS 36
theorem sc_is_list : FnScope ["value"] ["value"] (defScope s_is_list) := ⟨rfl, rfl, rfl, by decide +kernel, rfl, by decide +kernel, by decide +kernel⟩
theorem dv_is_list {P : Program} {w : World} {K : PySem.W.Frag} {mg : Str → Option Value} {base : Heap} {B : Bs} (Z : Zn mg) (Y : Yn K mg)
    {f : Addr} {cdv : Value} {fd : FuncData} {A : Around} {outer : List Env} {s : Shared} {H : Hp} {E : XK} (hr : Room 0 (A.deeper (envOfC "is_list" (defScope s_is_list) s.heap.objs.size f cdv)))
    (tk : Takes (cxOf (L2.CX P w) P w K mg base ["value"] "is_list" (defScope s_is_list) f cdv A outer s H E) (WD E)) :
    DSs B (cxOf (L2.CX P w) P w K mg base ["value"] "is_list" (defScope s_is_list) f cdv A outer s H E) (WD E) (defBody s_is_list) t_is_list :=
    (dss_one (ds_ret (de_is2 rfl Z.isinstance rfl Z.list (by decide +kernel) rfl Z.tuple (by decide +kernel) (by decide +kernel) (by decide +kernel) (de_name (pv 0)))))

abbrev s_is_row : Stmt := topS 37
theorem sc_is_row : FnScope ["value", "many", "one"] ["value", "many"] (defScope s_is_row) := ⟨rfl, rfl, rfl, by decide +kernel, rfl, by decide +kernel, by decide +kernel⟩
theorem dv_is_row {P : Program} {w : World} {K : PySem.W.Frag} {mg : Str → Option Value} {base : Heap} {B : Bs} (Z : Zn mg) (Y : Yn K mg)
    {f_is_list : Addr} {fd_is_list : FuncData} (D_is_list : DefG K mg "is_list" ["value"] f_is_list fd_is_list) (G_is_list : FnOk P w K mg base (L2.CX P w) 1 f_is_list fd_is_list ["value"] (lSp ⟨K, cmOf mg, [], B.T⟩ 1 sp_is_list))
    {f_is_ratio : Addr} {fd_is_ratio : FuncData} (D_is_ratio : DefG K mg "is_ratio" ["value"] f_is_ratio fd_is_ratio) (G_is_ratio : FnOk P w K mg base (L2.CX P w) 2 f_is_ratio fd_is_ratio ["value"] (lSp ⟨K, cmOf mg, [], B.T⟩ 1 sp_is_ratio))
    {f : Addr} {cdv : Value} {fd : FuncData} {A : Around} {outer : List Env} {s : Shared} {H : Hp} {E : XK} (hr : Room 2 (A.deeper (envOfC "is_row" (defScope s_is_row) s.heap.objs.size f cdv)))
    (tk : Takes (cxOf (L2.CX P w) P w K mg base ["value", "many", "one"] "is_row" (defScope s_is_row) f cdv A outer s H E) (WD E)) :
    DSs B (cxOf (L2.CX P w) P w K mg base ["value", "many", "one"] "is_row" (defScope s_is_row) f cdv A outer s H E) (WD E) (defBody s_is_row) t_is_row :=
    (dss_one (ds_ret (de_and (de_call G_is_list (hr.mono (by decide)) rfl D_is_list.g D_is_list.k D_is_list.b tk (by exact (da_cons (de_name (pv 0)) da_nil))) (de_and (de_cmp (op2_eq hr.units) (de_cb cr_len rfl Z.len (by decide +kernel) (by exact (da_cons (de_name (pv 0)) da_nil))) (de_name (pv 1)) (nobehind _ (by decide) (by decide))) (de_one (de_cb (cr_all3 rfl) rfl Z.all (by decide +kernel) (by exact (da_cons (de_new (by exact (fe_comp rfl sc_is_row.nd (by exact (di_seq (de_name (pv 0)))) (blkOk_by (own := [("one", 2)]) (N := ["value", "many", "one"]) (sc := defScope s_is_row) (by decide +kernel)) (fun _ _ _ _ _ => by exact (dg_name sc_is_row.nd rfl (by first | exact Or.inl rfl | exact Or.inr rfl))) (fun _ _ _ _ _ => by exact dts_nil) (fun _ _ _ _ _ => by exact (de_call G_is_ratio (hr.mono (by decide)) rfl D_is_ratio.g D_is_ratio.k D_is_ratio.b takes0 (by exact (da_cons (de_name (pv 2)) da_nil)))) (by decide)))) da_nil))))))))

abbrev s_is_told_row : Stmt := topS 38
theorem sc_is_told_row : FnScope ["value", "many"] ["value", "many"] (defScope s_is_told_row) := ⟨rfl, rfl, rfl, by decide +kernel, rfl, by decide +kernel, by decide +kernel⟩
theorem dv_is_told_row {P : Program} {w : World} {K : PySem.W.Frag} {mg : Str → Option Value} {base : Heap} {B : Bs} (Z : Zn mg) (Y : Yn K mg)
    {f_is_row : Addr} {fd_is_row : FuncData} (D_is_row : DefG K mg "is_row" ["value", "many"] f_is_row fd_is_row) (G_is_row : FnOk P w K mg base (L2.CX P w) 3 f_is_row fd_is_row ["value", "many"] (lSp ⟨K, cmOf mg, [], B.T⟩ 2 sp_is_row))
    {f : Addr} {cdv : Value} {fd : FuncData} {A : Around} {outer : List Env} {s : Shared} {H : Hp} {E : XK} (hr : Room 3 (A.deeper (envOfC "is_told_row" (defScope s_is_told_row) s.heap.objs.size f cdv)))
    (tk : Takes (cxOf (L2.CX P w) P w K mg base ["value", "many"] "is_told_row" (defScope s_is_told_row) f cdv A outer s H E) (WD E)) :
    DSs B (cxOf (L2.CX P w) P w K mg base ["value", "many"] "is_told_row" (defScope s_is_told_row) f cdv A outer s H E) (WD E) (defBody s_is_told_row) t_is_told_row :=
    (dss_one (ds_ret (de_and (de_is rfl Z.isinstance rfl Z.tuple (by decide +kernel) (by decide +kernel) (de_name (pv 0))) (de_one (de_call G_is_row (hr.mono (by decide)) rfl D_is_row.g D_is_row.k D_is_row.b tk (by exact (da_cons (de_name (pv 0)) (da_cons (de_name (pv 1)) da_nil))))))))

abbrev s_Frame___init__ : Stmt := inClass (topS 42) 0
theorem sc_Frame___init__ : FnScope ["self", "rows", "place", "row"] ["self", "rows"] (defScope s_Frame___init__) := ⟨rfl, rfl, rfl, by decide +kernel, rfl, by decide +kernel, by decide +kernel⟩
theorem dv_Frame___init__ {P : Program} {w : World} {K : PySem.W.Frag} {mg : Str → Option Value} {base : Heap} {B : Bs} (Z : Zn mg) (Y : Yn K mg)
    {f_is_list : Addr} {fd_is_list : FuncData} (D_is_list : DefG K mg "is_list" ["value"] f_is_list fd_is_list) (G_is_list : FnOk P w K mg base (L2.CX P w) 1 f_is_list fd_is_list ["value"] (lSp ⟨K, cmOf mg, [], B.T⟩ 1 sp_is_list))
    {C_BadFrame___init__ f_BadFrame___init__ : Addr} {fd_BadFrame___init__ : FuncData} (O_BadFrame : ExOk K mg "BadFrame" C_BadFrame___init__ f_BadFrame___init__ ["what", "place"]) (D_BadFrame___init__ : DefAt K mg ["self", "what", "place"] f_BadFrame___init__ fd_BadFrame___init__) (G_BadFrame___init__ : FnOk P w K mg base (L2.CX P w) 1 f_BadFrame___init__ fd_BadFrame___init__ ["self", "what", "place"] (spInit K ["what", "place"]))
    {f_is_row : Addr} {fd_is_row : FuncData} (D_is_row : DefG K mg "is_row" ["value", "many"] f_is_row fd_is_row) (G_is_row : FnOk P w K mg base (L2.CX P w) 3 f_is_row fd_is_row ["value", "many"] (lSp ⟨K, cmOf mg, [], B.T⟩ 2 sp_is_row))
    {f_as_tuples : Addr} {fd_as_tuples : FuncData} (D_as_tuples : DefG K mg "as_tuples" ["value"] f_as_tuples fd_as_tuples) (G_as_tuples : FnOk P w K mg base (L2.CX P w) 8 f_as_tuples fd_as_tuples ["value"] (lSp ⟨K, cmOf mg, [], B.T⟩ 1 sp_as_tuples))
    {f : Addr} {cdv : Value} {fd : FuncData} {A : Around} {outer : List Env} {s : Shared} {H : Hp} {E : XK} (hr : Room 8 (A.deeper (envOfC "Frame.__init__" (defScope s_Frame___init__) s.heap.objs.size f cdv)))
    (tk : Takes (cxOf (L2.CX P w) P w K mg base ["self", "rows", "place", "row"] "Frame.__init__" (defScope s_Frame___init__) f cdv A outer s H E) (WD E)) :
    DSs B (cxOf (L2.CX P w) P w K mg base ["self", "rows", "place", "row"] "Frame.__init__" (defScope s_Frame___init__) f cdv A outer s H E) (WD E) (defBody s_Frame___init__) t_Frame___init__ :=
    (dss_cons (ds_if (dt_w (dw_or (dt_not (dt_val (de_call G_is_list (hr.mono (by decide)) rfl D_is_list.g D_is_list.k D_is_list.b tk (by exact (da_cons (de_name (pv 1)) da_nil))))) (dw_or1 (dt_not (dt_chain op2_le op2_le de_int (de_cb cr_len rfl Z.len (by decide +kernel) (by exact (da_cons (de_name (pv 1)) da_nil))) (de_c (v := .int 12) (fun _ => of_int _) (pe_glob rfl (Classical.choose_spec Z.c_MOST_PLACES) ⟨_, rfl⟩))))))) (dss_one (ds_raise rfl tk O_BadFrame (by decide) (by decide) G_BadFrame___init__ (hr.mono (by decide)) D_BadFrame___init__.b rfl (by exact (da_cons de_str (da_cons (de_name (pv 1)) da_nil))))) dss_nil)
    (dss_cons (ds_for (passes_of rfl) rfl (di_range1 rfl Z.range (by exact (da_cons (de_cb cr_len rfl Z.len (by decide +kernel) (by exact (da_cons (de_name (pv 1)) da_nil))) da_nil))) (dg_name sc_Frame___init__.nd rfl (by first | exact Or.inl rfl | exact Or.inr rfl)) (fun _ => (dss_cons (ds_if (dt_w (dw_or (dt_not (dt_val (de_call G_is_list (hr.mono (by decide)) rfl D_is_list.g D_is_list.k D_is_list.b tk (by exact (da_cons (de_ix (de_name (pv 1)) (de_name (pv 2)) (fun _ _ => rfl)) da_nil))))) (dw_or1 (dt_not (dt_chain op2_le op2_le de_int (de_cb cr_len rfl Z.len (by decide +kernel) (by exact (da_cons (de_ix (de_name (pv 1)) (de_name (pv 2)) (fun _ _ => rfl)) da_nil))) (de_c (v := .int 12) (fun _ => of_int _) (pe_glob rfl (Classical.choose_spec Z.c_MOST_ROWS) ⟨_, rfl⟩))))))) (dss_one (ds_raise rfl tk O_BadFrame (by decide) (by decide) G_BadFrame___init__ (hr.mono (by decide)) D_BadFrame___init__.b rfl (by exact (da_cons de_str (da_cons (de_name (pv 2)) da_nil))))) dss_nil)
    (dss_one (ds_if (dt_not (dt_val (de_cb (cr_all3 rfl) rfl Z.all (by decide +kernel) (by exact (da_cons (de_new (by exact (fe_comp rfl sc_Frame___init__.nd (by exact (di_seq (de_ix (de_name (pv 1)) (de_name (pv 2)) (fun _ _ => rfl)))) (blkOk_by (own := [("row", 3)]) (N := ["self", "rows", "place", "row"]) (sc := defScope s_Frame___init__) (by decide +kernel)) (fun _ _ _ _ _ => by exact (dg_name sc_Frame___init__.nd rfl (by first | exact Or.inl rfl | exact Or.inr rfl))) (fun _ _ _ _ _ => by exact dts_nil) (fun _ _ _ _ _ => by exact (de_call G_is_row (hr.mono (by decide)) rfl D_is_row.g D_is_row.k D_is_row.b takes0 (by exact (da_cons (de_name (pv 3)) (da_cons (de_cb cr_len rfl Z.len (by decide +kernel) (by exact (da_cons (de_name (pv 1)) da_nil))) da_nil))))) (by decide)))) da_nil))))) (dss_one (ds_raise rfl tk O_BadFrame (by decide) (by decide) G_BadFrame___init__ (hr.mono (by decide)) D_BadFrame___init__.b rfl (by exact (da_cons de_str (da_cons (de_name (pv 2)) da_nil))))) dss_nil)))))
    (dss_one (ds_selfC Y.Frame_rows (pv 0) (de_call G_as_tuples (hr.mono (by decide)) rfl D_as_tuples.g D_as_tuples.k D_as_tuples.b tk (by exact (da_cons (de_name (pv 1)) da_nil)))))))

abbrev s_fits : Stmt := topS 44
theorem sc_fits : FnScope ["frame", "load", "place"] ["frame", "load"] (defScope s_fits) := ⟨rfl, rfl, rfl, by decide +kernel, rfl, by decide +kernel, by decide +kernel⟩
theorem dv_fits {P : Program} {w : World} {K : PySem.W.Frag} {mg : Str → Option Value} {base : Heap} {B : Bs} (Z : Zn mg) (Y : Yn K mg)
    {f_is_list : Addr} {fd_is_list : FuncData} (D_is_list : DefG K mg "is_list" ["value"] f_is_list fd_is_list) (G_is_list : FnOk P w K mg base (L2.CX P w) 1 f_is_list fd_is_list ["value"] (lSp ⟨K, cmOf mg, [], B.T⟩ 1 sp_is_list))
    {f_is_row : Addr} {fd_is_row : FuncData} (D_is_row : DefG K mg "is_row" ["value", "many"] f_is_row fd_is_row) (G_is_row : FnOk P w K mg base (L2.CX P w) 3 f_is_row fd_is_row ["value", "many"] (lSp ⟨K, cmOf mg, [], B.T⟩ 2 sp_is_row))
    {f : Addr} {cdv : Value} {fd : FuncData} {A : Around} {outer : List Env} {s : Shared} {H : Hp} {E : XK} (hr : Room 3 (A.deeper (envOfC "fits" (defScope s_fits) s.heap.objs.size f cdv)))
    (tk : Takes (cxOf (L2.CX P w) P w K mg base ["frame", "load", "place"] "fits" (defScope s_fits) f cdv A outer s H E) (WD E)) :
    DSs B (cxOf (L2.CX P w) P w K mg base ["frame", "load", "place"] "fits" (defScope s_fits) f cdv A outer s H E) (WD E) (defBody s_fits) t_fits :=
    (dss_cons (ds_if (dt_w (dw_or (dt_not (dt_val (de_call G_is_list (hr.mono (by decide)) rfl D_is_list.g D_is_list.k D_is_list.b tk (by exact (da_cons (de_name (pv 1)) da_nil))))) (dw_or1 (dt_cmp (op2_ne hr.units) (de_cb cr_len rfl Z.len (by decide +kernel) (by exact (da_cons (de_name (pv 1)) da_nil))) (de_cb cr_len rfl Z.len (by decide +kernel) (by exact (da_cons (de_fld Y.Frame_rows (de_name (pv 0))) da_nil))) (nobehind _ (by decide) (by decide)))))) (dss_one (ds_ret de_bl)) dss_nil)
    (dss_one (ds_ret (de_cb (cr_all3 rfl) rfl Z.all (by decide +kernel) (by exact (da_cons (de_new (by exact (fe_comp rfl sc_fits.nd (by exact (di_range1 rfl Z.range (by exact (da_cons (de_cb cr_len rfl Z.len (by decide +kernel) (by exact (da_cons (de_name (pv 1)) da_nil))) da_nil)))) (blkOk_by (own := [("place", 2)]) (N := ["frame", "load", "place"]) (sc := defScope s_fits) (by decide +kernel)) (fun _ _ _ _ _ => by exact (dg_name sc_fits.nd rfl (by first | exact Or.inl rfl | exact Or.inr rfl))) (fun _ _ _ _ _ => by exact dts_nil) (fun _ _ _ _ _ => by exact (de_call G_is_row (hr.mono (by decide)) rfl D_is_row.g D_is_row.k D_is_row.b takes0 (by exact (da_cons (de_ix (de_name (pv 1)) (de_name (pv 2)) (fun _ _ => rfl)) (da_cons (de_cb cr_len rfl Z.len (by decide +kernel) (by exact (da_cons (de_ix (de_fld Y.Frame_rows (de_name (pv 0))) (de_name (pv 2)) (fun _ _ => rfl)) da_nil))) da_nil))))) (by decide)))) da_nil))))))

abbrev s_need_load : Stmt := topS 43
theorem sc_need_load : FnScope ["frame", "load"] ["frame", "load"] (defScope s_need_load) := ⟨rfl, rfl, rfl, by decide +kernel, rfl, by decide +kernel, by decide +kernel⟩
theorem dv_need_load {P : Program} {w : World} {K : PySem.W.Frag} {mg : Str → Option Value} {base : Heap} {B : Bs} (Z : Zn mg) (Y : Yn K mg)
    {f_fits : Addr} {fd_fits : FuncData} (D_fits : DefG K mg "fits" ["frame", "load"] f_fits fd_fits) (G_fits : FnOk P w K mg base (L2.CX P w) 4 f_fits fd_fits ["frame", "load"] (lSp ⟨K, cmOf mg, [], B.T⟩ 2 sp_fits))
    {C_BadLoad___init__ f_BadLoad___init__ : Addr} {fd_BadLoad___init__ : FuncData} (O_BadLoad : ExOk K mg "BadLoad" C_BadLoad___init__ f_BadLoad___init__ ["what"]) (D_BadLoad___init__ : DefAt K mg ["self", "what"] f_BadLoad___init__ fd_BadLoad___init__) (G_BadLoad___init__ : FnOk P w K mg base (L2.CX P w) 1 f_BadLoad___init__ fd_BadLoad___init__ ["self", "what"] (spInit K ["what"]))
    {f : Addr} {cdv : Value} {fd : FuncData} {A : Around} {outer : List Env} {s : Shared} {H : Hp} {E : XK} (hr : Room 4 (A.deeper (envOfC "need_load" (defScope s_need_load) s.heap.objs.size f cdv)))
    (tk : Takes (cxOf (L2.CX P w) P w K mg base ["frame", "load"] "need_load" (defScope s_need_load) f cdv A outer s H E) (WD E)) :
    DSs B (cxOf (L2.CX P w) P w K mg base ["frame", "load"] "need_load" (defScope s_need_load) f cdv A outer s H E) (WD E) (defBody s_need_load) t_need_load :=
    (dss_one (ds_if (dt_not (dt_val (de_call G_fits (hr.mono (by decide)) rfl D_fits.g D_fits.k D_fits.b tk (by exact (da_cons (de_name (pv 0)) (da_cons (de_name (pv 1)) da_nil)))))) (dss_one (ds_raise rfl tk O_BadLoad (by decide) (by decide) G_BadLoad___init__ (hr.mono (by decide)) D_BadLoad___init__.b rfl (by exact (da_cons de_str da_nil)))) dss_nil))

abbrev s_need_row : Stmt := topS 45
theorem sc_need_row : FnScope ["frame", "row", "what"] ["frame", "row", "what"] (defScope s_need_row) := ⟨rfl, rfl, rfl, by decide +kernel, rfl, by decide +kernel, by decide +kernel⟩
theorem dv_need_row {P : Program} {w : World} {K : PySem.W.Frag} {mg : Str → Option Value} {base : Heap} {B : Bs} (Z : Zn mg) (Y : Yn K mg)
    {f_is_row : Addr} {fd_is_row : FuncData} (D_is_row : DefG K mg "is_row" ["value", "many"] f_is_row fd_is_row) (G_is_row : FnOk P w K mg base (L2.CX P w) 3 f_is_row fd_is_row ["value", "many"] (lSp ⟨K, cmOf mg, [], B.T⟩ 2 sp_is_row))
    {C_BadRow___init__ f_BadRow___init__ : Addr} {fd_BadRow___init__ : FuncData} (O_BadRow : ExOk K mg "BadRow" C_BadRow___init__ f_BadRow___init__ ["what", "row"]) (D_BadRow___init__ : DefAt K mg ["self", "what", "row"] f_BadRow___init__ fd_BadRow___init__) (G_BadRow___init__ : FnOk P w K mg base (L2.CX P w) 1 f_BadRow___init__ fd_BadRow___init__ ["self", "what", "row"] (spInit K ["what", "row"]))
    {f : Addr} {cdv : Value} {fd : FuncData} {A : Around} {outer : List Env} {s : Shared} {H : Hp} {E : XK} (hr : Room 3 (A.deeper (envOfC "need_row" (defScope s_need_row) s.heap.objs.size f cdv)))
    (tk : Takes (cxOf (L2.CX P w) P w K mg base ["frame", "row", "what"] "need_row" (defScope s_need_row) f cdv A outer s H E) (WD E)) :
    DSs B (cxOf (L2.CX P w) P w K mg base ["frame", "row", "what"] "need_row" (defScope s_need_row) f cdv A outer s H E) (WD E) (defBody s_need_row) t_need_row :=
    (dss_one (ds_if (dt_not (dt_val (de_call G_is_row (hr.mono (by decide)) rfl D_is_row.g D_is_row.k D_is_row.b tk (by exact (da_cons (de_name (pv 1)) (da_cons (de_cb cr_len rfl Z.len (by decide +kernel) (by exact (da_cons (de_fld Y.Frame_rows (de_name (pv 0))) da_nil))) da_nil)))))) (dss_one (ds_raise rfl tk O_BadRow (by decide) (by decide) G_BadRow___init__ (hr.mono (by decide)) D_BadRow___init__.b rfl (by exact (da_cons (de_name (pv 2)) (da_cons (de_name (pv 1)) da_nil))))) dss_nil))

abbrev s_slack_at : Stmt := topS 47
theorem sc_slack_at : FnScope ["row", "number", "standing"] ["row", "number", "standing"] (defScope s_slack_at) := ⟨rfl, rfl, rfl, by decide +kernel, rfl, by decide +kernel, by decide +kernel⟩
theorem dv_slack_at {P : Program} {w : World} {K : PySem.W.Frag} {mg : Str → Option Value} {base : Heap} {B : Bs} (Z : Zn mg) (Y : Yn K mg)
    {f_added : Addr} {fd_added : FuncData} (D_added : DefG K mg "added" ["one", "other"] f_added fd_added) (G_added : FnOk P w K mg base (L2.CX P w) 2 f_added fd_added ["one", "other"] (lSp ⟨K, cmOf mg, [], B.T⟩ 2 sp_added))
    {f_summed : Addr} {fd_summed : FuncData} (D_summed : DefG K mg "summed" ["row", "other"] f_summed fd_summed) (G_summed : FnOk P w K mg base (L2.CX P w) 2 f_summed fd_summed ["row", "other"] (lSp ⟨K, cmOf mg, [], B.T⟩ 2 sp_summed))
    {f : Addr} {cdv : Value} {fd : FuncData} {A : Around} {outer : List Env} {s : Shared} {H : Hp} {E : XK} (hr : Room 2 (A.deeper (envOfC "slack_at" (defScope s_slack_at) s.heap.objs.size f cdv)))
    (tk : Takes (cxOf (L2.CX P w) P w K mg base ["row", "number", "standing"] "slack_at" (defScope s_slack_at) f cdv A outer s H E) (WD E)) :
    DSs B (cxOf (L2.CX P w) P w K mg base ["row", "number", "standing"] "slack_at" (defScope s_slack_at) f cdv A outer s H E) (WD E) (defBody s_slack_at) t_slack_at :=
    (dss_one (ds_ret (de_call G_added (hr.mono (by decide)) rfl D_added.g D_added.k D_added.b tk (by exact (da_cons (de_call G_summed (hr.mono (by decide)) rfl D_summed.g D_summed.k D_summed.b tk (by exact (da_cons (de_name (pv 0)) (da_cons (de_name (pv 2)) da_nil)))) (da_cons (de_name (pv 1)) da_nil))))))

abbrev s_slacks_at : Stmt := topS 48
theorem sc_slacks_at : FnScope ["frame", "load", "standing", "told", "bundle", "numbers", "row", "number"] ["frame", "load", "standing"] (defScope s_slacks_at) := ⟨rfl, rfl, rfl, by decide +kernel, rfl, by decide +kernel, by decide +kernel⟩
theorem dv_slacks_at {P : Program} {w : World} {K : PySem.W.Frag} {mg : Str → Option Value} {base : Heap} {B : Bs} (Z : Zn mg) (Y : Yn K mg)
    {f_slack_at : Addr} {fd_slack_at : FuncData} (D_slack_at : DefG K mg "slack_at" ["row", "number", "standing"] f_slack_at fd_slack_at) (G_slack_at : FnOk P w K mg base (L2.CX P w) 3 f_slack_at fd_slack_at ["row", "number", "standing"] (lSp ⟨K, cmOf mg, [], B.T⟩ 3 sp_slack_at))
    {f : Addr} {cdv : Value} {fd : FuncData} {A : Around} {outer : List Env} {s : Shared} {H : Hp} {E : XK} (hr : Room 3 (A.deeper (envOfC "slacks_at" (defScope s_slacks_at) s.heap.objs.size f cdv)))
    (tk : Takes (cxOf (L2.CX P w) P w K mg base ["frame", "load", "standing", "told", "bundle", "numbers", "row", "number"] "slacks_at" (defScope s_slacks_at) f cdv A outer s H E) (WD E)) :
    DSs B (cxOf (L2.CX P w) P w K mg base ["frame", "load", "standing", "told", "bundle", "numbers", "row", "number"] "slacks_at" (defScope s_slacks_at) f cdv A outer s H E) (WD E) (defBody s_slacks_at) t_slacks_at :=
    (dss_cons (ds_setL sc_slacks_at.nd rfl (by first | exact Or.inl rfl | exact Or.inr rfl) (fe_lst (by exact da_nil)))
    (dss_cons (ds_for (passes_of rfl) rfl (di_zip2 rfl Z.zip (by exact (da_cons (de_fld Y.Frame_rows (de_name (pv 0))) (da_cons (de_name (pv 1)) da_nil)))) (dg_tup rfl (dgs_cons (dg_name sc_slacks_at.nd rfl (by first | exact Or.inl rfl | exact Or.inr rfl)) (dgs_cons (dg_name sc_slacks_at.nd rfl (by first | exact Or.inl rfl | exact Or.inr rfl)) dgs_nil))) (fun _ => (dss_one (ds_app (pv 3) (de_ct cr_tuple rfl Z.tuple (by decide +kernel) (by exact (da_cons (de_new (by exact (fe_comp rfl sc_slacks_at.nd (by exact (di_zip2 rfl Z.zip (by exact (da_cons (de_name (pv 4)) (da_cons (de_name (pv 5)) da_nil))))) (blkOk_by (own := [("row", 6), ("number", 7)]) (N := ["frame", "load", "standing", "told", "bundle", "numbers", "row", "number"]) (sc := defScope s_slacks_at) (by decide +kernel)) (fun _ _ _ _ _ => by exact (dg_tup rfl (dgs_cons (dg_name sc_slacks_at.nd rfl (by first | exact Or.inl rfl | exact Or.inr rfl)) (dgs_cons (dg_name sc_slacks_at.nd rfl (by first | exact Or.inl rfl | exact Or.inr rfl)) dgs_nil)))) (fun _ _ _ _ _ => by exact dts_nil) (fun _ _ _ _ _ => by exact (de_call G_slack_at (hr.mono (by decide)) rfl D_slack_at.g D_slack_at.k D_slack_at.b takes0 (by exact (da_cons (de_name (pv 6)) (da_cons (de_name (pv 7)) (da_cons (de_name (pv 2)) da_nil)))))) (by decide)))) da_nil)))))))
    (dss_one (ds_frz 3 (ds_ret (de_ct cr_tuple rfl Z.tuple (by decide +kernel) (by exact (da_cons (de_name (pv 3)) da_nil))))))))

abbrev s_slacks : Stmt := topS 46
theorem sc_slacks : FnScope ["frame", "load", "standing"] ["frame", "load", "standing"] (defScope s_slacks) := ⟨rfl, rfl, rfl, by decide +kernel, rfl, by decide +kernel, by decide +kernel⟩
theorem dv_slacks {P : Program} {w : World} {K : PySem.W.Frag} {mg : Str → Option Value} {base : Heap} {B : Bs} (Z : Zn mg) (Y : Yn K mg)
    {f_need_load : Addr} {fd_need_load : FuncData} (D_need_load : DefG K mg "need_load" ["frame", "load"] f_need_load fd_need_load) (G_need_load : FnOk P w K mg base (L2.CX P w) 5 f_need_load fd_need_load ["frame", "load"] (lSp ⟨K, cmOf mg, [], B.T⟩ 2 sp_need_load))
    {f_need_row : Addr} {fd_need_row : FuncData} (D_need_row : DefG K mg "need_row" ["frame", "row", "what"] f_need_row fd_need_row) (G_need_row : FnOk P w K mg base (L2.CX P w) 4 f_need_row fd_need_row ["frame", "row", "what"] (lSp ⟨K, cmOf mg, [], B.T⟩ 3 sp_need_row))
    {f_slacks_at : Addr} {fd_slacks_at : FuncData} (D_slacks_at : DefG K mg "slacks_at" ["frame", "load", "standing"] f_slacks_at fd_slacks_at) (G_slacks_at : FnOk P w K mg base (L2.CX P w) 4 f_slacks_at fd_slacks_at ["frame", "load", "standing"] (lSp ⟨K, cmOf mg, [], B.T⟩ 3 sp_slacks_at))
    {f : Addr} {cdv : Value} {fd : FuncData} {A : Around} {outer : List Env} {s : Shared} {H : Hp} {E : XK} (hr : Room 5 (A.deeper (envOfC "slacks" (defScope s_slacks) s.heap.objs.size f cdv)))
    (tk : Takes (cxOf (L2.CX P w) P w K mg base ["frame", "load", "standing"] "slacks" (defScope s_slacks) f cdv A outer s H E) (WD E)) :
    DSs B (cxOf (L2.CX P w) P w K mg base ["frame", "load", "standing"] "slacks" (defScope s_slacks) f cdv A outer s H E) (WD E) (defBody s_slacks) t_slacks :=
    (dss_cons (ds_expr (de_call G_need_load (hr.mono (by decide)) rfl D_need_load.g D_need_load.k D_need_load.b tk (by exact (da_cons (de_name (pv 0)) (da_cons (de_name (pv 1)) da_nil)))))
    (dss_cons (ds_expr (de_call G_need_row (hr.mono (by decide)) rfl D_need_row.g D_need_row.k D_need_row.b tk (by exact (da_cons (de_name (pv 0)) (da_cons (de_name (pv 2)) (da_cons de_str da_nil))))))
    (dss_one (ds_ret (de_call G_slacks_at (hr.mono (by decide)) rfl D_slacks_at.g D_slacks_at.k D_slacks_at.b tk (by exact (da_cons (de_name (pv 0)) (da_cons (de_name (pv 1)) (da_cons (de_name (pv 2)) da_nil)))))))))

abbrev s_resting : Stmt := topS 49
theorem sc_resting : FnScope ["frame", "load", "standing", "told", "row", "index"] ["frame", "load", "standing"] (defScope s_resting) := ⟨rfl, rfl, rfl, by decide +kernel, rfl, by decide +kernel, by decide +kernel⟩
theorem dv_resting {P : Program} {w : World} {K : PySem.W.Frag} {mg : Str → Option Value} {base : Heap} {B : Bs} (Z : Zn mg) (Y : Yn K mg)
    {f_slacks : Addr} {fd_slacks : FuncData} (D_slacks : DefG K mg "slacks" ["frame", "load", "standing"] f_slacks fd_slacks) (G_slacks : FnOk P w K mg base (L2.CX P w) 6 f_slacks fd_slacks ["frame", "load", "standing"] (lSp ⟨K, cmOf mg, [], B.T⟩ 3 sp_slacks))
    {f : Addr} {cdv : Value} {fd : FuncData} {A : Around} {outer : List Env} {s : Shared} {H : Hp} {E : XK} (hr : Room 6 (A.deeper (envOfC "resting" (defScope s_resting) s.heap.objs.size f cdv)))
    (tk : Takes (cxOf (L2.CX P w) P w K mg base ["frame", "load", "standing", "told", "row", "index"] "resting" (defScope s_resting) f cdv A outer s H E) (WD E)) :
    DSs B (cxOf (L2.CX P w) P w K mg base ["frame", "load", "standing", "told", "row", "index"] "resting" (defScope s_resting) f cdv A outer s H E) (WD E) (defBody s_resting) t_resting :=
    (dss_cons (ds_set sc_resting.nd rfl (by first | exact Or.inl rfl | exact Or.inr rfl) (de_call G_slacks (hr.mono (by decide)) rfl D_slacks.g D_slacks.k D_slacks.b tk (by exact (da_cons (de_name (pv 0)) (da_cons (de_name (pv 1)) (da_cons (de_name (pv 2)) da_nil))))))
    (dss_one (ds_ret (de_ct cr_tuple rfl Z.tuple (by decide +kernel) (by exact (da_cons (de_new (by exact (fe_comp rfl sc_resting.nd (by exact (di_seq (de_name (pv 3)))) (blkOk_by (own := [("row", 4)]) (N := ["frame", "load", "standing", "told", "row", "index"]) (sc := defScope s_resting) (by decide +kernel)) (fun _ _ _ _ _ => by exact (dg_name sc_resting.nd rfl (by first | exact Or.inl rfl | exact Or.inr rfl))) (fun _ _ _ _ _ => by exact dts_nil) (fun _ _ _ _ _ => by exact (de_ct cr_tuple rfl Z.tuple (by decide +kernel) (by exact (da_cons (de_new (by exact (fe_comp rfl sc_resting.nd (by exact (di_range1 rfl Z.range (by exact (da_cons (de_cb cr_len rfl Z.len (by decide +kernel) (by exact (da_cons (de_name (pv 4)) da_nil))) da_nil)))) (blkOk_by (own := [("index", 5)]) (N := ["frame", "load", "standing", "told", "row", "index"]) (sc := cfR 198 17 s_resting (defScope s_resting)) (by decide +kernel)) (fun _ _ _ _ _ => by exact (dg_name sc_resting.nd rfl (by first | exact Or.inl rfl | exact Or.inr rfl))) (fun _ _ _ _ _ => by exact (dts_one (dt_cmp (op2_eq hr.units) (de_ix (de_name (pv 4)) (de_name (pv 5)) (fun _ _ => rfl)) de_int (nobehind _ (by decide) (by decide))))) (fun _ _ _ _ _ => by exact (de_name (pv 5))) (by decide)))) da_nil)))) (by decide)))) da_nil))))))

abbrev s_answers_at : Stmt := topS 51
theorem sc_answers_at : FnScope ["frame", "load", "standing", "bundle", "numbers", "signs", "row", "number"] ["frame", "load", "standing"] (defScope s_answers_at) := ⟨rfl, rfl, rfl, by decide +kernel, rfl, by decide +kernel, by decide +kernel⟩
theorem dv_answers_at {P : Program} {w : World} {K : PySem.W.Frag} {mg : Str → Option Value} {base : Heap} {B : Bs} (Z : Zn mg) (Y : Yn K mg)
    {f_sign_of : Addr} {fd_sign_of : FuncData} (D_sign_of : DefG K mg "sign_of" ["number"] f_sign_of fd_sign_of) (G_sign_of : FnOk P w K mg base (L2.CX P w) 1 f_sign_of fd_sign_of ["number"] (lSp ⟨K, cmOf mg, [], B.T⟩ 1 sp_sign_of))
    {f_slack_at : Addr} {fd_slack_at : FuncData} (D_slack_at : DefG K mg "slack_at" ["row", "number", "standing"] f_slack_at fd_slack_at) (G_slack_at : FnOk P w K mg base (L2.CX P w) 3 f_slack_at fd_slack_at ["row", "number", "standing"] (lSp ⟨K, cmOf mg, [], B.T⟩ 3 sp_slack_at))
    {f : Addr} {cdv : Value} {fd : FuncData} {A : Around} {outer : List Env} {s : Shared} {H : Hp} {E : XK} (hr : Room 3 (A.deeper (envOfC "answers_at" (defScope s_answers_at) s.heap.objs.size f cdv)))
    (tk : Takes (cxOf (L2.CX P w) P w K mg base ["frame", "load", "standing", "bundle", "numbers", "signs", "row", "number"] "answers_at" (defScope s_answers_at) f cdv A outer s H E) (WD E)) :
    DSs B (cxOf (L2.CX P w) P w K mg base ["frame", "load", "standing", "bundle", "numbers", "signs", "row", "number"] "answers_at" (defScope s_answers_at) f cdv A outer s H E) (WD E) (defBody s_answers_at) t_answers_at :=
    (dss_cons (ds_for (passes_of rfl) rfl (di_zip2 rfl Z.zip (by exact (da_cons (de_fld Y.Frame_rows (de_name (pv 0))) (da_cons (de_name (pv 1)) da_nil)))) (dg_tup rfl (dgs_cons (dg_name sc_answers_at.nd rfl (by first | exact Or.inl rfl | exact Or.inr rfl)) (dgs_cons (dg_name sc_answers_at.nd rfl (by first | exact Or.inl rfl | exact Or.inr rfl)) dgs_nil))) (fun _ => (dss_cons (ds_setLc rfl sc_answers_at.nd rfl rfl (sw_true rfl rfl rfl (by decide +kernel)) (by exact (di_zip2 rfl Z.zip (by exact (da_cons (de_name (pv 3)) (da_cons (de_name (pv 4)) da_nil))))) (blkOk_by (own := [("row", 6), ("number", 7)]) (N := ["frame", "load", "standing", "bundle", "numbers", "signs", "row", "number"]) (sc := defScope s_answers_at) (by decide +kernel)) (fun _ _ _ _ _ => by exact (dg_tup rfl (dgs_cons (dg_name sc_answers_at.nd rfl (by first | exact Or.inl rfl | exact Or.inr rfl)) (dgs_cons (dg_name sc_answers_at.nd rfl (by first | exact Or.inl rfl | exact Or.inr rfl)) dgs_nil)))) (fun _ _ _ _ _ => by exact dts_nil) (fun _ _ _ _ _ => by exact (de_call G_sign_of (hr.mono (by decide)) rfl D_sign_of.g D_sign_of.k D_sign_of.b takes0 (by exact (da_cons (de_call G_slack_at (hr.mono (by decide)) rfl D_slack_at.g D_slack_at.k D_slack_at.b takes0 (by exact (da_cons (de_name (pv 6)) (da_cons (de_name (pv 7)) (da_cons (de_name (pv 2)) da_nil))))) da_nil)))) (by decide))
    (dss_one (ds_frz 5 (ds_if (dt_w (dw_or (dt_cmp op2_in (de_un un1_neg de_int) (de_name (pv 5)) (by rfl)) (dw_or1 (dt_cmp op2_notin de_int (de_name (pv 5)) (by rfl))))) (dss_one (ds_ret de_bl)) dss_nil))))))
    (dss_one (ds_ret de_bl)))

abbrev s_is_answer : Stmt := topS 50
theorem sc_is_answer : FnScope ["frame", "load", "standing"] ["frame", "load", "standing"] (defScope s_is_answer) := ⟨rfl, rfl, rfl, by decide +kernel, rfl, by decide +kernel, by decide +kernel⟩
theorem dv_is_answer {P : Program} {w : World} {K : PySem.W.Frag} {mg : Str → Option Value} {base : Heap} {B : Bs} (Z : Zn mg) (Y : Yn K mg)
    {f_need_load : Addr} {fd_need_load : FuncData} (D_need_load : DefG K mg "need_load" ["frame", "load"] f_need_load fd_need_load) (G_need_load : FnOk P w K mg base (L2.CX P w) 5 f_need_load fd_need_load ["frame", "load"] (lSp ⟨K, cmOf mg, [], B.T⟩ 2 sp_need_load))
    {f_is_told_row : Addr} {fd_is_told_row : FuncData} (D_is_told_row : DefG K mg "is_told_row" ["value", "many"] f_is_told_row fd_is_told_row) (G_is_told_row : FnOk P w K mg base (L2.CX P w) 4 f_is_told_row fd_is_told_row ["value", "many"] (lSp ⟨K, cmOf mg, [], B.T⟩ 2 sp_is_told_row))
    {f_answers_at : Addr} {fd_answers_at : FuncData} (D_answers_at : DefG K mg "answers_at" ["frame", "load", "standing"] f_answers_at fd_answers_at) (G_answers_at : FnOk P w K mg base (L2.CX P w) 4 f_answers_at fd_answers_at ["frame", "load", "standing"] (lSp ⟨K, cmOf mg, [], B.T⟩ 3 sp_answers_at))
    {f : Addr} {cdv : Value} {fd : FuncData} {A : Around} {outer : List Env} {s : Shared} {H : Hp} {E : XK} (hr : Room 5 (A.deeper (envOfC "is_answer" (defScope s_is_answer) s.heap.objs.size f cdv)))
    (tk : Takes (cxOf (L2.CX P w) P w K mg base ["frame", "load", "standing"] "is_answer" (defScope s_is_answer) f cdv A outer s H E) (WD E)) :
    DSs B (cxOf (L2.CX P w) P w K mg base ["frame", "load", "standing"] "is_answer" (defScope s_is_answer) f cdv A outer s H E) (WD E) (defBody s_is_answer) t_is_answer :=
    (dss_cons (ds_expr (de_call G_need_load (hr.mono (by decide)) rfl D_need_load.g D_need_load.k D_need_load.b tk (by exact (da_cons (de_name (pv 0)) (da_cons (de_name (pv 1)) da_nil)))))
    (dss_one (ds_ret (de_and (de_call G_is_told_row (hr.mono (by decide)) rfl D_is_told_row.g D_is_told_row.k D_is_told_row.b tk (by exact (da_cons (de_name (pv 2)) (da_cons (de_cb cr_len rfl Z.len (by decide +kernel) (by exact (da_cons (de_fld Y.Frame_rows (de_name (pv 0))) da_nil))) da_nil)))) (de_one (de_call G_answers_at (hr.mono (by decide)) rfl D_answers_at.g D_answers_at.k D_answers_at.b tk (by exact (da_cons (de_name (pv 0)) (da_cons (de_name (pv 1)) (da_cons (de_name (pv 2)) da_nil))))))))))

abbrev s__law_pen : Stmt := topS 53
theorem sc__law_pen : FnScope ["script", "fold", "cell"] ["script"] (defScope s__law_pen) := ⟨rfl, rfl, rfl, by decide +kernel, rfl, by decide +kernel, by decide +kernel⟩
theorem dv__law_pen {P : Program} {w : World} {K : PySem.W.Frag} {mg : Str → Option Value} {base : Heap} {B : Bs} (Z : Zn mg) (Y : Yn K mg)
    {f : Addr} {cdv : Value} {fd : FuncData} {A : Around} {outer : List Env} {s : Shared} {H : Hp} {E : XK} (hr : Room 0 (A.deeper (envOfC "_law_pen" (defScope s__law_pen) s.heap.objs.size f cdv)))
    (tk : Takes (cxOf (L2.CX P w) P w K mg base ["script", "fold", "cell"] "_law_pen" (defScope s__law_pen) f cdv A outer s H E) (WD E)) :
    DSs B (cxOf (L2.CX P w) P w K mg base ["script", "fold", "cell"] "_law_pen" (defScope s__law_pen) f cdv A outer s H E) (WD E) (defBody s__law_pen) t__law_pen :=
    (dss_cons (ds_set sc__law_pen.nd rfl (by first | exact Or.inl rfl | exact Or.inr rfl) de_int)
    (dss_cons (ds_for (passes_of rfl) rfl (di_seq (de_name (pv 0))) (dg_name sc__law_pen.nd rfl (by first | exact Or.inl rfl | exact Or.inr rfl)) (fun _ => (dss_one (ds_set sc__law_pen.nd rfl (by first | exact Or.inl rfl | exact Or.inr rfl) (de_op op2_mod (de_ct cr_int rfl Z.int (by decide +kernel) (by exact (da_cons (de_op op2_add (de_op op2_mul (de_name (pv 1)) de_int) (de_name (pv 2))) da_nil))) de_int)))))
    (dss_one (ds_ret (de_penNew (by exact (fe_list rfl Z.list (de_name (pv 0)))) (by exact (de_name (pv 1))))))))

abbrev s__law_pick : Stmt := topS 55
theorem sc__law_pick : FnScope ["pen", "some"] ["pen", "some"] (defScope s__law_pick) := ⟨rfl, rfl, rfl, by decide +kernel, rfl, by decide +kernel, by decide +kernel⟩
theorem dv__law_pick {P : Program} {w : World} {K : PySem.W.Frag} {mg : Str → Option Value} {base : Heap} {B : Bs} (Z : Zn mg) (Y : Yn K mg)
    {f__law_draw : Addr} {fd__law_draw : FuncData} (D__law_draw : DefG K mg "_law_draw" ["pen", "many"] f__law_draw fd__law_draw) (G__law_draw : FnOk P w K mg base (L2.CX P w) 1 f__law_draw fd__law_draw ["pen", "many"] (lSp ⟨K, cmOf mg, [], B.T⟩ 2 sp__law_draw))
    {f : Addr} {cdv : Value} {fd : FuncData} {A : Around} {outer : List Env} {s : Shared} {H : Hp} {E : XK} (hr : Room 1 (A.deeper (envOfC "_law_pick" (defScope s__law_pick) s.heap.objs.size f cdv)))
    (tk : Takes (cxOf (L2.CX P w) P w K mg base ["pen", "some"] "_law_pick" (defScope s__law_pick) f cdv A outer s H E) (WD E)) :
    DSs B (cxOf (L2.CX P w) P w K mg base ["pen", "some"] "_law_pick" (defScope s__law_pick) f cdv A outer s H E) (WD E) (defBody s__law_pick) t__law_pick :=
    (dss_one (ds_ret (de_ix (de_name (pv 1)) (de_call G__law_draw (hr.mono (by decide)) rfl D__law_draw.g D__law_draw.k D__law_draw.b tk (by exact (da_cons (de_name (pv 0)) (da_cons (de_cb cr_len rfl Z.len (by decide +kernel) (by exact (da_cons (de_name (pv 1)) da_nil))) da_nil)))) (fun _ _ => rfl))))

abbrev s__law_shuffled : Stmt := topS 56
theorem sc__law_shuffled : FnScope ["pen", "some", "left", "found", "lap"] ["pen", "some"] (defScope s__law_shuffled) := ⟨rfl, rfl, rfl, by decide +kernel, rfl, by decide +kernel, by decide +kernel⟩
theorem dv__law_shuffled {P : Program} {w : World} {K : PySem.W.Frag} {mg : Str → Option Value} {base : Heap} {B : Bs} (Z : Zn mg) (Y : Yn K mg)
    {f__law_draw : Addr} {fd__law_draw : FuncData} (D__law_draw : DefG K mg "_law_draw" ["pen", "many"] f__law_draw fd__law_draw) (G__law_draw : FnOk P w K mg base (L2.CX P w) 1 f__law_draw fd__law_draw ["pen", "many"] (lSp ⟨K, cmOf mg, [], B.T⟩ 2 sp__law_draw))
    {f : Addr} {cdv : Value} {fd : FuncData} {A : Around} {outer : List Env} {s : Shared} {H : Hp} {E : XK} (hr : Room 1 (A.deeper (envOfC "_law_shuffled" (defScope s__law_shuffled) s.heap.objs.size f cdv)))
    (tk : Takes (cxOf (L2.CX P w) P w K mg base ["pen", "some", "left", "found", "lap"] "_law_shuffled" (defScope s__law_shuffled) f cdv A outer s H E) (WD E)) :
    DSs B (cxOf (L2.CX P w) P w K mg base ["pen", "some", "left", "found", "lap"] "_law_shuffled" (defScope s__law_shuffled) f cdv A outer s H E) (WD E) (defBody s__law_shuffled) t__law_shuffled :=
    (dss_cons (ds_parLL rfl sc__law_shuffled.nd rfl rfl (by decide) rfl rfl (by exact (fe_list rfl Z.list (de_name (pv 1)))) (by exact (fe_lst (by exact da_nil))) rfl)
    (dss_cons (ds_for (passes_of rfl) rfl (di_range1 rfl Z.range (by exact (da_cons (de_cb cr_len rfl Z.len (by decide +kernel) (by exact (da_cons (de_name (pv 1)) da_nil))) da_nil))) (dg_name sc__law_shuffled.nd rfl (by first | exact Or.inl rfl | exact Or.inr rfl)) (fun _ => (dss_one (ds_appPop (by decide) (pv 3) (pv 2) (de_call G__law_draw (hr.mono (by decide)) rfl D__law_draw.g D__law_draw.k D__law_draw.b tk (by exact (da_cons (de_name (pv 0)) (da_cons (de_lenO rfl Z.len (pv 2)) da_nil))))))))
    (dss_one (ds_frz 3 (ds_ret (de_name (pv 3)))))))

abbrev s__law_is : Stmt := topS 57
theorem sc__law_is : FnScope ["told", "due", "at"] ["told", "due"] (defScope s__law_is) := ⟨rfl, rfl, rfl, by decide +kernel, rfl, by decide +kernel, by decide +kernel⟩
theorem dv__law_is {P : Program} {w : World} {K : PySem.W.Frag} {mg : Str → Option Value} {base : Heap} {B : Bs} (Z : Zn mg) (Y : Yn K mg)
    {f : Addr} {cdv : Value} {fd : FuncData} {A : Around} {outer : List Env} {s : Shared} {H : Hp} {E : XK}
    {d : Nat} {spS : Sp3} (D_self : DefG K mg "_law_is" ["told", "due"] f fd) (G_self : FnOk P w K mg base (L2.CX P w) (0 + d) f fd ["told", "due"] (lSp ⟨K, cmOf mg, [], B.T⟩ 2 spS)) (hr : Room (0 + d) (A.deeper (envOfC "_law_is" (defScope s__law_is) s.heap.objs.size f cdv)))
    (tk : Takes (cxOf (L2.CX P w) P w K mg base ["told", "due", "at"] "_law_is" (defScope s__law_is) f cdv A outer s H E) (WD E)) :
    DSs B (cxOf (L2.CX P w) P w K mg base ["told", "due", "at"] "_law_is" (defScope s__law_is) f cdv A outer s H E) (WD E) (defBody s__law_is) (t__law_is spS) :=
    (dss_cons (ds_if (dt_val (de_is rfl Z.isinstance rfl Z.tuple (by decide +kernel) (by decide +kernel) (de_name (pv 1)))) (dss_cons (ds_if (dt_w (dw_or (dt_not (dt_val (de_is rfl Z.isinstance rfl Z.tuple (by decide +kernel) (by decide +kernel) (de_name (pv 0))))) (dw_or1 (dt_cmp (op2_ne hr.units) (de_cb cr_len rfl Z.len (by decide +kernel) (by exact (da_cons (de_name (pv 0)) da_nil))) (de_cb cr_len rfl Z.len (by decide +kernel) (by exact (da_cons (de_name (pv 1)) da_nil))) (nobehind _ (by decide) (by decide)))))) (dss_one (ds_ret de_bl)) dss_nil)
    (dss_one (ds_ret (de_cmp (op2_eq hr.units) (de_new (by exact (fe_comp rfl sc__law_is.nd (by exact (di_range1 rfl Z.range (by exact (da_cons (de_cb cr_len rfl Z.len (by decide +kernel) (by exact (da_cons (de_name (pv 1)) da_nil))) da_nil)))) (blkOk_by (own := [("at", 2)]) (N := ["told", "due", "at"]) (sc := defScope s__law_is) (by decide +kernel)) (fun _ _ _ _ _ => by exact (dg_name sc__law_is.nd rfl (by first | exact Or.inl rfl | exact Or.inr rfl))) (fun _ _ _ _ _ => by exact (dts_one (dt_not (dt_val (de_call G_self (hr.mono (by omega)) rfl D_self.g D_self.k D_self.b takes0 (by exact (da_cons (de_ix (de_name (pv 0)) (de_name (pv 2)) (fun _ _ => rfl)) (da_cons (de_ix (de_name (pv 1)) (de_name (pv 2)) (fun _ _ => rfl)) da_nil)))))))) (fun _ _ _ _ _ => by exact (de_name (pv 2))) (by decide)))) (de_new (by exact (fe_lst (by exact da_nil)))) (nobehind _ (by decide) (by decide)))))) dss_nil)
    (dss_cons (ds_if (dt_isN (de_name (pv 1))) (dss_one (ds_ret (de_isN (de_name (pv 0))))) dss_nil)
    (dss_cons (ds_if (dt_isB (de_name (pv 1))) (dss_one (ds_ret (de_isB (de_name (pv 0))))) dss_nil)
    (dss_cons (ds_if (dt_isB (de_name (pv 1))) (dss_one (ds_ret (de_isB (de_name (pv 0))))) dss_nil)
    (dss_cons (ds_if (dt_val (de_is rfl Z.isinstance rfl Z.str (by decide +kernel) (by decide +kernel) (de_name (pv 1)))) (dss_one (ds_ret (de_and (de_is rfl Z.isinstance rfl Z.str (by decide +kernel) (by decide +kernel) (de_name (pv 0))) (de_one (de_cmp (op2_eq hr.units) (de_name (pv 0)) (de_name (pv 1)) (nobehind _ (by decide) (by decide))))))) dss_nil)
    (dss_one (ds_ret (de_and (de_is rfl Z.isinstance rfl Z.int (by decide +kernel) (by decide +kernel) (de_name (pv 0))) (de_and (de_not (de_is rfl Z.isinstance rfl Z.bool (by decide +kernel) (by decide +kernel) (de_name (pv 0)))) (de_one (de_cmp (op2_eq hr.units) (de_name (pv 0)) (de_name (pv 1)) (nobehind _ (by decide) (by decide)))))))))))))

abbrev s__law_says : Stmt := topS 58
theorem sc__law_says : FnScope ["told", "due"] ["told", "due"] (defScope s__law_says) := ⟨rfl, rfl, rfl, by decide +kernel, rfl, by decide +kernel, by decide +kernel⟩
theorem dv__law_says {P : Program} {w : World} {K : PySem.W.Frag} {mg : Str → Option Value} {base : Heap} {B : Bs} (Z : Zn mg) (Y : Yn K mg)
    {f : Addr} {cdv : Value} {fd : FuncData} {A : Around} {outer : List Env} {s : Shared} {H : Hp} {E : XK} (hr : Room 0 (A.deeper (envOfC "_law_says" (defScope s__law_says) s.heap.objs.size f cdv)))
    (tk : Takes (cxOf (L2.CX P w) P w K mg base ["told", "due"] "_law_says" (defScope s__law_says) f cdv A outer s H E) (WD E)) :
    DSs B (cxOf (L2.CX P w) P w K mg base ["told", "due"] "_law_says" (defScope s__law_says) f cdv A outer s H E) (WD E) (defBody s__law_says) t__law_says :=
    (dss_one (ds_ret (de_ite (dt_val (de_name (pv 1))) (de_isB (de_name (pv 0))) (de_isB (de_name (pv 0))))))

abbrev s__law_divisor : Stmt := topS 59
theorem sc__law_divisor : FnScope ["one", "other"] ["one", "other"] (defScope s__law_divisor) := ⟨rfl, rfl, rfl, by decide +kernel, rfl, by decide +kernel, by decide +kernel⟩
theorem dv__law_divisor {P : Program} {w : World} {K : PySem.W.Frag} {mg : Str → Option Value} {base : Heap} {B : Bs} (Z : Zn mg) (Y : Yn K mg)
    {f : Addr} {cdv : Value} {fd : FuncData} {A : Around} {outer : List Env} {s : Shared} {H : Hp} {E : XK} (hr : Room 0 (A.deeper (envOfC "_law_divisor" (defScope s__law_divisor) s.heap.objs.size f cdv)))
    (tk : Takes (cxOf (L2.CX P w) P w K mg base ["one", "other"] "_law_divisor" (defScope s__law_divisor) f cdv A outer s H E) (WD E)) :
    DSs B (cxOf (L2.CX P w) P w K mg base ["one", "other"] "_law_divisor" (defScope s__law_divisor) f cdv A outer s H E) (WD E) (defBody s__law_divisor) t__law_divisor :=
    (dss_cons (ds_par rfl sc__law_divisor.nd rfl rfl (by decide) rfl rfl (by exact (da_cons (de_cb cr_abs rfl Z.abs (by decide +kernel) (by exact (da_cons (de_name (pv 0)) da_nil))) (da_cons (de_cb cr_abs rfl Z.abs (by decide +kernel) (by exact (da_cons (de_name (pv 1)) da_nil))) da_nil))) rfl)
    (dss_cons (ds_while (passes_of rfl) (dt_cmp (op2_ne hr.units) (de_name (pv 1)) de_int (nobehind _ (by decide) (by decide))) (dss_one (ds_par rfl sc__law_divisor.nd rfl rfl (by decide) rfl rfl (by exact (da_cons (de_name (pv 1)) (da_cons (de_op op2_mod (de_ct cr_int rfl Z.int (by decide +kernel) (by exact (da_cons (de_name (pv 0)) da_nil))) (de_name (pv 1))) da_nil))) rfl)))
    (dss_one (ds_ret (de_name (pv 0))))))

abbrev s__law_low : Stmt := topS 60
theorem sc__law_low : FnScope ["top", "bottom", "by"] ["top", "bottom"] (defScope s__law_low) := ⟨rfl, rfl, rfl, by decide +kernel, rfl, by decide +kernel, by decide +kernel⟩
theorem dv__law_low {P : Program} {w : World} {K : PySem.W.Frag} {mg : Str → Option Value} {base : Heap} {B : Bs} (Z : Zn mg) (Y : Yn K mg)
    {f__law_divisor : Addr} {fd__law_divisor : FuncData} (D__law_divisor : DefG K mg "_law_divisor" ["one", "other"] f__law_divisor fd__law_divisor) (G__law_divisor : FnOk P w K mg base (L2.CX P w) 1 f__law_divisor fd__law_divisor ["one", "other"] (lSp ⟨K, cmOf mg, [], B.T⟩ 2 sp__law_divisor))
    {f : Addr} {cdv : Value} {fd : FuncData} {A : Around} {outer : List Env} {s : Shared} {H : Hp} {E : XK} (hr : Room 1 (A.deeper (envOfC "_law_low" (defScope s__law_low) s.heap.objs.size f cdv)))
    (tk : Takes (cxOf (L2.CX P w) P w K mg base ["top", "bottom", "by"] "_law_low" (defScope s__law_low) f cdv A outer s H E) (WD E)) :
    DSs B (cxOf (L2.CX P w) P w K mg base ["top", "bottom", "by"] "_law_low" (defScope s__law_low) f cdv A outer s H E) (WD E) (defBody s__law_low) t__law_low :=
    (dss_cons (ds_set sc__law_low.nd rfl (by first | exact Or.inl rfl | exact Or.inr rfl) (de_call G__law_divisor (hr.mono (by decide)) rfl D__law_divisor.g D__law_divisor.k D__law_divisor.b tk (by exact (da_cons (de_name (pv 0)) (da_cons (de_name (pv 1)) da_nil)))))
    (dss_cons (ds_if (dt_cmp op2_lt (de_name (pv 1)) de_int (nobehind _ (by decide) (by decide))) (dss_one (ds_set sc__law_low.nd rfl (by first | exact Or.inl rfl | exact Or.inr rfl) (de_un un1_neg (de_name (pv 2))))) dss_nil)
    (dss_one (ds_ret (de_ite (dt_cmp (op2_eq hr.units) (de_name (pv 1)) (de_name (pv 2)) (nobehind _ (by decide) (by decide))) (de_op op2_div (de_name (pv 0)) (de_name (pv 2))) (de_tup (by exact (da_cons (de_op op2_div (de_name (pv 0)) (de_name (pv 2))) (da_cons (de_op op2_div (de_name (pv 1)) (de_name (pv 2))) da_nil)))))))))

abbrev s__law_pair : Stmt := topS 61
theorem sc__law_pair : FnScope ["number"] ["number"] (defScope s__law_pair) := ⟨rfl, rfl, rfl, by decide +kernel, rfl, by decide +kernel, by decide +kernel⟩
theorem dv__law_pair {P : Program} {w : World} {K : PySem.W.Frag} {mg : Str → Option Value} {base : Heap} {B : Bs} (Z : Zn mg) (Y : Yn K mg)
    {f : Addr} {cdv : Value} {fd : FuncData} {A : Around} {outer : List Env} {s : Shared} {H : Hp} {E : XK} (hr : Room 0 (A.deeper (envOfC "_law_pair" (defScope s__law_pair) s.heap.objs.size f cdv)))
    (tk : Takes (cxOf (L2.CX P w) P w K mg base ["number"] "_law_pair" (defScope s__law_pair) f cdv A outer s H E) (WD E)) :
    DSs B (cxOf (L2.CX P w) P w K mg base ["number"] "_law_pair" (defScope s__law_pair) f cdv A outer s H E) (WD E) (defBody s__law_pair) t__law_pair :=
    (dss_one (ds_ret (de_ite (dt_val (de_is rfl Z.isinstance rfl Z.int (by decide +kernel) (by decide +kernel) (de_name (pv 0)))) (de_tup (by exact (da_cons (de_name (pv 0)) (da_cons de_int da_nil)))) (de_name (pv 0)))))

abbrev s__law_plus : Stmt := topS 62
theorem sc__law_plus : FnScope ["one", "other", "first", "second"] ["one", "other"] (defScope s__law_plus) := ⟨rfl, rfl, rfl, by decide +kernel, rfl, by decide +kernel, by decide +kernel⟩
theorem dv__law_plus {P : Program} {w : World} {K : PySem.W.Frag} {mg : Str → Option Value} {base : Heap} {B : Bs} (Z : Zn mg) (Y : Yn K mg)
    {f__law_pair : Addr} {fd__law_pair : FuncData} (D__law_pair : DefG K mg "_law_pair" ["number"] f__law_pair fd__law_pair) (G__law_pair : FnOk P w K mg base (L2.CX P w) 1 f__law_pair fd__law_pair ["number"] (lSp ⟨K, cmOf mg, [], B.T⟩ 1 sp__law_pair))
    {f__law_low : Addr} {fd__law_low : FuncData} (D__law_low : DefG K mg "_law_low" ["top", "bottom"] f__law_low fd__law_low) (G__law_low : FnOk P w K mg base (L2.CX P w) 2 f__law_low fd__law_low ["top", "bottom"] (lSp ⟨K, cmOf mg, [], B.T⟩ 2 sp__law_low))
    {f : Addr} {cdv : Value} {fd : FuncData} {A : Around} {outer : List Env} {s : Shared} {H : Hp} {E : XK} (hr : Room 2 (A.deeper (envOfC "_law_plus" (defScope s__law_plus) s.heap.objs.size f cdv)))
    (tk : Takes (cxOf (L2.CX P w) P w K mg base ["one", "other", "first", "second"] "_law_plus" (defScope s__law_plus) f cdv A outer s H E) (WD E)) :
    DSs B (cxOf (L2.CX P w) P w K mg base ["one", "other", "first", "second"] "_law_plus" (defScope s__law_plus) f cdv A outer s H E) (WD E) (defBody s__law_plus) t__law_plus :=
    (dss_cons (ds_par rfl sc__law_plus.nd rfl rfl (by decide) rfl rfl (by exact (da_cons (de_call G__law_pair (hr.mono (by decide)) rfl D__law_pair.g D__law_pair.k D__law_pair.b tk (by exact (da_cons (de_name (pv 0)) da_nil))) (da_cons (de_call G__law_pair (hr.mono (by decide)) rfl D__law_pair.g D__law_pair.k D__law_pair.b tk (by exact (da_cons (de_name (pv 1)) da_nil))) da_nil))) rfl)
    (dss_one (ds_ret (de_call G__law_low (hr.mono (by decide)) rfl D__law_low.g D__law_low.k D__law_low.b tk (by exact (da_cons (de_op op2_add (de_op op2_mul (de_ix (de_name (pv 2)) de_int (fun _ _ => rfl)) (de_ix (de_name (pv 3)) de_int (fun _ _ => rfl))) (de_op op2_mul (de_ix (de_name (pv 3)) de_int (fun _ _ => rfl)) (de_ix (de_name (pv 2)) de_int (fun _ _ => rfl)))) (da_cons (de_op op2_mul (de_ix (de_name (pv 2)) de_int (fun _ _ => rfl)) (de_ix (de_name (pv 3)) de_int (fun _ _ => rfl))) da_nil)))))))

abbrev s__law_opposite : Stmt := topS 63
theorem sc__law_opposite : FnScope ["number"] ["number"] (defScope s__law_opposite) := ⟨rfl, rfl, rfl, by decide +kernel, rfl, by decide +kernel, by decide +kernel⟩
theorem dv__law_opposite {P : Program} {w : World} {K : PySem.W.Frag} {mg : Str → Option Value} {base : Heap} {B : Bs} (Z : Zn mg) (Y : Yn K mg)
    {f : Addr} {cdv : Value} {fd : FuncData} {A : Around} {outer : List Env} {s : Shared} {H : Hp} {E : XK} (hr : Room 0 (A.deeper (envOfC "_law_opposite" (defScope s__law_opposite) s.heap.objs.size f cdv)))
    (tk : Takes (cxOf (L2.CX P w) P w K mg base ["number"] "_law_opposite" (defScope s__law_opposite) f cdv A outer s H E) (WD E)) :
    DSs B (cxOf (L2.CX P w) P w K mg base ["number"] "_law_opposite" (defScope s__law_opposite) f cdv A outer s H E) (WD E) (defBody s__law_opposite) t__law_opposite :=
    (dss_one (ds_ret (de_ite (dt_val (de_is rfl Z.isinstance rfl Z.int (by decide +kernel) (by decide +kernel) (de_name (pv 0)))) (de_un un1_neg (de_name (pv 0))) (de_tup (by exact (da_cons (de_un un1_neg (de_ix (de_name (pv 0)) de_int (fun _ _ => rfl))) (da_cons (de_ix (de_name (pv 0)) de_int (fun _ _ => rfl)) da_nil)))))))

abbrev s__law_minus : Stmt := topS 64
theorem sc__law_minus : FnScope ["one", "other"] ["one", "other"] (defScope s__law_minus) := ⟨rfl, rfl, rfl, by decide +kernel, rfl, by decide +kernel, by decide +kernel⟩
theorem dv__law_minus {P : Program} {w : World} {K : PySem.W.Frag} {mg : Str → Option Value} {base : Heap} {B : Bs} (Z : Zn mg) (Y : Yn K mg)
    {f__law_plus : Addr} {fd__law_plus : FuncData} (D__law_plus : DefG K mg "_law_plus" ["one", "other"] f__law_plus fd__law_plus) (G__law_plus : FnOk P w K mg base (L2.CX P w) 3 f__law_plus fd__law_plus ["one", "other"] (lSp ⟨K, cmOf mg, [], B.T⟩ 2 sp__law_plus))
    {f__law_opposite : Addr} {fd__law_opposite : FuncData} (D__law_opposite : DefG K mg "_law_opposite" ["number"] f__law_opposite fd__law_opposite) (G__law_opposite : FnOk P w K mg base (L2.CX P w) 1 f__law_opposite fd__law_opposite ["number"] (lSp ⟨K, cmOf mg, [], B.T⟩ 1 sp__law_opposite))
    {f : Addr} {cdv : Value} {fd : FuncData} {A : Around} {outer : List Env} {s : Shared} {H : Hp} {E : XK} (hr : Room 3 (A.deeper (envOfC "_law_minus" (defScope s__law_minus) s.heap.objs.size f cdv)))
    (tk : Takes (cxOf (L2.CX P w) P w K mg base ["one", "other"] "_law_minus" (defScope s__law_minus) f cdv A outer s H E) (WD E)) :
    DSs B (cxOf (L2.CX P w) P w K mg base ["one", "other"] "_law_minus" (defScope s__law_minus) f cdv A outer s H E) (WD E) (defBody s__law_minus) t__law_minus :=
    (dss_one (ds_ret (de_call G__law_plus (hr.mono (by decide)) rfl D__law_plus.g D__law_plus.k D__law_plus.b tk (by exact (da_cons (de_name (pv 0)) (da_cons (de_call G__law_opposite (hr.mono (by decide)) rfl D__law_opposite.g D__law_opposite.k D__law_opposite.b tk (by exact (da_cons (de_name (pv 1)) da_nil))) da_nil))))))

abbrev s__law_sign : Stmt := topS 65
theorem sc__law_sign : FnScope ["number", "top"] ["number"] (defScope s__law_sign) := ⟨rfl, rfl, rfl, by decide +kernel, rfl, by decide +kernel, by decide +kernel⟩
theorem dv__law_sign {P : Program} {w : World} {K : PySem.W.Frag} {mg : Str → Option Value} {base : Heap} {B : Bs} (Z : Zn mg) (Y : Yn K mg)
    {f__law_pair : Addr} {fd__law_pair : FuncData} (D__law_pair : DefG K mg "_law_pair" ["number"] f__law_pair fd__law_pair) (G__law_pair : FnOk P w K mg base (L2.CX P w) 1 f__law_pair fd__law_pair ["number"] (lSp ⟨K, cmOf mg, [], B.T⟩ 1 sp__law_pair))
    {f : Addr} {cdv : Value} {fd : FuncData} {A : Around} {outer : List Env} {s : Shared} {H : Hp} {E : XK} (hr : Room 1 (A.deeper (envOfC "_law_sign" (defScope s__law_sign) s.heap.objs.size f cdv)))
    (tk : Takes (cxOf (L2.CX P w) P w K mg base ["number", "top"] "_law_sign" (defScope s__law_sign) f cdv A outer s H E) (WD E)) :
    DSs B (cxOf (L2.CX P w) P w K mg base ["number", "top"] "_law_sign" (defScope s__law_sign) f cdv A outer s H E) (WD E) (defBody s__law_sign) t__law_sign :=
    (dss_cons (ds_set sc__law_sign.nd rfl (by first | exact Or.inl rfl | exact Or.inr rfl) (de_ix (de_call G__law_pair (hr.mono (by decide)) rfl D__law_pair.g D__law_pair.k D__law_pair.b tk (by exact (da_cons (de_name (pv 0)) da_nil))) de_int (fun _ _ => rfl)))
    (dss_one (ds_ret (de_op op2_sub (de_ct cr_int rfl Z.int (by decide +kernel) (by exact (da_cons (de_cmp op2_gt (de_name (pv 1)) de_int (nobehind _ (by decide) (by decide))) da_nil))) (de_ct cr_int rfl Z.int (by decide +kernel) (by exact (da_cons (de_cmp op2_lt (de_name (pv 1)) de_int (nobehind _ (by decide) (by decide))) da_nil)))))))

abbrev s__law_dot : Stmt := topS 66
theorem sc__law_dot : FnScope ["row", "other", "top", "bottom", "one", "two", "first", "second", "low"] ["row", "other"] (defScope s__law_dot) := ⟨rfl, rfl, rfl, by decide +kernel, rfl, by decide +kernel, by decide +kernel⟩
theorem dv__law_dot {P : Program} {w : World} {K : PySem.W.Frag} {mg : Str → Option Value} {base : Heap} {B : Bs} (Z : Zn mg) (Y : Yn K mg)
    {f__law_pair : Addr} {fd__law_pair : FuncData} (D__law_pair : DefG K mg "_law_pair" ["number"] f__law_pair fd__law_pair) (G__law_pair : FnOk P w K mg base (L2.CX P w) 1 f__law_pair fd__law_pair ["number"] (lSp ⟨K, cmOf mg, [], B.T⟩ 1 sp__law_pair))
    {f__law_low : Addr} {fd__law_low : FuncData} (D__law_low : DefG K mg "_law_low" ["top", "bottom"] f__law_low fd__law_low) (G__law_low : FnOk P w K mg base (L2.CX P w) 2 f__law_low fd__law_low ["top", "bottom"] (lSp ⟨K, cmOf mg, [], B.T⟩ 2 sp__law_low))
    {f : Addr} {cdv : Value} {fd : FuncData} {A : Around} {outer : List Env} {s : Shared} {H : Hp} {E : XK} (hr : Room 2 (A.deeper (envOfC "_law_dot" (defScope s__law_dot) s.heap.objs.size f cdv)))
    (tk : Takes (cxOf (L2.CX P w) P w K mg base ["row", "other", "top", "bottom", "one", "two", "first", "second", "low"] "_law_dot" (defScope s__law_dot) f cdv A outer s H E) (WD E)) :
    DSs B (cxOf (L2.CX P w) P w K mg base ["row", "other", "top", "bottom", "one", "two", "first", "second", "low"] "_law_dot" (defScope s__law_dot) f cdv A outer s H E) (WD E) (defBody s__law_dot) t__law_dot :=
    (dss_cons (ds_asg (de_tup (by exact (da_cons de_int (da_cons de_int da_nil)))) (dg_tup rfl (dgs_cons (dg_name sc__law_dot.nd rfl (by first | exact Or.inl rfl | exact Or.inr rfl)) (dgs_cons (dg_name sc__law_dot.nd rfl (by first | exact Or.inl rfl | exact Or.inr rfl)) dgs_nil))))
    (dss_cons (ds_for (passes_of rfl) rfl (di_zip2 rfl Z.zip (by exact (da_cons (de_name (pv 0)) (da_cons (de_name (pv 1)) da_nil)))) (dg_tup rfl (dgs_cons (dg_name sc__law_dot.nd rfl (by first | exact Or.inl rfl | exact Or.inr rfl)) (dgs_cons (dg_name sc__law_dot.nd rfl (by first | exact Or.inl rfl | exact Or.inr rfl)) dgs_nil))) (fun _ => (dss_cons (ds_par rfl sc__law_dot.nd rfl rfl (by decide) rfl rfl (by exact (da_cons (de_call G__law_pair (hr.mono (by decide)) rfl D__law_pair.g D__law_pair.k D__law_pair.b tk (by exact (da_cons (de_name (pv 4)) da_nil))) (da_cons (de_call G__law_pair (hr.mono (by decide)) rfl D__law_pair.g D__law_pair.k D__law_pair.b tk (by exact (da_cons (de_name (pv 5)) da_nil))) da_nil))) rfl)
    (dss_cons (ds_set sc__law_dot.nd rfl (by first | exact Or.inl rfl | exact Or.inr rfl) (de_op op2_mul (de_ix (de_name (pv 6)) de_int (fun _ _ => rfl)) (de_ix (de_name (pv 7)) de_int (fun _ _ => rfl))))
    (dss_one (ds_if (dt_cmp (op2_eq hr.units) (de_name (pv 8)) (de_name (pv 3)) (nobehind _ (by decide) (by decide))) (dss_one (ds_set sc__law_dot.nd rfl (by first | exact Or.inl rfl | exact Or.inr rfl) (de_op op2_add (de_name (pv 2)) (de_op op2_mul (de_ix (de_name (pv 6)) de_int (fun _ _ => rfl)) (de_ix (de_name (pv 7)) de_int (fun _ _ => rfl)))))) (dss_one (ds_par rfl sc__law_dot.nd rfl rfl (by decide) rfl rfl (by exact (da_cons (de_op op2_add (de_op op2_mul (de_name (pv 2)) (de_name (pv 8))) (de_op op2_mul (de_op op2_mul (de_ix (de_name (pv 6)) de_int (fun _ _ => rfl)) (de_ix (de_name (pv 7)) de_int (fun _ _ => rfl))) (de_name (pv 3)))) (da_cons (de_op op2_mul (de_name (pv 3)) (de_name (pv 8))) da_nil))) rfl))))))))
    (dss_one (ds_ret (de_call G__law_low (hr.mono (by decide)) rfl D__law_low.g D__law_low.k D__law_low.b tk (by exact (da_cons (de_name (pv 2)) (da_cons (de_name (pv 3)) da_nil))))))))

abbrev s__law_is_whole : Stmt := topS 68
theorem sc__law_is_whole : FnScope ["value"] ["value"] (defScope s__law_is_whole) := ⟨rfl, rfl, rfl, by decide +kernel, rfl, by decide +kernel, by decide +kernel⟩
theorem dv__law_is_whole {P : Program} {w : World} {K : PySem.W.Frag} {mg : Str → Option Value} {base : Heap} {B : Bs} (Z : Zn mg) (Y : Yn K mg)
    {f : Addr} {cdv : Value} {fd : FuncData} {A : Around} {outer : List Env} {s : Shared} {H : Hp} {E : XK} (hr : Room 0 (A.deeper (envOfC "_law_is_whole" (defScope s__law_is_whole) s.heap.objs.size f cdv)))
    (tk : Takes (cxOf (L2.CX P w) P w K mg base ["value"] "_law_is_whole" (defScope s__law_is_whole) f cdv A outer s H E) (WD E)) :
    DSs B (cxOf (L2.CX P w) P w K mg base ["value"] "_law_is_whole" (defScope s__law_is_whole) f cdv A outer s H E) (WD E) (defBody s__law_is_whole) t__law_is_whole :=
    (dss_one (ds_ret (de_and (de_is rfl Z.isinstance rfl Z.int (by decide +kernel) (by decide +kernel) (de_name (pv 0))) (de_one (de_not (de_is rfl Z.isinstance rfl Z.bool (by decide +kernel) (by decide +kernel) (de_name (pv 0))))))))

abbrev s__law_is_ratio : Stmt := topS 67
theorem sc__law_is_ratio : FnScope ["value"] ["value"] (defScope s__law_is_ratio) := ⟨rfl, rfl, rfl, by decide +kernel, rfl, by decide +kernel, by decide +kernel⟩
theorem dv__law_is_ratio {P : Program} {w : World} {K : PySem.W.Frag} {mg : Str → Option Value} {base : Heap} {B : Bs} (Z : Zn mg) (Y : Yn K mg)
    {f__law_is_whole : Addr} {fd__law_is_whole : FuncData} (D__law_is_whole : DefG K mg "_law_is_whole" ["value"] f__law_is_whole fd__law_is_whole) (G__law_is_whole : FnOk P w K mg base (L2.CX P w) 1 f__law_is_whole fd__law_is_whole ["value"] (lSp ⟨K, cmOf mg, [], B.T⟩ 1 sp__law_is_whole))
    {f__law_divisor : Addr} {fd__law_divisor : FuncData} (D__law_divisor : DefG K mg "_law_divisor" ["one", "other"] f__law_divisor fd__law_divisor) (G__law_divisor : FnOk P w K mg base (L2.CX P w) 1 f__law_divisor fd__law_divisor ["one", "other"] (lSp ⟨K, cmOf mg, [], B.T⟩ 2 sp__law_divisor))
    {f : Addr} {cdv : Value} {fd : FuncData} {A : Around} {outer : List Env} {s : Shared} {H : Hp} {E : XK} (hr : Room 1 (A.deeper (envOfC "_law_is_ratio" (defScope s__law_is_ratio) s.heap.objs.size f cdv)))
    (tk : Takes (cxOf (L2.CX P w) P w K mg base ["value"] "_law_is_ratio" (defScope s__law_is_ratio) f cdv A outer s H E) (WD E)) :
    DSs B (cxOf (L2.CX P w) P w K mg base ["value"] "_law_is_ratio" (defScope s__law_is_ratio) f cdv A outer s H E) (WD E) (defBody s__law_is_ratio) t__law_is_ratio :=
    (dss_cons (ds_if (dt_val (de_is rfl Z.isinstance rfl Z.tuple (by decide +kernel) (by decide +kernel) (de_name (pv 0)))) (dss_cons (ds_if (dt_w (dw_or (dt_cmp (op2_ne hr.units) (de_cb cr_len rfl Z.len (by decide +kernel) (by exact (da_cons (de_name (pv 0)) da_nil))) de_int (nobehind _ (by decide) (by decide))) (dw_or (dt_not (dt_val (de_call G__law_is_whole (hr.mono (by decide)) rfl D__law_is_whole.g D__law_is_whole.k D__law_is_whole.b tk (by exact (da_cons (de_ix (de_name (pv 0)) de_int (fun _ _ => rfl)) da_nil))))) (dw_or1 (dt_not (dt_val (de_call G__law_is_whole (hr.mono (by decide)) rfl D__law_is_whole.g D__law_is_whole.k D__law_is_whole.b tk (by exact (da_cons (de_ix (de_name (pv 0)) de_int (fun _ _ => rfl)) da_nil))))))))) (dss_one (ds_ret de_bl)) dss_nil)
    (dss_one (ds_ret (de_and (de_cmp op2_gt (de_ix (de_name (pv 0)) de_int (fun _ _ => rfl)) de_int (nobehind _ (by decide) (by decide))) (de_one (de_cmp (op2_eq hr.units) (de_call G__law_divisor (hr.mono (by decide)) rfl D__law_divisor.g D__law_divisor.k D__law_divisor.b tk (by exact (da_cons (de_ix (de_name (pv 0)) de_int (fun _ _ => rfl)) (da_cons (de_ix (de_name (pv 0)) de_int (fun _ _ => rfl)) da_nil)))) de_int (nobehind _ (by decide) (by decide)))))))) dss_nil)
    (dss_one (ds_ret (de_call G__law_is_whole (hr.mono (by decide)) rfl D__law_is_whole.g D__law_is_whole.k D__law_is_whole.b tk (by exact (da_cons (de_name (pv 0)) da_nil))))))

abbrev s__law_wide : Stmt := topS 70
theorem sc__law_wide : FnScope ["pen", "figures", "found", "top", "lap"] ["pen", "figures"] (defScope s__law_wide) := ⟨rfl, rfl, rfl, by decide +kernel, rfl, by decide +kernel, by decide +kernel⟩
theorem dv__law_wide {P : Program} {w : World} {K : PySem.W.Frag} {mg : Str → Option Value} {base : Heap} {B : Bs} (Z : Zn mg) (Y : Yn K mg)
    {f__law_draw : Addr} {fd__law_draw : FuncData} (D__law_draw : DefG K mg "_law_draw" ["pen", "many"] f__law_draw fd__law_draw) (G__law_draw : FnOk P w K mg base (L2.CX P w) 1 f__law_draw fd__law_draw ["pen", "many"] (lSp ⟨K, cmOf mg, [], B.T⟩ 2 sp__law_draw))
    {f : Addr} {cdv : Value} {fd : FuncData} {A : Around} {outer : List Env} {s : Shared} {H : Hp} {E : XK} (hr : Room 1 (A.deeper (envOfC "_law_wide" (defScope s__law_wide) s.heap.objs.size f cdv)))
    (tk : Takes (cxOf (L2.CX P w) P w K mg base ["pen", "figures", "found", "top", "lap"] "_law_wide" (defScope s__law_wide) f cdv A outer s H E) (WD E)) :
    DSs B (cxOf (L2.CX P w) P w K mg base ["pen", "figures", "found", "top", "lap"] "_law_wide" (defScope s__law_wide) f cdv A outer s H E) (WD E) (defBody s__law_wide) t__law_wide :=
    (dss_cons (ds_asg (de_tup (by exact (da_cons de_int (da_cons de_int da_nil)))) (dg_tup rfl (dgs_cons (dg_name sc__law_wide.nd rfl (by first | exact Or.inl rfl | exact Or.inr rfl)) (dgs_cons (dg_name sc__law_wide.nd rfl (by first | exact Or.inl rfl | exact Or.inr rfl)) dgs_nil))))
    (dss_cons (ds_for (passes_of rfl) rfl (di_range1 rfl Z.range (by exact (da_cons (de_op op2_div (de_op op2_add (de_name (pv 1)) de_int) de_int) da_nil))) (dg_name sc__law_wide.nd rfl (by first | exact Or.inl rfl | exact Or.inr rfl)) (fun _ => (dss_one (ds_set sc__law_wide.nd rfl (by first | exact Or.inl rfl | exact Or.inr rfl) (de_op op2_add (de_op op2_mul (de_name (pv 2)) (de_op op2_pow de_int de_int)) (de_call G__law_draw (hr.mono (by decide)) rfl D__law_draw.g D__law_draw.k D__law_draw.b tk (by exact (da_cons (de_name (pv 0)) (da_cons (de_op op2_pow de_int de_int) da_nil)))))))))
    (dss_cons (ds_for (passes_of rfl) rfl (di_range1 rfl Z.range (by exact (da_cons (de_name (pv 1)) da_nil))) (dg_name sc__law_wide.nd rfl (by first | exact Or.inl rfl | exact Or.inr rfl)) (fun _ => (dss_one (ds_set sc__law_wide.nd rfl (by first | exact Or.inl rfl | exact Or.inr rfl) (de_op op2_mul (de_name (pv 3)) de_int)))))
    (dss_one (ds_ret (de_op op2_mod (de_ct cr_int rfl Z.int (by decide +kernel) (by exact (da_cons (de_name (pv 2)) da_nil))) (de_name (pv 3))))))))

abbrev s__law_number : Stmt := topS 69
theorem sc__law_number : FnScope ["pen", "size"] ["pen", "size"] (defScope s__law_number) := ⟨rfl, rfl, rfl, by decide +kernel, rfl, by decide +kernel, by decide +kernel⟩
theorem dv__law_number {P : Program} {w : World} {K : PySem.W.Frag} {mg : Str → Option Value} {base : Heap} {B : Bs} (Z : Zn mg) (Y : Yn K mg)
    {f__law_draw : Addr} {fd__law_draw : FuncData} (D__law_draw : DefG K mg "_law_draw" ["pen", "many"] f__law_draw fd__law_draw) (G__law_draw : FnOk P w K mg base (L2.CX P w) 1 f__law_draw fd__law_draw ["pen", "many"] (lSp ⟨K, cmOf mg, [], B.T⟩ 2 sp__law_draw))
    {f__law_low : Addr} {fd__law_low : FuncData} (D__law_low : DefG K mg "_law_low" ["top", "bottom"] f__law_low fd__law_low) (G__law_low : FnOk P w K mg base (L2.CX P w) 2 f__law_low fd__law_low ["top", "bottom"] (lSp ⟨K, cmOf mg, [], B.T⟩ 2 sp__law_low))
    {f__law_wide : Addr} {fd__law_wide : FuncData} (D__law_wide : DefG K mg "_law_wide" ["pen", "figures"] f__law_wide fd__law_wide) (G__law_wide : FnOk P w K mg base (L2.CX P w) 2 f__law_wide fd__law_wide ["pen", "figures"] (lSp ⟨K, cmOf mg, [], B.T⟩ 2 sp__law_wide))
    {f : Addr} {cdv : Value} {fd : FuncData} {A : Around} {outer : List Env} {s : Shared} {H : Hp} {E : XK} (hr : Room 2 (A.deeper (envOfC "_law_number" (defScope s__law_number) s.heap.objs.size f cdv)))
    (tk : Takes (cxOf (L2.CX P w) P w K mg base ["pen", "size"] "_law_number" (defScope s__law_number) f cdv A outer s H E) (WD E)) :
    DSs B (cxOf (L2.CX P w) P w K mg base ["pen", "size"] "_law_number" (defScope s__law_number) f cdv A outer s H E) (WD E) (defBody s__law_number) t__law_number :=
    (dss_cons (ds_if (dt_cmp (op2_eq hr.units) (de_name (pv 1)) de_int (nobehind _ (by decide) (by decide))) (dss_one (ds_ret (de_op op2_sub (de_call G__law_draw (hr.mono (by decide)) rfl D__law_draw.g D__law_draw.k D__law_draw.b tk (by exact (da_cons (de_name (pv 0)) (da_cons de_int da_nil)))) de_int))) dss_nil)
    (dss_cons (ds_if (dt_cmp (op2_eq hr.units) (de_name (pv 1)) de_int (nobehind _ (by decide) (by decide))) (dss_one (ds_ret (de_call G__law_low (hr.mono (by decide)) rfl D__law_low.g D__law_low.k D__law_low.b tk (by exact (da_cons (de_op op2_sub (de_call G__law_draw (hr.mono (by decide)) rfl D__law_draw.g D__law_draw.k D__law_draw.b tk (by exact (da_cons (de_name (pv 0)) (da_cons de_int da_nil)))) de_int) (da_cons (de_op op2_add de_int (de_call G__law_draw (hr.mono (by decide)) rfl D__law_draw.g D__law_draw.k D__law_draw.b tk (by exact (da_cons (de_name (pv 0)) (da_cons de_int da_nil))))) da_nil)))))) dss_nil)
    (dss_cons (ds_if (dt_cmp (op2_eq hr.units) (de_name (pv 1)) de_int (nobehind _ (by decide) (by decide))) (dss_one (ds_ret (de_call G__law_low (hr.mono (by decide)) rfl D__law_low.g D__law_low.k D__law_low.b tk (by exact (da_cons (de_op op2_sub (de_call G__law_draw (hr.mono (by decide)) rfl D__law_draw.g D__law_draw.k D__law_draw.b tk (by exact (da_cons (de_name (pv 0)) (da_cons de_int da_nil)))) de_int) (da_cons (de_op op2_add de_int (de_call G__law_draw (hr.mono (by decide)) rfl D__law_draw.g D__law_draw.k D__law_draw.b tk (by exact (da_cons (de_name (pv 0)) (da_cons de_int da_nil))))) da_nil)))))) dss_nil)
    (dss_one (ds_ret (de_call G__law_low (hr.mono (by decide)) rfl D__law_low.g D__law_low.k D__law_low.b tk (by exact (da_cons (de_op op2_mul (de_op op2_sub de_int (de_op op2_mul de_int (de_call G__law_draw (hr.mono (by decide)) rfl D__law_draw.g D__law_draw.k D__law_draw.b tk (by exact (da_cons (de_name (pv 0)) (da_cons de_int da_nil)))))) (de_call G__law_wide (hr.mono (by decide)) rfl D__law_wide.g D__law_wide.k D__law_wide.b tk (by exact (da_cons (de_name (pv 0)) (da_cons de_int da_nil))))) (da_cons (de_op op2_add de_int (de_call G__law_wide (hr.mono (by decide)) rfl D__law_wide.g D__law_wide.k D__law_wide.b tk (by exact (da_cons (de_name (pv 0)) (da_cons de_int da_nil))))) da_nil)))))))))

abbrev s__law_row : Stmt := topS 71
theorem sc__law_row : FnScope ["pen", "many", "size", "at"] ["pen", "many", "size"] (defScope s__law_row) := ⟨rfl, rfl, rfl, by decide +kernel, rfl, by decide +kernel, by decide +kernel⟩
theorem dv__law_row {P : Program} {w : World} {K : PySem.W.Frag} {mg : Str → Option Value} {base : Heap} {B : Bs} (Z : Zn mg) (Y : Yn K mg)
    {f__law_draw : Addr} {fd__law_draw : FuncData} (D__law_draw : DefG K mg "_law_draw" ["pen", "many"] f__law_draw fd__law_draw) (G__law_draw : FnOk P w K mg base (L2.CX P w) 1 f__law_draw fd__law_draw ["pen", "many"] (lSp ⟨K, cmOf mg, [], B.T⟩ 2 sp__law_draw))
    {f__law_number : Addr} {fd__law_number : FuncData} (D__law_number : DefG K mg "_law_number" ["pen", "size"] f__law_number fd__law_number) (G__law_number : FnOk P w K mg base (L2.CX P w) 3 f__law_number fd__law_number ["pen", "size"] (lSp ⟨K, cmOf mg, [], B.T⟩ 2 sp__law_number))
    {f : Addr} {cdv : Value} {fd : FuncData} {A : Around} {outer : List Env} {s : Shared} {H : Hp} {E : XK} (hr : Room 3 (A.deeper (envOfC "_law_row" (defScope s__law_row) s.heap.objs.size f cdv)))
    (tk : Takes (cxOf (L2.CX P w) P w K mg base ["pen", "many", "size", "at"] "_law_row" (defScope s__law_row) f cdv A outer s H E) (WD E)) :
    DSs B (cxOf (L2.CX P w) P w K mg base ["pen", "many", "size", "at"] "_law_row" (defScope s__law_row) f cdv A outer s H E) (WD E) (defBody s__law_row) t__law_row :=
    (dss_one (ds_ret (de_ct cr_tuple rfl Z.tuple (by decide +kernel) (by exact (da_cons (de_new (by exact (fe_comp rfl sc__law_row.nd (by exact (di_range1 rfl Z.range (by exact (da_cons (de_name (pv 1)) da_nil)))) (blkOk_by (own := [("at", 3)]) (N := ["pen", "many", "size", "at"]) (sc := defScope s__law_row) (by decide +kernel)) (fun _ _ _ _ _ => by exact (dg_name sc__law_row.nd rfl (by first | exact Or.inl rfl | exact Or.inr rfl))) (fun _ _ _ _ _ => by exact dts_nil) (fun _ _ _ _ _ => by exact (de_ite (dt_cmp op2_gt (de_call G__law_draw (hr.mono (by decide)) rfl D__law_draw.g D__law_draw.k D__law_draw.b takes0 (by exact (da_cons (de_name (pv 0)) (da_cons de_int da_nil)))) de_int (nobehind _ (by decide) (by decide))) (de_call G__law_number (hr.mono (by decide)) rfl D__law_number.g D__law_number.k D__law_number.b takes0 (by exact (da_cons (de_name (pv 0)) (da_cons (de_name (pv 2)) da_nil)))) de_int)) (by decide)))) da_nil)))))

abbrev s__law_counts : Stmt := topS 72
theorem sc__law_counts : FnScope ["pen", "places", "most", "found", "left", "at", "many"] ["pen", "places", "most"] (defScope s__law_counts) := ⟨rfl, rfl, rfl, by decide +kernel, rfl, by decide +kernel, by decide +kernel⟩
theorem dv__law_counts {P : Program} {w : World} {K : PySem.W.Frag} {mg : Str → Option Value} {base : Heap} {B : Bs} (Z : Zn mg) (Y : Yn K mg)
    {f__law_pick : Addr} {fd__law_pick : FuncData} (D__law_pick : DefG K mg "_law_pick" ["pen", "some"] f__law_pick fd__law_pick) (G__law_pick : FnOk P w K mg base (L2.CX P w) 2 f__law_pick fd__law_pick ["pen", "some"] (lSp ⟨K, cmOf mg, [], B.T⟩ 2 sp__law_pick))
    {f__law_shuffled : Addr} {fd__law_shuffled : FuncData} (D__law_shuffled : DefG K mg "_law_shuffled" ["pen", "some"] f__law_shuffled fd__law_shuffled) (G__law_shuffled : FnOk P w K mg base (L2.CX P w) 2 f__law_shuffled fd__law_shuffled ["pen", "some"] (lSp ⟨K, cmOf mg, [], B.T⟩ 2 sp__law_shuffled))
    {f : Addr} {cdv : Value} {fd : FuncData} {A : Around} {outer : List Env} {s : Shared} {H : Hp} {E : XK} (hr : Room 2 (A.deeper (envOfC "_law_counts" (defScope s__law_counts) s.heap.objs.size f cdv)))
    (tk : Takes (cxOf (L2.CX P w) P w K mg base ["pen", "places", "most", "found", "left", "at", "many"] "_law_counts" (defScope s__law_counts) f cdv A outer s H E) (WD E)) :
    DSs B (cxOf (L2.CX P w) P w K mg base ["pen", "places", "most", "found", "left", "at", "many"] "_law_counts" (defScope s__law_counts) f cdv A outer s H E) (WD E) (defBody s__law_counts) t__law_counts :=
    (dss_cons (ds_parLE rfl sc__law_counts.nd rfl rfl (by decide) rfl rfl (by exact (fe_lst (by exact da_nil))) (by exact (de_name (pv 2))) rfl)
    (dss_cons (ds_for (passes_of rfl) rfl (di_range1 rfl Z.range (by exact (da_cons (de_name (pv 1)) da_nil))) (dg_name sc__law_counts.nd rfl (by first | exact Or.inl rfl | exact Or.inr rfl)) (fun _ => (dss_cons (ds_set sc__law_counts.nd rfl (by first | exact Or.inl rfl | exact Or.inr rfl) (de_cb (cr_min2 rfl) rfl Z.min (by decide +kernel) (by exact (da_cons (de_call G__law_pick (hr.mono (by decide)) rfl D__law_pick.g D__law_pick.k D__law_pick.b tk (by exact (da_cons (de_name (pv 0)) (da_cons (de_new (by exact (fe_lst (by exact (da_cons de_int (da_cons de_int (da_cons de_int (da_cons de_int (da_cons de_int (da_cons de_int da_nil)))))))))) da_nil)))) (da_cons (de_name (pv 4)) da_nil)))))
    (dss_cons (ds_app (pv 3) (de_name (pv 6)))
    (dss_one (ds_set sc__law_counts.nd rfl (by first | exact Or.inl rfl | exact Or.inr rfl) (de_op op2_div (de_name (pv 4)) (de_name (pv 6)))))))))
    (dss_one (ds_frz 3 (ds_ret (de_ct cr_tuple rfl Z.tuple (by decide +kernel) (by exact (da_cons (de_call G__law_shuffled (hr.mono (by decide)) rfl D__law_shuffled.g D__law_shuffled.k D__law_shuffled.b tk (by exact (da_cons (de_name (pv 0)) (da_cons (de_name (pv 3)) da_nil)))) da_nil))))))))

abbrev s__law_any_frame : Stmt := topS 73
theorem sc__law_any_frame : FnScope ["pen", "counts", "size", "many", "count", "lap"] ["pen", "counts", "size"] (defScope s__law_any_frame) := ⟨rfl, rfl, rfl, by decide +kernel, rfl, by decide +kernel, by decide +kernel⟩
theorem dv__law_any_frame {P : Program} {w : World} {K : PySem.W.Frag} {mg : Str → Option Value} {base : Heap} {B : Bs} (Z : Zn mg) (Y : Yn K mg)
    {f__law_row : Addr} {fd__law_row : FuncData} (D__law_row : DefG K mg "_law_row" ["pen", "many", "size"] f__law_row fd__law_row) (G__law_row : FnOk P w K mg base (L2.CX P w) 4 f__law_row fd__law_row ["pen", "many", "size"] (lSp ⟨K, cmOf mg, [], B.T⟩ 3 sp__law_row))
    {f : Addr} {cdv : Value} {fd : FuncData} {A : Around} {outer : List Env} {s : Shared} {H : Hp} {E : XK} (hr : Room 4 (A.deeper (envOfC "_law_any_frame" (defScope s__law_any_frame) s.heap.objs.size f cdv)))
    (tk : Takes (cxOf (L2.CX P w) P w K mg base ["pen", "counts", "size", "many", "count", "lap"] "_law_any_frame" (defScope s__law_any_frame) f cdv A outer s H E) (WD E)) :
    DSs B (cxOf (L2.CX P w) P w K mg base ["pen", "counts", "size", "many", "count", "lap"] "_law_any_frame" (defScope s__law_any_frame) f cdv A outer s H E) (WD E) (defBody s__law_any_frame) t__law_any_frame :=
    (dss_cons (ds_set sc__law_any_frame.nd rfl (by first | exact Or.inl rfl | exact Or.inr rfl) (de_cb cr_len rfl Z.len (by decide +kernel) (by exact (da_cons (de_name (pv 1)) da_nil))))
    (dss_one (ds_ret (de_ct cr_tuple rfl Z.tuple (by decide +kernel) (by exact (da_cons (de_new (by exact (fe_comp rfl sc__law_any_frame.nd (by exact (di_seq (de_name (pv 1)))) (blkOk_by (own := [("count", 4)]) (N := ["pen", "counts", "size", "many", "count", "lap"]) (sc := defScope s__law_any_frame) (by decide +kernel)) (fun _ _ _ _ _ => by exact (dg_name sc__law_any_frame.nd rfl (by first | exact Or.inl rfl | exact Or.inr rfl))) (fun _ _ _ _ _ => by exact dts_nil) (fun _ _ _ _ _ => by exact (de_ct cr_tuple rfl Z.tuple (by decide +kernel) (by exact (da_cons (de_new (by exact (fe_comp rfl sc__law_any_frame.nd (by exact (di_range1 rfl Z.range (by exact (da_cons (de_name (pv 4)) da_nil)))) (blkOk_by (own := [("lap", 5)]) (N := ["pen", "counts", "size", "many", "count", "lap"]) (sc := cfR 320 17 s__law_any_frame (defScope s__law_any_frame)) (by decide +kernel)) (fun _ _ _ _ _ => by exact (dg_name sc__law_any_frame.nd rfl (by first | exact Or.inl rfl | exact Or.inr rfl))) (fun _ _ _ _ _ => by exact dts_nil) (fun _ _ _ _ _ => by exact (de_call G__law_row (hr.mono (by decide)) rfl D__law_row.g D__law_row.k D__law_row.b takes0 (by exact (da_cons (de_name (pv 0)) (da_cons (de_name (pv 3)) (da_cons (de_name (pv 2)) da_nil)))))) (by decide)))) da_nil)))) (by decide)))) da_nil))))))

abbrev s__law_slacks : Stmt := topS 74
theorem sc__law_slacks : FnScope ["rows", "load", "standing", "found", "bundle", "numbers", "row", "number"] ["rows", "load", "standing"] (defScope s__law_slacks) := ⟨rfl, rfl, rfl, by decide +kernel, rfl, by decide +kernel, by decide +kernel⟩
theorem dv__law_slacks {P : Program} {w : World} {K : PySem.W.Frag} {mg : Str → Option Value} {base : Heap} {B : Bs} (Z : Zn mg) (Y : Yn K mg)
    {f__law_plus : Addr} {fd__law_plus : FuncData} (D__law_plus : DefG K mg "_law_plus" ["one", "other"] f__law_plus fd__law_plus) (G__law_plus : FnOk P w K mg base (L2.CX P w) 3 f__law_plus fd__law_plus ["one", "other"] (lSp ⟨K, cmOf mg, [], B.T⟩ 2 sp__law_plus))
    {f__law_dot : Addr} {fd__law_dot : FuncData} (D__law_dot : DefG K mg "_law_dot" ["row", "other"] f__law_dot fd__law_dot) (G__law_dot : FnOk P w K mg base (L2.CX P w) 3 f__law_dot fd__law_dot ["row", "other"] (lSp ⟨K, cmOf mg, [], B.T⟩ 2 sp__law_dot))
    {f : Addr} {cdv : Value} {fd : FuncData} {A : Around} {outer : List Env} {s : Shared} {H : Hp} {E : XK} (hr : Room 3 (A.deeper (envOfC "_law_slacks" (defScope s__law_slacks) s.heap.objs.size f cdv)))
    (tk : Takes (cxOf (L2.CX P w) P w K mg base ["rows", "load", "standing", "found", "bundle", "numbers", "row", "number"] "_law_slacks" (defScope s__law_slacks) f cdv A outer s H E) (WD E)) :
    DSs B (cxOf (L2.CX P w) P w K mg base ["rows", "load", "standing", "found", "bundle", "numbers", "row", "number"] "_law_slacks" (defScope s__law_slacks) f cdv A outer s H E) (WD E) (defBody s__law_slacks) t__law_slacks :=
    (dss_cons (ds_setL sc__law_slacks.nd rfl (by first | exact Or.inl rfl | exact Or.inr rfl) (fe_lst (by exact da_nil)))
    (dss_cons (ds_for (passes_of rfl) rfl (di_zip2 rfl Z.zip (by exact (da_cons (de_name (pv 0)) (da_cons (de_name (pv 1)) da_nil)))) (dg_tup rfl (dgs_cons (dg_name sc__law_slacks.nd rfl (by first | exact Or.inl rfl | exact Or.inr rfl)) (dgs_cons (dg_name sc__law_slacks.nd rfl (by first | exact Or.inl rfl | exact Or.inr rfl)) dgs_nil))) (fun _ => (dss_one (ds_app (pv 3) (de_ct cr_tuple rfl Z.tuple (by decide +kernel) (by exact (da_cons (de_new (by exact (fe_comp rfl sc__law_slacks.nd (by exact (di_zip2 rfl Z.zip (by exact (da_cons (de_name (pv 4)) (da_cons (de_name (pv 5)) da_nil))))) (blkOk_by (own := [("row", 6), ("number", 7)]) (N := ["rows", "load", "standing", "found", "bundle", "numbers", "row", "number"]) (sc := defScope s__law_slacks) (by decide +kernel)) (fun _ _ _ _ _ => by exact (dg_tup rfl (dgs_cons (dg_name sc__law_slacks.nd rfl (by first | exact Or.inl rfl | exact Or.inr rfl)) (dgs_cons (dg_name sc__law_slacks.nd rfl (by first | exact Or.inl rfl | exact Or.inr rfl)) dgs_nil)))) (fun _ _ _ _ _ => by exact dts_nil) (fun _ _ _ _ _ => by exact (de_call G__law_plus (hr.mono (by decide)) rfl D__law_plus.g D__law_plus.k D__law_plus.b takes0 (by exact (da_cons (de_call G__law_dot (hr.mono (by decide)) rfl D__law_dot.g D__law_dot.k D__law_dot.b takes0 (by exact (da_cons (de_name (pv 6)) (da_cons (de_name (pv 2)) da_nil)))) (da_cons (de_name (pv 7)) da_nil))))) (by decide)))) da_nil)))))))
    (dss_one (ds_frz 3 (ds_ret (de_ct cr_tuple rfl Z.tuple (by decide +kernel) (by exact (da_cons (de_name (pv 3)) da_nil))))))))

abbrev s__law_answers : Stmt := topS 75
theorem sc__law_answers : FnScope ["rows", "load", "standing", "told", "signs", "one"] ["rows", "load", "standing"] (defScope s__law_answers) := ⟨rfl, rfl, rfl, by decide +kernel, rfl, by decide +kernel, by decide +kernel⟩
theorem dv__law_answers {P : Program} {w : World} {K : PySem.W.Frag} {mg : Str → Option Value} {base : Heap} {B : Bs} (Z : Zn mg) (Y : Yn K mg)
    {f__law_slacks : Addr} {fd__law_slacks : FuncData} (D__law_slacks : DefG K mg "_law_slacks" ["rows", "load", "standing"] f__law_slacks fd__law_slacks) (G__law_slacks : FnOk P w K mg base (L2.CX P w) 4 f__law_slacks fd__law_slacks ["rows", "load", "standing"] (lSp ⟨K, cmOf mg, [], B.T⟩ 3 sp__law_slacks))
    {f__law_sign : Addr} {fd__law_sign : FuncData} (D__law_sign : DefG K mg "_law_sign" ["number"] f__law_sign fd__law_sign) (G__law_sign : FnOk P w K mg base (L2.CX P w) 2 f__law_sign fd__law_sign ["number"] (lSp ⟨K, cmOf mg, [], B.T⟩ 1 sp__law_sign))
    {f : Addr} {cdv : Value} {fd : FuncData} {A : Around} {outer : List Env} {s : Shared} {H : Hp} {E : XK} (hr : Room 4 (A.deeper (envOfC "_law_answers" (defScope s__law_answers) s.heap.objs.size f cdv)))
    (tk : Takes (cxOf (L2.CX P w) P w K mg base ["rows", "load", "standing", "told", "signs", "one"] "_law_answers" (defScope s__law_answers) f cdv A outer s H E) (WD E)) :
    DSs B (cxOf (L2.CX P w) P w K mg base ["rows", "load", "standing", "told", "signs", "one"] "_law_answers" (defScope s__law_answers) f cdv A outer s H E) (WD E) (defBody s__law_answers) t__law_answers :=
    (dss_cons (ds_for (passes_of rfl) rfl (di_seq (de_call G__law_slacks (hr.mono (by decide)) rfl D__law_slacks.g D__law_slacks.k D__law_slacks.b tk (by exact (da_cons (de_name (pv 0)) (da_cons (de_name (pv 1)) (da_cons (de_name (pv 2)) da_nil)))))) (dg_name sc__law_answers.nd rfl (by first | exact Or.inl rfl | exact Or.inr rfl)) (fun _ => (dss_cons (ds_setLc rfl sc__law_answers.nd rfl rfl (sw_true rfl rfl rfl (by decide +kernel)) (by exact (di_seq (de_name (pv 3)))) (blkOk_by (own := [("one", 5)]) (N := ["rows", "load", "standing", "told", "signs", "one"]) (sc := defScope s__law_answers) (by decide +kernel)) (fun _ _ _ _ _ => by exact (dg_name sc__law_answers.nd rfl (by first | exact Or.inl rfl | exact Or.inr rfl))) (fun _ _ _ _ _ => by exact dts_nil) (fun _ _ _ _ _ => by exact (de_call G__law_sign (hr.mono (by decide)) rfl D__law_sign.g D__law_sign.k D__law_sign.b takes0 (by exact (da_cons (de_name (pv 5)) da_nil)))) (by decide))
    (dss_one (ds_frz 4 (ds_if (dt_cmp (op2_ne hr.units) (de_cb (cr_minL rfl) rfl Z.min (by decide +kernel) (by exact (da_cons (de_name (pv 4)) da_nil))) de_int (nobehind _ (by decide) (by decide))) (dss_one (ds_ret de_bl)) dss_nil))))))
    (dss_one (ds_ret de_bl)))

abbrev s__law_load_at : Stmt := topS 76
theorem sc__law_load_at : FnScope ["pen", "rows", "standing", "size", "found", "bundle", "rest", "numbers", "index", "more"] ["pen", "rows", "standing", "size"] (defScope s__law_load_at) := ⟨rfl, rfl, rfl, by decide +kernel, rfl, by decide +kernel, by decide +kernel⟩
theorem dv__law_load_at {P : Program} {w : World} {K : PySem.W.Frag} {mg : Str → Option Value} {base : Heap} {B : Bs} (Z : Zn mg) (Y : Yn K mg)
    {f__law_draw : Addr} {fd__law_draw : FuncData} (D__law_draw : DefG K mg "_law_draw" ["pen", "many"] f__law_draw fd__law_draw) (G__law_draw : FnOk P w K mg base (L2.CX P w) 1 f__law_draw fd__law_draw ["pen", "many"] (lSp ⟨K, cmOf mg, [], B.T⟩ 2 sp__law_draw))
    {f__law_number : Addr} {fd__law_number : FuncData} (D__law_number : DefG K mg "_law_number" ["pen", "size"] f__law_number fd__law_number) (G__law_number : FnOk P w K mg base (L2.CX P w) 3 f__law_number fd__law_number ["pen", "size"] (lSp ⟨K, cmOf mg, [], B.T⟩ 2 sp__law_number))
    {f__law_sign : Addr} {fd__law_sign : FuncData} (D__law_sign : DefG K mg "_law_sign" ["number"] f__law_sign fd__law_sign) (G__law_sign : FnOk P w K mg base (L2.CX P w) 2 f__law_sign fd__law_sign ["number"] (lSp ⟨K, cmOf mg, [], B.T⟩ 1 sp__law_sign))
    {f__law_opposite : Addr} {fd__law_opposite : FuncData} (D__law_opposite : DefG K mg "_law_opposite" ["number"] f__law_opposite fd__law_opposite) (G__law_opposite : FnOk P w K mg base (L2.CX P w) 1 f__law_opposite fd__law_opposite ["number"] (lSp ⟨K, cmOf mg, [], B.T⟩ 1 sp__law_opposite))
    {f__law_minus : Addr} {fd__law_minus : FuncData} (D__law_minus : DefG K mg "_law_minus" ["one", "other"] f__law_minus fd__law_minus) (G__law_minus : FnOk P w K mg base (L2.CX P w) 4 f__law_minus fd__law_minus ["one", "other"] (lSp ⟨K, cmOf mg, [], B.T⟩ 2 sp__law_minus))
    {f__law_dot : Addr} {fd__law_dot : FuncData} (D__law_dot : DefG K mg "_law_dot" ["row", "other"] f__law_dot fd__law_dot) (G__law_dot : FnOk P w K mg base (L2.CX P w) 3 f__law_dot fd__law_dot ["row", "other"] (lSp ⟨K, cmOf mg, [], B.T⟩ 2 sp__law_dot))
    {f : Addr} {cdv : Value} {fd : FuncData} {A : Around} {outer : List Env} {s : Shared} {H : Hp} {E : XK} (hr : Room 4 (A.deeper (envOfC "_law_load_at" (defScope s__law_load_at) s.heap.objs.size f cdv)))
    (tk : Takes (cxOf (L2.CX P w) P w K mg base ["pen", "rows", "standing", "size", "found", "bundle", "rest", "numbers", "index", "more"] "_law_load_at" (defScope s__law_load_at) f cdv A outer s H E) (WD E)) :
    DSs B (cxOf (L2.CX P w) P w K mg base ["pen", "rows", "standing", "size", "found", "bundle", "rest", "numbers", "index", "more"] "_law_load_at" (defScope s__law_load_at) f cdv A outer s H E) (WD E) (defBody s__law_load_at) t__law_load_at :=
    (dss_cons (ds_setL sc__law_load_at.nd rfl (by first | exact Or.inl rfl | exact Or.inr rfl) (fe_lst (by exact da_nil)))
    (dss_cons (ds_for (passes_of rfl) rfl (di_seq (de_name (pv 1))) (dg_name sc__law_load_at.nd rfl (by first | exact Or.inl rfl | exact Or.inr rfl)) (fun _ => (dss_cons (ds_parEL rfl sc__law_load_at.nd rfl rfl (by decide) rfl rfl (by exact (de_call G__law_draw (hr.mono (by decide)) rfl D__law_draw.g D__law_draw.k D__law_draw.b tk (by exact (da_cons (de_name (pv 0)) (da_cons (de_cb cr_len rfl Z.len (by decide +kernel) (by exact (da_cons (de_name (pv 5)) da_nil))) da_nil))))) (by exact (fe_lst (by exact da_nil))) rfl)
    (dss_cons (ds_for (passes_of rfl) rfl (di_range1 rfl Z.range (by exact (da_cons (de_cb cr_len rfl Z.len (by decide +kernel) (by exact (da_cons (de_name (pv 5)) da_nil))) da_nil))) (dg_name sc__law_load_at.nd rfl (by first | exact Or.inl rfl | exact Or.inr rfl)) (fun _ => (dss_cons (ds_set sc__law_load_at.nd rfl (by first | exact Or.inl rfl | exact Or.inr rfl) (de_ite (dt_w (dw_and (dt_cmp (op2_ne hr.units) (de_name (pv 8)) (de_name (pv 6)) (nobehind _ (by decide) (by decide))) (dw_and1 (dt_cmp op2_gt (de_call G__law_draw (hr.mono (by decide)) rfl D__law_draw.g D__law_draw.k D__law_draw.b tk (by exact (da_cons (de_name (pv 0)) (da_cons de_int da_nil)))) de_int (nobehind _ (by decide) (by decide)))))) (de_call G__law_number (hr.mono (by decide)) rfl D__law_number.g D__law_number.k D__law_number.b tk (by exact (da_cons (de_name (pv 0)) (da_cons (de_name (pv 3)) da_nil)))) de_int))
    (dss_cons (ds_set sc__law_load_at.nd rfl (by first | exact Or.inl rfl | exact Or.inr rfl) (de_ite (dt_cmp op2_gt (de_call G__law_sign (hr.mono (by decide)) rfl D__law_sign.g D__law_sign.k D__law_sign.b tk (by exact (da_cons (de_name (pv 9)) da_nil))) de_int (nobehind _ (by decide) (by decide))) (de_name (pv 9)) (de_call G__law_opposite (hr.mono (by decide)) rfl D__law_opposite.g D__law_opposite.k D__law_opposite.b tk (by exact (da_cons (de_name (pv 9)) da_nil)))))
    (dss_one (ds_app (pv 7) (de_call G__law_minus (hr.mono (by decide)) rfl D__law_minus.g D__law_minus.k D__law_minus.b tk (by exact (da_cons (de_name (pv 9)) (da_cons (de_call G__law_dot (hr.mono (by decide)) rfl D__law_dot.g D__law_dot.k D__law_dot.b tk (by exact (da_cons (de_ix (de_name (pv 5)) (de_name (pv 8)) (fun _ _ => rfl)) (da_cons (de_name (pv 2)) da_nil)))) da_nil))))))))))
    (dss_one (ds_frz 7 (ds_app (pv 4) (de_ct cr_tuple rfl Z.tuple (by decide +kernel) (by exact (da_cons (de_name (pv 7)) da_nil))))))))))
    (dss_one (ds_frz 4 (ds_ret (de_ct cr_tuple rfl Z.tuple (by decide +kernel) (by exact (da_cons (de_name (pv 4)) da_nil))))))))

abbrev s__law_made : Stmt := topS 77
theorem sc__law_made : FnScope ["rows"] ["rows"] (defScope s__law_made) := ⟨rfl, rfl, rfl, by decide +kernel, rfl, by decide +kernel, by decide +kernel⟩
theorem dv__law_made {P : Program} {w : World} {K : PySem.W.Frag} {mg : Str → Option Value} {base : Heap} {B : Bs} (Z : Zn mg) (Y : Yn K mg)
    {C_Frame___init__ f_Frame___init__ : Addr} {fd_Frame___init__ : FuncData} (M_Frame : MkOk K mg "Frame" C_Frame___init__ f_Frame___init__) (D_Frame___init__ : DefAt K mg ["self", "rows"] f_Frame___init__ fd_Frame___init__) (G_Frame___init__ : FnOk P w K mg base (L2.CX P w) 9 f_Frame___init__ fd_Frame___init__ ["self", "rows"] (lSpI ⟨K, cmOf mg, [], B.T⟩ 1 "Frame" sp_Frame___init__))
    {f : Addr} {cdv : Value} {fd : FuncData} {A : Around} {outer : List Env} {s : Shared} {H : Hp} {E : XK} (hr : Room 10 (A.deeper (envOfC "_law_made" (defScope s__law_made) s.heap.objs.size f cdv)))
    (tk : Takes (cxOf (L2.CX P w) P w K mg base ["rows"] "_law_made" (defScope s__law_made) f cdv A outer s H E) (WD E)) :
    DSs B (cxOf (L2.CX P w) P w K mg base ["rows"] "_law_made" (defScope s__law_made) f cdv A outer s H E) (WD E) (defBody s__law_made) t__law_made :=
    (dss_one (ds_ret (de_make M_Frame G_Frame___init__ (hr.mono (by decide)) rfl D_Frame___init__.b tk (by exact (da_cons (de_name (pv 0)) da_nil)))))

abbrev s__law_more_kinds : Stmt := topS 79
theorem sc__law_more_kinds : FnScope ["e", "found"] ["e"] (defScope s__law_more_kinds) := ⟨rfl, rfl, rfl, by decide +kernel, rfl, by decide +kernel, by decide +kernel⟩
theorem dv__law_more_kinds {P : Program} {w : World} {K : PySem.W.Frag} {mg : Str → Option Value} {base : Heap} {B : Bs} (Z : Zn mg) (Y : Yn K mg)
    (Xn : XnOk K mg)
    {f : Addr} {cdv : Value} {A : Around} {outer : List Env} {s : Shared} {H : Hp} {p : Addr × Obj} (hr : RoomP true 0 (A.deeper (envOfC "_law_more_kinds" (defScope s__law_more_kinds) s.heap.objs.size f cdv))) :
    DSs B (cxP P w K mg base ["e", "found"] "_law_more_kinds" (defScope s__law_more_kinds) f cdv A outer s H p) W0 (defBody s__law_more_kinds) t__law_more_kinds :=
    (dss_cons (ds_setL sc__law_more_kinds.nd rfl (by first | exact Or.inl rfl | exact Or.inr rfl) (fe_lst (by exact da_nil)))
    (dss_cons (ds_if (dt_val (de_isXc (nm := excN) (f := (· == "NoPlace")) rfl Z.isinstance rfl Xn.m_NoPlace Xn.k_NoPlace (de_name (pv 0)))) (dss_one (ds_app (pv 1) (de_tup (by exact (da_cons de_str (da_cons (de_repr (hr.gd rfl) hr.units rfl Z.repr de_never) da_nil)))))) dss_nil)
    (dss_cons (ds_if (dt_val (de_isXc (nm := excN) (f := (· == "NoRow")) rfl Z.isinstance rfl Xn.m_NoRow Xn.k_NoRow (de_name (pv 0)))) (dss_one (ds_app (pv 1) (de_tup (by exact (da_cons de_str (da_cons (de_repr (hr.gd rfl) hr.units rfl Z.repr de_never) (da_cons (de_repr (hr.gd rfl) hr.units rfl Z.repr de_never) da_nil))))))) dss_nil)
    (dss_cons (ds_if (dt_val (de_isXc (nm := excN) (f := (· == "NoWall")) rfl Z.isinstance rfl Xn.m_NoWall Xn.k_NoWall (de_name (pv 0)))) (dss_one (ds_app (pv 1) (de_tup (by exact (da_cons de_str (da_cons (de_repr (hr.gd rfl) hr.units rfl Z.repr de_never) da_nil)))))) dss_nil)
    (dss_cons (ds_if (dt_val (de_isXc (nm := excN) (f := (· == "NoName")) rfl Z.isinstance rfl Xn.m_NoName Xn.k_NoName (de_name (pv 0)))) (dss_one (ds_app (pv 1) (de_tup (by exact (da_cons de_str (da_cons (de_repr (hr.gd rfl) hr.units rfl Z.repr de_never) da_nil)))))) dss_nil)
    (dss_cons (ds_if (dt_val (de_isXc (nm := excN) (f := (· == "TakenName")) rfl Z.isinstance rfl Xn.m_TakenName Xn.k_TakenName (de_name (pv 0)))) (dss_one (ds_app (pv 1) (de_tup (by exact (da_cons de_str (da_cons (de_repr (hr.gd rfl) hr.units rfl Z.repr de_never) da_nil)))))) dss_nil)
    (dss_cons (ds_if (dt_val (de_isXc (nm := excN) (f := (· == "Unlike")) rfl Z.isinstance rfl Xn.m_Unlike Xn.k_Unlike (de_name (pv 0)))) (dss_one (ds_app (pv 1) (de_tup (by exact (da_cons de_str (da_cons de_never da_nil)))))) dss_nil)
    (dss_cons (ds_if (dt_val (de_isXc (nm := excN) (f := (· == "Flat")) rfl Z.isinstance rfl Xn.m_Flat Xn.k_Flat (de_name (pv 0)))) (dss_one (ds_app (pv 1) (de_tup (by exact (da_cons de_str (da_cons (de_repr (hr.gd rfl) hr.units rfl Z.repr de_never) da_nil)))))) dss_nil)
    (dss_cons (ds_if (dt_val (de_isXc (nm := excN) (f := (· == "NotOnce")) rfl Z.isinstance rfl Xn.m_NotOnce Xn.k_NotOnce (de_name (pv 0)))) (dss_one (ds_app (pv 1) (de_tup (by exact (da_cons de_str (da_cons de_never da_nil)))))) dss_nil)
    (dss_cons (ds_if (dt_val (de_isXc (nm := excN) (f := (· == "NotPlain")) rfl Z.isinstance rfl Xn.m_NotPlain Xn.k_NotPlain (de_name (pv 0)))) (dss_one (ds_app (pv 1) (de_tup (by exact (da_cons de_str (da_cons (de_repr (hr.gd rfl) hr.units rfl Z.repr de_never) da_nil)))))) dss_nil)
    (dss_cons (ds_if (dt_val (de_isXc (nm := excN) (f := (· == "TooMany")) rfl Z.isinstance rfl Xn.m_TooMany Xn.k_TooMany (de_name (pv 0)))) (dss_one (ds_app (pv 1) (de_tup (by exact (da_cons de_str (da_cons de_never (da_cons de_never (da_cons de_never da_nil)))))))) dss_nil)
    (dss_cons (ds_if (dt_val (de_isXc (nm := excN) (f := (· == "NotKept")) rfl Z.isinstance rfl Xn.m_NotKept Xn.k_NotKept (de_name (pv 0)))) (dss_one (ds_app (pv 1) (de_tup (by exact (da_cons de_str (da_cons de_never (da_cons de_never da_nil))))))) dss_nil)
    (dss_cons (ds_if (dt_val (de_isXc (nm := excN) (f := (· == "NothingToUndo")) rfl Z.isinstance rfl Xn.m_NothingToUndo Xn.k_NothingToUndo (de_name (pv 0)))) (dss_one (ds_app (pv 1) (de_tup (by exact (da_cons de_str da_nil))))) dss_nil)
    (dss_cons (ds_if (dt_val (de_isXc (nm := excN) (f := (· == "NothingToRedo")) rfl Z.isinstance rfl Xn.m_NothingToRedo Xn.k_NothingToRedo (de_name (pv 0)))) (dss_one (ds_app (pv 1) (de_tup (by exact (da_cons de_str da_nil))))) dss_nil)
    (dss_one (ds_frz 1 (ds_ret (de_name (pv 1)))))))))))))))))))

abbrev s__law_kinds : Stmt := topS 78
theorem sc__law_kinds : FnScope ["e", "found"] ["e"] (defScope s__law_kinds) := ⟨rfl, rfl, rfl, by decide +kernel, rfl, by decide +kernel, by decide +kernel⟩
theorem dv__law_kinds {P : Program} {w : World} {K : PySem.W.Frag} {mg : Str → Option Value} {base : Heap} {B : Bs} (Z : Zn mg) (Y : Yn K mg)
    {f__law_more_kinds : Addr} {fd__law_more_kinds : FuncData} (D__law_more_kinds : DefG K mg "_law_more_kinds" ["e"] f__law_more_kinds fd__law_more_kinds) (G__law_more_kinds : FnP P w K mg base true 1 f__law_more_kinds fd__law_more_kinds ["e"] (lSpP ⟨K, cmOf mg, [], B.T⟩ sp__law_more_kinds))
    (Xn : XnOk K mg)
    {f : Addr} {cdv : Value} {A : Around} {outer : List Env} {s : Shared} {H : Hp} {p : Addr × Obj} (hr : RoomP true 1 (A.deeper (envOfC "_law_kinds" (defScope s__law_kinds) s.heap.objs.size f cdv))) :
    DSs B (cxP P w K mg base ["e", "found"] "_law_kinds" (defScope s__law_kinds) f cdv A outer s H p) W0 (defBody s__law_kinds) t__law_kinds :=
    (dss_cons (ds_setL sc__law_kinds.nd rfl (by first | exact Or.inl rfl | exact Or.inr rfl) (fe_lst (by exact da_nil)))
    (dss_cons (ds_if (dt_val (de_isXc (nm := excN) (f := (· == "BadNumber")) rfl Z.isinstance rfl Xn.m_BadNumber Xn.k_BadNumber (de_name (pv 0)))) (dss_one (ds_app (pv 1) (de_tup (by exact (da_cons de_str (da_cons de_never (da_cons (de_repr (hr.gd rfl) hr.units rfl Z.repr de_never) da_nil))))))) dss_nil)
    (dss_cons (ds_if (dt_val (de_isXc (nm := excN) (f := (· == "BadRow")) rfl Z.isinstance rfl Xn.m_BadRow Xn.k_BadRow (de_name (pv 0)))) (dss_one (ds_app (pv 1) (de_tup (by exact (da_cons de_str (da_cons (de_xf Xn.f_BadRow_what (de_name (pv 0))) (da_cons (de_repr (hr.gd rfl) hr.units rfl Z.repr (de_xf Xn.f_BadRow_row (de_name (pv 0)))) da_nil))))))) dss_nil)
    (dss_cons (ds_if (dt_val (de_isXc (nm := excN) (f := (· == "BadTable")) rfl Z.isinstance rfl Xn.m_BadTable Xn.k_BadTable (de_name (pv 0)))) (dss_one (ds_app (pv 1) (de_tup (by exact (da_cons de_str (da_cons de_never da_nil)))))) dss_nil)
    (dss_cons (ds_if (dt_val (de_isXc (nm := excN) (f := (· == "BadFrame")) rfl Z.isinstance rfl Xn.m_BadFrame Xn.k_BadFrame (de_name (pv 0)))) (dss_one (ds_app (pv 1) (de_tup (by exact (da_cons de_str (da_cons de_never (da_cons (de_repr (hr.gd rfl) hr.units rfl Z.repr de_never) da_nil))))))) dss_nil)
    (dss_cons (ds_if (dt_val (de_isXc (nm := excN) (f := (· == "BadLoad")) rfl Z.isinstance rfl Xn.m_BadLoad Xn.k_BadLoad (de_name (pv 0)))) (dss_one (ds_app (pv 1) (de_tup (by exact (da_cons de_str (da_cons (de_xf Xn.f_BadLoad_what (de_name (pv 0))) da_nil)))))) dss_nil)
    (dss_cons (ds_if (dt_val (de_isXc (nm := excN) (f := (· == "BadNet")) rfl Z.isinstance rfl Xn.m_BadNet Xn.k_BadNet (de_name (pv 0)))) (dss_one (ds_app (pv 1) (de_tup (by exact (da_cons de_str (da_cons de_never (da_cons (de_repr (hr.gd rfl) hr.units rfl Z.repr de_never) da_nil))))))) dss_nil)
    (dss_cons (ds_if (dt_val (de_isXc (nm := excN) (f := (· == "BadHouse")) rfl Z.isinstance rfl Xn.m_BadHouse Xn.k_BadHouse (de_name (pv 0)))) (dss_one (ds_app (pv 1) (de_tup (by exact (da_cons de_str (da_cons de_never (da_cons (de_repr (hr.gd rfl) hr.units rfl Z.repr de_never) da_nil))))))) dss_nil)
    (dss_cons (ds_if (dt_val (de_isXc (nm := excN) (f := (· == "BadWeb")) rfl Z.isinstance rfl Xn.m_BadWeb Xn.k_BadWeb (de_name (pv 0)))) (dss_one (ds_app (pv 1) (de_tup (by exact (da_cons de_str (da_cons de_never (da_cons (de_repr (hr.gd rfl) hr.units rfl Z.repr de_never) da_nil))))))) dss_nil)
    (dss_cons (ds_if (dt_val (de_isXc (nm := excN) (f := (· == "BadName")) rfl Z.isinstance rfl Xn.m_BadName Xn.k_BadName (de_name (pv 0)))) (dss_one (ds_app (pv 1) (de_tup (by exact (da_cons de_str (da_cons (de_repr (hr.gd rfl) hr.units rfl Z.repr de_never) da_nil)))))) dss_nil)
    (dss_cons (ds_if (dt_val (de_isXc (nm := excN) (f := (· == "BadText")) rfl Z.isinstance rfl Xn.m_BadText Xn.k_BadText (de_name (pv 0)))) (dss_one (ds_app (pv 1) (de_tup (by exact (da_cons de_str (da_cons de_never (da_cons de_never da_nil))))))) dss_nil)
    (dss_one (ds_frz 1 (ds_ret (de_op op2_add (de_name (pv 1)) (de_callP G__law_more_kinds (hr.mono (by decide)) rfl D__law_more_kinds.g D__law_more_kinds.k D__law_more_kinds.b (de_name (pv 0))))))))))))))))))

abbrev s__law_fault : Stmt := topS 80
theorem sc__law_fault : FnScope ["call", "found", "e"] ["call"] (defScope s__law_fault) := ⟨rfl, rfl, rfl, by decide +kernel, rfl, by decide +kernel, by decide +kernel⟩
theorem dv__law_fault {P : Program} {w : World} {K : PySem.W.Frag} {mg : Str → Option Value} {base : Heap} {B : Bs} (Z : Zn mg) (Y : Yn K mg)
    {f__law_kinds : Addr} {fd__law_kinds : FuncData} (D__law_kinds : DefG K mg "_law_kinds" ["e"] f__law_kinds fd__law_kinds) (G__law_kinds : FnP P w K mg base true 2 f__law_kinds fd__law_kinds ["e"] (lSpP ⟨K, cmOf mg, [], B.T⟩ sp__law_kinds))
    (Xn : XnOk K mg) {X : Cx} (eP : X.prog = P) (eK : X.K = K) (em : X.mg = mg) (eb : X.base = base) (ew : X.w = w) {g a : Addr} {cdg : Value} {s : Shared} {H : Hp} {oe : Obj} {pn : List (Addr × Obj)} (hr : RoomP true 2 ((cxF X "_law_fault" (defScope s__law_fault) g cdg s H).suite a ((a, oe) :: pn)).A) :
    DSs B ((cxF X "_law_fault" (defScope s__law_fault) g cdg s H).suite a ((a, oe) :: pn)) W0 (suiteOf s__law_fault) t__law_fault := by
  subst eP eK em eb ew
  exact (dss_cons (ds_set sc__law_fault.nd rfl (by first | exact Or.inl rfl | exact Or.inr rfl) (de_callP G__law_kinds (hr.mono (by decide)) rfl D__law_kinds.g D__law_kinds.k D__law_kinds.b (de_name (pv 2))))
    (dss_one (ds_set sc__law_fault.nd rfl (by first | exact Or.inl rfl | exact Or.inr rfl) (de_ite (dt_w (dw_and (dt_cmp (op2_eq hr.units) (de_cb cr_len rfl Z.len (by decide +kernel) (by exact (da_cons (de_name (pv 1)) da_nil))) de_int (nobehind _ (by decide) (by decide))) (dw_and1 (dt_val (de_isXt (nm := excN) (f := fun _ => true) rfl Z.isinstance rfl Z.ValueError (by decide +kernel) Xn.v_ValueError (de_name (pv 2))))))) (de_ix (de_name (pv 1)) de_int (fun _ _ => rfl)) (de_tup (by exact (da_cons de_str (da_cons (de_cb cr_len rfl Z.len (by decide +kernel) (by exact (da_cons (de_name (pv 1)) da_nil))) da_nil))))))))
theorem gv__law_fault {X : Cx} {q : Str} {T : List (Addr × Str)} (Z : Zn X.mg) (Y : Yn X.K X.mg) (Xn : XnOk X.K X.mg) {f__law_kinds CS g : Addr} {cdv : Value} {fd__law_kinds : FuncData} (D__law_kinds : DefG X.K X.mg "_law_kinds" ["e"] f__law_kinds fd__law_kinds) (G__law_kinds : FnP X.prog X.w X.K X.mg X.base true 2 f__law_kinds fd__law_kinds ["e"] (lSpP ⟨X.K, cmOf X.mg, [], T⟩ sp__law_kinds)) (hRE : X.mg "RestsError" = some (.ref CS)) (XR : XrOk X.K X.mg CS) (hr : Room 3 X.A) (hgd : true = true → X.A.guards = some []) :
    LamX.GivesTo X ["call", "found", "e"] "_law_fault" (defScope s__law_fault) g cdv (defBody s__law_fault) "call" q (TTf ⟨X.K, cmOf X.mg, [], T⟩ ft__law_fault) := by
  exact fault_gives (X := X) (x := "_law_fault") (q := q) (sg := defScope s__law_fault) (g := g) (cdg := cdv) (gd := true) (k := 1) (T := T) (rs := t__law_fault) (ft := ft__law_fault) (b0 := suiteOf0 s__law_fault) (suite := suiteOf1 s__law_fault) (CS := CS) rfl hRE rfl rfl hr hgd (fun s H a oe pn B hB rm => by
    subst hB
    exact dv__law_fault Z Y D__law_kinds G__law_kinds Xn rfl rfl rfl rfl rfl rm) (fun y Q hy => ⟨XR y.cls (ft__law_fault_cls y Q hy), pl__law_fault y Q hy⟩)

abbrev s__law_odd : Stmt := topS 81
theorem sc__law_odd : FnScope ["pen"] ["pen"] (defScope s__law_odd) := ⟨rfl, rfl, rfl, by decide +kernel, rfl, by decide +kernel, by decide +kernel⟩
theorem dv__law_odd {P : Program} {w : World} {K : PySem.W.Frag} {mg : Str → Option Value} {base : Heap} {B : Bs} (Z : Zn mg) (Y : Yn K mg)
    {f__law_pick : Addr} {fd__law_pick : FuncData} (D__law_pick : DefG K mg "_law_pick" ["pen", "some"] f__law_pick fd__law_pick) (G__law_pick : FnOk P w K mg base (L2.CX P w) 2 f__law_pick fd__law_pick ["pen", "some"] (lSp ⟨K, cmOf mg, [], B.T⟩ 2 sp__law_pick))
    {f : Addr} {cdv : Value} {fd : FuncData} {A : Around} {outer : List Env} {s : Shared} {H : Hp} {E : XK} (hr : Room 2 (A.deeper (envOfC "_law_odd" (defScope s__law_odd) s.heap.objs.size f cdv)))
    (tk : Takes (cxOf (L2.CX P w) P w K mg base ["pen"] "_law_odd" (defScope s__law_odd) f cdv A outer s H E) (WD E)) :
    DSs B (cxOf (L2.CX P w) P w K mg base ["pen"] "_law_odd" (defScope s__law_odd) f cdv A outer s H E) (WD E) (defBody s__law_odd) t__law_odd :=
    (dss_one (ds_ret (de_call G__law_pick (hr.mono (by decide)) rfl D__law_pick.g D__law_pick.k D__law_pick.b tk (by exact (da_cons (de_name (pv 0)) (da_cons (de_new (by exact (fe_lst (by exact (da_cons de_non (da_cons de_bl (da_cons de_bl (da_cons de_str (da_cons de_str (da_cons (de_tup (by exact (da_cons de_int (da_cons de_int da_nil)))) (da_cons (de_tup (by exact (da_cons de_int (da_cons de_int da_nil)))) (da_cons (de_tup (by exact (da_cons de_int (da_cons de_int da_nil)))) (da_cons (de_tup (by exact (da_cons de_int (da_cons (de_un un1_neg de_int) da_nil)))) (da_cons (de_new (by exact (fe_lst (by exact (da_cons de_int (da_cons de_int da_nil)))))) (da_cons (de_tup (by exact (da_cons de_int (da_cons de_int (da_cons de_int da_nil))))) (da_cons (de_tup (by exact (da_cons de_bl (da_cons de_int da_nil)))) (da_cons (de_tup (by exact da_nil)) (da_cons (de_tup (by exact (da_cons de_int (da_cons de_int da_nil)))) (da_cons de_dict0 da_nil))))))))))))))))))) da_nil))))))

abbrev s__law_bent_row : Stmt := topS 82
theorem sc__law_bent_row : FnScope ["pen", "row", "way", "at"] ["pen", "row"] (defScope s__law_bent_row) := ⟨rfl, rfl, rfl, by decide +kernel, rfl, by decide +kernel, by decide +kernel⟩
theorem dv__law_bent_row {P : Program} {w : World} {K : PySem.W.Frag} {mg : Str → Option Value} {base : Heap} {B : Bs} (Z : Zn mg) (Y : Yn K mg)
    {f__law_draw : Addr} {fd__law_draw : FuncData} (D__law_draw : DefG K mg "_law_draw" ["pen", "many"] f__law_draw fd__law_draw) (G__law_draw : FnOk P w K mg base (L2.CX P w) 1 f__law_draw fd__law_draw ["pen", "many"] (lSp ⟨K, cmOf mg, [], B.T⟩ 2 sp__law_draw))
    {f__law_odd : Addr} {fd__law_odd : FuncData} (D__law_odd : DefG K mg "_law_odd" ["pen"] f__law_odd fd__law_odd) (G__law_odd : FnOk P w K mg base (L2.CX P w) 3 f__law_odd fd__law_odd ["pen"] (lSp ⟨K, cmOf mg, [], B.T⟩ 1 sp__law_odd))
    {f__law_pick : Addr} {fd__law_pick : FuncData} (D__law_pick : DefG K mg "_law_pick" ["pen", "some"] f__law_pick fd__law_pick) (G__law_pick : FnOk P w K mg base (L2.CX P w) 2 f__law_pick fd__law_pick ["pen", "some"] (lSp ⟨K, cmOf mg, [], B.T⟩ 2 sp__law_pick))
    {f : Addr} {cdv : Value} {fd : FuncData} {A : Around} {outer : List Env} {s : Shared} {H : Hp} {E : XK} (hr : Room 3 (A.deeper (envOfC "_law_bent_row" (defScope s__law_bent_row) s.heap.objs.size f cdv)))
    (tk : Takes (cxOf (L2.CX P w) P w K mg base ["pen", "row", "way", "at"] "_law_bent_row" (defScope s__law_bent_row) f cdv A outer s H E) (WD E)) :
    DSs B (cxOf (L2.CX P w) P w K mg base ["pen", "row", "way", "at"] "_law_bent_row" (defScope s__law_bent_row) f cdv A outer s H E) (WD E) (defBody s__law_bent_row) t__law_bent_row :=
    (dss_cons (ds_set sc__law_bent_row.nd rfl (by first | exact Or.inl rfl | exact Or.inr rfl) (de_call G__law_draw (hr.mono (by decide)) rfl D__law_draw.g D__law_draw.k D__law_draw.b tk (by exact (da_cons (de_name (pv 0)) (da_cons de_int da_nil)))))
    (dss_cons (ds_if (dt_w (dw_and (dt_cmp (op2_eq hr.units) (de_name (pv 2)) de_int (nobehind _ (by decide) (by decide))) (dw_and1 (dt_cmp op2_gt (de_cb cr_len rfl Z.len (by decide +kernel) (by exact (da_cons (de_name (pv 1)) da_nil))) de_int (nobehind _ (by decide) (by decide)))))) (dss_one (ds_ret (de_slice (de_name (pv 1)) do_none (do_some (de_un un1_neg de_int))))) dss_nil)
    (dss_cons (ds_if (dt_cmp (op2_eq hr.units) (de_name (pv 2)) de_int (nobehind _ (by decide) (by decide))) (dss_one (ds_ret (de_op op2_add (de_name (pv 1)) (de_tup (by exact (da_cons (de_call G__law_draw (hr.mono (by decide)) rfl D__law_draw.g D__law_draw.k D__law_draw.b tk (by exact (da_cons (de_name (pv 0)) (da_cons de_int da_nil)))) da_nil)))))) dss_nil)
    (dss_cons (ds_if (dt_w (dw_and (dt_cmp (op2_eq hr.units) (de_name (pv 2)) de_int (nobehind _ (by decide) (by decide))) (dw_and1 (dt_cmp op2_gt (de_cb cr_len rfl Z.len (by decide +kernel) (by exact (da_cons (de_name (pv 1)) da_nil))) de_int (nobehind _ (by decide) (by decide)))))) (dss_cons (ds_set sc__law_bent_row.nd rfl (by first | exact Or.inl rfl | exact Or.inr rfl) (de_call G__law_draw (hr.mono (by decide)) rfl D__law_draw.g D__law_draw.k D__law_draw.b tk (by exact (da_cons (de_name (pv 0)) (da_cons (de_cb cr_len rfl Z.len (by decide +kernel) (by exact (da_cons (de_name (pv 1)) da_nil))) da_nil)))))
    (dss_one (ds_ret (de_op op2_add (de_op op2_add (de_slice (de_name (pv 1)) do_none (do_some (de_name (pv 3)))) (de_tup (by exact (da_cons (de_call G__law_odd (hr.mono (by decide)) rfl D__law_odd.g D__law_odd.k D__law_odd.b tk (by exact (da_cons (de_name (pv 0)) da_nil))) da_nil)))) (de_slice (de_name (pv 1)) (do_some (de_op op2_add (de_name (pv 3)) de_int)) do_none))))) dss_nil)
    (dss_one (ds_ret (de_call G__law_pick (hr.mono (by decide)) rfl D__law_pick.g D__law_pick.k D__law_pick.b tk (by exact (da_cons (de_name (pv 0)) (da_cons (de_new (by exact (fe_lst (by exact (da_cons de_non (da_cons de_int (da_cons de_str (da_cons de_bl (da_cons de_dict0 da_nil))))))))) da_nil))))))))))

abbrev s__law_is_list : Stmt := topS 83
theorem sc__law_is_list : FnScope ["value"] ["value"] (defScope s__law_is_list) := ⟨rfl, rfl, rfl, by decide +kernel, rfl, by decide +kernel, by decide +kernel⟩
theorem dv__law_is_list {P : Program} {w : World} {K : PySem.W.Frag} {mg : Str → Option Value} {base : Heap} {B : Bs} (Z : Zn mg) (Y : Yn K mg)
    {f : Addr} {cdv : Value} {fd : FuncData} {A : Around} {outer : List Env} {s : Shared} {H : Hp} {E : XK} (hr : Room 0 (A.deeper (envOfC "_law_is_list" (defScope s__law_is_list) s.heap.objs.size f cdv)))
    (tk : Takes (cxOf (L2.CX P w) P w K mg base ["value"] "_law_is_list" (defScope s__law_is_list) f cdv A outer s H E) (WD E)) :
    DSs B (cxOf (L2.CX P w) P w K mg base ["value"] "_law_is_list" (defScope s__law_is_list) f cdv A outer s H E) (WD E) (defBody s__law_is_list) t__law_is_list :=
    (dss_one (ds_ret (de_is2 rfl Z.isinstance rfl Z.list (by decide +kernel) rfl Z.tuple (by decide +kernel) (by decide +kernel) (by decide +kernel) (de_name (pv 0)))))

abbrev s__law_is_any_row : Stmt := topS 84
theorem sc__law_is_any_row : FnScope ["value", "many", "one"] ["value", "many"] (defScope s__law_is_any_row) := ⟨rfl, rfl, rfl, by decide +kernel, rfl, by decide +kernel, by decide +kernel⟩
theorem dv__law_is_any_row {P : Program} {w : World} {K : PySem.W.Frag} {mg : Str → Option Value} {base : Heap} {B : Bs} (Z : Zn mg) (Y : Yn K mg)
    {f__law_is_list : Addr} {fd__law_is_list : FuncData} (D__law_is_list : DefG K mg "_law_is_list" ["value"] f__law_is_list fd__law_is_list) (G__law_is_list : FnOk P w K mg base (L2.CX P w) 1 f__law_is_list fd__law_is_list ["value"] (lSp ⟨K, cmOf mg, [], B.T⟩ 1 sp__law_is_list))
    {f__law_is_ratio : Addr} {fd__law_is_ratio : FuncData} (D__law_is_ratio : DefG K mg "_law_is_ratio" ["value"] f__law_is_ratio fd__law_is_ratio) (G__law_is_ratio : FnOk P w K mg base (L2.CX P w) 2 f__law_is_ratio fd__law_is_ratio ["value"] (lSp ⟨K, cmOf mg, [], B.T⟩ 1 sp__law_is_ratio))
    {f : Addr} {cdv : Value} {fd : FuncData} {A : Around} {outer : List Env} {s : Shared} {H : Hp} {E : XK} (hr : Room 2 (A.deeper (envOfC "_law_is_any_row" (defScope s__law_is_any_row) s.heap.objs.size f cdv)))
    (tk : Takes (cxOf (L2.CX P w) P w K mg base ["value", "many", "one"] "_law_is_any_row" (defScope s__law_is_any_row) f cdv A outer s H E) (WD E)) :
    DSs B (cxOf (L2.CX P w) P w K mg base ["value", "many", "one"] "_law_is_any_row" (defScope s__law_is_any_row) f cdv A outer s H E) (WD E) (defBody s__law_is_any_row) t__law_is_any_row :=
    (dss_cons (ds_if (dt_w (dw_or (dt_not (dt_val (de_call G__law_is_list (hr.mono (by decide)) rfl D__law_is_list.g D__law_is_list.k D__law_is_list.b tk (by exact (da_cons (de_name (pv 0)) da_nil))))) (dw_or1 (dt_cmp (op2_ne hr.units) (de_cb cr_len rfl Z.len (by decide +kernel) (by exact (da_cons (de_name (pv 0)) da_nil))) (de_name (pv 1)) (nobehind _ (by decide) (by decide)))))) (dss_one (ds_ret de_bl)) dss_nil)
    (dss_one (ds_ret (de_cmp (op2_eq hr.units) (de_new (by exact (fe_comp rfl sc__law_is_any_row.nd (by exact (di_seq (de_name (pv 0)))) (blkOk_by (own := [("one", 2)]) (N := ["value", "many", "one"]) (sc := defScope s__law_is_any_row) (by decide +kernel)) (fun _ _ _ _ _ => by exact (dg_name sc__law_is_any_row.nd rfl (by first | exact Or.inl rfl | exact Or.inr rfl))) (fun _ _ _ _ _ => by exact (dts_one (dt_not (dt_val (de_call G__law_is_ratio (hr.mono (by decide)) rfl D__law_is_ratio.g D__law_is_ratio.k D__law_is_ratio.b takes0 (by exact (da_cons (de_name (pv 2)) da_nil))))))) (fun _ _ _ _ _ => by exact (de_name (pv 2))) (by decide)))) (de_new (by exact (fe_lst (by exact da_nil)))) (nobehind _ (by decide) (by decide))))))

abbrev s__law_fits : Stmt := topS 85
theorem sc__law_fits : FnScope ["rows", "load", "at"] ["rows", "load"] (defScope s__law_fits) := ⟨rfl, rfl, rfl, by decide +kernel, rfl, by decide +kernel, by decide +kernel⟩
theorem dv__law_fits {P : Program} {w : World} {K : PySem.W.Frag} {mg : Str → Option Value} {base : Heap} {B : Bs} (Z : Zn mg) (Y : Yn K mg)
    {f__law_is_list : Addr} {fd__law_is_list : FuncData} (D__law_is_list : DefG K mg "_law_is_list" ["value"] f__law_is_list fd__law_is_list) (G__law_is_list : FnOk P w K mg base (L2.CX P w) 1 f__law_is_list fd__law_is_list ["value"] (lSp ⟨K, cmOf mg, [], B.T⟩ 1 sp__law_is_list))
    {f__law_is_any_row : Addr} {fd__law_is_any_row : FuncData} (D__law_is_any_row : DefG K mg "_law_is_any_row" ["value", "many"] f__law_is_any_row fd__law_is_any_row) (G__law_is_any_row : FnOk P w K mg base (L2.CX P w) 3 f__law_is_any_row fd__law_is_any_row ["value", "many"] (lSp ⟨K, cmOf mg, [], B.T⟩ 2 sp__law_is_any_row))
    {f : Addr} {cdv : Value} {fd : FuncData} {A : Around} {outer : List Env} {s : Shared} {H : Hp} {E : XK} (hr : Room 3 (A.deeper (envOfC "_law_fits" (defScope s__law_fits) s.heap.objs.size f cdv)))
    (tk : Takes (cxOf (L2.CX P w) P w K mg base ["rows", "load", "at"] "_law_fits" (defScope s__law_fits) f cdv A outer s H E) (WD E)) :
    DSs B (cxOf (L2.CX P w) P w K mg base ["rows", "load", "at"] "_law_fits" (defScope s__law_fits) f cdv A outer s H E) (WD E) (defBody s__law_fits) t__law_fits :=
    (dss_cons (ds_if (dt_w (dw_or (dt_not (dt_val (de_call G__law_is_list (hr.mono (by decide)) rfl D__law_is_list.g D__law_is_list.k D__law_is_list.b tk (by exact (da_cons (de_name (pv 1)) da_nil))))) (dw_or1 (dt_cmp (op2_ne hr.units) (de_cb cr_len rfl Z.len (by decide +kernel) (by exact (da_cons (de_name (pv 1)) da_nil))) (de_cb cr_len rfl Z.len (by decide +kernel) (by exact (da_cons (de_name (pv 0)) da_nil))) (nobehind _ (by decide) (by decide)))))) (dss_one (ds_ret de_bl)) dss_nil)
    (dss_one (ds_ret (de_cmp (op2_eq hr.units) (de_new (by exact (fe_comp rfl sc__law_fits.nd (by exact (di_range1 rfl Z.range (by exact (da_cons (de_cb cr_len rfl Z.len (by decide +kernel) (by exact (da_cons (de_name (pv 0)) da_nil))) da_nil)))) (blkOk_by (own := [("at", 2)]) (N := ["rows", "load", "at"]) (sc := defScope s__law_fits) (by decide +kernel)) (fun _ _ _ _ _ => by exact (dg_name sc__law_fits.nd rfl (by first | exact Or.inl rfl | exact Or.inr rfl))) (fun _ _ _ _ _ => by exact (dts_one (dt_not (dt_val (de_call G__law_is_any_row (hr.mono (by decide)) rfl D__law_is_any_row.g D__law_is_any_row.k D__law_is_any_row.b takes0 (by exact (da_cons (de_ix (de_name (pv 1)) (de_name (pv 2)) (fun _ _ => rfl)) (da_cons (de_cb cr_len rfl Z.len (by decide +kernel) (by exact (da_cons (de_ix (de_name (pv 0)) (de_name (pv 2)) (fun _ _ => rfl)) da_nil))) da_nil)))))))) (fun _ _ _ _ _ => by exact (de_name (pv 2))) (by decide)))) (de_new (by exact (fe_lst (by exact da_nil)))) (nobehind _ (by decide) (by decide))))))

abbrev s__law_bent_load : Stmt := topS 86
theorem sc__law_bent_load : FnScope ["pen", "load", "at"] ["pen", "load"] (defScope s__law_bent_load) := ⟨rfl, rfl, rfl, by decide +kernel, rfl, by decide +kernel, by decide +kernel⟩
theorem dv__law_bent_load {P : Program} {w : World} {K : PySem.W.Frag} {mg : Str → Option Value} {base : Heap} {B : Bs} (Z : Zn mg) (Y : Yn K mg)
    {f__law_draw : Addr} {fd__law_draw : FuncData} (D__law_draw : DefG K mg "_law_draw" ["pen", "many"] f__law_draw fd__law_draw) (G__law_draw : FnOk P w K mg base (L2.CX P w) 1 f__law_draw fd__law_draw ["pen", "many"] (lSp ⟨K, cmOf mg, [], B.T⟩ 2 sp__law_draw))
    {f__law_pick : Addr} {fd__law_pick : FuncData} (D__law_pick : DefG K mg "_law_pick" ["pen", "some"] f__law_pick fd__law_pick) (G__law_pick : FnOk P w K mg base (L2.CX P w) 2 f__law_pick fd__law_pick ["pen", "some"] (lSp ⟨K, cmOf mg, [], B.T⟩ 2 sp__law_pick))
    {f__law_bent_row : Addr} {fd__law_bent_row : FuncData} (D__law_bent_row : DefG K mg "_law_bent_row" ["pen", "row"] f__law_bent_row fd__law_bent_row) (G__law_bent_row : FnOk P w K mg base (L2.CX P w) 4 f__law_bent_row fd__law_bent_row ["pen", "row"] (lSp ⟨K, cmOf mg, [], B.T⟩ 2 sp__law_bent_row))
    {f : Addr} {cdv : Value} {fd : FuncData} {A : Around} {outer : List Env} {s : Shared} {H : Hp} {E : XK} (hr : Room 4 (A.deeper (envOfC "_law_bent_load" (defScope s__law_bent_load) s.heap.objs.size f cdv)))
    (tk : Takes (cxOf (L2.CX P w) P w K mg base ["pen", "load", "at"] "_law_bent_load" (defScope s__law_bent_load) f cdv A outer s H E) (WD E)) :
    DSs B (cxOf (L2.CX P w) P w K mg base ["pen", "load", "at"] "_law_bent_load" (defScope s__law_bent_load) f cdv A outer s H E) (WD E) (defBody s__law_bent_load) t__law_bent_load :=
    (dss_cons (ds_set sc__law_bent_load.nd rfl (by first | exact Or.inl rfl | exact Or.inr rfl) (de_call G__law_draw (hr.mono (by decide)) rfl D__law_draw.g D__law_draw.k D__law_draw.b tk (by exact (da_cons (de_name (pv 0)) (da_cons (de_cb cr_len rfl Z.len (by decide +kernel) (by exact (da_cons (de_name (pv 1)) da_nil))) da_nil)))))
    (dss_cons (ds_if (dt_cmp (op2_eq hr.units) (de_call G__law_draw (hr.mono (by decide)) rfl D__law_draw.g D__law_draw.k D__law_draw.b tk (by exact (da_cons (de_name (pv 0)) (da_cons de_int da_nil)))) de_int (nobehind _ (by decide) (by decide))) (dss_one (ds_ret (de_call G__law_pick (hr.mono (by decide)) rfl D__law_pick.g D__law_pick.k D__law_pick.b tk (by exact (da_cons (de_name (pv 0)) (da_cons (de_new (by exact (fe_lst (by exact (da_cons (de_slice (de_name (pv 1)) do_none (do_some (de_un un1_neg de_int))) (da_cons (de_op op2_add (de_name (pv 1)) (de_slice (de_name (pv 1)) do_none (do_some de_int))) (da_cons de_non (da_cons de_int (da_cons de_str (da_cons de_dict0 da_nil)))))))))) da_nil)))))) dss_nil)
    (dss_one (ds_ret (de_op op2_add (de_op op2_add (de_slice (de_name (pv 1)) do_none (do_some (de_name (pv 2)))) (de_tup (by exact (da_cons (de_call G__law_bent_row (hr.mono (by decide)) rfl D__law_bent_row.g D__law_bent_row.k D__law_bent_row.b tk (by exact (da_cons (de_name (pv 0)) (da_cons (de_ix (de_name (pv 1)) (de_name (pv 2)) (fun _ _ => rfl)) da_nil)))) da_nil)))) (de_slice (de_name (pv 1)) (do_some (de_op op2_add (de_name (pv 2)) de_int)) do_none))))))

abbrev s__law_moved : Stmt := topS 87
theorem sc__law_moved : FnScope ["pen", "load", "at", "index", "more", "told"] ["pen", "load"] (defScope s__law_moved) := ⟨rfl, rfl, rfl, by decide +kernel, rfl, by decide +kernel, by decide +kernel⟩
theorem dv__law_moved {P : Program} {w : World} {K : PySem.W.Frag} {mg : Str → Option Value} {base : Heap} {B : Bs} (Z : Zn mg) (Y : Yn K mg)
    {f__law_draw : Addr} {fd__law_draw : FuncData} (D__law_draw : DefG K mg "_law_draw" ["pen", "many"] f__law_draw fd__law_draw) (G__law_draw : FnOk P w K mg base (L2.CX P w) 1 f__law_draw fd__law_draw ["pen", "many"] (lSp ⟨K, cmOf mg, [], B.T⟩ 2 sp__law_draw))
    {f__law_pick : Addr} {fd__law_pick : FuncData} (D__law_pick : DefG K mg "_law_pick" ["pen", "some"] f__law_pick fd__law_pick) (G__law_pick : FnOk P w K mg base (L2.CX P w) 2 f__law_pick fd__law_pick ["pen", "some"] (lSp ⟨K, cmOf mg, [], B.T⟩ 2 sp__law_pick))
    {f__law_plus : Addr} {fd__law_plus : FuncData} (D__law_plus : DefG K mg "_law_plus" ["one", "other"] f__law_plus fd__law_plus) (G__law_plus : FnOk P w K mg base (L2.CX P w) 3 f__law_plus fd__law_plus ["one", "other"] (lSp ⟨K, cmOf mg, [], B.T⟩ 2 sp__law_plus))
    {f : Addr} {cdv : Value} {fd : FuncData} {A : Around} {outer : List Env} {s : Shared} {H : Hp} {E : XK} (hr : Room 3 (A.deeper (envOfC "_law_moved" (defScope s__law_moved) s.heap.objs.size f cdv)))
    (tk : Takes (cxOf (L2.CX P w) P w K mg base ["pen", "load", "at", "index", "more", "told"] "_law_moved" (defScope s__law_moved) f cdv A outer s H E) (WD E)) :
    DSs B (cxOf (L2.CX P w) P w K mg base ["pen", "load", "at", "index", "more", "told"] "_law_moved" (defScope s__law_moved) f cdv A outer s H E) (WD E) (defBody s__law_moved) t__law_moved :=
    (dss_cons (ds_set sc__law_moved.nd rfl (by first | exact Or.inl rfl | exact Or.inr rfl) (de_call G__law_draw (hr.mono (by decide)) rfl D__law_draw.g D__law_draw.k D__law_draw.b tk (by exact (da_cons (de_name (pv 0)) (da_cons (de_cb cr_len rfl Z.len (by decide +kernel) (by exact (da_cons (de_name (pv 1)) da_nil))) da_nil)))))
    (dss_cons (ds_set sc__law_moved.nd rfl (by first | exact Or.inl rfl | exact Or.inr rfl) (de_call G__law_draw (hr.mono (by decide)) rfl D__law_draw.g D__law_draw.k D__law_draw.b tk (by exact (da_cons (de_name (pv 0)) (da_cons (de_cb cr_len rfl Z.len (by decide +kernel) (by exact (da_cons (de_ix (de_name (pv 1)) (de_name (pv 2)) (fun _ _ => rfl)) da_nil))) da_nil)))))
    (dss_cons (ds_set sc__law_moved.nd rfl (by first | exact Or.inl rfl | exact Or.inr rfl) (de_call G__law_pick (hr.mono (by decide)) rfl D__law_pick.g D__law_pick.k D__law_pick.b tk (by exact (da_cons (de_name (pv 0)) (da_cons (de_new (by exact (fe_lst (by exact (da_cons de_int (da_cons (de_un un1_neg de_int) (da_cons (de_tup (by exact (da_cons de_int (da_cons de_int da_nil)))) (da_cons (de_tup (by exact (da_cons (de_un un1_neg de_int) (da_cons (de_op op2_pow de_int de_int) da_nil)))) (da_cons (de_op op2_pow de_int de_int) da_nil))))))))) da_nil)))))
    (dss_cons (ds_set sc__law_moved.nd rfl (by first | exact Or.inl rfl | exact Or.inr rfl) (de_op op2_add (de_op op2_add (de_slice (de_ix (de_name (pv 1)) (de_name (pv 2)) (fun _ _ => rfl)) do_none (do_some (de_name (pv 3)))) (de_tup (by exact (da_cons (de_call G__law_plus (hr.mono (by decide)) rfl D__law_plus.g D__law_plus.k D__law_plus.b tk (by exact (da_cons (de_ix (de_ix (de_name (pv 1)) (de_name (pv 2)) (fun _ _ => rfl)) (de_name (pv 3)) (fun _ _ => rfl)) (da_cons (de_name (pv 4)) da_nil)))) da_nil)))) (de_slice (de_ix (de_name (pv 1)) (de_name (pv 2)) (fun _ _ => rfl)) (do_some (de_op op2_add (de_name (pv 3)) de_int)) do_none)))
    (dss_one (ds_ret (de_op op2_add (de_op op2_add (de_slice (de_name (pv 1)) do_none (do_some (de_name (pv 2)))) (de_tup (by exact (da_cons (de_name (pv 5)) da_nil)))) (de_slice (de_name (pv 1)) (do_some (de_op op2_add (de_name (pv 2)) de_int)) do_none))))))))

abbrev s__law_resting : Stmt := topS 88
theorem sc__law_resting : FnScope ["rows", "load", "standing", "found", "told", "index"] ["rows", "load", "standing"] (defScope s__law_resting) := ⟨rfl, rfl, rfl, by decide +kernel, rfl, by decide +kernel, by decide +kernel⟩
theorem dv__law_resting {P : Program} {w : World} {K : PySem.W.Frag} {mg : Str → Option Value} {base : Heap} {B : Bs} (Z : Zn mg) (Y : Yn K mg)
    {f__law_slacks : Addr} {fd__law_slacks : FuncData} (D__law_slacks : DefG K mg "_law_slacks" ["rows", "load", "standing"] f__law_slacks fd__law_slacks) (G__law_slacks : FnOk P w K mg base (L2.CX P w) 4 f__law_slacks fd__law_slacks ["rows", "load", "standing"] (lSp ⟨K, cmOf mg, [], B.T⟩ 3 sp__law_slacks))
    {f : Addr} {cdv : Value} {fd : FuncData} {A : Around} {outer : List Env} {s : Shared} {H : Hp} {E : XK} (hr : Room 4 (A.deeper (envOfC "_law_resting" (defScope s__law_resting) s.heap.objs.size f cdv)))
    (tk : Takes (cxOf (L2.CX P w) P w K mg base ["rows", "load", "standing", "found", "told", "index"] "_law_resting" (defScope s__law_resting) f cdv A outer s H E) (WD E)) :
    DSs B (cxOf (L2.CX P w) P w K mg base ["rows", "load", "standing", "found", "told", "index"] "_law_resting" (defScope s__law_resting) f cdv A outer s H E) (WD E) (defBody s__law_resting) t__law_resting :=
    (dss_cons (ds_setL sc__law_resting.nd rfl (by first | exact Or.inl rfl | exact Or.inr rfl) (fe_lst (by exact da_nil)))
    (dss_cons (ds_for (passes_of rfl) rfl (di_seq (de_call G__law_slacks (hr.mono (by decide)) rfl D__law_slacks.g D__law_slacks.k D__law_slacks.b tk (by exact (da_cons (de_name (pv 0)) (da_cons (de_name (pv 1)) (da_cons (de_name (pv 2)) da_nil)))))) (dg_name sc__law_resting.nd rfl (by first | exact Or.inl rfl | exact Or.inr rfl)) (fun _ => (dss_one (ds_app (pv 3) (de_ct cr_tuple rfl Z.tuple (by decide +kernel) (by exact (da_cons (de_new (by exact (fe_comp rfl sc__law_resting.nd (by exact (di_range1 rfl Z.range (by exact (da_cons (de_cb cr_len rfl Z.len (by decide +kernel) (by exact (da_cons (de_name (pv 4)) da_nil))) da_nil)))) (blkOk_by (own := [("index", 5)]) (N := ["rows", "load", "standing", "found", "told", "index"]) (sc := defScope s__law_resting) (by decide +kernel)) (fun _ _ _ _ _ => by exact (dg_name sc__law_resting.nd rfl (by first | exact Or.inl rfl | exact Or.inr rfl))) (fun _ _ _ _ _ => by exact (dts_one (dt_cmp (op2_eq hr.units) (de_ix (de_name (pv 4)) (de_name (pv 5)) (fun _ _ => rfl)) de_int (nobehind _ (by decide) (by decide))))) (fun _ _ _ _ _ => by exact (de_name (pv 5))) (by decide)))) da_nil)))))))
    (dss_one (ds_frz 3 (ds_ret (de_ct cr_tuple rfl Z.tuple (by decide +kernel) (by exact (da_cons (de_name (pv 3)) da_nil))))))))

abbrev s__law_right : Stmt := topS 89
theorem sc__law_right : FnScope ["rows", "load", "standing", "frame", "due"] ["rows", "load", "standing"] (defScope s__law_right) := ⟨rfl, rfl, rfl, by decide +kernel, rfl, by decide +kernel, by decide +kernel⟩
theorem dv__law_right {P : Program} {w : World} {K : PySem.W.Frag} {mg : Str → Option Value} {base : Heap} {B : Bs} (Z : Zn mg) (Y : Yn K mg)
    {f__law_made : Addr} {fd__law_made : FuncData} (D__law_made : DefG K mg "_law_made" ["rows"] f__law_made fd__law_made) (G__law_made : FnOk P w K mg base (L2.CX P w) 11 f__law_made fd__law_made ["rows"] (lSp ⟨K, cmOf mg, [], B.T⟩ 1 sp__law_made))
    {f__law_is : Addr} {fd__law_is : FuncData} (D__law_is : DefG K mg "_law_is" ["told", "due"] f__law_is fd__law_is) (G__law_is : FnOk P w K mg base (L2.CX P w) 8 f__law_is fd__law_is ["told", "due"] (lSp ⟨K, cmOf mg, [], B.T⟩ 2 sp__law_is))
    {f__law_slacks : Addr} {fd__law_slacks : FuncData} (D__law_slacks : DefG K mg "_law_slacks" ["rows", "load", "standing"] f__law_slacks fd__law_slacks) (G__law_slacks : FnOk P w K mg base (L2.CX P w) 4 f__law_slacks fd__law_slacks ["rows", "load", "standing"] (lSp ⟨K, cmOf mg, [], B.T⟩ 3 sp__law_slacks))
    {f_slacks : Addr} {fd_slacks : FuncData} (D_slacks : DefG K mg "slacks" ["frame", "load", "standing"] f_slacks fd_slacks) (G_slacks : FnOk P w K mg base (L2.CX P w) 6 f_slacks fd_slacks ["frame", "load", "standing"] (lSp ⟨K, cmOf mg, [], B.T⟩ 3 sp_slacks))
    {f__law_resting : Addr} {fd__law_resting : FuncData} (D__law_resting : DefG K mg "_law_resting" ["rows", "load", "standing"] f__law_resting fd__law_resting) (G__law_resting : FnOk P w K mg base (L2.CX P w) 5 f__law_resting fd__law_resting ["rows", "load", "standing"] (lSp ⟨K, cmOf mg, [], B.T⟩ 3 sp__law_resting))
    {f_resting : Addr} {fd_resting : FuncData} (D_resting : DefG K mg "resting" ["frame", "load", "standing"] f_resting fd_resting) (G_resting : FnOk P w K mg base (L2.CX P w) 7 f_resting fd_resting ["frame", "load", "standing"] (lSp ⟨K, cmOf mg, [], B.T⟩ 3 sp_resting))
    {f__law_answers : Addr} {fd__law_answers : FuncData} (D__law_answers : DefG K mg "_law_answers" ["rows", "load", "standing"] f__law_answers fd__law_answers) (G__law_answers : FnOk P w K mg base (L2.CX P w) 5 f__law_answers fd__law_answers ["rows", "load", "standing"] (lSp ⟨K, cmOf mg, [], B.T⟩ 3 sp__law_answers))
    {f_is_answer : Addr} {fd_is_answer : FuncData} (D_is_answer : DefG K mg "is_answer" ["frame", "load", "standing"] f_is_answer fd_is_answer) (G_is_answer : FnOk P w K mg base (L2.CX P w) 6 f_is_answer fd_is_answer ["frame", "load", "standing"] (lSp ⟨K, cmOf mg, [], B.T⟩ 3 sp_is_answer))
    {f__law_says : Addr} {fd__law_says : FuncData} (D__law_says : DefG K mg "_law_says" ["told", "due"] f__law_says fd__law_says) (G__law_says : FnOk P w K mg base (L2.CX P w) 1 f__law_says fd__law_says ["told", "due"] (lSp ⟨K, cmOf mg, [], B.T⟩ 2 sp__law_says))
    {f : Addr} {cdv : Value} {fd : FuncData} {A : Around} {outer : List Env} {s : Shared} {H : Hp} {E : XK} (hr : Room 11 (A.deeper (envOfC "_law_right" (defScope s__law_right) s.heap.objs.size f cdv)))
    (tk : Takes (cxOf (L2.CX P w) P w K mg base ["rows", "load", "standing", "frame", "due"] "_law_right" (defScope s__law_right) f cdv A outer s H E) (WD E)) :
    DSs B (cxOf (L2.CX P w) P w K mg base ["rows", "load", "standing", "frame", "due"] "_law_right" (defScope s__law_right) f cdv A outer s H E) (WD E) (defBody s__law_right) t__law_right :=
    (dss_cons (ds_set sc__law_right.nd rfl (by first | exact Or.inl rfl | exact Or.inr rfl) (de_call G__law_made (hr.mono (by decide)) rfl D__law_made.g D__law_made.k D__law_made.b tk (by exact (da_cons (de_name (pv 0)) da_nil))))
    (dss_cons (ds_if (dt_not (dt_val (de_call G__law_is (hr.mono (by decide)) rfl D__law_is.g D__law_is.k D__law_is.b tk (by exact (da_cons (de_call G_slacks (hr.mono (by decide)) rfl D_slacks.g D_slacks.k D_slacks.b tk (by exact (da_cons (de_name (pv 3)) (da_cons (de_name (pv 1)) (da_cons (de_name (pv 2)) da_nil))))) (da_cons (de_call G__law_slacks (hr.mono (by decide)) rfl D__law_slacks.g D__law_slacks.k D__law_slacks.b tk (by exact (da_cons (de_name (pv 0)) (da_cons (de_name (pv 1)) (da_cons (de_name (pv 2)) da_nil))))) da_nil)))))) (dss_one (ds_ret de_bl)) dss_nil)
    (dss_cons (ds_if (dt_not (dt_val (de_call G__law_is (hr.mono (by decide)) rfl D__law_is.g D__law_is.k D__law_is.b tk (by exact (da_cons (de_call G_resting (hr.mono (by decide)) rfl D_resting.g D_resting.k D_resting.b tk (by exact (da_cons (de_name (pv 3)) (da_cons (de_name (pv 1)) (da_cons (de_name (pv 2)) da_nil))))) (da_cons (de_call G__law_resting (hr.mono (by decide)) rfl D__law_resting.g D__law_resting.k D__law_resting.b tk (by exact (da_cons (de_name (pv 0)) (da_cons (de_name (pv 1)) (da_cons (de_name (pv 2)) da_nil))))) da_nil)))))) (dss_one (ds_ret de_bl)) dss_nil)
    (dss_cons (ds_set sc__law_right.nd rfl (by first | exact Or.inl rfl | exact Or.inr rfl) (de_call G__law_answers (hr.mono (by decide)) rfl D__law_answers.g D__law_answers.k D__law_answers.b tk (by exact (da_cons (de_name (pv 0)) (da_cons (de_name (pv 1)) (da_cons (de_name (pv 2)) da_nil))))))
    (dss_cons (ds_if (dt_isnotB (de_call G_is_answer (hr.mono (by decide)) rfl D_is_answer.g D_is_answer.k D_is_answer.b tk (by exact (da_cons (de_name (pv 3)) (da_cons (de_name (pv 1)) (da_cons (de_new (by exact (fe_list rfl Z.list (de_name (pv 2))))) da_nil)))))) (dss_one (ds_ret de_bl)) dss_nil)
    (dss_one (ds_ret (de_call G__law_says (hr.mono (by decide)) rfl D__law_says.g D__law_says.k D__law_says.b tk (by exact (da_cons (de_call G_is_answer (hr.mono (by decide)) rfl D_is_answer.g D_is_answer.k D_is_answer.b tk (by exact (da_cons (de_name (pv 3)) (da_cons (de_name (pv 1)) (da_cons (de_name (pv 2)) da_nil))))) (da_cons (de_name (pv 4)) da_nil)))))))))))

abbrev s__law_faults_right : Stmt := topS 90
theorem sc__law_faults_right : FnScope ["pen", "rows", "load", "standing", "frame", "bent", "odd", "due"] ["pen", "rows", "load", "standing"] (defScope s__law_faults_right) := ⟨rfl, rfl, rfl, by decide +kernel, rfl, by decide +kernel, by decide +kernel⟩
theorem dv__law_faults_right {P : Program} {w : World} {K : PySem.W.Frag} {mg : Str → Option Value} {base : Heap} {B : Bs} (Z : Zn mg) (Y : Yn K mg)
    {f__law_made : Addr} {fd__law_made : FuncData} (D__law_made : DefG K mg "_law_made" ["rows"] f__law_made fd__law_made) (G__law_made : FnOk P w K mg base (L2.CX P w) 11 f__law_made fd__law_made ["rows"] (lSp ⟨K, cmOf mg, [], B.T⟩ 1 sp__law_made))
    {f__law_draw : Addr} {fd__law_draw : FuncData} (D__law_draw : DefG K mg "_law_draw" ["pen", "many"] f__law_draw fd__law_draw) (G__law_draw : FnOk P w K mg base (L2.CX P w) 1 f__law_draw fd__law_draw ["pen", "many"] (lSp ⟨K, cmOf mg, [], B.T⟩ 2 sp__law_draw))
    {f__law_bent_load : Addr} {fd__law_bent_load : FuncData} (D__law_bent_load : DefG K mg "_law_bent_load" ["pen", "load"] f__law_bent_load fd__law_bent_load) (G__law_bent_load : FnOk P w K mg base (L2.CX P w) 5 f__law_bent_load fd__law_bent_load ["pen", "load"] (lSp ⟨K, cmOf mg, [], B.T⟩ 2 sp__law_bent_load))
    {f__law_bent_row : Addr} {fd__law_bent_row : FuncData} (D__law_bent_row : DefG K mg "_law_bent_row" ["pen", "row"] f__law_bent_row fd__law_bent_row) (G__law_bent_row : FnOk P w K mg base (L2.CX P w) 4 f__law_bent_row fd__law_bent_row ["pen", "row"] (lSp ⟨K, cmOf mg, [], B.T⟩ 2 sp__law_bent_row))
    {f__law_fits : Addr} {fd__law_fits : FuncData} (D__law_fits : DefG K mg "_law_fits" ["rows", "load"] f__law_fits fd__law_fits) (G__law_fits : FnOk P w K mg base (L2.CX P w) 4 f__law_fits fd__law_fits ["rows", "load"] (lSp ⟨K, cmOf mg, [], B.T⟩ 2 sp__law_fits))
    {f_is_answer : Addr} {fd_is_answer : FuncData} (D_is_answer : DefG K mg "is_answer" ["frame", "load", "standing"] f_is_answer fd_is_answer) (G_is_answer : FnOk P w K mg base (L2.CX P w) 6 f_is_answer fd_is_answer ["frame", "load", "standing"] (lSp ⟨K, cmOf mg, [], B.T⟩ 3 sp_is_answer))
    {f__law_is_any_row : Addr} {fd__law_is_any_row : FuncData} (D__law_is_any_row : DefG K mg "_law_is_any_row" ["value", "many"] f__law_is_any_row fd__law_is_any_row) (G__law_is_any_row : FnOk P w K mg base (L2.CX P w) 3 f__law_is_any_row fd__law_is_any_row ["value", "many"] (lSp ⟨K, cmOf mg, [], B.T⟩ 2 sp__law_is_any_row))
    {f_slacks : Addr} {fd_slacks : FuncData} (D_slacks : DefG K mg "slacks" ["frame", "load", "standing"] f_slacks fd_slacks) (G_slacks : FnOk P w K mg base (L2.CX P w) 6 f_slacks fd_slacks ["frame", "load", "standing"] (lSp ⟨K, cmOf mg, [], B.T⟩ 3 sp_slacks))
    {f_resting : Addr} {fd_resting : FuncData} (D_resting : DefG K mg "resting" ["frame", "load", "standing"] f_resting fd_resting) (G_resting : FnOk P w K mg base (L2.CX P w) 7 f_resting fd_resting ["frame", "load", "standing"] (lSp ⟨K, cmOf mg, [], B.T⟩ 3 sp_resting))
    {f__law_fault : Addr} {fd__law_fault : FuncData} (D__law_fault : DefG K mg "_law_fault" ["call"] f__law_fault fd__law_fault) (Fu__law_fault : Fun K "_law_fault" "_law_fault" s__law_fault f__law_fault fd__law_fault)
    {CS fk cT PT : Addr} {fdk : FuncData} (Xn : XnOk K mg) (hRE : mg "RestsError" = some (.ref CS)) (D__law_kinds : DefG K mg "_law_kinds" ["e"] fk fdk) (G__law_kinds : FnP P w K mg base true 2 fk fdk ["e"] (lSpP ⟨K, cmOf mg, [], B.T⟩ sp__law_kinds)) (XR : XrOk K mg CS) (TB : LamX.TabB base mg cT PT) (hmT : (PT, ("_law_faults_right.<locals>.<lambda>" : Str)) ∈ B.T) (hu : ∀ p ∈ B.T, p.1 = PT → p.2 = ("_law_faults_right.<locals>.<lambda>" : Str))
    {f : Addr} {cdv : Value} {fd : FuncData} {A : Around} {outer : List Env} {s : Shared} {H : Hp} {E : XK} (hcode : cdv = .ref cT) (hr : RoomG 13 (A.deeper (envOfC "_law_faults_right" (defScope s__law_faults_right) s.heap.objs.size f cdv)))
    (tk : Takes (cxOf (L2.CX P w) P w K mg base ["pen", "rows", "load", "standing", "frame", "bent", "odd", "due"] "_law_faults_right" (defScope s__law_faults_right) f cdv A outer s H E) (WD E)) :
    DSs B (cxOf (L2.CX P w) P w K mg base ["pen", "rows", "load", "standing", "frame", "bent", "odd", "due"] "_law_faults_right" (defScope s__law_faults_right) f cdv A outer s H E) (WD E) (defBody s__law_faults_right) t__law_faults_right :=
    (dss_cons (ds_set sc__law_faults_right.nd rfl (by first | exact Or.inl rfl | exact Or.inr rfl) (de_call G__law_made (hr.rm.mono (by decide)) rfl D__law_made.g D__law_made.k D__law_made.b tk (by exact (da_cons (de_name (pv 1)) da_nil))))
    (dss_cons (ds_set sc__law_faults_right.nd rfl (by first | exact Or.inl rfl | exact Or.inr rfl) (de_ite (dt_cmp (op2_eq hr.units) (de_call G__law_draw (hr.rm.mono (by decide)) rfl D__law_draw.g D__law_draw.k D__law_draw.b tk (by exact (da_cons (de_name (pv 0)) (da_cons de_int da_nil)))) de_int (nobehind _ (by decide) (by decide))) (de_call G__law_bent_load (hr.rm.mono (by decide)) rfl D__law_bent_load.g D__law_bent_load.k D__law_bent_load.b tk (by exact (da_cons (de_name (pv 0)) (da_cons (de_name (pv 2)) da_nil)))) (de_name (pv 2))))
    (dss_cons (ds_set sc__law_faults_right.nd rfl (by first | exact Or.inl rfl | exact Or.inr rfl) (de_call G__law_bent_row (hr.rm.mono (by decide)) rfl D__law_bent_row.g D__law_bent_row.k D__law_bent_row.b tk (by exact (da_cons (de_name (pv 0)) (da_cons (de_name (pv 3)) da_nil)))))
    (dss_cons (ds_set sc__law_faults_right.nd rfl (by first | exact Or.inl rfl | exact Or.inr rfl) (de_ite (dt_not (dt_val (de_call G__law_fits (hr.rm.mono (by decide)) rfl D__law_fits.g D__law_fits.k D__law_fits.b tk (by exact (da_cons (de_name (pv 1)) (da_cons (de_name (pv 5)) da_nil)))))) (de_tup (by exact (da_cons de_str (da_cons de_str da_nil)))) de_non))
    (dss_cons (ds_if (dt_cmp (op2_ne hr.units) (de_fault rfl Fu__law_fault rfl D__law_fault.g D__law_fault.k D__law_fault.b sc__law_fault (.inl rfl) (fun cdv => by exact gv__law_fault Z Y Xn D__law_kinds G__law_kinds hRE XR (hr.rm.mono (by decide)) (fun _ => hr.gd)) (k := 11) TB hcode hmT hu (hr.rm.mono (by decide)) (LamX.lamS_by (sc := defScope s__law_faults_right) (by decide +kernel)) rfl (fun _ _ _ _ _ => rfl) (fun _ _ _ _ _ _ _ hr tk => by exact (de_call G_is_answer (hr.mono (by decide)) rfl D_is_answer.g D_is_answer.k D_is_answer.b tk (by exact (da_cons (de_name (pv 4)) (da_cons (de_name (pv 5)) (da_cons (de_name (pv 6)) da_nil))))))) (de_name (pv 7)) (nobehind _ (by decide) (by decide))) (dss_one (ds_ret de_bl)) dss_nil)
    (dss_cons (ds_if (dt_w (dw_and (dt_isN (de_name (pv 7))) (dw_and1 (dt_isnotB (de_call G_is_answer (hr.rm.mono (by decide)) rfl D_is_answer.g D_is_answer.k D_is_answer.b tk (by exact (da_cons (de_name (pv 4)) (da_cons (de_name (pv 5)) (da_cons (de_name (pv 6)) da_nil))))))))) (dss_one (ds_ret de_bl)) dss_nil)
    (dss_cons (ds_if (dt_w (dw_and (dt_isN (de_name (pv 7))) (dw_and1 (dt_not (dt_val (de_call G__law_is_any_row (hr.rm.mono (by decide)) rfl D__law_is_any_row.g D__law_is_any_row.k D__law_is_any_row.b tk (by exact (da_cons (de_name (pv 6)) (da_cons (de_cb cr_len rfl Z.len (by decide +kernel) (by exact (da_cons (de_name (pv 1)) da_nil))) da_nil))))))))) (dss_one (ds_set sc__law_faults_right.nd rfl (by first | exact Or.inl rfl | exact Or.inr rfl) (de_tup (by exact (da_cons de_str (da_cons de_str (da_cons (de_repr hr.gd hr.units rfl Z.repr (de_name (pv 6))) da_nil))))))) dss_nil)
    (dss_cons (ds_if (dt_cmp (op2_ne hr.units) (de_fault rfl Fu__law_fault rfl D__law_fault.g D__law_fault.k D__law_fault.b sc__law_fault (.inl rfl) (fun cdv => by exact gv__law_fault Z Y Xn D__law_kinds G__law_kinds hRE XR (hr.rm.mono (by decide)) (fun _ => hr.gd)) (k := 11) TB hcode hmT hu (hr.rm.mono (by decide)) (LamX.lamS_by (sc := defScope s__law_faults_right) (by decide +kernel)) rfl (fun _ _ _ _ _ => rfl) (fun _ _ _ _ _ _ _ hr tk => by exact (de_call G_slacks (hr.mono (by decide)) rfl D_slacks.g D_slacks.k D_slacks.b tk (by exact (da_cons (de_name (pv 4)) (da_cons (de_name (pv 5)) (da_cons (de_name (pv 6)) da_nil))))))) (de_name (pv 7)) (nobehind _ (by decide) (by decide))) (dss_one (ds_ret de_bl)) dss_nil)
    (dss_one (ds_ret (de_cmp (op2_eq hr.units) (de_fault rfl Fu__law_fault rfl D__law_fault.g D__law_fault.k D__law_fault.b sc__law_fault (.inl rfl) (fun cdv => by exact gv__law_fault Z Y Xn D__law_kinds G__law_kinds hRE XR (hr.rm.mono (by decide)) (fun _ => hr.gd)) (k := 11) TB hcode hmT hu (hr.rm.mono (by decide)) (LamX.lamS_by (sc := defScope s__law_faults_right) (by decide +kernel)) rfl (fun _ _ _ _ _ => rfl) (fun _ _ _ _ _ _ _ hr tk => by exact (de_call G_resting (hr.mono (by decide)) rfl D_resting.g D_resting.k D_resting.b tk (by exact (da_cons (de_name (pv 4)) (da_cons (de_name (pv 5)) (da_cons (de_name (pv 6)) da_nil))))))) (de_name (pv 7)) (nobehind _ (by decide) (by decide)))))))))))))

abbrev s_law : Stmt := topS 91
theorem sc_law : FnScope ["script", "pen", "lap", "rows", "standing", "load"] ["script"] (defScope s_law) := ⟨rfl, rfl, rfl, by decide +kernel, rfl, by decide +kernel, by decide +kernel⟩
theorem dv_law {P : Program} {w : World} {K : PySem.W.Frag} {mg : Str → Option Value} {base : Heap} {B : Bs} (Z : Zn mg) (Y : Yn K mg)
    {f__law_pen : Addr} {fd__law_pen : FuncData} (D__law_pen : DefG K mg "_law_pen" ["script"] f__law_pen fd__law_pen) (G__law_pen : FnOk P w K mg base (L2.CX P w) 1 f__law_pen fd__law_pen ["script"] (lSp ⟨K, cmOf mg, [], B.T⟩ 1 sp__law_pen))
    {f__law_any_frame : Addr} {fd__law_any_frame : FuncData} (D__law_any_frame : DefG K mg "_law_any_frame" ["pen", "counts", "size"] f__law_any_frame fd__law_any_frame) (G__law_any_frame : FnOk P w K mg base (L2.CX P w) 5 f__law_any_frame fd__law_any_frame ["pen", "counts", "size"] (lSp ⟨K, cmOf mg, [], B.T⟩ 3 sp__law_any_frame))
    {f__law_pick : Addr} {fd__law_pick : FuncData} (D__law_pick : DefG K mg "_law_pick" ["pen", "some"] f__law_pick fd__law_pick) (G__law_pick : FnOk P w K mg base (L2.CX P w) 2 f__law_pick fd__law_pick ["pen", "some"] (lSp ⟨K, cmOf mg, [], B.T⟩ 2 sp__law_pick))
    {f__law_counts : Addr} {fd__law_counts : FuncData} (D__law_counts : DefG K mg "_law_counts" ["pen", "places", "most"] f__law_counts fd__law_counts) (G__law_counts : FnOk P w K mg base (L2.CX P w) 3 f__law_counts fd__law_counts ["pen", "places", "most"] (lSp ⟨K, cmOf mg, [], B.T⟩ 3 sp__law_counts))
    {f__law_draw : Addr} {fd__law_draw : FuncData} (D__law_draw : DefG K mg "_law_draw" ["pen", "many"] f__law_draw fd__law_draw) (G__law_draw : FnOk P w K mg base (L2.CX P w) 1 f__law_draw fd__law_draw ["pen", "many"] (lSp ⟨K, cmOf mg, [], B.T⟩ 2 sp__law_draw))
    {f__law_row : Addr} {fd__law_row : FuncData} (D__law_row : DefG K mg "_law_row" ["pen", "many", "size"] f__law_row fd__law_row) (G__law_row : FnOk P w K mg base (L2.CX P w) 4 f__law_row fd__law_row ["pen", "many", "size"] (lSp ⟨K, cmOf mg, [], B.T⟩ 3 sp__law_row))
    {f__law_load_at : Addr} {fd__law_load_at : FuncData} (D__law_load_at : DefG K mg "_law_load_at" ["pen", "rows", "standing", "size"] f__law_load_at fd__law_load_at) (G__law_load_at : FnOk P w K mg base (L2.CX P w) 5 f__law_load_at fd__law_load_at ["pen", "rows", "standing", "size"] (lSp ⟨K, cmOf mg, [], B.T⟩ 4 sp__law_load_at))
    {f_is_answer : Addr} {fd_is_answer : FuncData} (D_is_answer : DefG K mg "is_answer" ["frame", "load", "standing"] f_is_answer fd_is_answer) (G_is_answer : FnOk P w K mg base (L2.CX P w) 6 f_is_answer fd_is_answer ["frame", "load", "standing"] (lSp ⟨K, cmOf mg, [], B.T⟩ 3 sp_is_answer))
    {f__law_made : Addr} {fd__law_made : FuncData} (D__law_made : DefG K mg "_law_made" ["rows"] f__law_made fd__law_made) (G__law_made : FnOk P w K mg base (L2.CX P w) 11 f__law_made fd__law_made ["rows"] (lSp ⟨K, cmOf mg, [], B.T⟩ 1 sp__law_made))
    {f__law_right : Addr} {fd__law_right : FuncData} (D__law_right : DefG K mg "_law_right" ["rows", "load", "standing"] f__law_right fd__law_right) (G__law_right : FnOk P w K mg base (L2.CX P w) 12 f__law_right fd__law_right ["rows", "load", "standing"] (lSp ⟨K, cmOf mg, [], B.T⟩ 3 sp__law_right))
    {f__law_moved : Addr} {fd__law_moved : FuncData} (D__law_moved : DefG K mg "_law_moved" ["pen", "load"] f__law_moved fd__law_moved) (G__law_moved : FnOk P w K mg base (L2.CX P w) 4 f__law_moved fd__law_moved ["pen", "load"] (lSp ⟨K, cmOf mg, [], B.T⟩ 2 sp__law_moved))
    {f__law_faults_right : Addr} {fd__law_faults_right : FuncData} (D__law_faults_right : DefG K mg "_law_faults_right" ["pen", "rows", "load", "standing"] f__law_faults_right fd__law_faults_right) (G__law_faults_right : FnG P w K mg base 14 f__law_faults_right fd__law_faults_right ["pen", "rows", "load", "standing"] (lSp ⟨K, cmOf mg, [], B.T⟩ 4 sp__law_faults_right))
    {f : Addr} {cdv : Value} {fd : FuncData} {A : Around} {outer : List Env} {s : Shared} {H : Hp} {E : XK} (hr : RoomG 14 (A.deeper (envOfC "law" (defScope s_law) s.heap.objs.size f cdv)))
    (tk : Takes (cxOf (L2.CX P w) P w K mg base ["script", "pen", "lap", "rows", "standing", "load"] "law" (defScope s_law) f cdv A outer s H E) (WD E)) :
    DSs B (cxOf (L2.CX P w) P w K mg base ["script", "pen", "lap", "rows", "standing", "load"] "law" (defScope s_law) f cdv A outer s H E) (WD E) (defBody s_law) t_law :=
    (dss_cons (ds_set sc_law.nd rfl (by first | exact Or.inl rfl | exact Or.inr rfl) (de_call G__law_pen (hr.rm.mono (by decide)) rfl D__law_pen.g D__law_pen.k D__law_pen.b tk (by exact (da_cons (de_name (pv 0)) da_nil))))
    (dss_cons (ds_for (passes_of rfl) rfl (di_range1 rfl Z.range (by exact (da_cons de_int da_nil))) (dg_name sc_law.nd rfl (by first | exact Or.inl rfl | exact Or.inr rfl)) (fun _ => (dss_cons (ds_set sc_law.nd rfl (by first | exact Or.inl rfl | exact Or.inr rfl) (de_call G__law_any_frame (hr.rm.mono (by decide)) rfl D__law_any_frame.g D__law_any_frame.k D__law_any_frame.b tk (by exact (da_cons (de_name (pv 1)) (da_cons (de_call G__law_counts (hr.rm.mono (by decide)) rfl D__law_counts.g D__law_counts.k D__law_counts.b tk (by exact (da_cons (de_name (pv 1)) (da_cons (de_op op2_add de_int (de_call G__law_draw (hr.rm.mono (by decide)) rfl D__law_draw.g D__law_draw.k D__law_draw.b tk (by exact (da_cons (de_name (pv 1)) (da_cons de_int da_nil))))) (da_cons de_int da_nil))))) (da_cons (de_call G__law_pick (hr.rm.mono (by decide)) rfl D__law_pick.g D__law_pick.k D__law_pick.b tk (by exact (da_cons (de_name (pv 1)) (da_cons (de_new (by exact (fe_lst (by exact (da_cons de_int (da_cons de_int (da_cons de_int (da_cons de_int da_nil)))))))) da_nil)))) da_nil))))))
    (dss_cons (ds_set sc_law.nd rfl (by first | exact Or.inl rfl | exact Or.inr rfl) (de_call G__law_row (hr.rm.mono (by decide)) rfl D__law_row.g D__law_row.k D__law_row.b tk (by exact (da_cons (de_name (pv 1)) (da_cons (de_cb cr_len rfl Z.len (by decide +kernel) (by exact (da_cons (de_name (pv 3)) da_nil))) (da_cons (de_call G__law_pick (hr.rm.mono (by decide)) rfl D__law_pick.g D__law_pick.k D__law_pick.b tk (by exact (da_cons (de_name (pv 1)) (da_cons (de_new (by exact (fe_lst (by exact (da_cons de_int (da_cons de_int (da_cons de_int (da_cons de_int da_nil)))))))) da_nil)))) da_nil))))))
    (dss_cons (ds_set sc_law.nd rfl (by first | exact Or.inl rfl | exact Or.inr rfl) (de_call G__law_load_at (hr.rm.mono (by decide)) rfl D__law_load_at.g D__law_load_at.k D__law_load_at.b tk (by exact (da_cons (de_name (pv 1)) (da_cons (de_name (pv 3)) (da_cons (de_name (pv 4)) (da_cons (de_call G__law_draw (hr.rm.mono (by decide)) rfl D__law_draw.g D__law_draw.k D__law_draw.b tk (by exact (da_cons (de_name (pv 1)) (da_cons de_int da_nil)))) da_nil)))))))
    (dss_cons (ds_if (dt_w (dw_or (dt_isnotB (de_call G_is_answer (hr.rm.mono (by decide)) rfl D_is_answer.g D_is_answer.k D_is_answer.b tk (by exact (da_cons (de_call G__law_made (hr.rm.mono (by decide)) rfl D__law_made.g D__law_made.k D__law_made.b tk (by exact (da_cons (de_name (pv 3)) da_nil))) (da_cons (de_name (pv 5)) (da_cons (de_name (pv 4)) da_nil)))))) (dw_or1 (dt_not (dt_val (de_call G__law_right (hr.rm.mono (by decide)) rfl D__law_right.g D__law_right.k D__law_right.b tk (by exact (da_cons (de_name (pv 3)) (da_cons (de_name (pv 5)) (da_cons (de_name (pv 4)) da_nil)))))))))) (dss_one (ds_ret de_bl)) dss_nil)
    (dss_one (ds_if (dt_w (dw_or (dt_not (dt_val (de_call G__law_right (hr.rm.mono (by decide)) rfl D__law_right.g D__law_right.k D__law_right.b tk (by exact (da_cons (de_name (pv 3)) (da_cons (de_call G__law_moved (hr.rm.mono (by decide)) rfl D__law_moved.g D__law_moved.k D__law_moved.b tk (by exact (da_cons (de_name (pv 1)) (da_cons (de_name (pv 5)) da_nil)))) (da_cons (de_name (pv 4)) da_nil))))))) (dw_or1 (dt_not (dt_val (de_callG G__law_faults_right (hr.mono (by decide)) rfl D__law_faults_right.g D__law_faults_right.k D__law_faults_right.b tk (by exact (da_cons (de_name (pv 1)) (da_cons (de_name (pv 3)) (da_cons (de_name (pv 5)) (da_cons (de_name (pv 4)) da_nil))))))))))) (dss_one (ds_ret de_bl)) dss_nil))))))))
    (dss_one (ds_ret de_bl))))

theorem ok_is_integer {P : Program} {w : World} {K : PySem.W.Frag} {mg : Str → Option Value} {base : Heap} {T : List (Addr × Str)} (Z : Zn mg) (Y : Yn K mg)
    {f : Addr} {fd : FuncData} (Fu : Fun K "is_integer" "is_integer" s_is_integer f fd) : FnOk P w K mg base (L2.CX P w) 1 f fd ["value"] (lSp ⟨K, cmOf mg, [], T⟩ 1 sp_is_integer) :=
  fn3 Fu sc_is_integer rfl (fun cdv A outer s H E B hB hr tk => by subst hB; exact dv_is_integer (fd := fd) Z Y  hr tk) pl_is_integer

theorem ok_is_ratio {P : Program} {w : World} {K : PySem.W.Frag} {mg : Str → Option Value} {base : Heap} {T : List (Addr × Str)} (Z : Zn mg) (Y : Yn K mg)
    {f_is_integer : Addr} {fd_is_integer : FuncData} (D_is_integer : DefG K mg "is_integer" ["value"] f_is_integer fd_is_integer) (G_is_integer : FnOk P w K mg base (L2.CX P w) 1 f_is_integer fd_is_integer ["value"] (lSp ⟨K, cmOf mg, [], T⟩ 1 sp_is_integer))
    {f : Addr} {fd : FuncData} (Fu : Fun K "is_ratio" "is_ratio" s_is_ratio f fd) : FnOk P w K mg base (L2.CX P w) 2 f fd ["value"] (lSp ⟨K, cmOf mg, [], T⟩ 1 sp_is_ratio) :=
  fn3 Fu sc_is_ratio rfl (fun cdv A outer s H E B hB hr tk => by subst hB; exact dv_is_ratio (fd := fd) Z Y D_is_integer G_is_integer hr tk) pl_is_ratio

theorem ok_pair {P : Program} {w : World} {K : PySem.W.Frag} {mg : Str → Option Value} {base : Heap} {T : List (Addr × Str)} (Z : Zn mg) (Y : Yn K mg)
    {f : Addr} {fd : FuncData} (Fu : Fun K "pair" "pair" s_pair f fd) : FnOk P w K mg base (L2.CX P w) 1 f fd ["number"] (lSp ⟨K, cmOf mg, [], T⟩ 1 sp_pair) :=
  fn3 Fu sc_pair rfl (fun cdv A outer s H E B hB hr tk => by subst hB; exact dv_pair (fd := fd) Z Y  hr tk) pl_pair

theorem ok_in_lowest {P : Program} {w : World} {K : PySem.W.Frag} {mg : Str → Option Value} {base : Heap} {T : List (Addr × Str)} (Z : Zn mg) (Y : Yn K mg)
    {f : Addr} {fd : FuncData} (Fu : Fun K "in_lowest" "in_lowest" s_in_lowest f fd) : FnOk P w K mg base (L2.CX P w) 1 f fd ["top", "bottom"] (lSp ⟨K, cmOf mg, [], T⟩ 2 sp_in_lowest) :=
  fn3 Fu sc_in_lowest rfl (fun cdv A outer s H E B hB hr tk => by subst hB; exact dv_in_lowest (fd := fd) Z Y  hr tk) pl_in_lowest

theorem ok_added {P : Program} {w : World} {K : PySem.W.Frag} {mg : Str → Option Value} {base : Heap} {T : List (Addr × Str)} (Z : Zn mg) (Y : Yn K mg)
    {f_pair : Addr} {fd_pair : FuncData} (D_pair : DefG K mg "pair" ["number"] f_pair fd_pair) (G_pair : FnOk P w K mg base (L2.CX P w) 1 f_pair fd_pair ["number"] (lSp ⟨K, cmOf mg, [], T⟩ 1 sp_pair))
    {f_in_lowest : Addr} {fd_in_lowest : FuncData} (D_in_lowest : DefG K mg "in_lowest" ["top", "bottom"] f_in_lowest fd_in_lowest) (G_in_lowest : FnOk P w K mg base (L2.CX P w) 1 f_in_lowest fd_in_lowest ["top", "bottom"] (lSp ⟨K, cmOf mg, [], T⟩ 2 sp_in_lowest))
    {f : Addr} {fd : FuncData} (Fu : Fun K "added" "added" s_added f fd) : FnOk P w K mg base (L2.CX P w) 2 f fd ["one", "other"] (lSp ⟨K, cmOf mg, [], T⟩ 2 sp_added) :=
  fn3 Fu sc_added rfl (fun cdv A outer s H E B hB hr tk => by subst hB; exact dv_added (fd := fd) Z Y D_pair G_pair D_in_lowest G_in_lowest hr tk) pl_added

theorem ok_sign_of {P : Program} {w : World} {K : PySem.W.Frag} {mg : Str → Option Value} {base : Heap} {T : List (Addr × Str)} (Z : Zn mg) (Y : Yn K mg)
    {f : Addr} {fd : FuncData} (Fu : Fun K "sign_of" "sign_of" s_sign_of f fd) : FnOk P w K mg base (L2.CX P w) 1 f fd ["number"] (lSp ⟨K, cmOf mg, [], T⟩ 1 sp_sign_of) :=
  fn3 Fu sc_sign_of rfl (fun cdv A outer s H E B hB hr tk => by subst hB; exact dv_sign_of (fd := fd) Z Y  hr tk) pl_sign_of

theorem ok_summed {P : Program} {w : World} {K : PySem.W.Frag} {mg : Str → Option Value} {base : Heap} {T : List (Addr × Str)} (Z : Zn mg) (Y : Yn K mg)
    {f_pair : Addr} {fd_pair : FuncData} (D_pair : DefG K mg "pair" ["number"] f_pair fd_pair) (G_pair : FnOk P w K mg base (L2.CX P w) 1 f_pair fd_pair ["number"] (lSp ⟨K, cmOf mg, [], T⟩ 1 sp_pair))
    {f_in_lowest : Addr} {fd_in_lowest : FuncData} (D_in_lowest : DefG K mg "in_lowest" ["top", "bottom"] f_in_lowest fd_in_lowest) (G_in_lowest : FnOk P w K mg base (L2.CX P w) 1 f_in_lowest fd_in_lowest ["top", "bottom"] (lSp ⟨K, cmOf mg, [], T⟩ 2 sp_in_lowest))
    {f : Addr} {fd : FuncData} (Fu : Fun K "summed" "summed" s_summed f fd) : FnOk P w K mg base (L2.CX P w) 2 f fd ["row", "other"] (lSp ⟨K, cmOf mg, [], T⟩ 2 sp_summed) :=
  fn3 Fu sc_summed rfl (fun cdv A outer s H E B hB hr tk => by subst hB; exact dv_summed (fd := fd) Z Y D_pair G_pair D_in_lowest G_in_lowest hr tk) pl_summed

theorem ok_as_tuples {P : Program} {w : World} {K : PySem.W.Frag} {mg : Str → Option Value} {base : Heap} {T : List (Addr × Str)} (Z : Zn mg) (Y : Yn K mg)
    {f : Addr} {fd : FuncData} (D_self : DefG K mg "as_tuples" ["value"] f fd) (Fu : Fun K "as_tuples" "as_tuples" s_as_tuples f fd) : ∀ d : Nat, FnOk P w K mg base (L2.CX P w) (0 + d) f fd ["value"] (lSp ⟨K, cmOf mg, [], T⟩ 1 (sr_as_tuples d))
  | 0 => fn_zero zr_as_tuples
  | d + 1 => fn3 Fu sc_as_tuples rfl (fun cdv A outer s H E B hB hr tk => by subst hB; exact dv_as_tuples Z Y  D_self (ok_as_tuples Z Y  D_self Fu d) hr tk) (pl_as_tuples d)

theorem ok_is_list {P : Program} {w : World} {K : PySem.W.Frag} {mg : Str → Option Value} {base : Heap} {T : List (Addr × Str)} (Z : Zn mg) (Y : Yn K mg)
    {f : Addr} {fd : FuncData} (Fu : Fun K "is_list" "is_list" s_is_list f fd) : FnOk P w K mg base (L2.CX P w) 1 f fd ["value"] (lSp ⟨K, cmOf mg, [], T⟩ 1 sp_is_list) :=
  fn3 Fu sc_is_list rfl (fun cdv A outer s H E B hB hr tk => by subst hB; exact dv_is_list (fd := fd) Z Y  hr tk) pl_is_list

theorem ok_is_row {P : Program} {w : World} {K : PySem.W.Frag} {mg : Str → Option Value} {base : Heap} {T : List (Addr × Str)} (Z : Zn mg) (Y : Yn K mg)
    {f_is_list : Addr} {fd_is_list : FuncData} (D_is_list : DefG K mg "is_list" ["value"] f_is_list fd_is_list) (G_is_list : FnOk P w K mg base (L2.CX P w) 1 f_is_list fd_is_list ["value"] (lSp ⟨K, cmOf mg, [], T⟩ 1 sp_is_list))
    {f_is_ratio : Addr} {fd_is_ratio : FuncData} (D_is_ratio : DefG K mg "is_ratio" ["value"] f_is_ratio fd_is_ratio) (G_is_ratio : FnOk P w K mg base (L2.CX P w) 2 f_is_ratio fd_is_ratio ["value"] (lSp ⟨K, cmOf mg, [], T⟩ 1 sp_is_ratio))
    {f : Addr} {fd : FuncData} (Fu : Fun K "is_row" "is_row" s_is_row f fd) : FnOk P w K mg base (L2.CX P w) 3 f fd ["value", "many"] (lSp ⟨K, cmOf mg, [], T⟩ 2 sp_is_row) :=
  fn3 Fu sc_is_row rfl (fun cdv A outer s H E B hB hr tk => by subst hB; exact dv_is_row (fd := fd) Z Y D_is_list G_is_list D_is_ratio G_is_ratio hr tk) pl_is_row

theorem ok_is_told_row {P : Program} {w : World} {K : PySem.W.Frag} {mg : Str → Option Value} {base : Heap} {T : List (Addr × Str)} (Z : Zn mg) (Y : Yn K mg)
    {f_is_row : Addr} {fd_is_row : FuncData} (D_is_row : DefG K mg "is_row" ["value", "many"] f_is_row fd_is_row) (G_is_row : FnOk P w K mg base (L2.CX P w) 3 f_is_row fd_is_row ["value", "many"] (lSp ⟨K, cmOf mg, [], T⟩ 2 sp_is_row))
    {f : Addr} {fd : FuncData} (Fu : Fun K "is_told_row" "is_told_row" s_is_told_row f fd) : FnOk P w K mg base (L2.CX P w) 4 f fd ["value", "many"] (lSp ⟨K, cmOf mg, [], T⟩ 2 sp_is_told_row) :=
  fn3 Fu sc_is_told_row rfl (fun cdv A outer s H E B hB hr tk => by subst hB; exact dv_is_told_row (fd := fd) Z Y D_is_row G_is_row hr tk) pl_is_told_row

theorem ok_Frame___init__ {P : Program} {w : World} {K : PySem.W.Frag} {mg : Str → Option Value} {base : Heap} {T : List (Addr × Str)} (Z : Zn mg) (Y : Yn K mg)
    {f_is_list : Addr} {fd_is_list : FuncData} (D_is_list : DefG K mg "is_list" ["value"] f_is_list fd_is_list) (G_is_list : FnOk P w K mg base (L2.CX P w) 1 f_is_list fd_is_list ["value"] (lSp ⟨K, cmOf mg, [], T⟩ 1 sp_is_list))
    {C_BadFrame___init__ f_BadFrame___init__ : Addr} {fd_BadFrame___init__ : FuncData} (O_BadFrame : ExOk K mg "BadFrame" C_BadFrame___init__ f_BadFrame___init__ ["what", "place"]) (D_BadFrame___init__ : DefAt K mg ["self", "what", "place"] f_BadFrame___init__ fd_BadFrame___init__) (G_BadFrame___init__ : FnOk P w K mg base (L2.CX P w) 1 f_BadFrame___init__ fd_BadFrame___init__ ["self", "what", "place"] (spInit K ["what", "place"]))
    {f_is_row : Addr} {fd_is_row : FuncData} (D_is_row : DefG K mg "is_row" ["value", "many"] f_is_row fd_is_row) (G_is_row : FnOk P w K mg base (L2.CX P w) 3 f_is_row fd_is_row ["value", "many"] (lSp ⟨K, cmOf mg, [], T⟩ 2 sp_is_row))
    {f_as_tuples : Addr} {fd_as_tuples : FuncData} (D_as_tuples : DefG K mg "as_tuples" ["value"] f_as_tuples fd_as_tuples) (G_as_tuples : FnOk P w K mg base (L2.CX P w) 8 f_as_tuples fd_as_tuples ["value"] (lSp ⟨K, cmOf mg, [], T⟩ 1 sp_as_tuples))
    {f : Addr} {fd : FuncData} (Fu : Fun K "__init__" "Frame.__init__" s_Frame___init__ f fd) : FnOk P w K mg base (L2.CX P w) 9 f fd ["self", "rows"] (lSpI ⟨K, cmOf mg, [], T⟩ 1 "Frame" sp_Frame___init__) :=
  fnI Fu sc_Frame___init__ rfl (fun cdv A outer s H E B hB hr tk => by subst hB; exact dv_Frame___init__ (fd := fd) Z Y D_is_list G_is_list O_BadFrame D_BadFrame___init__ G_BadFrame___init__ D_is_row G_is_row D_as_tuples G_as_tuples hr tk) pl_Frame___init__

theorem ok_fits {P : Program} {w : World} {K : PySem.W.Frag} {mg : Str → Option Value} {base : Heap} {T : List (Addr × Str)} (Z : Zn mg) (Y : Yn K mg)
    {f_is_list : Addr} {fd_is_list : FuncData} (D_is_list : DefG K mg "is_list" ["value"] f_is_list fd_is_list) (G_is_list : FnOk P w K mg base (L2.CX P w) 1 f_is_list fd_is_list ["value"] (lSp ⟨K, cmOf mg, [], T⟩ 1 sp_is_list))
    {f_is_row : Addr} {fd_is_row : FuncData} (D_is_row : DefG K mg "is_row" ["value", "many"] f_is_row fd_is_row) (G_is_row : FnOk P w K mg base (L2.CX P w) 3 f_is_row fd_is_row ["value", "many"] (lSp ⟨K, cmOf mg, [], T⟩ 2 sp_is_row))
    {f : Addr} {fd : FuncData} (Fu : Fun K "fits" "fits" s_fits f fd) : FnOk P w K mg base (L2.CX P w) 4 f fd ["frame", "load"] (lSp ⟨K, cmOf mg, [], T⟩ 2 sp_fits) :=
  fn3 Fu sc_fits rfl (fun cdv A outer s H E B hB hr tk => by subst hB; exact dv_fits (fd := fd) Z Y D_is_list G_is_list D_is_row G_is_row hr tk) pl_fits

theorem ok_need_load {P : Program} {w : World} {K : PySem.W.Frag} {mg : Str → Option Value} {base : Heap} {T : List (Addr × Str)} (Z : Zn mg) (Y : Yn K mg)
    {f_fits : Addr} {fd_fits : FuncData} (D_fits : DefG K mg "fits" ["frame", "load"] f_fits fd_fits) (G_fits : FnOk P w K mg base (L2.CX P w) 4 f_fits fd_fits ["frame", "load"] (lSp ⟨K, cmOf mg, [], T⟩ 2 sp_fits))
    {C_BadLoad___init__ f_BadLoad___init__ : Addr} {fd_BadLoad___init__ : FuncData} (O_BadLoad : ExOk K mg "BadLoad" C_BadLoad___init__ f_BadLoad___init__ ["what"]) (D_BadLoad___init__ : DefAt K mg ["self", "what"] f_BadLoad___init__ fd_BadLoad___init__) (G_BadLoad___init__ : FnOk P w K mg base (L2.CX P w) 1 f_BadLoad___init__ fd_BadLoad___init__ ["self", "what"] (spInit K ["what"]))
    {f : Addr} {fd : FuncData} (Fu : Fun K "need_load" "need_load" s_need_load f fd) : FnOk P w K mg base (L2.CX P w) 5 f fd ["frame", "load"] (lSp ⟨K, cmOf mg, [], T⟩ 2 sp_need_load) :=
  fn3 Fu sc_need_load rfl (fun cdv A outer s H E B hB hr tk => by subst hB; exact dv_need_load (fd := fd) Z Y D_fits G_fits O_BadLoad D_BadLoad___init__ G_BadLoad___init__ hr tk) pl_need_load

theorem ok_need_row {P : Program} {w : World} {K : PySem.W.Frag} {mg : Str → Option Value} {base : Heap} {T : List (Addr × Str)} (Z : Zn mg) (Y : Yn K mg)
    {f_is_row : Addr} {fd_is_row : FuncData} (D_is_row : DefG K mg "is_row" ["value", "many"] f_is_row fd_is_row) (G_is_row : FnOk P w K mg base (L2.CX P w) 3 f_is_row fd_is_row ["value", "many"] (lSp ⟨K, cmOf mg, [], T⟩ 2 sp_is_row))
    {C_BadRow___init__ f_BadRow___init__ : Addr} {fd_BadRow___init__ : FuncData} (O_BadRow : ExOk K mg "BadRow" C_BadRow___init__ f_BadRow___init__ ["what", "row"]) (D_BadRow___init__ : DefAt K mg ["self", "what", "row"] f_BadRow___init__ fd_BadRow___init__) (G_BadRow___init__ : FnOk P w K mg base (L2.CX P w) 1 f_BadRow___init__ fd_BadRow___init__ ["self", "what", "row"] (spInit K ["what", "row"]))
    {f : Addr} {fd : FuncData} (Fu : Fun K "need_row" "need_row" s_need_row f fd) : FnOk P w K mg base (L2.CX P w) 4 f fd ["frame", "row", "what"] (lSp ⟨K, cmOf mg, [], T⟩ 3 sp_need_row) :=
  fn3 Fu sc_need_row rfl (fun cdv A outer s H E B hB hr tk => by subst hB; exact dv_need_row (fd := fd) Z Y D_is_row G_is_row O_BadRow D_BadRow___init__ G_BadRow___init__ hr tk) pl_need_row

theorem ok_slack_at {P : Program} {w : World} {K : PySem.W.Frag} {mg : Str → Option Value} {base : Heap} {T : List (Addr × Str)} (Z : Zn mg) (Y : Yn K mg)
    {f_added : Addr} {fd_added : FuncData} (D_added : DefG K mg "added" ["one", "other"] f_added fd_added) (G_added : FnOk P w K mg base (L2.CX P w) 2 f_added fd_added ["one", "other"] (lSp ⟨K, cmOf mg, [], T⟩ 2 sp_added))
    {f_summed : Addr} {fd_summed : FuncData} (D_summed : DefG K mg "summed" ["row", "other"] f_summed fd_summed) (G_summed : FnOk P w K mg base (L2.CX P w) 2 f_summed fd_summed ["row", "other"] (lSp ⟨K, cmOf mg, [], T⟩ 2 sp_summed))
    {f : Addr} {fd : FuncData} (Fu : Fun K "slack_at" "slack_at" s_slack_at f fd) : FnOk P w K mg base (L2.CX P w) 3 f fd ["row", "number", "standing"] (lSp ⟨K, cmOf mg, [], T⟩ 3 sp_slack_at) :=
  fn3 Fu sc_slack_at rfl (fun cdv A outer s H E B hB hr tk => by subst hB; exact dv_slack_at (fd := fd) Z Y D_added G_added D_summed G_summed hr tk) pl_slack_at

theorem ok_slacks_at {P : Program} {w : World} {K : PySem.W.Frag} {mg : Str → Option Value} {base : Heap} {T : List (Addr × Str)} (Z : Zn mg) (Y : Yn K mg)
    {f_slack_at : Addr} {fd_slack_at : FuncData} (D_slack_at : DefG K mg "slack_at" ["row", "number", "standing"] f_slack_at fd_slack_at) (G_slack_at : FnOk P w K mg base (L2.CX P w) 3 f_slack_at fd_slack_at ["row", "number", "standing"] (lSp ⟨K, cmOf mg, [], T⟩ 3 sp_slack_at))
    {f : Addr} {fd : FuncData} (Fu : Fun K "slacks_at" "slacks_at" s_slacks_at f fd) : FnOk P w K mg base (L2.CX P w) 4 f fd ["frame", "load", "standing"] (lSp ⟨K, cmOf mg, [], T⟩ 3 sp_slacks_at) :=
  fn3 Fu sc_slacks_at rfl (fun cdv A outer s H E B hB hr tk => by subst hB; exact dv_slacks_at (fd := fd) Z Y D_slack_at G_slack_at hr tk) pl_slacks_at

theorem ok_slacks {P : Program} {w : World} {K : PySem.W.Frag} {mg : Str → Option Value} {base : Heap} {T : List (Addr × Str)} (Z : Zn mg) (Y : Yn K mg)
    {f_need_load : Addr} {fd_need_load : FuncData} (D_need_load : DefG K mg "need_load" ["frame", "load"] f_need_load fd_need_load) (G_need_load : FnOk P w K mg base (L2.CX P w) 5 f_need_load fd_need_load ["frame", "load"] (lSp ⟨K, cmOf mg, [], T⟩ 2 sp_need_load))
    {f_need_row : Addr} {fd_need_row : FuncData} (D_need_row : DefG K mg "need_row" ["frame", "row", "what"] f_need_row fd_need_row) (G_need_row : FnOk P w K mg base (L2.CX P w) 4 f_need_row fd_need_row ["frame", "row", "what"] (lSp ⟨K, cmOf mg, [], T⟩ 3 sp_need_row))
    {f_slacks_at : Addr} {fd_slacks_at : FuncData} (D_slacks_at : DefG K mg "slacks_at" ["frame", "load", "standing"] f_slacks_at fd_slacks_at) (G_slacks_at : FnOk P w K mg base (L2.CX P w) 4 f_slacks_at fd_slacks_at ["frame", "load", "standing"] (lSp ⟨K, cmOf mg, [], T⟩ 3 sp_slacks_at))
    {f : Addr} {fd : FuncData} (Fu : Fun K "slacks" "slacks" s_slacks f fd) : FnOk P w K mg base (L2.CX P w) 6 f fd ["frame", "load", "standing"] (lSp ⟨K, cmOf mg, [], T⟩ 3 sp_slacks) :=
  fn3 Fu sc_slacks rfl (fun cdv A outer s H E B hB hr tk => by subst hB; exact dv_slacks (fd := fd) Z Y D_need_load G_need_load D_need_row G_need_row D_slacks_at G_slacks_at hr tk) pl_slacks

theorem ok_resting {P : Program} {w : World} {K : PySem.W.Frag} {mg : Str → Option Value} {base : Heap} {T : List (Addr × Str)} (Z : Zn mg) (Y : Yn K mg)
    {f_slacks : Addr} {fd_slacks : FuncData} (D_slacks : DefG K mg "slacks" ["frame", "load", "standing"] f_slacks fd_slacks) (G_slacks : FnOk P w K mg base (L2.CX P w) 6 f_slacks fd_slacks ["frame", "load", "standing"] (lSp ⟨K, cmOf mg, [], T⟩ 3 sp_slacks))
    {f : Addr} {fd : FuncData} (Fu : Fun K "resting" "resting" s_resting f fd) : FnOk P w K mg base (L2.CX P w) 7 f fd ["frame", "load", "standing"] (lSp ⟨K, cmOf mg, [], T⟩ 3 sp_resting) :=
  fn3 Fu sc_resting rfl (fun cdv A outer s H E B hB hr tk => by subst hB; exact dv_resting (fd := fd) Z Y D_slacks G_slacks hr tk) pl_resting

theorem ok_answers_at {P : Program} {w : World} {K : PySem.W.Frag} {mg : Str → Option Value} {base : Heap} {T : List (Addr × Str)} (Z : Zn mg) (Y : Yn K mg)
    {f_sign_of : Addr} {fd_sign_of : FuncData} (D_sign_of : DefG K mg "sign_of" ["number"] f_sign_of fd_sign_of) (G_sign_of : FnOk P w K mg base (L2.CX P w) 1 f_sign_of fd_sign_of ["number"] (lSp ⟨K, cmOf mg, [], T⟩ 1 sp_sign_of))
    {f_slack_at : Addr} {fd_slack_at : FuncData} (D_slack_at : DefG K mg "slack_at" ["row", "number", "standing"] f_slack_at fd_slack_at) (G_slack_at : FnOk P w K mg base (L2.CX P w) 3 f_slack_at fd_slack_at ["row", "number", "standing"] (lSp ⟨K, cmOf mg, [], T⟩ 3 sp_slack_at))
    {f : Addr} {fd : FuncData} (Fu : Fun K "answers_at" "answers_at" s_answers_at f fd) : FnOk P w K mg base (L2.CX P w) 4 f fd ["frame", "load", "standing"] (lSp ⟨K, cmOf mg, [], T⟩ 3 sp_answers_at) :=
  fn3 Fu sc_answers_at rfl (fun cdv A outer s H E B hB hr tk => by subst hB; exact dv_answers_at (fd := fd) Z Y D_sign_of G_sign_of D_slack_at G_slack_at hr tk) pl_answers_at

theorem ok_is_answer {P : Program} {w : World} {K : PySem.W.Frag} {mg : Str → Option Value} {base : Heap} {T : List (Addr × Str)} (Z : Zn mg) (Y : Yn K mg)
    {f_need_load : Addr} {fd_need_load : FuncData} (D_need_load : DefG K mg "need_load" ["frame", "load"] f_need_load fd_need_load) (G_need_load : FnOk P w K mg base (L2.CX P w) 5 f_need_load fd_need_load ["frame", "load"] (lSp ⟨K, cmOf mg, [], T⟩ 2 sp_need_load))
    {f_is_told_row : Addr} {fd_is_told_row : FuncData} (D_is_told_row : DefG K mg "is_told_row" ["value", "many"] f_is_told_row fd_is_told_row) (G_is_told_row : FnOk P w K mg base (L2.CX P w) 4 f_is_told_row fd_is_told_row ["value", "many"] (lSp ⟨K, cmOf mg, [], T⟩ 2 sp_is_told_row))
    {f_answers_at : Addr} {fd_answers_at : FuncData} (D_answers_at : DefG K mg "answers_at" ["frame", "load", "standing"] f_answers_at fd_answers_at) (G_answers_at : FnOk P w K mg base (L2.CX P w) 4 f_answers_at fd_answers_at ["frame", "load", "standing"] (lSp ⟨K, cmOf mg, [], T⟩ 3 sp_answers_at))
    {f : Addr} {fd : FuncData} (Fu : Fun K "is_answer" "is_answer" s_is_answer f fd) : FnOk P w K mg base (L2.CX P w) 6 f fd ["frame", "load", "standing"] (lSp ⟨K, cmOf mg, [], T⟩ 3 sp_is_answer) :=
  fn3 Fu sc_is_answer rfl (fun cdv A outer s H E B hB hr tk => by subst hB; exact dv_is_answer (fd := fd) Z Y D_need_load G_need_load D_is_told_row G_is_told_row D_answers_at G_answers_at hr tk) pl_is_answer

theorem ok__law_pen {P : Program} {w : World} {K : PySem.W.Frag} {mg : Str → Option Value} {base : Heap} {T : List (Addr × Str)} (Z : Zn mg) (Y : Yn K mg)
    {f : Addr} {fd : FuncData} (Fu : Fun K "_law_pen" "_law_pen" s__law_pen f fd) : FnOk P w K mg base (L2.CX P w) 1 f fd ["script"] (lSp ⟨K, cmOf mg, [], T⟩ 1 sp__law_pen) :=
  fn3 Fu sc__law_pen rfl (fun cdv A outer s H E B hB hr tk => by subst hB; exact dv__law_pen (fd := fd) Z Y  hr tk) pl__law_pen

theorem ok__law_pick {P : Program} {w : World} {K : PySem.W.Frag} {mg : Str → Option Value} {base : Heap} {T : List (Addr × Str)} (Z : Zn mg) (Y : Yn K mg)
    {f__law_draw : Addr} {fd__law_draw : FuncData} (D__law_draw : DefG K mg "_law_draw" ["pen", "many"] f__law_draw fd__law_draw) (G__law_draw : FnOk P w K mg base (L2.CX P w) 1 f__law_draw fd__law_draw ["pen", "many"] (lSp ⟨K, cmOf mg, [], T⟩ 2 sp__law_draw))
    {f : Addr} {fd : FuncData} (Fu : Fun K "_law_pick" "_law_pick" s__law_pick f fd) : FnOk P w K mg base (L2.CX P w) 2 f fd ["pen", "some"] (lSp ⟨K, cmOf mg, [], T⟩ 2 sp__law_pick) :=
  fn3 Fu sc__law_pick rfl (fun cdv A outer s H E B hB hr tk => by subst hB; exact dv__law_pick (fd := fd) Z Y D__law_draw G__law_draw hr tk) pl__law_pick

theorem ok__law_shuffled {P : Program} {w : World} {K : PySem.W.Frag} {mg : Str → Option Value} {base : Heap} {T : List (Addr × Str)} (Z : Zn mg) (Y : Yn K mg)
    {f__law_draw : Addr} {fd__law_draw : FuncData} (D__law_draw : DefG K mg "_law_draw" ["pen", "many"] f__law_draw fd__law_draw) (G__law_draw : FnOk P w K mg base (L2.CX P w) 1 f__law_draw fd__law_draw ["pen", "many"] (lSp ⟨K, cmOf mg, [], T⟩ 2 sp__law_draw))
    {f : Addr} {fd : FuncData} (Fu : Fun K "_law_shuffled" "_law_shuffled" s__law_shuffled f fd) : FnOk P w K mg base (L2.CX P w) 2 f fd ["pen", "some"] (lSp ⟨K, cmOf mg, [], T⟩ 2 sp__law_shuffled) :=
  fn3 Fu sc__law_shuffled rfl (fun cdv A outer s H E B hB hr tk => by subst hB; exact dv__law_shuffled (fd := fd) Z Y D__law_draw G__law_draw hr tk) pl__law_shuffled

theorem ok__law_is {P : Program} {w : World} {K : PySem.W.Frag} {mg : Str → Option Value} {base : Heap} {T : List (Addr × Str)} (Z : Zn mg) (Y : Yn K mg)
    {f : Addr} {fd : FuncData} (D_self : DefG K mg "_law_is" ["told", "due"] f fd) (Fu : Fun K "_law_is" "_law_is" s__law_is f fd) : ∀ d : Nat, FnOk P w K mg base (L2.CX P w) (0 + d) f fd ["told", "due"] (lSp ⟨K, cmOf mg, [], T⟩ 2 (sr__law_is d))
  | 0 => fn_zero zr__law_is
  | d + 1 => fn3 Fu sc__law_is rfl (fun cdv A outer s H E B hB hr tk => by subst hB; exact dv__law_is Z Y  D_self (ok__law_is Z Y  D_self Fu d) hr tk) (pl__law_is d)

theorem ok__law_says {P : Program} {w : World} {K : PySem.W.Frag} {mg : Str → Option Value} {base : Heap} {T : List (Addr × Str)} (Z : Zn mg) (Y : Yn K mg)
    {f : Addr} {fd : FuncData} (Fu : Fun K "_law_says" "_law_says" s__law_says f fd) : FnOk P w K mg base (L2.CX P w) 1 f fd ["told", "due"] (lSp ⟨K, cmOf mg, [], T⟩ 2 sp__law_says) :=
  fn3 Fu sc__law_says rfl (fun cdv A outer s H E B hB hr tk => by subst hB; exact dv__law_says (fd := fd) Z Y  hr tk) pl__law_says

theorem ok__law_divisor {P : Program} {w : World} {K : PySem.W.Frag} {mg : Str → Option Value} {base : Heap} {T : List (Addr × Str)} (Z : Zn mg) (Y : Yn K mg)
    {f : Addr} {fd : FuncData} (Fu : Fun K "_law_divisor" "_law_divisor" s__law_divisor f fd) : FnOk P w K mg base (L2.CX P w) 1 f fd ["one", "other"] (lSp ⟨K, cmOf mg, [], T⟩ 2 sp__law_divisor) :=
  fn3 Fu sc__law_divisor rfl (fun cdv A outer s H E B hB hr tk => by subst hB; exact dv__law_divisor (fd := fd) Z Y  hr tk) pl__law_divisor

theorem ok__law_low {P : Program} {w : World} {K : PySem.W.Frag} {mg : Str → Option Value} {base : Heap} {T : List (Addr × Str)} (Z : Zn mg) (Y : Yn K mg)
    {f__law_divisor : Addr} {fd__law_divisor : FuncData} (D__law_divisor : DefG K mg "_law_divisor" ["one", "other"] f__law_divisor fd__law_divisor) (G__law_divisor : FnOk P w K mg base (L2.CX P w) 1 f__law_divisor fd__law_divisor ["one", "other"] (lSp ⟨K, cmOf mg, [], T⟩ 2 sp__law_divisor))
    {f : Addr} {fd : FuncData} (Fu : Fun K "_law_low" "_law_low" s__law_low f fd) : FnOk P w K mg base (L2.CX P w) 2 f fd ["top", "bottom"] (lSp ⟨K, cmOf mg, [], T⟩ 2 sp__law_low) :=
  fn3 Fu sc__law_low rfl (fun cdv A outer s H E B hB hr tk => by subst hB; exact dv__law_low (fd := fd) Z Y D__law_divisor G__law_divisor hr tk) pl__law_low

theorem ok__law_pair {P : Program} {w : World} {K : PySem.W.Frag} {mg : Str → Option Value} {base : Heap} {T : List (Addr × Str)} (Z : Zn mg) (Y : Yn K mg)
    {f : Addr} {fd : FuncData} (Fu : Fun K "_law_pair" "_law_pair" s__law_pair f fd) : FnOk P w K mg base (L2.CX P w) 1 f fd ["number"] (lSp ⟨K, cmOf mg, [], T⟩ 1 sp__law_pair) :=
  fn3 Fu sc__law_pair rfl (fun cdv A outer s H E B hB hr tk => by subst hB; exact dv__law_pair (fd := fd) Z Y  hr tk) pl__law_pair

theorem ok__law_plus {P : Program} {w : World} {K : PySem.W.Frag} {mg : Str → Option Value} {base : Heap} {T : List (Addr × Str)} (Z : Zn mg) (Y : Yn K mg)
    {f__law_pair : Addr} {fd__law_pair : FuncData} (D__law_pair : DefG K mg "_law_pair" ["number"] f__law_pair fd__law_pair) (G__law_pair : FnOk P w K mg base (L2.CX P w) 1 f__law_pair fd__law_pair ["number"] (lSp ⟨K, cmOf mg, [], T⟩ 1 sp__law_pair))
    {f__law_low : Addr} {fd__law_low : FuncData} (D__law_low : DefG K mg "_law_low" ["top", "bottom"] f__law_low fd__law_low) (G__law_low : FnOk P w K mg base (L2.CX P w) 2 f__law_low fd__law_low ["top", "bottom"] (lSp ⟨K, cmOf mg, [], T⟩ 2 sp__law_low))
    {f : Addr} {fd : FuncData} (Fu : Fun K "_law_plus" "_law_plus" s__law_plus f fd) : FnOk P w K mg base (L2.CX P w) 3 f fd ["one", "other"] (lSp ⟨K, cmOf mg, [], T⟩ 2 sp__law_plus) :=
  fn3 Fu sc__law_plus rfl (fun cdv A outer s H E B hB hr tk => by subst hB; exact dv__law_plus (fd := fd) Z Y D__law_pair G__law_pair D__law_low G__law_low hr tk) pl__law_plus

theorem ok__law_opposite {P : Program} {w : World} {K : PySem.W.Frag} {mg : Str → Option Value} {base : Heap} {T : List (Addr × Str)} (Z : Zn mg) (Y : Yn K mg)
    {f : Addr} {fd : FuncData} (Fu : Fun K "_law_opposite" "_law_opposite" s__law_opposite f fd) : FnOk P w K mg base (L2.CX P w) 1 f fd ["number"] (lSp ⟨K, cmOf mg, [], T⟩ 1 sp__law_opposite) :=
  fn3 Fu sc__law_opposite rfl (fun cdv A outer s H E B hB hr tk => by subst hB; exact dv__law_opposite (fd := fd) Z Y  hr tk) pl__law_opposite

theorem ok__law_minus {P : Program} {w : World} {K : PySem.W.Frag} {mg : Str → Option Value} {base : Heap} {T : List (Addr × Str)} (Z : Zn mg) (Y : Yn K mg)
    {f__law_plus : Addr} {fd__law_plus : FuncData} (D__law_plus : DefG K mg "_law_plus" ["one", "other"] f__law_plus fd__law_plus) (G__law_plus : FnOk P w K mg base (L2.CX P w) 3 f__law_plus fd__law_plus ["one", "other"] (lSp ⟨K, cmOf mg, [], T⟩ 2 sp__law_plus))
    {f__law_opposite : Addr} {fd__law_opposite : FuncData} (D__law_opposite : DefG K mg "_law_opposite" ["number"] f__law_opposite fd__law_opposite) (G__law_opposite : FnOk P w K mg base (L2.CX P w) 1 f__law_opposite fd__law_opposite ["number"] (lSp ⟨K, cmOf mg, [], T⟩ 1 sp__law_opposite))
    {f : Addr} {fd : FuncData} (Fu : Fun K "_law_minus" "_law_minus" s__law_minus f fd) : FnOk P w K mg base (L2.CX P w) 4 f fd ["one", "other"] (lSp ⟨K, cmOf mg, [], T⟩ 2 sp__law_minus) :=
  fn3 Fu sc__law_minus rfl (fun cdv A outer s H E B hB hr tk => by subst hB; exact dv__law_minus (fd := fd) Z Y D__law_plus G__law_plus D__law_opposite G__law_opposite hr tk) pl__law_minus

theorem ok__law_sign {P : Program} {w : World} {K : PySem.W.Frag} {mg : Str → Option Value} {base : Heap} {T : List (Addr × Str)} (Z : Zn mg) (Y : Yn K mg)
    {f__law_pair : Addr} {fd__law_pair : FuncData} (D__law_pair : DefG K mg "_law_pair" ["number"] f__law_pair fd__law_pair) (G__law_pair : FnOk P w K mg base (L2.CX P w) 1 f__law_pair fd__law_pair ["number"] (lSp ⟨K, cmOf mg, [], T⟩ 1 sp__law_pair))
    {f : Addr} {fd : FuncData} (Fu : Fun K "_law_sign" "_law_sign" s__law_sign f fd) : FnOk P w K mg base (L2.CX P w) 2 f fd ["number"] (lSp ⟨K, cmOf mg, [], T⟩ 1 sp__law_sign) :=
  fn3 Fu sc__law_sign rfl (fun cdv A outer s H E B hB hr tk => by subst hB; exact dv__law_sign (fd := fd) Z Y D__law_pair G__law_pair hr tk) pl__law_sign

theorem ok__law_dot {P : Program} {w : World} {K : PySem.W.Frag} {mg : Str → Option Value} {base : Heap} {T : List (Addr × Str)} (Z : Zn mg) (Y : Yn K mg)
    {f__law_pair : Addr} {fd__law_pair : FuncData} (D__law_pair : DefG K mg "_law_pair" ["number"] f__law_pair fd__law_pair) (G__law_pair : FnOk P w K mg base (L2.CX P w) 1 f__law_pair fd__law_pair ["number"] (lSp ⟨K, cmOf mg, [], T⟩ 1 sp__law_pair))
    {f__law_low : Addr} {fd__law_low : FuncData} (D__law_low : DefG K mg "_law_low" ["top", "bottom"] f__law_low fd__law_low) (G__law_low : FnOk P w K mg base (L2.CX P w) 2 f__law_low fd__law_low ["top", "bottom"] (lSp ⟨K, cmOf mg, [], T⟩ 2 sp__law_low))
    {f : Addr} {fd : FuncData} (Fu : Fun K "_law_dot" "_law_dot" s__law_dot f fd) : FnOk P w K mg base (L2.CX P w) 3 f fd ["row", "other"] (lSp ⟨K, cmOf mg, [], T⟩ 2 sp__law_dot) :=
  fn3 Fu sc__law_dot rfl (fun cdv A outer s H E B hB hr tk => by subst hB; exact dv__law_dot (fd := fd) Z Y D__law_pair G__law_pair D__law_low G__law_low hr tk) pl__law_dot

theorem ok__law_is_whole {P : Program} {w : World} {K : PySem.W.Frag} {mg : Str → Option Value} {base : Heap} {T : List (Addr × Str)} (Z : Zn mg) (Y : Yn K mg)
    {f : Addr} {fd : FuncData} (Fu : Fun K "_law_is_whole" "_law_is_whole" s__law_is_whole f fd) : FnOk P w K mg base (L2.CX P w) 1 f fd ["value"] (lSp ⟨K, cmOf mg, [], T⟩ 1 sp__law_is_whole) :=
  fn3 Fu sc__law_is_whole rfl (fun cdv A outer s H E B hB hr tk => by subst hB; exact dv__law_is_whole (fd := fd) Z Y  hr tk) pl__law_is_whole

theorem ok__law_is_ratio {P : Program} {w : World} {K : PySem.W.Frag} {mg : Str → Option Value} {base : Heap} {T : List (Addr × Str)} (Z : Zn mg) (Y : Yn K mg)
    {f__law_is_whole : Addr} {fd__law_is_whole : FuncData} (D__law_is_whole : DefG K mg "_law_is_whole" ["value"] f__law_is_whole fd__law_is_whole) (G__law_is_whole : FnOk P w K mg base (L2.CX P w) 1 f__law_is_whole fd__law_is_whole ["value"] (lSp ⟨K, cmOf mg, [], T⟩ 1 sp__law_is_whole))
    {f__law_divisor : Addr} {fd__law_divisor : FuncData} (D__law_divisor : DefG K mg "_law_divisor" ["one", "other"] f__law_divisor fd__law_divisor) (G__law_divisor : FnOk P w K mg base (L2.CX P w) 1 f__law_divisor fd__law_divisor ["one", "other"] (lSp ⟨K, cmOf mg, [], T⟩ 2 sp__law_divisor))
    {f : Addr} {fd : FuncData} (Fu : Fun K "_law_is_ratio" "_law_is_ratio" s__law_is_ratio f fd) : FnOk P w K mg base (L2.CX P w) 2 f fd ["value"] (lSp ⟨K, cmOf mg, [], T⟩ 1 sp__law_is_ratio) :=
  fn3 Fu sc__law_is_ratio rfl (fun cdv A outer s H E B hB hr tk => by subst hB; exact dv__law_is_ratio (fd := fd) Z Y D__law_is_whole G__law_is_whole D__law_divisor G__law_divisor hr tk) pl__law_is_ratio

theorem ok__law_wide {P : Program} {w : World} {K : PySem.W.Frag} {mg : Str → Option Value} {base : Heap} {T : List (Addr × Str)} (Z : Zn mg) (Y : Yn K mg)
    {f__law_draw : Addr} {fd__law_draw : FuncData} (D__law_draw : DefG K mg "_law_draw" ["pen", "many"] f__law_draw fd__law_draw) (G__law_draw : FnOk P w K mg base (L2.CX P w) 1 f__law_draw fd__law_draw ["pen", "many"] (lSp ⟨K, cmOf mg, [], T⟩ 2 sp__law_draw))
    {f : Addr} {fd : FuncData} (Fu : Fun K "_law_wide" "_law_wide" s__law_wide f fd) : FnOk P w K mg base (L2.CX P w) 2 f fd ["pen", "figures"] (lSp ⟨K, cmOf mg, [], T⟩ 2 sp__law_wide) :=
  fn3 Fu sc__law_wide rfl (fun cdv A outer s H E B hB hr tk => by subst hB; exact dv__law_wide (fd := fd) Z Y D__law_draw G__law_draw hr tk) pl__law_wide

theorem ok__law_number {P : Program} {w : World} {K : PySem.W.Frag} {mg : Str → Option Value} {base : Heap} {T : List (Addr × Str)} (Z : Zn mg) (Y : Yn K mg)
    {f__law_draw : Addr} {fd__law_draw : FuncData} (D__law_draw : DefG K mg "_law_draw" ["pen", "many"] f__law_draw fd__law_draw) (G__law_draw : FnOk P w K mg base (L2.CX P w) 1 f__law_draw fd__law_draw ["pen", "many"] (lSp ⟨K, cmOf mg, [], T⟩ 2 sp__law_draw))
    {f__law_low : Addr} {fd__law_low : FuncData} (D__law_low : DefG K mg "_law_low" ["top", "bottom"] f__law_low fd__law_low) (G__law_low : FnOk P w K mg base (L2.CX P w) 2 f__law_low fd__law_low ["top", "bottom"] (lSp ⟨K, cmOf mg, [], T⟩ 2 sp__law_low))
    {f__law_wide : Addr} {fd__law_wide : FuncData} (D__law_wide : DefG K mg "_law_wide" ["pen", "figures"] f__law_wide fd__law_wide) (G__law_wide : FnOk P w K mg base (L2.CX P w) 2 f__law_wide fd__law_wide ["pen", "figures"] (lSp ⟨K, cmOf mg, [], T⟩ 2 sp__law_wide))
    {f : Addr} {fd : FuncData} (Fu : Fun K "_law_number" "_law_number" s__law_number f fd) : FnOk P w K mg base (L2.CX P w) 3 f fd ["pen", "size"] (lSp ⟨K, cmOf mg, [], T⟩ 2 sp__law_number) :=
  fn3 Fu sc__law_number rfl (fun cdv A outer s H E B hB hr tk => by subst hB; exact dv__law_number (fd := fd) Z Y D__law_draw G__law_draw D__law_low G__law_low D__law_wide G__law_wide hr tk) pl__law_number

theorem ok__law_row {P : Program} {w : World} {K : PySem.W.Frag} {mg : Str → Option Value} {base : Heap} {T : List (Addr × Str)} (Z : Zn mg) (Y : Yn K mg)
    {f__law_draw : Addr} {fd__law_draw : FuncData} (D__law_draw : DefG K mg "_law_draw" ["pen", "many"] f__law_draw fd__law_draw) (G__law_draw : FnOk P w K mg base (L2.CX P w) 1 f__law_draw fd__law_draw ["pen", "many"] (lSp ⟨K, cmOf mg, [], T⟩ 2 sp__law_draw))
    {f__law_number : Addr} {fd__law_number : FuncData} (D__law_number : DefG K mg "_law_number" ["pen", "size"] f__law_number fd__law_number) (G__law_number : FnOk P w K mg base (L2.CX P w) 3 f__law_number fd__law_number ["pen", "size"] (lSp ⟨K, cmOf mg, [], T⟩ 2 sp__law_number))
    {f : Addr} {fd : FuncData} (Fu : Fun K "_law_row" "_law_row" s__law_row f fd) : FnOk P w K mg base (L2.CX P w) 4 f fd ["pen", "many", "size"] (lSp ⟨K, cmOf mg, [], T⟩ 3 sp__law_row) :=
  fn3 Fu sc__law_row rfl (fun cdv A outer s H E B hB hr tk => by subst hB; exact dv__law_row (fd := fd) Z Y D__law_draw G__law_draw D__law_number G__law_number hr tk) pl__law_row

theorem ok__law_counts {P : Program} {w : World} {K : PySem.W.Frag} {mg : Str → Option Value} {base : Heap} {T : List (Addr × Str)} (Z : Zn mg) (Y : Yn K mg)
    {f__law_pick : Addr} {fd__law_pick : FuncData} (D__law_pick : DefG K mg "_law_pick" ["pen", "some"] f__law_pick fd__law_pick) (G__law_pick : FnOk P w K mg base (L2.CX P w) 2 f__law_pick fd__law_pick ["pen", "some"] (lSp ⟨K, cmOf mg, [], T⟩ 2 sp__law_pick))
    {f__law_shuffled : Addr} {fd__law_shuffled : FuncData} (D__law_shuffled : DefG K mg "_law_shuffled" ["pen", "some"] f__law_shuffled fd__law_shuffled) (G__law_shuffled : FnOk P w K mg base (L2.CX P w) 2 f__law_shuffled fd__law_shuffled ["pen", "some"] (lSp ⟨K, cmOf mg, [], T⟩ 2 sp__law_shuffled))
    {f : Addr} {fd : FuncData} (Fu : Fun K "_law_counts" "_law_counts" s__law_counts f fd) : FnOk P w K mg base (L2.CX P w) 3 f fd ["pen", "places", "most"] (lSp ⟨K, cmOf mg, [], T⟩ 3 sp__law_counts) :=
  fn3 Fu sc__law_counts rfl (fun cdv A outer s H E B hB hr tk => by subst hB; exact dv__law_counts (fd := fd) Z Y D__law_pick G__law_pick D__law_shuffled G__law_shuffled hr tk) pl__law_counts

theorem ok__law_any_frame {P : Program} {w : World} {K : PySem.W.Frag} {mg : Str → Option Value} {base : Heap} {T : List (Addr × Str)} (Z : Zn mg) (Y : Yn K mg)
    {f__law_row : Addr} {fd__law_row : FuncData} (D__law_row : DefG K mg "_law_row" ["pen", "many", "size"] f__law_row fd__law_row) (G__law_row : FnOk P w K mg base (L2.CX P w) 4 f__law_row fd__law_row ["pen", "many", "size"] (lSp ⟨K, cmOf mg, [], T⟩ 3 sp__law_row))
    {f : Addr} {fd : FuncData} (Fu : Fun K "_law_any_frame" "_law_any_frame" s__law_any_frame f fd) : FnOk P w K mg base (L2.CX P w) 5 f fd ["pen", "counts", "size"] (lSp ⟨K, cmOf mg, [], T⟩ 3 sp__law_any_frame) :=
  fn3 Fu sc__law_any_frame rfl (fun cdv A outer s H E B hB hr tk => by subst hB; exact dv__law_any_frame (fd := fd) Z Y D__law_row G__law_row hr tk) pl__law_any_frame

theorem ok__law_slacks {P : Program} {w : World} {K : PySem.W.Frag} {mg : Str → Option Value} {base : Heap} {T : List (Addr × Str)} (Z : Zn mg) (Y : Yn K mg)
    {f__law_plus : Addr} {fd__law_plus : FuncData} (D__law_plus : DefG K mg "_law_plus" ["one", "other"] f__law_plus fd__law_plus) (G__law_plus : FnOk P w K mg base (L2.CX P w) 3 f__law_plus fd__law_plus ["one", "other"] (lSp ⟨K, cmOf mg, [], T⟩ 2 sp__law_plus))
    {f__law_dot : Addr} {fd__law_dot : FuncData} (D__law_dot : DefG K mg "_law_dot" ["row", "other"] f__law_dot fd__law_dot) (G__law_dot : FnOk P w K mg base (L2.CX P w) 3 f__law_dot fd__law_dot ["row", "other"] (lSp ⟨K, cmOf mg, [], T⟩ 2 sp__law_dot))
    {f : Addr} {fd : FuncData} (Fu : Fun K "_law_slacks" "_law_slacks" s__law_slacks f fd) : FnOk P w K mg base (L2.CX P w) 4 f fd ["rows", "load", "standing"] (lSp ⟨K, cmOf mg, [], T⟩ 3 sp__law_slacks) :=
  fn3 Fu sc__law_slacks rfl (fun cdv A outer s H E B hB hr tk => by subst hB; exact dv__law_slacks (fd := fd) Z Y D__law_plus G__law_plus D__law_dot G__law_dot hr tk) pl__law_slacks

theorem ok__law_answers {P : Program} {w : World} {K : PySem.W.Frag} {mg : Str → Option Value} {base : Heap} {T : List (Addr × Str)} (Z : Zn mg) (Y : Yn K mg)
    {f__law_slacks : Addr} {fd__law_slacks : FuncData} (D__law_slacks : DefG K mg "_law_slacks" ["rows", "load", "standing"] f__law_slacks fd__law_slacks) (G__law_slacks : FnOk P w K mg base (L2.CX P w) 4 f__law_slacks fd__law_slacks ["rows", "load", "standing"] (lSp ⟨K, cmOf mg, [], T⟩ 3 sp__law_slacks))
    {f__law_sign : Addr} {fd__law_sign : FuncData} (D__law_sign : DefG K mg "_law_sign" ["number"] f__law_sign fd__law_sign) (G__law_sign : FnOk P w K mg base (L2.CX P w) 2 f__law_sign fd__law_sign ["number"] (lSp ⟨K, cmOf mg, [], T⟩ 1 sp__law_sign))
    {f : Addr} {fd : FuncData} (Fu : Fun K "_law_answers" "_law_answers" s__law_answers f fd) : FnOk P w K mg base (L2.CX P w) 5 f fd ["rows", "load", "standing"] (lSp ⟨K, cmOf mg, [], T⟩ 3 sp__law_answers) :=
  fn3 Fu sc__law_answers rfl (fun cdv A outer s H E B hB hr tk => by subst hB; exact dv__law_answers (fd := fd) Z Y D__law_slacks G__law_slacks D__law_sign G__law_sign hr tk) pl__law_answers

theorem ok__law_load_at {P : Program} {w : World} {K : PySem.W.Frag} {mg : Str → Option Value} {base : Heap} {T : List (Addr × Str)} (Z : Zn mg) (Y : Yn K mg)
    {f__law_draw : Addr} {fd__law_draw : FuncData} (D__law_draw : DefG K mg "_law_draw" ["pen", "many"] f__law_draw fd__law_draw) (G__law_draw : FnOk P w K mg base (L2.CX P w) 1 f__law_draw fd__law_draw ["pen", "many"] (lSp ⟨K, cmOf mg, [], T⟩ 2 sp__law_draw))
    {f__law_number : Addr} {fd__law_number : FuncData} (D__law_number : DefG K mg "_law_number" ["pen", "size"] f__law_number fd__law_number) (G__law_number : FnOk P w K mg base (L2.CX P w) 3 f__law_number fd__law_number ["pen", "size"] (lSp ⟨K, cmOf mg, [], T⟩ 2 sp__law_number))
    {f__law_sign : Addr} {fd__law_sign : FuncData} (D__law_sign : DefG K mg "_law_sign" ["number"] f__law_sign fd__law_sign) (G__law_sign : FnOk P w K mg base (L2.CX P w) 2 f__law_sign fd__law_sign ["number"] (lSp ⟨K, cmOf mg, [], T⟩ 1 sp__law_sign))
    {f__law_opposite : Addr} {fd__law_opposite : FuncData} (D__law_opposite : DefG K mg "_law_opposite" ["number"] f__law_opposite fd__law_opposite) (G__law_opposite : FnOk P w K mg base (L2.CX P w) 1 f__law_opposite fd__law_opposite ["number"] (lSp ⟨K, cmOf mg, [], T⟩ 1 sp__law_opposite))
    {f__law_minus : Addr} {fd__law_minus : FuncData} (D__law_minus : DefG K mg "_law_minus" ["one", "other"] f__law_minus fd__law_minus) (G__law_minus : FnOk P w K mg base (L2.CX P w) 4 f__law_minus fd__law_minus ["one", "other"] (lSp ⟨K, cmOf mg, [], T⟩ 2 sp__law_minus))
    {f__law_dot : Addr} {fd__law_dot : FuncData} (D__law_dot : DefG K mg "_law_dot" ["row", "other"] f__law_dot fd__law_dot) (G__law_dot : FnOk P w K mg base (L2.CX P w) 3 f__law_dot fd__law_dot ["row", "other"] (lSp ⟨K, cmOf mg, [], T⟩ 2 sp__law_dot))
    {f : Addr} {fd : FuncData} (Fu : Fun K "_law_load_at" "_law_load_at" s__law_load_at f fd) : FnOk P w K mg base (L2.CX P w) 5 f fd ["pen", "rows", "standing", "size"] (lSp ⟨K, cmOf mg, [], T⟩ 4 sp__law_load_at) :=
  fn3 Fu sc__law_load_at rfl (fun cdv A outer s H E B hB hr tk => by subst hB; exact dv__law_load_at (fd := fd) Z Y D__law_draw G__law_draw D__law_number G__law_number D__law_sign G__law_sign D__law_opposite G__law_opposite D__law_minus G__law_minus D__law_dot G__law_dot hr tk) pl__law_load_at

theorem ok__law_made {P : Program} {w : World} {K : PySem.W.Frag} {mg : Str → Option Value} {base : Heap} {T : List (Addr × Str)} (Z : Zn mg) (Y : Yn K mg)
    {C_Frame___init__ f_Frame___init__ : Addr} {fd_Frame___init__ : FuncData} (M_Frame : MkOk K mg "Frame" C_Frame___init__ f_Frame___init__) (D_Frame___init__ : DefAt K mg ["self", "rows"] f_Frame___init__ fd_Frame___init__) (G_Frame___init__ : FnOk P w K mg base (L2.CX P w) 9 f_Frame___init__ fd_Frame___init__ ["self", "rows"] (lSpI ⟨K, cmOf mg, [], T⟩ 1 "Frame" sp_Frame___init__))
    {f : Addr} {fd : FuncData} (Fu : Fun K "_law_made" "_law_made" s__law_made f fd) : FnOk P w K mg base (L2.CX P w) 11 f fd ["rows"] (lSp ⟨K, cmOf mg, [], T⟩ 1 sp__law_made) :=
  fn3 Fu sc__law_made rfl (fun cdv A outer s H E B hB hr tk => by subst hB; exact dv__law_made (fd := fd) Z Y M_Frame D_Frame___init__ G_Frame___init__ hr tk) pl__law_made

theorem ok__law_more_kinds {P : Program} {w : World} {K : PySem.W.Frag} {mg : Str → Option Value} {base : Heap} {T : List (Addr × Str)} (Z : Zn mg) (Y : Yn K mg)
    (Xn : XnOk K mg)
    {f : Addr} {fd : FuncData} (Fu : Fun K "_law_more_kinds" "_law_more_kinds" s__law_more_kinds f fd) : FnP P w K mg base true 1 f fd ["e"] (lSpP ⟨K, cmOf mg, [], T⟩ sp__law_more_kinds) :=
  fnP Fu sc__law_more_kinds (fun cdv A outer s H p B hB hr => by subst hB; exact dv__law_more_kinds Z Y Xn hr) pl__law_more_kinds

theorem ok__law_kinds {P : Program} {w : World} {K : PySem.W.Frag} {mg : Str → Option Value} {base : Heap} {T : List (Addr × Str)} (Z : Zn mg) (Y : Yn K mg)
    {f__law_more_kinds : Addr} {fd__law_more_kinds : FuncData} (D__law_more_kinds : DefG K mg "_law_more_kinds" ["e"] f__law_more_kinds fd__law_more_kinds) (G__law_more_kinds : FnP P w K mg base true 1 f__law_more_kinds fd__law_more_kinds ["e"] (lSpP ⟨K, cmOf mg, [], T⟩ sp__law_more_kinds))
    (Xn : XnOk K mg)
    {f : Addr} {fd : FuncData} (Fu : Fun K "_law_kinds" "_law_kinds" s__law_kinds f fd) : FnP P w K mg base true 2 f fd ["e"] (lSpP ⟨K, cmOf mg, [], T⟩ sp__law_kinds) :=
  fnP Fu sc__law_kinds (fun cdv A outer s H p B hB hr => by subst hB; exact dv__law_kinds Z Y D__law_more_kinds G__law_more_kinds Xn hr) pl__law_kinds


theorem ok__law_odd {P : Program} {w : World} {K : PySem.W.Frag} {mg : Str → Option Value} {base : Heap} {T : List (Addr × Str)} (Z : Zn mg) (Y : Yn K mg)
    {f__law_pick : Addr} {fd__law_pick : FuncData} (D__law_pick : DefG K mg "_law_pick" ["pen", "some"] f__law_pick fd__law_pick) (G__law_pick : FnOk P w K mg base (L2.CX P w) 2 f__law_pick fd__law_pick ["pen", "some"] (lSp ⟨K, cmOf mg, [], T⟩ 2 sp__law_pick))
    {f : Addr} {fd : FuncData} (Fu : Fun K "_law_odd" "_law_odd" s__law_odd f fd) : FnOk P w K mg base (L2.CX P w) 3 f fd ["pen"] (lSp ⟨K, cmOf mg, [], T⟩ 1 sp__law_odd) :=
  fn3 Fu sc__law_odd rfl (fun cdv A outer s H E B hB hr tk => by subst hB; exact dv__law_odd (fd := fd) Z Y D__law_pick G__law_pick hr tk) pl__law_odd

theorem ok__law_bent_row {P : Program} {w : World} {K : PySem.W.Frag} {mg : Str → Option Value} {base : Heap} {T : List (Addr × Str)} (Z : Zn mg) (Y : Yn K mg)
    {f__law_draw : Addr} {fd__law_draw : FuncData} (D__law_draw : DefG K mg "_law_draw" ["pen", "many"] f__law_draw fd__law_draw) (G__law_draw : FnOk P w K mg base (L2.CX P w) 1 f__law_draw fd__law_draw ["pen", "many"] (lSp ⟨K, cmOf mg, [], T⟩ 2 sp__law_draw))
    {f__law_odd : Addr} {fd__law_odd : FuncData} (D__law_odd : DefG K mg "_law_odd" ["pen"] f__law_odd fd__law_odd) (G__law_odd : FnOk P w K mg base (L2.CX P w) 3 f__law_odd fd__law_odd ["pen"] (lSp ⟨K, cmOf mg, [], T⟩ 1 sp__law_odd))
    {f__law_pick : Addr} {fd__law_pick : FuncData} (D__law_pick : DefG K mg "_law_pick" ["pen", "some"] f__law_pick fd__law_pick) (G__law_pick : FnOk P w K mg base (L2.CX P w) 2 f__law_pick fd__law_pick ["pen", "some"] (lSp ⟨K, cmOf mg, [], T⟩ 2 sp__law_pick))
    {f : Addr} {fd : FuncData} (Fu : Fun K "_law_bent_row" "_law_bent_row" s__law_bent_row f fd) : FnOk P w K mg base (L2.CX P w) 4 f fd ["pen", "row"] (lSp ⟨K, cmOf mg, [], T⟩ 2 sp__law_bent_row) :=
  fn3 Fu sc__law_bent_row rfl (fun cdv A outer s H E B hB hr tk => by subst hB; exact dv__law_bent_row (fd := fd) Z Y D__law_draw G__law_draw D__law_odd G__law_odd D__law_pick G__law_pick hr tk) pl__law_bent_row

theorem ok__law_is_list {P : Program} {w : World} {K : PySem.W.Frag} {mg : Str → Option Value} {base : Heap} {T : List (Addr × Str)} (Z : Zn mg) (Y : Yn K mg)
    {f : Addr} {fd : FuncData} (Fu : Fun K "_law_is_list" "_law_is_list" s__law_is_list f fd) : FnOk P w K mg base (L2.CX P w) 1 f fd ["value"] (lSp ⟨K, cmOf mg, [], T⟩ 1 sp__law_is_list) :=
  fn3 Fu sc__law_is_list rfl (fun cdv A outer s H E B hB hr tk => by subst hB; exact dv__law_is_list (fd := fd) Z Y  hr tk) pl__law_is_list

theorem ok__law_is_any_row {P : Program} {w : World} {K : PySem.W.Frag} {mg : Str → Option Value} {base : Heap} {T : List (Addr × Str)} (Z : Zn mg) (Y : Yn K mg)
    {f__law_is_list : Addr} {fd__law_is_list : FuncData} (D__law_is_list : DefG K mg "_law_is_list" ["value"] f__law_is_list fd__law_is_list) (G__law_is_list : FnOk P w K mg base (L2.CX P w) 1 f__law_is_list fd__law_is_list ["value"] (lSp ⟨K, cmOf mg, [], T⟩ 1 sp__law_is_list))
    {f__law_is_ratio : Addr} {fd__law_is_ratio : FuncData} (D__law_is_ratio : DefG K mg "_law_is_ratio" ["value"] f__law_is_ratio fd__law_is_ratio) (G__law_is_ratio : FnOk P w K mg base (L2.CX P w) 2 f__law_is_ratio fd__law_is_ratio ["value"] (lSp ⟨K, cmOf mg, [], T⟩ 1 sp__law_is_ratio))
    {f : Addr} {fd : FuncData} (Fu : Fun K "_law_is_any_row" "_law_is_any_row" s__law_is_any_row f fd) : FnOk P w K mg base (L2.CX P w) 3 f fd ["value", "many"] (lSp ⟨K, cmOf mg, [], T⟩ 2 sp__law_is_any_row) :=
  fn3 Fu sc__law_is_any_row rfl (fun cdv A outer s H E B hB hr tk => by subst hB; exact dv__law_is_any_row (fd := fd) Z Y D__law_is_list G__law_is_list D__law_is_ratio G__law_is_ratio hr tk) pl__law_is_any_row

theorem ok__law_fits {P : Program} {w : World} {K : PySem.W.Frag} {mg : Str → Option Value} {base : Heap} {T : List (Addr × Str)} (Z : Zn mg) (Y : Yn K mg)
    {f__law_is_list : Addr} {fd__law_is_list : FuncData} (D__law_is_list : DefG K mg "_law_is_list" ["value"] f__law_is_list fd__law_is_list) (G__law_is_list : FnOk P w K mg base (L2.CX P w) 1 f__law_is_list fd__law_is_list ["value"] (lSp ⟨K, cmOf mg, [], T⟩ 1 sp__law_is_list))
    {f__law_is_any_row : Addr} {fd__law_is_any_row : FuncData} (D__law_is_any_row : DefG K mg "_law_is_any_row" ["value", "many"] f__law_is_any_row fd__law_is_any_row) (G__law_is_any_row : FnOk P w K mg base (L2.CX P w) 3 f__law_is_any_row fd__law_is_any_row ["value", "many"] (lSp ⟨K, cmOf mg, [], T⟩ 2 sp__law_is_any_row))
    {f : Addr} {fd : FuncData} (Fu : Fun K "_law_fits" "_law_fits" s__law_fits f fd) : FnOk P w K mg base (L2.CX P w) 4 f fd ["rows", "load"] (lSp ⟨K, cmOf mg, [], T⟩ 2 sp__law_fits) :=
  fn3 Fu sc__law_fits rfl (fun cdv A outer s H E B hB hr tk => by subst hB; exact dv__law_fits (fd := fd) Z Y D__law_is_list G__law_is_list D__law_is_any_row G__law_is_any_row hr tk) pl__law_fits

theorem ok__law_bent_load {P : Program} {w : World} {K : PySem.W.Frag} {mg : Str → Option Value} {base : Heap} {T : List (Addr × Str)} (Z : Zn mg) (Y : Yn K mg)
    {f__law_draw : Addr} {fd__law_draw : FuncData} (D__law_draw : DefG K mg "_law_draw" ["pen", "many"] f__law_draw fd__law_draw) (G__law_draw : FnOk P w K mg base (L2.CX P w) 1 f__law_draw fd__law_draw ["pen", "many"] (lSp ⟨K, cmOf mg, [], T⟩ 2 sp__law_draw))
    {f__law_pick : Addr} {fd__law_pick : FuncData} (D__law_pick : DefG K mg "_law_pick" ["pen", "some"] f__law_pick fd__law_pick) (G__law_pick : FnOk P w K mg base (L2.CX P w) 2 f__law_pick fd__law_pick ["pen", "some"] (lSp ⟨K, cmOf mg, [], T⟩ 2 sp__law_pick))
    {f__law_bent_row : Addr} {fd__law_bent_row : FuncData} (D__law_bent_row : DefG K mg "_law_bent_row" ["pen", "row"] f__law_bent_row fd__law_bent_row) (G__law_bent_row : FnOk P w K mg base (L2.CX P w) 4 f__law_bent_row fd__law_bent_row ["pen", "row"] (lSp ⟨K, cmOf mg, [], T⟩ 2 sp__law_bent_row))
    {f : Addr} {fd : FuncData} (Fu : Fun K "_law_bent_load" "_law_bent_load" s__law_bent_load f fd) : FnOk P w K mg base (L2.CX P w) 5 f fd ["pen", "load"] (lSp ⟨K, cmOf mg, [], T⟩ 2 sp__law_bent_load) :=
  fn3 Fu sc__law_bent_load rfl (fun cdv A outer s H E B hB hr tk => by subst hB; exact dv__law_bent_load (fd := fd) Z Y D__law_draw G__law_draw D__law_pick G__law_pick D__law_bent_row G__law_bent_row hr tk) pl__law_bent_load

theorem ok__law_moved {P : Program} {w : World} {K : PySem.W.Frag} {mg : Str → Option Value} {base : Heap} {T : List (Addr × Str)} (Z : Zn mg) (Y : Yn K mg)
    {f__law_draw : Addr} {fd__law_draw : FuncData} (D__law_draw : DefG K mg "_law_draw" ["pen", "many"] f__law_draw fd__law_draw) (G__law_draw : FnOk P w K mg base (L2.CX P w) 1 f__law_draw fd__law_draw ["pen", "many"] (lSp ⟨K, cmOf mg, [], T⟩ 2 sp__law_draw))
    {f__law_pick : Addr} {fd__law_pick : FuncData} (D__law_pick : DefG K mg "_law_pick" ["pen", "some"] f__law_pick fd__law_pick) (G__law_pick : FnOk P w K mg base (L2.CX P w) 2 f__law_pick fd__law_pick ["pen", "some"] (lSp ⟨K, cmOf mg, [], T⟩ 2 sp__law_pick))
    {f__law_plus : Addr} {fd__law_plus : FuncData} (D__law_plus : DefG K mg "_law_plus" ["one", "other"] f__law_plus fd__law_plus) (G__law_plus : FnOk P w K mg base (L2.CX P w) 3 f__law_plus fd__law_plus ["one", "other"] (lSp ⟨K, cmOf mg, [], T⟩ 2 sp__law_plus))
    {f : Addr} {fd : FuncData} (Fu : Fun K "_law_moved" "_law_moved" s__law_moved f fd) : FnOk P w K mg base (L2.CX P w) 4 f fd ["pen", "load"] (lSp ⟨K, cmOf mg, [], T⟩ 2 sp__law_moved) :=
  fn3 Fu sc__law_moved rfl (fun cdv A outer s H E B hB hr tk => by subst hB; exact dv__law_moved (fd := fd) Z Y D__law_draw G__law_draw D__law_pick G__law_pick D__law_plus G__law_plus hr tk) pl__law_moved

theorem ok__law_resting {P : Program} {w : World} {K : PySem.W.Frag} {mg : Str → Option Value} {base : Heap} {T : List (Addr × Str)} (Z : Zn mg) (Y : Yn K mg)
    {f__law_slacks : Addr} {fd__law_slacks : FuncData} (D__law_slacks : DefG K mg "_law_slacks" ["rows", "load", "standing"] f__law_slacks fd__law_slacks) (G__law_slacks : FnOk P w K mg base (L2.CX P w) 4 f__law_slacks fd__law_slacks ["rows", "load", "standing"] (lSp ⟨K, cmOf mg, [], T⟩ 3 sp__law_slacks))
    {f : Addr} {fd : FuncData} (Fu : Fun K "_law_resting" "_law_resting" s__law_resting f fd) : FnOk P w K mg base (L2.CX P w) 5 f fd ["rows", "load", "standing"] (lSp ⟨K, cmOf mg, [], T⟩ 3 sp__law_resting) :=
  fn3 Fu sc__law_resting rfl (fun cdv A outer s H E B hB hr tk => by subst hB; exact dv__law_resting (fd := fd) Z Y D__law_slacks G__law_slacks hr tk) pl__law_resting

theorem ok__law_right {P : Program} {w : World} {K : PySem.W.Frag} {mg : Str → Option Value} {base : Heap} {T : List (Addr × Str)} (Z : Zn mg) (Y : Yn K mg)
    {f__law_made : Addr} {fd__law_made : FuncData} (D__law_made : DefG K mg "_law_made" ["rows"] f__law_made fd__law_made) (G__law_made : FnOk P w K mg base (L2.CX P w) 11 f__law_made fd__law_made ["rows"] (lSp ⟨K, cmOf mg, [], T⟩ 1 sp__law_made))
    {f__law_is : Addr} {fd__law_is : FuncData} (D__law_is : DefG K mg "_law_is" ["told", "due"] f__law_is fd__law_is) (G__law_is : FnOk P w K mg base (L2.CX P w) 8 f__law_is fd__law_is ["told", "due"] (lSp ⟨K, cmOf mg, [], T⟩ 2 sp__law_is))
    {f__law_slacks : Addr} {fd__law_slacks : FuncData} (D__law_slacks : DefG K mg "_law_slacks" ["rows", "load", "standing"] f__law_slacks fd__law_slacks) (G__law_slacks : FnOk P w K mg base (L2.CX P w) 4 f__law_slacks fd__law_slacks ["rows", "load", "standing"] (lSp ⟨K, cmOf mg, [], T⟩ 3 sp__law_slacks))
    {f_slacks : Addr} {fd_slacks : FuncData} (D_slacks : DefG K mg "slacks" ["frame", "load", "standing"] f_slacks fd_slacks) (G_slacks : FnOk P w K mg base (L2.CX P w) 6 f_slacks fd_slacks ["frame", "load", "standing"] (lSp ⟨K, cmOf mg, [], T⟩ 3 sp_slacks))
    {f__law_resting : Addr} {fd__law_resting : FuncData} (D__law_resting : DefG K mg "_law_resting" ["rows", "load", "standing"] f__law_resting fd__law_resting) (G__law_resting : FnOk P w K mg base (L2.CX P w) 5 f__law_resting fd__law_resting ["rows", "load", "standing"] (lSp ⟨K, cmOf mg, [], T⟩ 3 sp__law_resting))
    {f_resting : Addr} {fd_resting : FuncData} (D_resting : DefG K mg "resting" ["frame", "load", "standing"] f_resting fd_resting) (G_resting : FnOk P w K mg base (L2.CX P w) 7 f_resting fd_resting ["frame", "load", "standing"] (lSp ⟨K, cmOf mg, [], T⟩ 3 sp_resting))
    {f__law_answers : Addr} {fd__law_answers : FuncData} (D__law_answers : DefG K mg "_law_answers" ["rows", "load", "standing"] f__law_answers fd__law_answers) (G__law_answers : FnOk P w K mg base (L2.CX P w) 5 f__law_answers fd__law_answers ["rows", "load", "standing"] (lSp ⟨K, cmOf mg, [], T⟩ 3 sp__law_answers))
    {f_is_answer : Addr} {fd_is_answer : FuncData} (D_is_answer : DefG K mg "is_answer" ["frame", "load", "standing"] f_is_answer fd_is_answer) (G_is_answer : FnOk P w K mg base (L2.CX P w) 6 f_is_answer fd_is_answer ["frame", "load", "standing"] (lSp ⟨K, cmOf mg, [], T⟩ 3 sp_is_answer))
    {f__law_says : Addr} {fd__law_says : FuncData} (D__law_says : DefG K mg "_law_says" ["told", "due"] f__law_says fd__law_says) (G__law_says : FnOk P w K mg base (L2.CX P w) 1 f__law_says fd__law_says ["told", "due"] (lSp ⟨K, cmOf mg, [], T⟩ 2 sp__law_says))
    {f : Addr} {fd : FuncData} (Fu : Fun K "_law_right" "_law_right" s__law_right f fd) : FnOk P w K mg base (L2.CX P w) 12 f fd ["rows", "load", "standing"] (lSp ⟨K, cmOf mg, [], T⟩ 3 sp__law_right) :=
  fn3 Fu sc__law_right rfl (fun cdv A outer s H E B hB hr tk => by subst hB; exact dv__law_right (fd := fd) Z Y D__law_made G__law_made D__law_is G__law_is D__law_slacks G__law_slacks D_slacks G_slacks D__law_resting G__law_resting D_resting G_resting D__law_answers G__law_answers D_is_answer G_is_answer D__law_says G__law_says hr tk) pl__law_right

theorem ok__law_faults_right {P : Program} {w : World} {K : PySem.W.Frag} {mg : Str → Option Value} {base : Heap} {T : List (Addr × Str)} (Z : Zn mg) (Y : Yn K mg)
    {f__law_made : Addr} {fd__law_made : FuncData} (D__law_made : DefG K mg "_law_made" ["rows"] f__law_made fd__law_made) (G__law_made : FnOk P w K mg base (L2.CX P w) 11 f__law_made fd__law_made ["rows"] (lSp ⟨K, cmOf mg, [], T⟩ 1 sp__law_made))
    {f__law_draw : Addr} {fd__law_draw : FuncData} (D__law_draw : DefG K mg "_law_draw" ["pen", "many"] f__law_draw fd__law_draw) (G__law_draw : FnOk P w K mg base (L2.CX P w) 1 f__law_draw fd__law_draw ["pen", "many"] (lSp ⟨K, cmOf mg, [], T⟩ 2 sp__law_draw))
    {f__law_bent_load : Addr} {fd__law_bent_load : FuncData} (D__law_bent_load : DefG K mg "_law_bent_load" ["pen", "load"] f__law_bent_load fd__law_bent_load) (G__law_bent_load : FnOk P w K mg base (L2.CX P w) 5 f__law_bent_load fd__law_bent_load ["pen", "load"] (lSp ⟨K, cmOf mg, [], T⟩ 2 sp__law_bent_load))
    {f__law_bent_row : Addr} {fd__law_bent_row : FuncData} (D__law_bent_row : DefG K mg "_law_bent_row" ["pen", "row"] f__law_bent_row fd__law_bent_row) (G__law_bent_row : FnOk P w K mg base (L2.CX P w) 4 f__law_bent_row fd__law_bent_row ["pen", "row"] (lSp ⟨K, cmOf mg, [], T⟩ 2 sp__law_bent_row))
    {f__law_fits : Addr} {fd__law_fits : FuncData} (D__law_fits : DefG K mg "_law_fits" ["rows", "load"] f__law_fits fd__law_fits) (G__law_fits : FnOk P w K mg base (L2.CX P w) 4 f__law_fits fd__law_fits ["rows", "load"] (lSp ⟨K, cmOf mg, [], T⟩ 2 sp__law_fits))
    {f_is_answer : Addr} {fd_is_answer : FuncData} (D_is_answer : DefG K mg "is_answer" ["frame", "load", "standing"] f_is_answer fd_is_answer) (G_is_answer : FnOk P w K mg base (L2.CX P w) 6 f_is_answer fd_is_answer ["frame", "load", "standing"] (lSp ⟨K, cmOf mg, [], T⟩ 3 sp_is_answer))
    {f__law_is_any_row : Addr} {fd__law_is_any_row : FuncData} (D__law_is_any_row : DefG K mg "_law_is_any_row" ["value", "many"] f__law_is_any_row fd__law_is_any_row) (G__law_is_any_row : FnOk P w K mg base (L2.CX P w) 3 f__law_is_any_row fd__law_is_any_row ["value", "many"] (lSp ⟨K, cmOf mg, [], T⟩ 2 sp__law_is_any_row))
    {f_slacks : Addr} {fd_slacks : FuncData} (D_slacks : DefG K mg "slacks" ["frame", "load", "standing"] f_slacks fd_slacks) (G_slacks : FnOk P w K mg base (L2.CX P w) 6 f_slacks fd_slacks ["frame", "load", "standing"] (lSp ⟨K, cmOf mg, [], T⟩ 3 sp_slacks))
    {f_resting : Addr} {fd_resting : FuncData} (D_resting : DefG K mg "resting" ["frame", "load", "standing"] f_resting fd_resting) (G_resting : FnOk P w K mg base (L2.CX P w) 7 f_resting fd_resting ["frame", "load", "standing"] (lSp ⟨K, cmOf mg, [], T⟩ 3 sp_resting))
    {f__law_fault : Addr} {fd__law_fault : FuncData} (D__law_fault : DefG K mg "_law_fault" ["call"] f__law_fault fd__law_fault) (Fu__law_fault : Fun K "_law_fault" "_law_fault" s__law_fault f__law_fault fd__law_fault)
    {CS fk cT PT : Addr} {fdk : FuncData} (Xn : XnOk K mg) (hRE : mg "RestsError" = some (.ref CS)) (D__law_kinds : DefG K mg "_law_kinds" ["e"] fk fdk) (G__law_kinds : FnP P w K mg base true 2 fk fdk ["e"] (lSpP ⟨K, cmOf mg, [], T⟩ sp__law_kinds)) (XR : XrOk K mg CS) (TB : LamX.TabB base mg cT PT) (hmT : (PT, ("_law_faults_right.<locals>.<lambda>" : Str)) ∈ T) (hu : ∀ p ∈ T, p.1 = PT → p.2 = ("_law_faults_right.<locals>.<lambda>" : Str))
    {f : Addr} {fd : FuncData} (hcode : fd.code = .ref cT) (Fu : Fun K "_law_faults_right" "_law_faults_right" s__law_faults_right f fd) : FnG P w K mg base 14 f fd ["pen", "rows", "load", "standing"] (lSp ⟨K, cmOf mg, [], T⟩ 4 sp__law_faults_right) :=
  fnG Fu sc__law_faults_right rfl (fun A outer s H E B hB hr tk => by subst hB; exact dv__law_faults_right (fd := fd) Z Y D__law_made G__law_made D__law_draw G__law_draw D__law_bent_load G__law_bent_load D__law_bent_row G__law_bent_row D__law_fits G__law_fits D_is_answer G_is_answer D__law_is_any_row G__law_is_any_row D_slacks G_slacks D_resting G_resting D__law_fault Fu__law_fault Xn hRE D__law_kinds G__law_kinds XR TB hmT hu hcode hr tk) pl__law_faults_right

theorem ok_law {P : Program} {w : World} {K : PySem.W.Frag} {mg : Str → Option Value} {base : Heap} {T : List (Addr × Str)} (Z : Zn mg) (Y : Yn K mg)
    {f__law_pen : Addr} {fd__law_pen : FuncData} (D__law_pen : DefG K mg "_law_pen" ["script"] f__law_pen fd__law_pen) (G__law_pen : FnOk P w K mg base (L2.CX P w) 1 f__law_pen fd__law_pen ["script"] (lSp ⟨K, cmOf mg, [], T⟩ 1 sp__law_pen))
    {f__law_any_frame : Addr} {fd__law_any_frame : FuncData} (D__law_any_frame : DefG K mg "_law_any_frame" ["pen", "counts", "size"] f__law_any_frame fd__law_any_frame) (G__law_any_frame : FnOk P w K mg base (L2.CX P w) 5 f__law_any_frame fd__law_any_frame ["pen", "counts", "size"] (lSp ⟨K, cmOf mg, [], T⟩ 3 sp__law_any_frame))
    {f__law_pick : Addr} {fd__law_pick : FuncData} (D__law_pick : DefG K mg "_law_pick" ["pen", "some"] f__law_pick fd__law_pick) (G__law_pick : FnOk P w K mg base (L2.CX P w) 2 f__law_pick fd__law_pick ["pen", "some"] (lSp ⟨K, cmOf mg, [], T⟩ 2 sp__law_pick))
    {f__law_counts : Addr} {fd__law_counts : FuncData} (D__law_counts : DefG K mg "_law_counts" ["pen", "places", "most"] f__law_counts fd__law_counts) (G__law_counts : FnOk P w K mg base (L2.CX P w) 3 f__law_counts fd__law_counts ["pen", "places", "most"] (lSp ⟨K, cmOf mg, [], T⟩ 3 sp__law_counts))
    {f__law_draw : Addr} {fd__law_draw : FuncData} (D__law_draw : DefG K mg "_law_draw" ["pen", "many"] f__law_draw fd__law_draw) (G__law_draw : FnOk P w K mg base (L2.CX P w) 1 f__law_draw fd__law_draw ["pen", "many"] (lSp ⟨K, cmOf mg, [], T⟩ 2 sp__law_draw))
    {f__law_row : Addr} {fd__law_row : FuncData} (D__law_row : DefG K mg "_law_row" ["pen", "many", "size"] f__law_row fd__law_row) (G__law_row : FnOk P w K mg base (L2.CX P w) 4 f__law_row fd__law_row ["pen", "many", "size"] (lSp ⟨K, cmOf mg, [], T⟩ 3 sp__law_row))
    {f__law_load_at : Addr} {fd__law_load_at : FuncData} (D__law_load_at : DefG K mg "_law_load_at" ["pen", "rows", "standing", "size"] f__law_load_at fd__law_load_at) (G__law_load_at : FnOk P w K mg base (L2.CX P w) 5 f__law_load_at fd__law_load_at ["pen", "rows", "standing", "size"] (lSp ⟨K, cmOf mg, [], T⟩ 4 sp__law_load_at))
    {f_is_answer : Addr} {fd_is_answer : FuncData} (D_is_answer : DefG K mg "is_answer" ["frame", "load", "standing"] f_is_answer fd_is_answer) (G_is_answer : FnOk P w K mg base (L2.CX P w) 6 f_is_answer fd_is_answer ["frame", "load", "standing"] (lSp ⟨K, cmOf mg, [], T⟩ 3 sp_is_answer))
    {f__law_made : Addr} {fd__law_made : FuncData} (D__law_made : DefG K mg "_law_made" ["rows"] f__law_made fd__law_made) (G__law_made : FnOk P w K mg base (L2.CX P w) 11 f__law_made fd__law_made ["rows"] (lSp ⟨K, cmOf mg, [], T⟩ 1 sp__law_made))
    {f__law_right : Addr} {fd__law_right : FuncData} (D__law_right : DefG K mg "_law_right" ["rows", "load", "standing"] f__law_right fd__law_right) (G__law_right : FnOk P w K mg base (L2.CX P w) 12 f__law_right fd__law_right ["rows", "load", "standing"] (lSp ⟨K, cmOf mg, [], T⟩ 3 sp__law_right))
    {f__law_moved : Addr} {fd__law_moved : FuncData} (D__law_moved : DefG K mg "_law_moved" ["pen", "load"] f__law_moved fd__law_moved) (G__law_moved : FnOk P w K mg base (L2.CX P w) 4 f__law_moved fd__law_moved ["pen", "load"] (lSp ⟨K, cmOf mg, [], T⟩ 2 sp__law_moved))
    {f__law_faults_right : Addr} {fd__law_faults_right : FuncData} (D__law_faults_right : DefG K mg "_law_faults_right" ["pen", "rows", "load", "standing"] f__law_faults_right fd__law_faults_right) (G__law_faults_right : FnG P w K mg base 14 f__law_faults_right fd__law_faults_right ["pen", "rows", "load", "standing"] (lSp ⟨K, cmOf mg, [], T⟩ 4 sp__law_faults_right))
    {f : Addr} {fd : FuncData} (Fu : Fun K "law" "law" s_law f fd) : FnG P w K mg base 15 f fd ["script"] (lSp ⟨K, cmOf mg, [], T⟩ 1 sp_law) :=
  fnG Fu sc_law rfl (fun A outer s H E B hB hr tk => by subst hB; exact dv_law (fd := fd) Z Y D__law_pen G__law_pen D__law_any_frame G__law_any_frame D__law_pick G__law_pick D__law_counts G__law_counts D__law_draw G__law_draw D__law_row G__law_row D__law_load_at G__law_load_at D_is_answer G_is_answer D__law_made G__law_made D__law_right G__law_right D__law_moved G__law_moved D__law_faults_right G__law_faults_right hr tk) pl_law

end Cl
namespace Cl
open PySem PySem.Spec L2 L3
open PyProof.Rows hiding St
theorem all_mk {l : PySem.W.OpenLaw} {w : World} {K : PySem.W.Frag} {h : Heap} {mg : Str → Option Value} {fa : Addr} (X : K.In h) (G : h.Ns mainGlobals mg) (hfa : mg "law" = some (.ref fa))
    {C_BadFrame : Addr}
    {C_BadHouse : Addr}
    {C_BadLoad : Addr}
    {C_BadName : Addr}
    {C_BadNet : Addr}
    {C_BadNumber : Addr}
    {C_BadRow : Addr}
    {C_BadTable : Addr}
    {C_BadText : Addr}
    {C_BadWeb : Addr}
    {C_Flat : Addr}
    {C_Frame : Addr}
    {C_NoName : Addr}
    {C_NoPlace : Addr}
    {C_NoRow : Addr}
    {C_NoWall : Addr}
    {C_NotKept : Addr}
    {C_NotOnce : Addr}
    {C_NotPlain : Addr}
    {C_NothingToRedo : Addr}
    {C_NothingToUndo : Addr}
    {C_RestsError : Addr}
    {C_TakenName : Addr}
    {C_TooMany : Addr}
    {C_Unlike : Addr}
    {f_is_integer : Addr} {od_is_integer an_is_integer : Option Addr} {sl_is_integer : Array (Option Value)} {oc_is_integer kV_is_integer dc_is_integer pm_is_integer cd_is_integer ct_is_integer : Value}
    {f_is_ratio : Addr} {od_is_ratio an_is_ratio : Option Addr} {sl_is_ratio : Array (Option Value)} {oc_is_ratio kV_is_ratio dc_is_ratio pm_is_ratio cd_is_ratio ct_is_ratio : Value}
    {f_pair : Addr} {od_pair an_pair : Option Addr} {sl_pair : Array (Option Value)} {oc_pair kV_pair dc_pair pm_pair cd_pair ct_pair : Value}
    {f_in_lowest : Addr} {od_in_lowest an_in_lowest : Option Addr} {sl_in_lowest : Array (Option Value)} {oc_in_lowest kV_in_lowest dc_in_lowest pm_in_lowest cd_in_lowest ct_in_lowest : Value}
    {f_added : Addr} {od_added an_added : Option Addr} {sl_added : Array (Option Value)} {oc_added kV_added dc_added pm_added cd_added ct_added : Value}
    {f_sign_of : Addr} {od_sign_of an_sign_of : Option Addr} {sl_sign_of : Array (Option Value)} {oc_sign_of kV_sign_of dc_sign_of pm_sign_of cd_sign_of ct_sign_of : Value}
    {f_summed : Addr} {od_summed an_summed : Option Addr} {sl_summed : Array (Option Value)} {oc_summed kV_summed dc_summed pm_summed cd_summed ct_summed : Value}
    {f_as_tuples : Addr} {od_as_tuples an_as_tuples : Option Addr} {sl_as_tuples : Array (Option Value)} {oc_as_tuples kV_as_tuples dc_as_tuples pm_as_tuples cd_as_tuples ct_as_tuples : Value}
    {f_is_list : Addr} {od_is_list an_is_list : Option Addr} {sl_is_list : Array (Option Value)} {oc_is_list kV_is_list dc_is_list pm_is_list cd_is_list ct_is_list : Value}
    {f_is_row : Addr} {od_is_row an_is_row : Option Addr} {sl_is_row : Array (Option Value)} {oc_is_row kV_is_row dc_is_row pm_is_row cd_is_row ct_is_row : Value}
    {f_is_told_row : Addr} {od_is_told_row an_is_told_row : Option Addr} {sl_is_told_row : Array (Option Value)} {oc_is_told_row kV_is_told_row dc_is_told_row pm_is_told_row cd_is_told_row ct_is_told_row : Value}
    {f_Frame___init__ : Addr} {od_Frame___init__ an_Frame___init__ : Option Addr} {sl_Frame___init__ : Array (Option Value)} {oc_Frame___init__ kV_Frame___init__ dc_Frame___init__ pm_Frame___init__ cd_Frame___init__ ct_Frame___init__ : Value}
    {f_fits : Addr} {od_fits an_fits : Option Addr} {sl_fits : Array (Option Value)} {oc_fits kV_fits dc_fits pm_fits cd_fits ct_fits : Value}
    {f_need_load : Addr} {od_need_load an_need_load : Option Addr} {sl_need_load : Array (Option Value)} {oc_need_load kV_need_load dc_need_load pm_need_load cd_need_load ct_need_load : Value}
    {f_need_row : Addr} {od_need_row an_need_row : Option Addr} {sl_need_row : Array (Option Value)} {oc_need_row kV_need_row dc_need_row pm_need_row cd_need_row ct_need_row : Value}
    {f_slack_at : Addr} {od_slack_at an_slack_at : Option Addr} {sl_slack_at : Array (Option Value)} {oc_slack_at kV_slack_at dc_slack_at pm_slack_at cd_slack_at ct_slack_at : Value}
    {f_slacks_at : Addr} {od_slacks_at an_slacks_at : Option Addr} {sl_slacks_at : Array (Option Value)} {oc_slacks_at kV_slacks_at dc_slacks_at pm_slacks_at cd_slacks_at ct_slacks_at : Value}
    {f_slacks : Addr} {od_slacks an_slacks : Option Addr} {sl_slacks : Array (Option Value)} {oc_slacks kV_slacks dc_slacks pm_slacks cd_slacks ct_slacks : Value}
    {f_resting : Addr} {od_resting an_resting : Option Addr} {sl_resting : Array (Option Value)} {oc_resting kV_resting dc_resting pm_resting cd_resting ct_resting : Value}
    {f_answers_at : Addr} {od_answers_at an_answers_at : Option Addr} {sl_answers_at : Array (Option Value)} {oc_answers_at kV_answers_at dc_answers_at pm_answers_at cd_answers_at ct_answers_at : Value}
    {f_is_answer : Addr} {od_is_answer an_is_answer : Option Addr} {sl_is_answer : Array (Option Value)} {oc_is_answer kV_is_answer dc_is_answer pm_is_answer cd_is_answer ct_is_answer : Value}
    {f__law_pen : Addr} {od__law_pen an__law_pen : Option Addr} {sl__law_pen : Array (Option Value)} {oc__law_pen kV__law_pen dc__law_pen pm__law_pen cd__law_pen ct__law_pen : Value}
    {f__law_draw : Addr} {od__law_draw an__law_draw : Option Addr} {sl__law_draw : Array (Option Value)} {oc__law_draw kV__law_draw dc__law_draw pm__law_draw cd__law_draw ct__law_draw : Value}
    {f__law_pick : Addr} {od__law_pick an__law_pick : Option Addr} {sl__law_pick : Array (Option Value)} {oc__law_pick kV__law_pick dc__law_pick pm__law_pick cd__law_pick ct__law_pick : Value}
    {f__law_shuffled : Addr} {od__law_shuffled an__law_shuffled : Option Addr} {sl__law_shuffled : Array (Option Value)} {oc__law_shuffled kV__law_shuffled dc__law_shuffled pm__law_shuffled cd__law_shuffled ct__law_shuffled : Value}
    {f__law_is : Addr} {od__law_is an__law_is : Option Addr} {sl__law_is : Array (Option Value)} {oc__law_is kV__law_is dc__law_is pm__law_is cd__law_is ct__law_is : Value}
    {f__law_says : Addr} {od__law_says an__law_says : Option Addr} {sl__law_says : Array (Option Value)} {oc__law_says kV__law_says dc__law_says pm__law_says cd__law_says ct__law_says : Value}
    {f__law_divisor : Addr} {od__law_divisor an__law_divisor : Option Addr} {sl__law_divisor : Array (Option Value)} {oc__law_divisor kV__law_divisor dc__law_divisor pm__law_divisor cd__law_divisor ct__law_divisor : Value}
    {f__law_low : Addr} {od__law_low an__law_low : Option Addr} {sl__law_low : Array (Option Value)} {oc__law_low kV__law_low dc__law_low pm__law_low cd__law_low ct__law_low : Value}
    {f__law_pair : Addr} {od__law_pair an__law_pair : Option Addr} {sl__law_pair : Array (Option Value)} {oc__law_pair kV__law_pair dc__law_pair pm__law_pair cd__law_pair ct__law_pair : Value}
    {f__law_plus : Addr} {od__law_plus an__law_plus : Option Addr} {sl__law_plus : Array (Option Value)} {oc__law_plus kV__law_plus dc__law_plus pm__law_plus cd__law_plus ct__law_plus : Value}
    {f__law_opposite : Addr} {od__law_opposite an__law_opposite : Option Addr} {sl__law_opposite : Array (Option Value)} {oc__law_opposite kV__law_opposite dc__law_opposite pm__law_opposite cd__law_opposite ct__law_opposite : Value}
    {f__law_minus : Addr} {od__law_minus an__law_minus : Option Addr} {sl__law_minus : Array (Option Value)} {oc__law_minus kV__law_minus dc__law_minus pm__law_minus cd__law_minus ct__law_minus : Value}
    {f__law_sign : Addr} {od__law_sign an__law_sign : Option Addr} {sl__law_sign : Array (Option Value)} {oc__law_sign kV__law_sign dc__law_sign pm__law_sign cd__law_sign ct__law_sign : Value}
    {f__law_dot : Addr} {od__law_dot an__law_dot : Option Addr} {sl__law_dot : Array (Option Value)} {oc__law_dot kV__law_dot dc__law_dot pm__law_dot cd__law_dot ct__law_dot : Value}
    {f__law_is_whole : Addr} {od__law_is_whole an__law_is_whole : Option Addr} {sl__law_is_whole : Array (Option Value)} {oc__law_is_whole kV__law_is_whole dc__law_is_whole pm__law_is_whole cd__law_is_whole ct__law_is_whole : Value}
    {f__law_is_ratio : Addr} {od__law_is_ratio an__law_is_ratio : Option Addr} {sl__law_is_ratio : Array (Option Value)} {oc__law_is_ratio kV__law_is_ratio dc__law_is_ratio pm__law_is_ratio cd__law_is_ratio ct__law_is_ratio : Value}
    {f__law_wide : Addr} {od__law_wide an__law_wide : Option Addr} {sl__law_wide : Array (Option Value)} {oc__law_wide kV__law_wide dc__law_wide pm__law_wide cd__law_wide ct__law_wide : Value}
    {f__law_number : Addr} {od__law_number an__law_number : Option Addr} {sl__law_number : Array (Option Value)} {oc__law_number kV__law_number dc__law_number pm__law_number cd__law_number ct__law_number : Value}
    {f__law_row : Addr} {od__law_row an__law_row : Option Addr} {sl__law_row : Array (Option Value)} {oc__law_row kV__law_row dc__law_row pm__law_row cd__law_row ct__law_row : Value}
    {f__law_counts : Addr} {od__law_counts an__law_counts : Option Addr} {sl__law_counts : Array (Option Value)} {oc__law_counts kV__law_counts dc__law_counts pm__law_counts cd__law_counts ct__law_counts : Value}
    {f__law_any_frame : Addr} {od__law_any_frame an__law_any_frame : Option Addr} {sl__law_any_frame : Array (Option Value)} {oc__law_any_frame kV__law_any_frame dc__law_any_frame pm__law_any_frame cd__law_any_frame ct__law_any_frame : Value}
    {f__law_slacks : Addr} {od__law_slacks an__law_slacks : Option Addr} {sl__law_slacks : Array (Option Value)} {oc__law_slacks kV__law_slacks dc__law_slacks pm__law_slacks cd__law_slacks ct__law_slacks : Value}
    {f__law_answers : Addr} {od__law_answers an__law_answers : Option Addr} {sl__law_answers : Array (Option Value)} {oc__law_answers kV__law_answers dc__law_answers pm__law_answers cd__law_answers ct__law_answers : Value}
    {f__law_load_at : Addr} {od__law_load_at an__law_load_at : Option Addr} {sl__law_load_at : Array (Option Value)} {oc__law_load_at kV__law_load_at dc__law_load_at pm__law_load_at cd__law_load_at ct__law_load_at : Value}
    {f__law_made : Addr} {od__law_made an__law_made : Option Addr} {sl__law_made : Array (Option Value)} {oc__law_made kV__law_made dc__law_made pm__law_made cd__law_made ct__law_made : Value}
    {f__law_more_kinds : Addr} {od__law_more_kinds an__law_more_kinds : Option Addr} {sl__law_more_kinds : Array (Option Value)} {oc__law_more_kinds kV__law_more_kinds dc__law_more_kinds pm__law_more_kinds cd__law_more_kinds ct__law_more_kinds : Value}
    {f__law_kinds : Addr} {od__law_kinds an__law_kinds : Option Addr} {sl__law_kinds : Array (Option Value)} {oc__law_kinds kV__law_kinds dc__law_kinds pm__law_kinds cd__law_kinds ct__law_kinds : Value}
    {f__law_fault : Addr} {od__law_fault an__law_fault : Option Addr} {sl__law_fault : Array (Option Value)} {oc__law_fault kV__law_fault dc__law_fault pm__law_fault cd__law_fault ct__law_fault : Value}
    {f__law_odd : Addr} {od__law_odd an__law_odd : Option Addr} {sl__law_odd : Array (Option Value)} {oc__law_odd kV__law_odd dc__law_odd pm__law_odd cd__law_odd ct__law_odd : Value}
    {f__law_bent_row : Addr} {od__law_bent_row an__law_bent_row : Option Addr} {sl__law_bent_row : Array (Option Value)} {oc__law_bent_row kV__law_bent_row dc__law_bent_row pm__law_bent_row cd__law_bent_row ct__law_bent_row : Value}
    {f__law_is_list : Addr} {od__law_is_list an__law_is_list : Option Addr} {sl__law_is_list : Array (Option Value)} {oc__law_is_list kV__law_is_list dc__law_is_list pm__law_is_list cd__law_is_list ct__law_is_list : Value}
    {f__law_is_any_row : Addr} {od__law_is_any_row an__law_is_any_row : Option Addr} {sl__law_is_any_row : Array (Option Value)} {oc__law_is_any_row kV__law_is_any_row dc__law_is_any_row pm__law_is_any_row cd__law_is_any_row ct__law_is_any_row : Value}
    {f__law_fits : Addr} {od__law_fits an__law_fits : Option Addr} {sl__law_fits : Array (Option Value)} {oc__law_fits kV__law_fits dc__law_fits pm__law_fits cd__law_fits ct__law_fits : Value}
    {f__law_bent_load : Addr} {od__law_bent_load an__law_bent_load : Option Addr} {sl__law_bent_load : Array (Option Value)} {oc__law_bent_load kV__law_bent_load dc__law_bent_load pm__law_bent_load cd__law_bent_load ct__law_bent_load : Value}
    {f__law_moved : Addr} {od__law_moved an__law_moved : Option Addr} {sl__law_moved : Array (Option Value)} {oc__law_moved kV__law_moved dc__law_moved pm__law_moved cd__law_moved ct__law_moved : Value}
    {f__law_resting : Addr} {od__law_resting an__law_resting : Option Addr} {sl__law_resting : Array (Option Value)} {oc__law_resting kV__law_resting dc__law_resting pm__law_resting cd__law_resting ct__law_resting : Value}
    {f__law_right : Addr} {od__law_right an__law_right : Option Addr} {sl__law_right : Array (Option Value)} {oc__law_right kV__law_right dc__law_right pm__law_right cd__law_right ct__law_right : Value}
    {f__law_faults_right : Addr} {od__law_faults_right an__law_faults_right : Option Addr} {sl__law_faults_right : Array (Option Value)} {oc__law_faults_right kV__law_faults_right dc__law_faults_right pm__law_faults_right cd__law_faults_right ct__law_faults_right : Value}
    {f_law : Addr} {od_law an_law : Option Addr} {sl_law : Array (Option Value)} {oc_law kV_law dc_law pm_law cd_law ct_law : Value}
    {f_BadFrame___init__ : Addr} {od_BadFrame___init__ an_BadFrame___init__ : Option Addr} {sl_BadFrame___init__ : Array (Option Value)} {oc_BadFrame___init__ kV_BadFrame___init__ dc_BadFrame___init__ pm_BadFrame___init__ cd_BadFrame___init__ ct_BadFrame___init__ : Value}
    {nm_BadFrame q_BadFrame : Str} {N_BadFrame : Addr} {bs_BadFrame : List Value} {sn_BadFrame : List Str} {su_BadFrame : List Value} {ab_BadFrame : Bool} {co_BadFrame : Option Bool} {dd_BadFrame : Option Addr} {m0_BadFrame m1_BadFrame m2_BadFrame m3_BadFrame m5_BadFrame : Option Value}
    {f_BadLoad___init__ : Addr} {od_BadLoad___init__ an_BadLoad___init__ : Option Addr} {sl_BadLoad___init__ : Array (Option Value)} {oc_BadLoad___init__ kV_BadLoad___init__ dc_BadLoad___init__ pm_BadLoad___init__ cd_BadLoad___init__ ct_BadLoad___init__ : Value}
    {nm_BadLoad q_BadLoad : Str} {N_BadLoad : Addr} {bs_BadLoad : List Value} {sn_BadLoad : List Str} {su_BadLoad : List Value} {ab_BadLoad : Bool} {co_BadLoad : Option Bool} {dd_BadLoad : Option Addr} {m0_BadLoad m1_BadLoad m2_BadLoad m3_BadLoad m5_BadLoad : Option Value}
    {f_BadRow___init__ : Addr} {od_BadRow___init__ an_BadRow___init__ : Option Addr} {sl_BadRow___init__ : Array (Option Value)} {oc_BadRow___init__ kV_BadRow___init__ dc_BadRow___init__ pm_BadRow___init__ cd_BadRow___init__ ct_BadRow___init__ : Value}
    {nm_BadRow q_BadRow : Str} {N_BadRow : Addr} {bs_BadRow : List Value} {sn_BadRow : List Str} {su_BadRow : List Value} {ab_BadRow : Bool} {co_BadRow : Option Bool} {dd_BadRow : Option Addr} {m0_BadRow m1_BadRow m2_BadRow m3_BadRow m5_BadRow : Option Value}
    {t_MOST_PLACES : Tok}
    {t_MOST_ROWS : Tok}
    {cT__law_faults_right PT__law_faults_right : Addr}
    (A_BadFrame : PySem.W.nsIn K mainGlobals "BadFrame" = some (some (.ref C_BadFrame)))
    (A_BadHouse : PySem.W.nsIn K mainGlobals "BadHouse" = some (some (.ref C_BadHouse)))
    (A_BadLoad : PySem.W.nsIn K mainGlobals "BadLoad" = some (some (.ref C_BadLoad)))
    (A_BadName : PySem.W.nsIn K mainGlobals "BadName" = some (some (.ref C_BadName)))
    (A_BadNet : PySem.W.nsIn K mainGlobals "BadNet" = some (some (.ref C_BadNet)))
    (A_BadNumber : PySem.W.nsIn K mainGlobals "BadNumber" = some (some (.ref C_BadNumber)))
    (A_BadRow : PySem.W.nsIn K mainGlobals "BadRow" = some (some (.ref C_BadRow)))
    (A_BadTable : PySem.W.nsIn K mainGlobals "BadTable" = some (some (.ref C_BadTable)))
    (A_BadText : PySem.W.nsIn K mainGlobals "BadText" = some (some (.ref C_BadText)))
    (A_BadWeb : PySem.W.nsIn K mainGlobals "BadWeb" = some (some (.ref C_BadWeb)))
    (A_Flat : PySem.W.nsIn K mainGlobals "Flat" = some (some (.ref C_Flat)))
    (A_Frame : PySem.W.nsIn K mainGlobals "Frame" = some (some (.ref C_Frame)))
    (A_NoName : PySem.W.nsIn K mainGlobals "NoName" = some (some (.ref C_NoName)))
    (A_NoPlace : PySem.W.nsIn K mainGlobals "NoPlace" = some (some (.ref C_NoPlace)))
    (A_NoRow : PySem.W.nsIn K mainGlobals "NoRow" = some (some (.ref C_NoRow)))
    (A_NoWall : PySem.W.nsIn K mainGlobals "NoWall" = some (some (.ref C_NoWall)))
    (A_NotKept : PySem.W.nsIn K mainGlobals "NotKept" = some (some (.ref C_NotKept)))
    (A_NotOnce : PySem.W.nsIn K mainGlobals "NotOnce" = some (some (.ref C_NotOnce)))
    (A_NotPlain : PySem.W.nsIn K mainGlobals "NotPlain" = some (some (.ref C_NotPlain)))
    (A_NothingToRedo : PySem.W.nsIn K mainGlobals "NothingToRedo" = some (some (.ref C_NothingToRedo)))
    (A_NothingToUndo : PySem.W.nsIn K mainGlobals "NothingToUndo" = some (some (.ref C_NothingToUndo)))
    (A_RestsError : PySem.W.nsIn K mainGlobals "RestsError" = some (some (.ref C_RestsError)))
    (A_TakenName : PySem.W.nsIn K mainGlobals "TakenName" = some (some (.ref C_TakenName)))
    (A_TooMany : PySem.W.nsIn K mainGlobals "TooMany" = some (some (.ref C_TooMany)))
    (A_Unlike : PySem.W.nsIn K mainGlobals "Unlike" = some (some (.ref C_Unlike)))
    (a_is_integer : PySem.W.nsIn K mainGlobals "is_integer" = some (some (.ref f_is_integer)))
    (l_is_integer : K.lookup f_is_integer = some ⟨oc_is_integer, od_is_integer, .func (PySem.W.fnOf "is_integer" "is_integer" (defArgs s_is_integer) (defBody s_is_integer) (defScope s_is_integer) .none kV_is_integer dc_is_integer pm_is_integer an_is_integer cd_is_integer ct_is_integer), sl_is_integer⟩)
    (c_is_integer : PySem.W.codeIn K cd_is_integer "is_integer" = true)
    (k_is_integer : PySem.W.keepIn K (.ref f_is_integer) = true)
    (a_is_ratio : PySem.W.nsIn K mainGlobals "is_ratio" = some (some (.ref f_is_ratio)))
    (l_is_ratio : K.lookup f_is_ratio = some ⟨oc_is_ratio, od_is_ratio, .func (PySem.W.fnOf "is_ratio" "is_ratio" (defArgs s_is_ratio) (defBody s_is_ratio) (defScope s_is_ratio) .none kV_is_ratio dc_is_ratio pm_is_ratio an_is_ratio cd_is_ratio ct_is_ratio), sl_is_ratio⟩)
    (c_is_ratio : PySem.W.codeIn K cd_is_ratio "is_ratio" = true)
    (k_is_ratio : PySem.W.keepIn K (.ref f_is_ratio) = true)
    (a_pair : PySem.W.nsIn K mainGlobals "pair" = some (some (.ref f_pair)))
    (l_pair : K.lookup f_pair = some ⟨oc_pair, od_pair, .func (PySem.W.fnOf "pair" "pair" (defArgs s_pair) (defBody s_pair) (defScope s_pair) .none kV_pair dc_pair pm_pair an_pair cd_pair ct_pair), sl_pair⟩)
    (c_pair : PySem.W.codeIn K cd_pair "pair" = true)
    (k_pair : PySem.W.keepIn K (.ref f_pair) = true)
    (a_in_lowest : PySem.W.nsIn K mainGlobals "in_lowest" = some (some (.ref f_in_lowest)))
    (l_in_lowest : K.lookup f_in_lowest = some ⟨oc_in_lowest, od_in_lowest, .func (PySem.W.fnOf "in_lowest" "in_lowest" (defArgs s_in_lowest) (defBody s_in_lowest) (defScope s_in_lowest) .none kV_in_lowest dc_in_lowest pm_in_lowest an_in_lowest cd_in_lowest ct_in_lowest), sl_in_lowest⟩)
    (c_in_lowest : PySem.W.codeIn K cd_in_lowest "in_lowest" = true)
    (k_in_lowest : PySem.W.keepIn K (.ref f_in_lowest) = true)
    (a_added : PySem.W.nsIn K mainGlobals "added" = some (some (.ref f_added)))
    (l_added : K.lookup f_added = some ⟨oc_added, od_added, .func (PySem.W.fnOf "added" "added" (defArgs s_added) (defBody s_added) (defScope s_added) .none kV_added dc_added pm_added an_added cd_added ct_added), sl_added⟩)
    (c_added : PySem.W.codeIn K cd_added "added" = true)
    (k_added : PySem.W.keepIn K (.ref f_added) = true)
    (a_sign_of : PySem.W.nsIn K mainGlobals "sign_of" = some (some (.ref f_sign_of)))
    (l_sign_of : K.lookup f_sign_of = some ⟨oc_sign_of, od_sign_of, .func (PySem.W.fnOf "sign_of" "sign_of" (defArgs s_sign_of) (defBody s_sign_of) (defScope s_sign_of) .none kV_sign_of dc_sign_of pm_sign_of an_sign_of cd_sign_of ct_sign_of), sl_sign_of⟩)
    (c_sign_of : PySem.W.codeIn K cd_sign_of "sign_of" = true)
    (k_sign_of : PySem.W.keepIn K (.ref f_sign_of) = true)
    (a_summed : PySem.W.nsIn K mainGlobals "summed" = some (some (.ref f_summed)))
    (l_summed : K.lookup f_summed = some ⟨oc_summed, od_summed, .func (PySem.W.fnOf "summed" "summed" (defArgs s_summed) (defBody s_summed) (defScope s_summed) .none kV_summed dc_summed pm_summed an_summed cd_summed ct_summed), sl_summed⟩)
    (c_summed : PySem.W.codeIn K cd_summed "summed" = true)
    (k_summed : PySem.W.keepIn K (.ref f_summed) = true)
    (a_as_tuples : PySem.W.nsIn K mainGlobals "as_tuples" = some (some (.ref f_as_tuples)))
    (l_as_tuples : K.lookup f_as_tuples = some ⟨oc_as_tuples, od_as_tuples, .func (PySem.W.fnOf "as_tuples" "as_tuples" (defArgs s_as_tuples) (defBody s_as_tuples) (defScope s_as_tuples) .none kV_as_tuples dc_as_tuples pm_as_tuples an_as_tuples cd_as_tuples ct_as_tuples), sl_as_tuples⟩)
    (c_as_tuples : PySem.W.codeIn K cd_as_tuples "as_tuples" = true)
    (k_as_tuples : PySem.W.keepIn K (.ref f_as_tuples) = true)
    (a_is_list : PySem.W.nsIn K mainGlobals "is_list" = some (some (.ref f_is_list)))
    (l_is_list : K.lookup f_is_list = some ⟨oc_is_list, od_is_list, .func (PySem.W.fnOf "is_list" "is_list" (defArgs s_is_list) (defBody s_is_list) (defScope s_is_list) .none kV_is_list dc_is_list pm_is_list an_is_list cd_is_list ct_is_list), sl_is_list⟩)
    (c_is_list : PySem.W.codeIn K cd_is_list "is_list" = true)
    (k_is_list : PySem.W.keepIn K (.ref f_is_list) = true)
    (a_is_row : PySem.W.nsIn K mainGlobals "is_row" = some (some (.ref f_is_row)))
    (l_is_row : K.lookup f_is_row = some ⟨oc_is_row, od_is_row, .func (PySem.W.fnOf "is_row" "is_row" (defArgs s_is_row) (defBody s_is_row) (defScope s_is_row) .none kV_is_row dc_is_row pm_is_row an_is_row cd_is_row ct_is_row), sl_is_row⟩)
    (c_is_row : PySem.W.codeIn K cd_is_row "is_row" = true)
    (k_is_row : PySem.W.keepIn K (.ref f_is_row) = true)
    (a_is_told_row : PySem.W.nsIn K mainGlobals "is_told_row" = some (some (.ref f_is_told_row)))
    (l_is_told_row : K.lookup f_is_told_row = some ⟨oc_is_told_row, od_is_told_row, .func (PySem.W.fnOf "is_told_row" "is_told_row" (defArgs s_is_told_row) (defBody s_is_told_row) (defScope s_is_told_row) .none kV_is_told_row dc_is_told_row pm_is_told_row an_is_told_row cd_is_told_row ct_is_told_row), sl_is_told_row⟩)
    (c_is_told_row : PySem.W.codeIn K cd_is_told_row "is_told_row" = true)
    (k_is_told_row : PySem.W.keepIn K (.ref f_is_told_row) = true)
    (a_Frame___init__ : PySem.W.findIn K (.ref C_Frame) "__init__" = some (some (.ref f_Frame___init__)))
    (l_Frame___init__ : K.lookup f_Frame___init__ = some ⟨oc_Frame___init__, od_Frame___init__, .func (PySem.W.fnOf "__init__" "Frame.__init__" (defArgs s_Frame___init__) (defBody s_Frame___init__) (defScope s_Frame___init__) .none kV_Frame___init__ dc_Frame___init__ pm_Frame___init__ an_Frame___init__ cd_Frame___init__ ct_Frame___init__), sl_Frame___init__⟩)
    (c_Frame___init__ : PySem.W.codeIn K cd_Frame___init__ "Frame.__init__" = true)
    (k_Frame___init__ : PySem.W.keepIn K (.ref f_Frame___init__) = true)
    (a_fits : PySem.W.nsIn K mainGlobals "fits" = some (some (.ref f_fits)))
    (l_fits : K.lookup f_fits = some ⟨oc_fits, od_fits, .func (PySem.W.fnOf "fits" "fits" (defArgs s_fits) (defBody s_fits) (defScope s_fits) .none kV_fits dc_fits pm_fits an_fits cd_fits ct_fits), sl_fits⟩)
    (c_fits : PySem.W.codeIn K cd_fits "fits" = true)
    (k_fits : PySem.W.keepIn K (.ref f_fits) = true)
    (a_need_load : PySem.W.nsIn K mainGlobals "need_load" = some (some (.ref f_need_load)))
    (l_need_load : K.lookup f_need_load = some ⟨oc_need_load, od_need_load, .func (PySem.W.fnOf "need_load" "need_load" (defArgs s_need_load) (defBody s_need_load) (defScope s_need_load) .none kV_need_load dc_need_load pm_need_load an_need_load cd_need_load ct_need_load), sl_need_load⟩)
    (c_need_load : PySem.W.codeIn K cd_need_load "need_load" = true)
    (k_need_load : PySem.W.keepIn K (.ref f_need_load) = true)
    (a_need_row : PySem.W.nsIn K mainGlobals "need_row" = some (some (.ref f_need_row)))
    (l_need_row : K.lookup f_need_row = some ⟨oc_need_row, od_need_row, .func (PySem.W.fnOf "need_row" "need_row" (defArgs s_need_row) (defBody s_need_row) (defScope s_need_row) .none kV_need_row dc_need_row pm_need_row an_need_row cd_need_row ct_need_row), sl_need_row⟩)
    (c_need_row : PySem.W.codeIn K cd_need_row "need_row" = true)
    (k_need_row : PySem.W.keepIn K (.ref f_need_row) = true)
    (a_slack_at : PySem.W.nsIn K mainGlobals "slack_at" = some (some (.ref f_slack_at)))
    (l_slack_at : K.lookup f_slack_at = some ⟨oc_slack_at, od_slack_at, .func (PySem.W.fnOf "slack_at" "slack_at" (defArgs s_slack_at) (defBody s_slack_at) (defScope s_slack_at) .none kV_slack_at dc_slack_at pm_slack_at an_slack_at cd_slack_at ct_slack_at), sl_slack_at⟩)
    (c_slack_at : PySem.W.codeIn K cd_slack_at "slack_at" = true)
    (k_slack_at : PySem.W.keepIn K (.ref f_slack_at) = true)
    (a_slacks_at : PySem.W.nsIn K mainGlobals "slacks_at" = some (some (.ref f_slacks_at)))
    (l_slacks_at : K.lookup f_slacks_at = some ⟨oc_slacks_at, od_slacks_at, .func (PySem.W.fnOf "slacks_at" "slacks_at" (defArgs s_slacks_at) (defBody s_slacks_at) (defScope s_slacks_at) .none kV_slacks_at dc_slacks_at pm_slacks_at an_slacks_at cd_slacks_at ct_slacks_at), sl_slacks_at⟩)
    (c_slacks_at : PySem.W.codeIn K cd_slacks_at "slacks_at" = true)
    (k_slacks_at : PySem.W.keepIn K (.ref f_slacks_at) = true)
    (a_slacks : PySem.W.nsIn K mainGlobals "slacks" = some (some (.ref f_slacks)))
    (l_slacks : K.lookup f_slacks = some ⟨oc_slacks, od_slacks, .func (PySem.W.fnOf "slacks" "slacks" (defArgs s_slacks) (defBody s_slacks) (defScope s_slacks) .none kV_slacks dc_slacks pm_slacks an_slacks cd_slacks ct_slacks), sl_slacks⟩)
    (c_slacks : PySem.W.codeIn K cd_slacks "slacks" = true)
    (k_slacks : PySem.W.keepIn K (.ref f_slacks) = true)
    (a_resting : PySem.W.nsIn K mainGlobals "resting" = some (some (.ref f_resting)))
    (l_resting : K.lookup f_resting = some ⟨oc_resting, od_resting, .func (PySem.W.fnOf "resting" "resting" (defArgs s_resting) (defBody s_resting) (defScope s_resting) .none kV_resting dc_resting pm_resting an_resting cd_resting ct_resting), sl_resting⟩)
    (c_resting : PySem.W.codeIn K cd_resting "resting" = true)
    (k_resting : PySem.W.keepIn K (.ref f_resting) = true)
    (a_answers_at : PySem.W.nsIn K mainGlobals "answers_at" = some (some (.ref f_answers_at)))
    (l_answers_at : K.lookup f_answers_at = some ⟨oc_answers_at, od_answers_at, .func (PySem.W.fnOf "answers_at" "answers_at" (defArgs s_answers_at) (defBody s_answers_at) (defScope s_answers_at) .none kV_answers_at dc_answers_at pm_answers_at an_answers_at cd_answers_at ct_answers_at), sl_answers_at⟩)
    (c_answers_at : PySem.W.codeIn K cd_answers_at "answers_at" = true)
    (k_answers_at : PySem.W.keepIn K (.ref f_answers_at) = true)
    (a_is_answer : PySem.W.nsIn K mainGlobals "is_answer" = some (some (.ref f_is_answer)))
    (l_is_answer : K.lookup f_is_answer = some ⟨oc_is_answer, od_is_answer, .func (PySem.W.fnOf "is_answer" "is_answer" (defArgs s_is_answer) (defBody s_is_answer) (defScope s_is_answer) .none kV_is_answer dc_is_answer pm_is_answer an_is_answer cd_is_answer ct_is_answer), sl_is_answer⟩)
    (c_is_answer : PySem.W.codeIn K cd_is_answer "is_answer" = true)
    (k_is_answer : PySem.W.keepIn K (.ref f_is_answer) = true)
    (a__law_pen : PySem.W.nsIn K mainGlobals "_law_pen" = some (some (.ref f__law_pen)))
    (l__law_pen : K.lookup f__law_pen = some ⟨oc__law_pen, od__law_pen, .func (PySem.W.fnOf "_law_pen" "_law_pen" (defArgs s__law_pen) (defBody s__law_pen) (defScope s__law_pen) .none kV__law_pen dc__law_pen pm__law_pen an__law_pen cd__law_pen ct__law_pen), sl__law_pen⟩)
    (c__law_pen : PySem.W.codeIn K cd__law_pen "_law_pen" = true)
    (k__law_pen : PySem.W.keepIn K (.ref f__law_pen) = true)
    (a__law_draw : PySem.W.nsIn K mainGlobals "_law_draw" = some (some (.ref f__law_draw)))
    (l__law_draw : K.lookup f__law_draw = some ⟨oc__law_draw, od__law_draw, .func (PySem.W.fnOf "_law_draw" "_law_draw" (defArgs s__law_draw) (defBody s__law_draw) (defScope s__law_draw) .none kV__law_draw dc__law_draw pm__law_draw an__law_draw cd__law_draw ct__law_draw), sl__law_draw⟩)
    (c__law_draw : PySem.W.codeIn K cd__law_draw "_law_draw" = true)
    (k__law_draw : PySem.W.keepIn K (.ref f__law_draw) = true)
    (a__law_pick : PySem.W.nsIn K mainGlobals "_law_pick" = some (some (.ref f__law_pick)))
    (l__law_pick : K.lookup f__law_pick = some ⟨oc__law_pick, od__law_pick, .func (PySem.W.fnOf "_law_pick" "_law_pick" (defArgs s__law_pick) (defBody s__law_pick) (defScope s__law_pick) .none kV__law_pick dc__law_pick pm__law_pick an__law_pick cd__law_pick ct__law_pick), sl__law_pick⟩)
    (c__law_pick : PySem.W.codeIn K cd__law_pick "_law_pick" = true)
    (k__law_pick : PySem.W.keepIn K (.ref f__law_pick) = true)
    (a__law_shuffled : PySem.W.nsIn K mainGlobals "_law_shuffled" = some (some (.ref f__law_shuffled)))
    (l__law_shuffled : K.lookup f__law_shuffled = some ⟨oc__law_shuffled, od__law_shuffled, .func (PySem.W.fnOf "_law_shuffled" "_law_shuffled" (defArgs s__law_shuffled) (defBody s__law_shuffled) (defScope s__law_shuffled) .none kV__law_shuffled dc__law_shuffled pm__law_shuffled an__law_shuffled cd__law_shuffled ct__law_shuffled), sl__law_shuffled⟩)
    (c__law_shuffled : PySem.W.codeIn K cd__law_shuffled "_law_shuffled" = true)
    (k__law_shuffled : PySem.W.keepIn K (.ref f__law_shuffled) = true)
    (a__law_is : PySem.W.nsIn K mainGlobals "_law_is" = some (some (.ref f__law_is)))
    (l__law_is : K.lookup f__law_is = some ⟨oc__law_is, od__law_is, .func (PySem.W.fnOf "_law_is" "_law_is" (defArgs s__law_is) (defBody s__law_is) (defScope s__law_is) .none kV__law_is dc__law_is pm__law_is an__law_is cd__law_is ct__law_is), sl__law_is⟩)
    (c__law_is : PySem.W.codeIn K cd__law_is "_law_is" = true)
    (k__law_is : PySem.W.keepIn K (.ref f__law_is) = true)
    (a__law_says : PySem.W.nsIn K mainGlobals "_law_says" = some (some (.ref f__law_says)))
    (l__law_says : K.lookup f__law_says = some ⟨oc__law_says, od__law_says, .func (PySem.W.fnOf "_law_says" "_law_says" (defArgs s__law_says) (defBody s__law_says) (defScope s__law_says) .none kV__law_says dc__law_says pm__law_says an__law_says cd__law_says ct__law_says), sl__law_says⟩)
    (c__law_says : PySem.W.codeIn K cd__law_says "_law_says" = true)
    (k__law_says : PySem.W.keepIn K (.ref f__law_says) = true)
    (a__law_divisor : PySem.W.nsIn K mainGlobals "_law_divisor" = some (some (.ref f__law_divisor)))
    (l__law_divisor : K.lookup f__law_divisor = some ⟨oc__law_divisor, od__law_divisor, .func (PySem.W.fnOf "_law_divisor" "_law_divisor" (defArgs s__law_divisor) (defBody s__law_divisor) (defScope s__law_divisor) .none kV__law_divisor dc__law_divisor pm__law_divisor an__law_divisor cd__law_divisor ct__law_divisor), sl__law_divisor⟩)
    (c__law_divisor : PySem.W.codeIn K cd__law_divisor "_law_divisor" = true)
    (k__law_divisor : PySem.W.keepIn K (.ref f__law_divisor) = true)
    (a__law_low : PySem.W.nsIn K mainGlobals "_law_low" = some (some (.ref f__law_low)))
    (l__law_low : K.lookup f__law_low = some ⟨oc__law_low, od__law_low, .func (PySem.W.fnOf "_law_low" "_law_low" (defArgs s__law_low) (defBody s__law_low) (defScope s__law_low) .none kV__law_low dc__law_low pm__law_low an__law_low cd__law_low ct__law_low), sl__law_low⟩)
    (c__law_low : PySem.W.codeIn K cd__law_low "_law_low" = true)
    (k__law_low : PySem.W.keepIn K (.ref f__law_low) = true)
    (a__law_pair : PySem.W.nsIn K mainGlobals "_law_pair" = some (some (.ref f__law_pair)))
    (l__law_pair : K.lookup f__law_pair = some ⟨oc__law_pair, od__law_pair, .func (PySem.W.fnOf "_law_pair" "_law_pair" (defArgs s__law_pair) (defBody s__law_pair) (defScope s__law_pair) .none kV__law_pair dc__law_pair pm__law_pair an__law_pair cd__law_pair ct__law_pair), sl__law_pair⟩)
    (c__law_pair : PySem.W.codeIn K cd__law_pair "_law_pair" = true)
    (k__law_pair : PySem.W.keepIn K (.ref f__law_pair) = true)
    (a__law_plus : PySem.W.nsIn K mainGlobals "_law_plus" = some (some (.ref f__law_plus)))
    (l__law_plus : K.lookup f__law_plus = some ⟨oc__law_plus, od__law_plus, .func (PySem.W.fnOf "_law_plus" "_law_plus" (defArgs s__law_plus) (defBody s__law_plus) (defScope s__law_plus) .none kV__law_plus dc__law_plus pm__law_plus an__law_plus cd__law_plus ct__law_plus), sl__law_plus⟩)
    (c__law_plus : PySem.W.codeIn K cd__law_plus "_law_plus" = true)
    (k__law_plus : PySem.W.keepIn K (.ref f__law_plus) = true)
    (a__law_opposite : PySem.W.nsIn K mainGlobals "_law_opposite" = some (some (.ref f__law_opposite)))
    (l__law_opposite : K.lookup f__law_opposite = some ⟨oc__law_opposite, od__law_opposite, .func (PySem.W.fnOf "_law_opposite" "_law_opposite" (defArgs s__law_opposite) (defBody s__law_opposite) (defScope s__law_opposite) .none kV__law_opposite dc__law_opposite pm__law_opposite an__law_opposite cd__law_opposite ct__law_opposite), sl__law_opposite⟩)
    (c__law_opposite : PySem.W.codeIn K cd__law_opposite "_law_opposite" = true)
    (k__law_opposite : PySem.W.keepIn K (.ref f__law_opposite) = true)
    (a__law_minus : PySem.W.nsIn K mainGlobals "_law_minus" = some (some (.ref f__law_minus)))
    (l__law_minus : K.lookup f__law_minus = some ⟨oc__law_minus, od__law_minus, .func (PySem.W.fnOf "_law_minus" "_law_minus" (defArgs s__law_minus) (defBody s__law_minus) (defScope s__law_minus) .none kV__law_minus dc__law_minus pm__law_minus an__law_minus cd__law_minus ct__law_minus), sl__law_minus⟩)
    (c__law_minus : PySem.W.codeIn K cd__law_minus "_law_minus" = true)
    (k__law_minus : PySem.W.keepIn K (.ref f__law_minus) = true)
    (a__law_sign : PySem.W.nsIn K mainGlobals "_law_sign" = some (some (.ref f__law_sign)))
    (l__law_sign : K.lookup f__law_sign = some ⟨oc__law_sign, od__law_sign, .func (PySem.W.fnOf "_law_sign" "_law_sign" (defArgs s__law_sign) (defBody s__law_sign) (defScope s__law_sign) .none kV__law_sign dc__law_sign pm__law_sign an__law_sign cd__law_sign ct__law_sign), sl__law_sign⟩)
    (c__law_sign : PySem.W.codeIn K cd__law_sign "_law_sign" = true)
    (k__law_sign : PySem.W.keepIn K (.ref f__law_sign) = true)
    (a__law_dot : PySem.W.nsIn K mainGlobals "_law_dot" = some (some (.ref f__law_dot)))
    (l__law_dot : K.lookup f__law_dot = some ⟨oc__law_dot, od__law_dot, .func (PySem.W.fnOf "_law_dot" "_law_dot" (defArgs s__law_dot) (defBody s__law_dot) (defScope s__law_dot) .none kV__law_dot dc__law_dot pm__law_dot an__law_dot cd__law_dot ct__law_dot), sl__law_dot⟩)
    (c__law_dot : PySem.W.codeIn K cd__law_dot "_law_dot" = true)
    (k__law_dot : PySem.W.keepIn K (.ref f__law_dot) = true)
    (a__law_is_whole : PySem.W.nsIn K mainGlobals "_law_is_whole" = some (some (.ref f__law_is_whole)))
    (l__law_is_whole : K.lookup f__law_is_whole = some ⟨oc__law_is_whole, od__law_is_whole, .func (PySem.W.fnOf "_law_is_whole" "_law_is_whole" (defArgs s__law_is_whole) (defBody s__law_is_whole) (defScope s__law_is_whole) .none kV__law_is_whole dc__law_is_whole pm__law_is_whole an__law_is_whole cd__law_is_whole ct__law_is_whole), sl__law_is_whole⟩)
    (c__law_is_whole : PySem.W.codeIn K cd__law_is_whole "_law_is_whole" = true)
    (k__law_is_whole : PySem.W.keepIn K (.ref f__law_is_whole) = true)
    (a__law_is_ratio : PySem.W.nsIn K mainGlobals "_law_is_ratio" = some (some (.ref f__law_is_ratio)))
    (l__law_is_ratio : K.lookup f__law_is_ratio = some ⟨oc__law_is_ratio, od__law_is_ratio, .func (PySem.W.fnOf "_law_is_ratio" "_law_is_ratio" (defArgs s__law_is_ratio) (defBody s__law_is_ratio) (defScope s__law_is_ratio) .none kV__law_is_ratio dc__law_is_ratio pm__law_is_ratio an__law_is_ratio cd__law_is_ratio ct__law_is_ratio), sl__law_is_ratio⟩)
    (c__law_is_ratio : PySem.W.codeIn K cd__law_is_ratio "_law_is_ratio" = true)
    (k__law_is_ratio : PySem.W.keepIn K (.ref f__law_is_ratio) = true)
    (a__law_wide : PySem.W.nsIn K mainGlobals "_law_wide" = some (some (.ref f__law_wide)))
    (l__law_wide : K.lookup f__law_wide = some ⟨oc__law_wide, od__law_wide, .func (PySem.W.fnOf "_law_wide" "_law_wide" (defArgs s__law_wide) (defBody s__law_wide) (defScope s__law_wide) .none kV__law_wide dc__law_wide pm__law_wide an__law_wide cd__law_wide ct__law_wide), sl__law_wide⟩)
    (c__law_wide : PySem.W.codeIn K cd__law_wide "_law_wide" = true)
    (k__law_wide : PySem.W.keepIn K (.ref f__law_wide) = true)
    (a__law_number : PySem.W.nsIn K mainGlobals "_law_number" = some (some (.ref f__law_number)))
    (l__law_number : K.lookup f__law_number = some ⟨oc__law_number, od__law_number, .func (PySem.W.fnOf "_law_number" "_law_number" (defArgs s__law_number) (defBody s__law_number) (defScope s__law_number) .none kV__law_number dc__law_number pm__law_number an__law_number cd__law_number ct__law_number), sl__law_number⟩)
    (c__law_number : PySem.W.codeIn K cd__law_number "_law_number" = true)
    (k__law_number : PySem.W.keepIn K (.ref f__law_number) = true)
    (a__law_row : PySem.W.nsIn K mainGlobals "_law_row" = some (some (.ref f__law_row)))
    (l__law_row : K.lookup f__law_row = some ⟨oc__law_row, od__law_row, .func (PySem.W.fnOf "_law_row" "_law_row" (defArgs s__law_row) (defBody s__law_row) (defScope s__law_row) .none kV__law_row dc__law_row pm__law_row an__law_row cd__law_row ct__law_row), sl__law_row⟩)
    (c__law_row : PySem.W.codeIn K cd__law_row "_law_row" = true)
    (k__law_row : PySem.W.keepIn K (.ref f__law_row) = true)
    (a__law_counts : PySem.W.nsIn K mainGlobals "_law_counts" = some (some (.ref f__law_counts)))
    (l__law_counts : K.lookup f__law_counts = some ⟨oc__law_counts, od__law_counts, .func (PySem.W.fnOf "_law_counts" "_law_counts" (defArgs s__law_counts) (defBody s__law_counts) (defScope s__law_counts) .none kV__law_counts dc__law_counts pm__law_counts an__law_counts cd__law_counts ct__law_counts), sl__law_counts⟩)
    (c__law_counts : PySem.W.codeIn K cd__law_counts "_law_counts" = true)
    (k__law_counts : PySem.W.keepIn K (.ref f__law_counts) = true)
    (a__law_any_frame : PySem.W.nsIn K mainGlobals "_law_any_frame" = some (some (.ref f__law_any_frame)))
    (l__law_any_frame : K.lookup f__law_any_frame = some ⟨oc__law_any_frame, od__law_any_frame, .func (PySem.W.fnOf "_law_any_frame" "_law_any_frame" (defArgs s__law_any_frame) (defBody s__law_any_frame) (defScope s__law_any_frame) .none kV__law_any_frame dc__law_any_frame pm__law_any_frame an__law_any_frame cd__law_any_frame ct__law_any_frame), sl__law_any_frame⟩)
    (c__law_any_frame : PySem.W.codeIn K cd__law_any_frame "_law_any_frame" = true)
    (k__law_any_frame : PySem.W.keepIn K (.ref f__law_any_frame) = true)
    (a__law_slacks : PySem.W.nsIn K mainGlobals "_law_slacks" = some (some (.ref f__law_slacks)))
    (l__law_slacks : K.lookup f__law_slacks = some ⟨oc__law_slacks, od__law_slacks, .func (PySem.W.fnOf "_law_slacks" "_law_slacks" (defArgs s__law_slacks) (defBody s__law_slacks) (defScope s__law_slacks) .none kV__law_slacks dc__law_slacks pm__law_slacks an__law_slacks cd__law_slacks ct__law_slacks), sl__law_slacks⟩)
    (c__law_slacks : PySem.W.codeIn K cd__law_slacks "_law_slacks" = true)
    (k__law_slacks : PySem.W.keepIn K (.ref f__law_slacks) = true)
    (a__law_answers : PySem.W.nsIn K mainGlobals "_law_answers" = some (some (.ref f__law_answers)))
    (l__law_answers : K.lookup f__law_answers = some ⟨oc__law_answers, od__law_answers, .func (PySem.W.fnOf "_law_answers" "_law_answers" (defArgs s__law_answers) (defBody s__law_answers) (defScope s__law_answers) .none kV__law_answers dc__law_answers pm__law_answers an__law_answers cd__law_answers ct__law_answers), sl__law_answers⟩)
    (c__law_answers : PySem.W.codeIn K cd__law_answers "_law_answers" = true)
    (k__law_answers : PySem.W.keepIn K (.ref f__law_answers) = true)
    (a__law_load_at : PySem.W.nsIn K mainGlobals "_law_load_at" = some (some (.ref f__law_load_at)))
    (l__law_load_at : K.lookup f__law_load_at = some ⟨oc__law_load_at, od__law_load_at, .func (PySem.W.fnOf "_law_load_at" "_law_load_at" (defArgs s__law_load_at) (defBody s__law_load_at) (defScope s__law_load_at) .none kV__law_load_at dc__law_load_at pm__law_load_at an__law_load_at cd__law_load_at ct__law_load_at), sl__law_load_at⟩)
    (c__law_load_at : PySem.W.codeIn K cd__law_load_at "_law_load_at" = true)
    (k__law_load_at : PySem.W.keepIn K (.ref f__law_load_at) = true)
    (a__law_made : PySem.W.nsIn K mainGlobals "_law_made" = some (some (.ref f__law_made)))
    (l__law_made : K.lookup f__law_made = some ⟨oc__law_made, od__law_made, .func (PySem.W.fnOf "_law_made" "_law_made" (defArgs s__law_made) (defBody s__law_made) (defScope s__law_made) .none kV__law_made dc__law_made pm__law_made an__law_made cd__law_made ct__law_made), sl__law_made⟩)
    (c__law_made : PySem.W.codeIn K cd__law_made "_law_made" = true)
    (k__law_made : PySem.W.keepIn K (.ref f__law_made) = true)
    (a__law_more_kinds : PySem.W.nsIn K mainGlobals "_law_more_kinds" = some (some (.ref f__law_more_kinds)))
    (l__law_more_kinds : K.lookup f__law_more_kinds = some ⟨oc__law_more_kinds, od__law_more_kinds, .func (PySem.W.fnOf "_law_more_kinds" "_law_more_kinds" (defArgs s__law_more_kinds) (defBody s__law_more_kinds) (defScope s__law_more_kinds) .none kV__law_more_kinds dc__law_more_kinds pm__law_more_kinds an__law_more_kinds cd__law_more_kinds ct__law_more_kinds), sl__law_more_kinds⟩)
    (c__law_more_kinds : PySem.W.codeIn K cd__law_more_kinds "_law_more_kinds" = true)
    (k__law_more_kinds : PySem.W.keepIn K (.ref f__law_more_kinds) = true)
    (a__law_kinds : PySem.W.nsIn K mainGlobals "_law_kinds" = some (some (.ref f__law_kinds)))
    (l__law_kinds : K.lookup f__law_kinds = some ⟨oc__law_kinds, od__law_kinds, .func (PySem.W.fnOf "_law_kinds" "_law_kinds" (defArgs s__law_kinds) (defBody s__law_kinds) (defScope s__law_kinds) .none kV__law_kinds dc__law_kinds pm__law_kinds an__law_kinds cd__law_kinds ct__law_kinds), sl__law_kinds⟩)
    (c__law_kinds : PySem.W.codeIn K cd__law_kinds "_law_kinds" = true)
    (k__law_kinds : PySem.W.keepIn K (.ref f__law_kinds) = true)
    (a__law_fault : PySem.W.nsIn K mainGlobals "_law_fault" = some (some (.ref f__law_fault)))
    (l__law_fault : K.lookup f__law_fault = some ⟨oc__law_fault, od__law_fault, .func (PySem.W.fnOf "_law_fault" "_law_fault" (defArgs s__law_fault) (defBody s__law_fault) (defScope s__law_fault) .none kV__law_fault dc__law_fault pm__law_fault an__law_fault cd__law_fault ct__law_fault), sl__law_fault⟩)
    (c__law_fault : PySem.W.codeIn K cd__law_fault "_law_fault" = true)
    (k__law_fault : PySem.W.keepIn K (.ref f__law_fault) = true)
    (a__law_odd : PySem.W.nsIn K mainGlobals "_law_odd" = some (some (.ref f__law_odd)))
    (l__law_odd : K.lookup f__law_odd = some ⟨oc__law_odd, od__law_odd, .func (PySem.W.fnOf "_law_odd" "_law_odd" (defArgs s__law_odd) (defBody s__law_odd) (defScope s__law_odd) .none kV__law_odd dc__law_odd pm__law_odd an__law_odd cd__law_odd ct__law_odd), sl__law_odd⟩)
    (c__law_odd : PySem.W.codeIn K cd__law_odd "_law_odd" = true)
    (k__law_odd : PySem.W.keepIn K (.ref f__law_odd) = true)
    (a__law_bent_row : PySem.W.nsIn K mainGlobals "_law_bent_row" = some (some (.ref f__law_bent_row)))
    (l__law_bent_row : K.lookup f__law_bent_row = some ⟨oc__law_bent_row, od__law_bent_row, .func (PySem.W.fnOf "_law_bent_row" "_law_bent_row" (defArgs s__law_bent_row) (defBody s__law_bent_row) (defScope s__law_bent_row) .none kV__law_bent_row dc__law_bent_row pm__law_bent_row an__law_bent_row cd__law_bent_row ct__law_bent_row), sl__law_bent_row⟩)
    (c__law_bent_row : PySem.W.codeIn K cd__law_bent_row "_law_bent_row" = true)
    (k__law_bent_row : PySem.W.keepIn K (.ref f__law_bent_row) = true)
    (a__law_is_list : PySem.W.nsIn K mainGlobals "_law_is_list" = some (some (.ref f__law_is_list)))
    (l__law_is_list : K.lookup f__law_is_list = some ⟨oc__law_is_list, od__law_is_list, .func (PySem.W.fnOf "_law_is_list" "_law_is_list" (defArgs s__law_is_list) (defBody s__law_is_list) (defScope s__law_is_list) .none kV__law_is_list dc__law_is_list pm__law_is_list an__law_is_list cd__law_is_list ct__law_is_list), sl__law_is_list⟩)
    (c__law_is_list : PySem.W.codeIn K cd__law_is_list "_law_is_list" = true)
    (k__law_is_list : PySem.W.keepIn K (.ref f__law_is_list) = true)
    (a__law_is_any_row : PySem.W.nsIn K mainGlobals "_law_is_any_row" = some (some (.ref f__law_is_any_row)))
    (l__law_is_any_row : K.lookup f__law_is_any_row = some ⟨oc__law_is_any_row, od__law_is_any_row, .func (PySem.W.fnOf "_law_is_any_row" "_law_is_any_row" (defArgs s__law_is_any_row) (defBody s__law_is_any_row) (defScope s__law_is_any_row) .none kV__law_is_any_row dc__law_is_any_row pm__law_is_any_row an__law_is_any_row cd__law_is_any_row ct__law_is_any_row), sl__law_is_any_row⟩)
    (c__law_is_any_row : PySem.W.codeIn K cd__law_is_any_row "_law_is_any_row" = true)
    (k__law_is_any_row : PySem.W.keepIn K (.ref f__law_is_any_row) = true)
    (a__law_fits : PySem.W.nsIn K mainGlobals "_law_fits" = some (some (.ref f__law_fits)))
    (l__law_fits : K.lookup f__law_fits = some ⟨oc__law_fits, od__law_fits, .func (PySem.W.fnOf "_law_fits" "_law_fits" (defArgs s__law_fits) (defBody s__law_fits) (defScope s__law_fits) .none kV__law_fits dc__law_fits pm__law_fits an__law_fits cd__law_fits ct__law_fits), sl__law_fits⟩)
    (c__law_fits : PySem.W.codeIn K cd__law_fits "_law_fits" = true)
    (k__law_fits : PySem.W.keepIn K (.ref f__law_fits) = true)
    (a__law_bent_load : PySem.W.nsIn K mainGlobals "_law_bent_load" = some (some (.ref f__law_bent_load)))
    (l__law_bent_load : K.lookup f__law_bent_load = some ⟨oc__law_bent_load, od__law_bent_load, .func (PySem.W.fnOf "_law_bent_load" "_law_bent_load" (defArgs s__law_bent_load) (defBody s__law_bent_load) (defScope s__law_bent_load) .none kV__law_bent_load dc__law_bent_load pm__law_bent_load an__law_bent_load cd__law_bent_load ct__law_bent_load), sl__law_bent_load⟩)
    (c__law_bent_load : PySem.W.codeIn K cd__law_bent_load "_law_bent_load" = true)
    (k__law_bent_load : PySem.W.keepIn K (.ref f__law_bent_load) = true)
    (a__law_moved : PySem.W.nsIn K mainGlobals "_law_moved" = some (some (.ref f__law_moved)))
    (l__law_moved : K.lookup f__law_moved = some ⟨oc__law_moved, od__law_moved, .func (PySem.W.fnOf "_law_moved" "_law_moved" (defArgs s__law_moved) (defBody s__law_moved) (defScope s__law_moved) .none kV__law_moved dc__law_moved pm__law_moved an__law_moved cd__law_moved ct__law_moved), sl__law_moved⟩)
    (c__law_moved : PySem.W.codeIn K cd__law_moved "_law_moved" = true)
    (k__law_moved : PySem.W.keepIn K (.ref f__law_moved) = true)
    (a__law_resting : PySem.W.nsIn K mainGlobals "_law_resting" = some (some (.ref f__law_resting)))
    (l__law_resting : K.lookup f__law_resting = some ⟨oc__law_resting, od__law_resting, .func (PySem.W.fnOf "_law_resting" "_law_resting" (defArgs s__law_resting) (defBody s__law_resting) (defScope s__law_resting) .none kV__law_resting dc__law_resting pm__law_resting an__law_resting cd__law_resting ct__law_resting), sl__law_resting⟩)
    (c__law_resting : PySem.W.codeIn K cd__law_resting "_law_resting" = true)
    (k__law_resting : PySem.W.keepIn K (.ref f__law_resting) = true)
    (a__law_right : PySem.W.nsIn K mainGlobals "_law_right" = some (some (.ref f__law_right)))
    (l__law_right : K.lookup f__law_right = some ⟨oc__law_right, od__law_right, .func (PySem.W.fnOf "_law_right" "_law_right" (defArgs s__law_right) (defBody s__law_right) (defScope s__law_right) .none kV__law_right dc__law_right pm__law_right an__law_right cd__law_right ct__law_right), sl__law_right⟩)
    (c__law_right : PySem.W.codeIn K cd__law_right "_law_right" = true)
    (k__law_right : PySem.W.keepIn K (.ref f__law_right) = true)
    (a__law_faults_right : PySem.W.nsIn K mainGlobals "_law_faults_right" = some (some (.ref f__law_faults_right)))
    (l__law_faults_right : K.lookup f__law_faults_right = some ⟨oc__law_faults_right, od__law_faults_right, .func (PySem.W.fnOf "_law_faults_right" "_law_faults_right" (defArgs s__law_faults_right) (defBody s__law_faults_right) (defScope s__law_faults_right) .none kV__law_faults_right dc__law_faults_right pm__law_faults_right an__law_faults_right cd__law_faults_right ct__law_faults_right), sl__law_faults_right⟩)
    (c__law_faults_right : PySem.W.codeIn K cd__law_faults_right "_law_faults_right" = true)
    (k__law_faults_right : PySem.W.keepIn K (.ref f__law_faults_right) = true)
    (a_law : PySem.W.nsIn K mainGlobals "law" = some (some (.ref f_law)))
    (l_law : K.lookup f_law = some ⟨oc_law, od_law, .func (PySem.W.fnOf "law" "law" (defArgs s_law) (defBody s_law) (defScope s_law) .none kV_law dc_law pm_law an_law cd_law ct_law), sl_law⟩)
    (c_law : PySem.W.codeIn K cd_law "law" = true)
    (k_law : PySem.W.keepIn K (.ref f_law) = true)
    (a_BadFrame___init__ : PySem.W.findIn K (.ref C_BadFrame) "__init__" = some (some (.ref f_BadFrame___init__)))
    (l_BadFrame___init__ : K.lookup f_BadFrame___init__ = some ⟨oc_BadFrame___init__, od_BadFrame___init__, .func (PySem.W.fnOf "__init__" "BadFrame.__init__" (defArgs s_BadFrame___init__) (defBody s_BadFrame___init__) (defScope s_BadFrame___init__) .none kV_BadFrame___init__ dc_BadFrame___init__ pm_BadFrame___init__ an_BadFrame___init__ cd_BadFrame___init__ ct_BadFrame___init__), sl_BadFrame___init__⟩)
    (c_BadFrame___init__ : PySem.W.codeIn K cd_BadFrame___init__ "BadFrame.__init__" = true)
    (k_BadFrame___init__ : PySem.W.keepIn K (.ref f_BadFrame___init__) = true)
    (xL_BadFrame : K.lookup C_BadFrame = some (excClassObj nm_BadFrame q_BadFrame C_BadFrame N_BadFrame bs_BadFrame [.ref C_RestsError, .type "ValueError", .type "Exception", .type "BaseException", .type "object"] true sn_BadFrame su_BadFrame ab_BadFrame co_BadFrame dd_BadFrame m0_BadFrame m1_BadFrame m2_BadFrame m3_BadFrame m5_BadFrame "ValueError.__new__"))
    (sa_BadFrame : PySem.W.findIn K (.ref C_BadFrame) "__setattr__" = some (some (.builtin "object.__setattr__")))
    (eC_BadFrame : PySem.W.subIn K (.ref C_BadFrame) (.type "BaseException") = some true)
    (tC_BadFrame : PySem.W.typeIn K (.ref C_BadFrame) = some (.type "type"))
    (kC_BadFrame : PySem.W.keepIn K (.ref C_BadFrame) = true)
    (tI_BadFrame : PySem.W.typeIn K (.ref f_BadFrame___init__) = some (.type "function"))
    (nb_BadFrame_what : PySem.W.findIn K (.ref C_BadFrame) "what" = some none)
    (nb_BadFrame_place : PySem.W.findIn K (.ref C_BadFrame) "place" = some none)
    (a_BadLoad___init__ : PySem.W.findIn K (.ref C_BadLoad) "__init__" = some (some (.ref f_BadLoad___init__)))
    (l_BadLoad___init__ : K.lookup f_BadLoad___init__ = some ⟨oc_BadLoad___init__, od_BadLoad___init__, .func (PySem.W.fnOf "__init__" "BadLoad.__init__" (defArgs s_BadLoad___init__) (defBody s_BadLoad___init__) (defScope s_BadLoad___init__) .none kV_BadLoad___init__ dc_BadLoad___init__ pm_BadLoad___init__ an_BadLoad___init__ cd_BadLoad___init__ ct_BadLoad___init__), sl_BadLoad___init__⟩)
    (c_BadLoad___init__ : PySem.W.codeIn K cd_BadLoad___init__ "BadLoad.__init__" = true)
    (k_BadLoad___init__ : PySem.W.keepIn K (.ref f_BadLoad___init__) = true)
    (xL_BadLoad : K.lookup C_BadLoad = some (excClassObj nm_BadLoad q_BadLoad C_BadLoad N_BadLoad bs_BadLoad [.ref C_RestsError, .type "ValueError", .type "Exception", .type "BaseException", .type "object"] true sn_BadLoad su_BadLoad ab_BadLoad co_BadLoad dd_BadLoad m0_BadLoad m1_BadLoad m2_BadLoad m3_BadLoad m5_BadLoad "ValueError.__new__"))
    (sa_BadLoad : PySem.W.findIn K (.ref C_BadLoad) "__setattr__" = some (some (.builtin "object.__setattr__")))
    (eC_BadLoad : PySem.W.subIn K (.ref C_BadLoad) (.type "BaseException") = some true)
    (tC_BadLoad : PySem.W.typeIn K (.ref C_BadLoad) = some (.type "type"))
    (kC_BadLoad : PySem.W.keepIn K (.ref C_BadLoad) = true)
    (tI_BadLoad : PySem.W.typeIn K (.ref f_BadLoad___init__) = some (.type "function"))
    (nb_BadLoad_what : PySem.W.findIn K (.ref C_BadLoad) "what" = some none)
    (a_BadRow___init__ : PySem.W.findIn K (.ref C_BadRow) "__init__" = some (some (.ref f_BadRow___init__)))
    (l_BadRow___init__ : K.lookup f_BadRow___init__ = some ⟨oc_BadRow___init__, od_BadRow___init__, .func (PySem.W.fnOf "__init__" "BadRow.__init__" (defArgs s_BadRow___init__) (defBody s_BadRow___init__) (defScope s_BadRow___init__) .none kV_BadRow___init__ dc_BadRow___init__ pm_BadRow___init__ an_BadRow___init__ cd_BadRow___init__ ct_BadRow___init__), sl_BadRow___init__⟩)
    (c_BadRow___init__ : PySem.W.codeIn K cd_BadRow___init__ "BadRow.__init__" = true)
    (k_BadRow___init__ : PySem.W.keepIn K (.ref f_BadRow___init__) = true)
    (xL_BadRow : K.lookup C_BadRow = some (excClassObj nm_BadRow q_BadRow C_BadRow N_BadRow bs_BadRow [.ref C_RestsError, .type "ValueError", .type "Exception", .type "BaseException", .type "object"] true sn_BadRow su_BadRow ab_BadRow co_BadRow dd_BadRow m0_BadRow m1_BadRow m2_BadRow m3_BadRow m5_BadRow "ValueError.__new__"))
    (sa_BadRow : PySem.W.findIn K (.ref C_BadRow) "__setattr__" = some (some (.builtin "object.__setattr__")))
    (eC_BadRow : PySem.W.subIn K (.ref C_BadRow) (.type "BaseException") = some true)
    (tC_BadRow : PySem.W.typeIn K (.ref C_BadRow) = some (.type "type"))
    (kC_BadRow : PySem.W.keepIn K (.ref C_BadRow) = true)
    (tI_BadRow : PySem.W.typeIn K (.ref f_BadRow___init__) = some (.type "function"))
    (nb_BadRow_what : PySem.W.findIn K (.ref C_BadRow) "what" = some none)
    (nb_BadRow_row : PySem.W.findIn K (.ref C_BadRow) "row" = some none)
    (pg_Frame : PySem.W.plainGet K C_Frame Str.empty = true)
    (hd_Frame : PySem.W.hasDictIn K C_Frame = true)
    (po_Frame : PySem.W.plainOver K C_Frame = true)
    (sa_Frame : PySem.W.findIn K (.ref C_Frame) "__setattr__" = some (some (.builtin "object.__setattr__")))
    (mk_Frame : PySem.W.makesIn K C_Frame = true)
    (kC_Frame : PySem.W.keepIn K (.ref C_Frame) = true)
    (i_Frame___init__ : PySem.W.isFn K (.ref f_Frame___init__) = true)
    (na_Frame_rows : PySem.W.findIn K (.ref C_Frame) "rows" = some none)
    (z_ValueError : PySem.W.nsIn K mainGlobals "ValueError" = some none)
    (z_abs : PySem.W.nsIn K mainGlobals "abs" = some none)
    (z_all : PySem.W.nsIn K mainGlobals "all" = some none)
    (z_bool : PySem.W.nsIn K mainGlobals "bool" = some none)
    (z_int : PySem.W.nsIn K mainGlobals "int" = some none)
    (z_isinstance : PySem.W.nsIn K mainGlobals "isinstance" = some none)
    (z_len : PySem.W.nsIn K mainGlobals "len" = some none)
    (z_list : PySem.W.nsIn K mainGlobals "list" = some none)
    (z_min : PySem.W.nsIn K mainGlobals "min" = some none)
    (z_range : PySem.W.nsIn K mainGlobals "range" = some none)
    (z_repr : PySem.W.nsIn K mainGlobals "repr" = some none)
    (z_str : PySem.W.nsIn K mainGlobals "str" = some none)
    (z_tuple : PySem.W.nsIn K mainGlobals "tuple" = some none)
    (z_zip : PySem.W.nsIn K mainGlobals "zip" = some none)
    (z_MOST_PLACES : PySem.W.nsIn K mainGlobals "MOST_PLACES" = some (some (.int 12 t_MOST_PLACES)))
    (z_MOST_ROWS : PySem.W.nsIn K mainGlobals "MOST_ROWS" = some (some (.int 12 t_MOST_ROWS)))
    (z_gcd : PySem.W.nsIn K mainGlobals "gcd" = some (some (.builtin "math.gcd")))
    (cl_BadLoad : (PySem.W.clsIn K C_BadLoad).isSome = true)
    (ga_BadLoad : PySem.W.findIn K (.ref C_BadLoad) "__getattribute__" = some (some (.builtin "BaseException.__getattribute__")))
    (gg_BadLoad : PySem.W.findIn K (.ref C_BadLoad) "__getattr__" = some none)
    (fc_BadLoad : PySem.W.findIn K (.ref C_BadLoad) "__class__" = some (some (.builtin "object.__class__")))
    (mo_BadLoad : PySem.W.mroIn K C_BadLoad (.type "object") = some true)
    (hD_BadLoad : PySem.W.hasDictIn K C_BadLoad = true)
    (ve_BadLoad : PySem.W.kitOne K (.ref C_BadLoad) (.type "ValueError") = some true)
    (er_BadLoad : PySem.W.exmOne K (.ref C_BadLoad) (.ref C_RestsError) = some true)
    (kt_BadLoad_BadFrame : PySem.W.kitOne K (.ref C_BadLoad) (.ref C_BadFrame) = some false)
    (kt_BadLoad_BadHouse : PySem.W.kitOne K (.ref C_BadLoad) (.ref C_BadHouse) = some false)
    (kt_BadLoad_BadLoad : PySem.W.kitOne K (.ref C_BadLoad) (.ref C_BadLoad) = some true)
    (kt_BadLoad_BadName : PySem.W.kitOne K (.ref C_BadLoad) (.ref C_BadName) = some false)
    (kt_BadLoad_BadNet : PySem.W.kitOne K (.ref C_BadLoad) (.ref C_BadNet) = some false)
    (kt_BadLoad_BadNumber : PySem.W.kitOne K (.ref C_BadLoad) (.ref C_BadNumber) = some false)
    (kt_BadLoad_BadRow : PySem.W.kitOne K (.ref C_BadLoad) (.ref C_BadRow) = some false)
    (kt_BadLoad_BadTable : PySem.W.kitOne K (.ref C_BadLoad) (.ref C_BadTable) = some false)
    (kt_BadLoad_BadText : PySem.W.kitOne K (.ref C_BadLoad) (.ref C_BadText) = some false)
    (kt_BadLoad_BadWeb : PySem.W.kitOne K (.ref C_BadLoad) (.ref C_BadWeb) = some false)
    (kt_BadLoad_Flat : PySem.W.kitOne K (.ref C_BadLoad) (.ref C_Flat) = some false)
    (kt_BadLoad_NoName : PySem.W.kitOne K (.ref C_BadLoad) (.ref C_NoName) = some false)
    (kt_BadLoad_NoPlace : PySem.W.kitOne K (.ref C_BadLoad) (.ref C_NoPlace) = some false)
    (kt_BadLoad_NoRow : PySem.W.kitOne K (.ref C_BadLoad) (.ref C_NoRow) = some false)
    (kt_BadLoad_NoWall : PySem.W.kitOne K (.ref C_BadLoad) (.ref C_NoWall) = some false)
    (kt_BadLoad_NotKept : PySem.W.kitOne K (.ref C_BadLoad) (.ref C_NotKept) = some false)
    (kt_BadLoad_NotOnce : PySem.W.kitOne K (.ref C_BadLoad) (.ref C_NotOnce) = some false)
    (kt_BadLoad_NotPlain : PySem.W.kitOne K (.ref C_BadLoad) (.ref C_NotPlain) = some false)
    (kt_BadLoad_NothingToRedo : PySem.W.kitOne K (.ref C_BadLoad) (.ref C_NothingToRedo) = some false)
    (kt_BadLoad_NothingToUndo : PySem.W.kitOne K (.ref C_BadLoad) (.ref C_NothingToUndo) = some false)
    (kt_BadLoad_TakenName : PySem.W.kitOne K (.ref C_BadLoad) (.ref C_TakenName) = some false)
    (kt_BadLoad_TooMany : PySem.W.kitOne K (.ref C_BadLoad) (.ref C_TooMany) = some false)
    (kt_BadLoad_Unlike : PySem.W.kitOne K (.ref C_BadLoad) (.ref C_Unlike) = some false)
    (cl_BadRow : (PySem.W.clsIn K C_BadRow).isSome = true)
    (ga_BadRow : PySem.W.findIn K (.ref C_BadRow) "__getattribute__" = some (some (.builtin "BaseException.__getattribute__")))
    (gg_BadRow : PySem.W.findIn K (.ref C_BadRow) "__getattr__" = some none)
    (fc_BadRow : PySem.W.findIn K (.ref C_BadRow) "__class__" = some (some (.builtin "object.__class__")))
    (mo_BadRow : PySem.W.mroIn K C_BadRow (.type "object") = some true)
    (hD_BadRow : PySem.W.hasDictIn K C_BadRow = true)
    (ve_BadRow : PySem.W.kitOne K (.ref C_BadRow) (.type "ValueError") = some true)
    (er_BadRow : PySem.W.exmOne K (.ref C_BadRow) (.ref C_RestsError) = some true)
    (kt_BadRow_BadFrame : PySem.W.kitOne K (.ref C_BadRow) (.ref C_BadFrame) = some false)
    (kt_BadRow_BadHouse : PySem.W.kitOne K (.ref C_BadRow) (.ref C_BadHouse) = some false)
    (kt_BadRow_BadLoad : PySem.W.kitOne K (.ref C_BadRow) (.ref C_BadLoad) = some false)
    (kt_BadRow_BadName : PySem.W.kitOne K (.ref C_BadRow) (.ref C_BadName) = some false)
    (kt_BadRow_BadNet : PySem.W.kitOne K (.ref C_BadRow) (.ref C_BadNet) = some false)
    (kt_BadRow_BadNumber : PySem.W.kitOne K (.ref C_BadRow) (.ref C_BadNumber) = some false)
    (kt_BadRow_BadRow : PySem.W.kitOne K (.ref C_BadRow) (.ref C_BadRow) = some true)
    (kt_BadRow_BadTable : PySem.W.kitOne K (.ref C_BadRow) (.ref C_BadTable) = some false)
    (kt_BadRow_BadText : PySem.W.kitOne K (.ref C_BadRow) (.ref C_BadText) = some false)
    (kt_BadRow_BadWeb : PySem.W.kitOne K (.ref C_BadRow) (.ref C_BadWeb) = some false)
    (kt_BadRow_Flat : PySem.W.kitOne K (.ref C_BadRow) (.ref C_Flat) = some false)
    (kt_BadRow_NoName : PySem.W.kitOne K (.ref C_BadRow) (.ref C_NoName) = some false)
    (kt_BadRow_NoPlace : PySem.W.kitOne K (.ref C_BadRow) (.ref C_NoPlace) = some false)
    (kt_BadRow_NoRow : PySem.W.kitOne K (.ref C_BadRow) (.ref C_NoRow) = some false)
    (kt_BadRow_NoWall : PySem.W.kitOne K (.ref C_BadRow) (.ref C_NoWall) = some false)
    (kt_BadRow_NotKept : PySem.W.kitOne K (.ref C_BadRow) (.ref C_NotKept) = some false)
    (kt_BadRow_NotOnce : PySem.W.kitOne K (.ref C_BadRow) (.ref C_NotOnce) = some false)
    (kt_BadRow_NotPlain : PySem.W.kitOne K (.ref C_BadRow) (.ref C_NotPlain) = some false)
    (kt_BadRow_NothingToRedo : PySem.W.kitOne K (.ref C_BadRow) (.ref C_NothingToRedo) = some false)
    (kt_BadRow_NothingToUndo : PySem.W.kitOne K (.ref C_BadRow) (.ref C_NothingToUndo) = some false)
    (kt_BadRow_TakenName : PySem.W.kitOne K (.ref C_BadRow) (.ref C_TakenName) = some false)
    (kt_BadRow_TooMany : PySem.W.kitOne K (.ref C_BadRow) (.ref C_TooMany) = some false)
    (kt_BadRow_Unlike : PySem.W.kitOne K (.ref C_BadRow) (.ref C_Unlike) = some false)
    (spc : PySem.W.specialIn K (.builtin "object.__class__") "__get__" = some (some (.builtin "getset_descriptor.__get__")))
    (tkc : PySem.W.takesIn K (.builtin "object.__class__") = some true)
    (cdT__law_faults_right : cd__law_faults_right = .ref cT__law_faults_right)
    (hdT__law_faults_right : PySem.W.codeHdIn K cT__law_faults_right PT__law_faults_right = true)
    (nT__law_faults_right : K.lookup PT__law_faults_right = none)
    (hTab__law_faults_right : h.get? PT__law_faults_right = some { cls := .none, data := .fields #[] })
    : LawAtG l w K 15 63 "script" mg fa h := by
  have e := hfa.symm.trans (PySem.W.mg_of X G a_law)
  cases e
  have g_BadFrame := PySem.W.mg_of X G A_BadFrame
  have e_BadFrame : cmOf mg "BadFrame" = C_BadFrame := cmOf_eq g_BadFrame
  have g_BadHouse := PySem.W.mg_of X G A_BadHouse
  have e_BadHouse : cmOf mg "BadHouse" = C_BadHouse := cmOf_eq g_BadHouse
  have g_BadLoad := PySem.W.mg_of X G A_BadLoad
  have e_BadLoad : cmOf mg "BadLoad" = C_BadLoad := cmOf_eq g_BadLoad
  have g_BadName := PySem.W.mg_of X G A_BadName
  have e_BadName : cmOf mg "BadName" = C_BadName := cmOf_eq g_BadName
  have g_BadNet := PySem.W.mg_of X G A_BadNet
  have e_BadNet : cmOf mg "BadNet" = C_BadNet := cmOf_eq g_BadNet
  have g_BadNumber := PySem.W.mg_of X G A_BadNumber
  have e_BadNumber : cmOf mg "BadNumber" = C_BadNumber := cmOf_eq g_BadNumber
  have g_BadRow := PySem.W.mg_of X G A_BadRow
  have e_BadRow : cmOf mg "BadRow" = C_BadRow := cmOf_eq g_BadRow
  have g_BadTable := PySem.W.mg_of X G A_BadTable
  have e_BadTable : cmOf mg "BadTable" = C_BadTable := cmOf_eq g_BadTable
  have g_BadText := PySem.W.mg_of X G A_BadText
  have e_BadText : cmOf mg "BadText" = C_BadText := cmOf_eq g_BadText
  have g_BadWeb := PySem.W.mg_of X G A_BadWeb
  have e_BadWeb : cmOf mg "BadWeb" = C_BadWeb := cmOf_eq g_BadWeb
  have g_Flat := PySem.W.mg_of X G A_Flat
  have e_Flat : cmOf mg "Flat" = C_Flat := cmOf_eq g_Flat
  have g_Frame := PySem.W.mg_of X G A_Frame
  have e_Frame : cmOf mg "Frame" = C_Frame := cmOf_eq g_Frame
  have g_NoName := PySem.W.mg_of X G A_NoName
  have e_NoName : cmOf mg "NoName" = C_NoName := cmOf_eq g_NoName
  have g_NoPlace := PySem.W.mg_of X G A_NoPlace
  have e_NoPlace : cmOf mg "NoPlace" = C_NoPlace := cmOf_eq g_NoPlace
  have g_NoRow := PySem.W.mg_of X G A_NoRow
  have e_NoRow : cmOf mg "NoRow" = C_NoRow := cmOf_eq g_NoRow
  have g_NoWall := PySem.W.mg_of X G A_NoWall
  have e_NoWall : cmOf mg "NoWall" = C_NoWall := cmOf_eq g_NoWall
  have g_NotKept := PySem.W.mg_of X G A_NotKept
  have e_NotKept : cmOf mg "NotKept" = C_NotKept := cmOf_eq g_NotKept
  have g_NotOnce := PySem.W.mg_of X G A_NotOnce
  have e_NotOnce : cmOf mg "NotOnce" = C_NotOnce := cmOf_eq g_NotOnce
  have g_NotPlain := PySem.W.mg_of X G A_NotPlain
  have e_NotPlain : cmOf mg "NotPlain" = C_NotPlain := cmOf_eq g_NotPlain
  have g_NothingToRedo := PySem.W.mg_of X G A_NothingToRedo
  have e_NothingToRedo : cmOf mg "NothingToRedo" = C_NothingToRedo := cmOf_eq g_NothingToRedo
  have g_NothingToUndo := PySem.W.mg_of X G A_NothingToUndo
  have e_NothingToUndo : cmOf mg "NothingToUndo" = C_NothingToUndo := cmOf_eq g_NothingToUndo
  have g_RestsError := PySem.W.mg_of X G A_RestsError
  have e_RestsError : cmOf mg "RestsError" = C_RestsError := cmOf_eq g_RestsError
  have g_TakenName := PySem.W.mg_of X G A_TakenName
  have e_TakenName : cmOf mg "TakenName" = C_TakenName := cmOf_eq g_TakenName
  have g_TooMany := PySem.W.mg_of X G A_TooMany
  have e_TooMany : cmOf mg "TooMany" = C_TooMany := cmOf_eq g_TooMany
  have g_Unlike := PySem.W.mg_of X G A_Unlike
  have e_Unlike : cmOf mg "Unlike" = C_Unlike := cmOf_eq g_Unlike
  have Z : Zn mg := ⟨PySem.W.mg_none_of X G z_ValueError, PySem.W.mg_none_of X G z_abs, PySem.W.mg_none_of X G z_all, PySem.W.mg_none_of X G z_bool, PySem.W.mg_none_of X G z_int, PySem.W.mg_none_of X G z_isinstance, PySem.W.mg_none_of X G z_len, PySem.W.mg_none_of X G z_list, PySem.W.mg_none_of X G z_min, PySem.W.mg_none_of X G z_range, PySem.W.mg_none_of X G z_repr, PySem.W.mg_none_of X G z_str, PySem.W.mg_none_of X G z_tuple, PySem.W.mg_none_of X G z_zip, ⟨_, PySem.W.mg_of X G z_MOST_PLACES⟩, ⟨_, PySem.W.mg_of X G z_MOST_ROWS⟩, PySem.W.mg_of X G z_gcd⟩
  have Y : Yn K mg := ⟨⟨C_Frame, g_Frame, ⟨pg_Frame, hd_Frame, po_Frame, sa_Frame⟩, na_Frame_rows⟩⟩
  have XC : ∀ c ∈ excN, XcC K (cmOf mg c) := x_one (by rw [e_BadLoad]; exact ⟨cl_BadLoad, ga_BadLoad, gg_BadLoad, eC_BadLoad, fc_BadLoad, spc, tkc, mo_BadLoad⟩) (by rw [e_BadRow]; exact ⟨cl_BadRow, ga_BadRow, gg_BadRow, eC_BadRow, fc_BadRow, spc, tkc, mo_BadRow⟩)
  have Xn : XnOk K mg := ⟨(by rw [e_BadFrame]; exact g_BadFrame),
    (fun c hc => ⟨XC c hc, x_one (P := fun c => PySem.W.kitOne K (.ref (cmOf mg c)) (.ref (cmOf mg "BadFrame")) = some (c == "BadFrame")) (by rw [e_BadLoad, e_BadFrame]; exact kt_BadLoad_BadFrame) (by rw [e_BadRow, e_BadFrame]; exact kt_BadRow_BadFrame) c hc⟩),
    (by rw [e_BadHouse]; exact g_BadHouse),
    (fun c hc => ⟨XC c hc, x_one (P := fun c => PySem.W.kitOne K (.ref (cmOf mg c)) (.ref (cmOf mg "BadHouse")) = some (c == "BadHouse")) (by rw [e_BadLoad, e_BadHouse]; exact kt_BadLoad_BadHouse) (by rw [e_BadRow, e_BadHouse]; exact kt_BadRow_BadHouse) c hc⟩),
    (by rw [e_BadLoad]; exact g_BadLoad),
    (fun c hc => ⟨XC c hc, x_one (P := fun c => PySem.W.kitOne K (.ref (cmOf mg c)) (.ref (cmOf mg "BadLoad")) = some (c == "BadLoad")) (by rw [e_BadLoad]; exact kt_BadLoad_BadLoad) (by rw [e_BadRow, e_BadLoad]; exact kt_BadRow_BadLoad) c hc⟩),
    (by rw [e_BadName]; exact g_BadName),
    (fun c hc => ⟨XC c hc, x_one (P := fun c => PySem.W.kitOne K (.ref (cmOf mg c)) (.ref (cmOf mg "BadName")) = some (c == "BadName")) (by rw [e_BadLoad, e_BadName]; exact kt_BadLoad_BadName) (by rw [e_BadRow, e_BadName]; exact kt_BadRow_BadName) c hc⟩),
    (by rw [e_BadNet]; exact g_BadNet),
    (fun c hc => ⟨XC c hc, x_one (P := fun c => PySem.W.kitOne K (.ref (cmOf mg c)) (.ref (cmOf mg "BadNet")) = some (c == "BadNet")) (by rw [e_BadLoad, e_BadNet]; exact kt_BadLoad_BadNet) (by rw [e_BadRow, e_BadNet]; exact kt_BadRow_BadNet) c hc⟩),
    (by rw [e_BadNumber]; exact g_BadNumber),
    (fun c hc => ⟨XC c hc, x_one (P := fun c => PySem.W.kitOne K (.ref (cmOf mg c)) (.ref (cmOf mg "BadNumber")) = some (c == "BadNumber")) (by rw [e_BadLoad, e_BadNumber]; exact kt_BadLoad_BadNumber) (by rw [e_BadRow, e_BadNumber]; exact kt_BadRow_BadNumber) c hc⟩),
    (by rw [e_BadRow]; exact g_BadRow),
    (fun c hc => ⟨XC c hc, x_one (P := fun c => PySem.W.kitOne K (.ref (cmOf mg c)) (.ref (cmOf mg "BadRow")) = some (c == "BadRow")) (by rw [e_BadLoad, e_BadRow]; exact kt_BadLoad_BadRow) (by rw [e_BadRow]; exact kt_BadRow_BadRow) c hc⟩),
    (by rw [e_BadTable]; exact g_BadTable),
    (fun c hc => ⟨XC c hc, x_one (P := fun c => PySem.W.kitOne K (.ref (cmOf mg c)) (.ref (cmOf mg "BadTable")) = some (c == "BadTable")) (by rw [e_BadLoad, e_BadTable]; exact kt_BadLoad_BadTable) (by rw [e_BadRow, e_BadTable]; exact kt_BadRow_BadTable) c hc⟩),
    (by rw [e_BadText]; exact g_BadText),
    (fun c hc => ⟨XC c hc, x_one (P := fun c => PySem.W.kitOne K (.ref (cmOf mg c)) (.ref (cmOf mg "BadText")) = some (c == "BadText")) (by rw [e_BadLoad, e_BadText]; exact kt_BadLoad_BadText) (by rw [e_BadRow, e_BadText]; exact kt_BadRow_BadText) c hc⟩),
    (by rw [e_BadWeb]; exact g_BadWeb),
    (fun c hc => ⟨XC c hc, x_one (P := fun c => PySem.W.kitOne K (.ref (cmOf mg c)) (.ref (cmOf mg "BadWeb")) = some (c == "BadWeb")) (by rw [e_BadLoad, e_BadWeb]; exact kt_BadLoad_BadWeb) (by rw [e_BadRow, e_BadWeb]; exact kt_BadRow_BadWeb) c hc⟩),
    (by rw [e_Flat]; exact g_Flat),
    (fun c hc => ⟨XC c hc, x_one (P := fun c => PySem.W.kitOne K (.ref (cmOf mg c)) (.ref (cmOf mg "Flat")) = some (c == "Flat")) (by rw [e_BadLoad, e_Flat]; exact kt_BadLoad_Flat) (by rw [e_BadRow, e_Flat]; exact kt_BadRow_Flat) c hc⟩),
    (by rw [e_NoName]; exact g_NoName),
    (fun c hc => ⟨XC c hc, x_one (P := fun c => PySem.W.kitOne K (.ref (cmOf mg c)) (.ref (cmOf mg "NoName")) = some (c == "NoName")) (by rw [e_BadLoad, e_NoName]; exact kt_BadLoad_NoName) (by rw [e_BadRow, e_NoName]; exact kt_BadRow_NoName) c hc⟩),
    (by rw [e_NoPlace]; exact g_NoPlace),
    (fun c hc => ⟨XC c hc, x_one (P := fun c => PySem.W.kitOne K (.ref (cmOf mg c)) (.ref (cmOf mg "NoPlace")) = some (c == "NoPlace")) (by rw [e_BadLoad, e_NoPlace]; exact kt_BadLoad_NoPlace) (by rw [e_BadRow, e_NoPlace]; exact kt_BadRow_NoPlace) c hc⟩),
    (by rw [e_NoRow]; exact g_NoRow),
    (fun c hc => ⟨XC c hc, x_one (P := fun c => PySem.W.kitOne K (.ref (cmOf mg c)) (.ref (cmOf mg "NoRow")) = some (c == "NoRow")) (by rw [e_BadLoad, e_NoRow]; exact kt_BadLoad_NoRow) (by rw [e_BadRow, e_NoRow]; exact kt_BadRow_NoRow) c hc⟩),
    (by rw [e_NoWall]; exact g_NoWall),
    (fun c hc => ⟨XC c hc, x_one (P := fun c => PySem.W.kitOne K (.ref (cmOf mg c)) (.ref (cmOf mg "NoWall")) = some (c == "NoWall")) (by rw [e_BadLoad, e_NoWall]; exact kt_BadLoad_NoWall) (by rw [e_BadRow, e_NoWall]; exact kt_BadRow_NoWall) c hc⟩),
    (by rw [e_NotKept]; exact g_NotKept),
    (fun c hc => ⟨XC c hc, x_one (P := fun c => PySem.W.kitOne K (.ref (cmOf mg c)) (.ref (cmOf mg "NotKept")) = some (c == "NotKept")) (by rw [e_BadLoad, e_NotKept]; exact kt_BadLoad_NotKept) (by rw [e_BadRow, e_NotKept]; exact kt_BadRow_NotKept) c hc⟩),
    (by rw [e_NotOnce]; exact g_NotOnce),
    (fun c hc => ⟨XC c hc, x_one (P := fun c => PySem.W.kitOne K (.ref (cmOf mg c)) (.ref (cmOf mg "NotOnce")) = some (c == "NotOnce")) (by rw [e_BadLoad, e_NotOnce]; exact kt_BadLoad_NotOnce) (by rw [e_BadRow, e_NotOnce]; exact kt_BadRow_NotOnce) c hc⟩),
    (by rw [e_NotPlain]; exact g_NotPlain),
    (fun c hc => ⟨XC c hc, x_one (P := fun c => PySem.W.kitOne K (.ref (cmOf mg c)) (.ref (cmOf mg "NotPlain")) = some (c == "NotPlain")) (by rw [e_BadLoad, e_NotPlain]; exact kt_BadLoad_NotPlain) (by rw [e_BadRow, e_NotPlain]; exact kt_BadRow_NotPlain) c hc⟩),
    (by rw [e_NothingToRedo]; exact g_NothingToRedo),
    (fun c hc => ⟨XC c hc, x_one (P := fun c => PySem.W.kitOne K (.ref (cmOf mg c)) (.ref (cmOf mg "NothingToRedo")) = some (c == "NothingToRedo")) (by rw [e_BadLoad, e_NothingToRedo]; exact kt_BadLoad_NothingToRedo) (by rw [e_BadRow, e_NothingToRedo]; exact kt_BadRow_NothingToRedo) c hc⟩),
    (by rw [e_NothingToUndo]; exact g_NothingToUndo),
    (fun c hc => ⟨XC c hc, x_one (P := fun c => PySem.W.kitOne K (.ref (cmOf mg c)) (.ref (cmOf mg "NothingToUndo")) = some (c == "NothingToUndo")) (by rw [e_BadLoad, e_NothingToUndo]; exact kt_BadLoad_NothingToUndo) (by rw [e_BadRow, e_NothingToUndo]; exact kt_BadRow_NothingToUndo) c hc⟩),
    (by rw [e_TakenName]; exact g_TakenName),
    (fun c hc => ⟨XC c hc, x_one (P := fun c => PySem.W.kitOne K (.ref (cmOf mg c)) (.ref (cmOf mg "TakenName")) = some (c == "TakenName")) (by rw [e_BadLoad, e_TakenName]; exact kt_BadLoad_TakenName) (by rw [e_BadRow, e_TakenName]; exact kt_BadRow_TakenName) c hc⟩),
    (by rw [e_TooMany]; exact g_TooMany),
    (fun c hc => ⟨XC c hc, x_one (P := fun c => PySem.W.kitOne K (.ref (cmOf mg c)) (.ref (cmOf mg "TooMany")) = some (c == "TooMany")) (by rw [e_BadLoad, e_TooMany]; exact kt_BadLoad_TooMany) (by rw [e_BadRow, e_TooMany]; exact kt_BadRow_TooMany) c hc⟩),
    (by rw [e_Unlike]; exact g_Unlike),
    (fun c hc => ⟨XC c hc, x_one (P := fun c => PySem.W.kitOne K (.ref (cmOf mg c)) (.ref (cmOf mg "Unlike")) = some (c == "Unlike")) (by rw [e_BadLoad, e_Unlike]; exact kt_BadLoad_Unlike) (by rw [e_BadRow, e_Unlike]; exact kt_BadRow_Unlike) c hc⟩),
    (fun c hc => ⟨XC c hc, x_one (P := fun c => PySem.W.kitOne K (.ref (cmOf mg c)) (.type "ValueError") = some true) (by rw [e_BadLoad]; exact ve_BadLoad) (by rw [e_BadRow]; exact ve_BadRow) c hc⟩),
    (⟨by rw [e_BadLoad]; exact ⟨ga_BadLoad, gg_BadLoad, eC_BadLoad, hD_BadLoad⟩, by rw [e_BadLoad]; exact nb_BadLoad_what⟩),
    (⟨by rw [e_BadRow]; exact ⟨ga_BadRow, gg_BadRow, eC_BadRow, hD_BadRow⟩, by rw [e_BadRow]; exact nb_BadRow_row⟩),
    (⟨by rw [e_BadRow]; exact ⟨ga_BadRow, gg_BadRow, eC_BadRow, hD_BadRow⟩, by rw [e_BadRow]; exact nb_BadRow_what⟩)⟩
  have XR : XrOk K mg C_RestsError := x_one (P := fun c => PySem.W.exmOne K (.ref (cmOf mg c)) (.ref C_RestsError) = some true) (by rw [e_BadLoad]; exact er_BadLoad) (by rw [e_BadRow]; exact er_BadRow)
  have F_is_integer := fun_mk (st := s_is_integer) l_is_integer c_is_integer k_is_integer
  have b_is_integer := F_is_integer.binds (ps := ["value"]) fun _ _ _ _ _ _ us hl => match us, hl with | [_], _ => rfl
  have D_is_integer : DefG K mg "is_integer" ["value"] _ _ := ⟨⟨k_is_integer, b_is_integer⟩, PySem.W.mg_of X G a_is_integer⟩
  have F_is_ratio := fun_mk (st := s_is_ratio) l_is_ratio c_is_ratio k_is_ratio
  have b_is_ratio := F_is_ratio.binds (ps := ["value"]) fun _ _ _ _ _ _ us hl => match us, hl with | [_], _ => rfl
  have D_is_ratio : DefG K mg "is_ratio" ["value"] _ _ := ⟨⟨k_is_ratio, b_is_ratio⟩, PySem.W.mg_of X G a_is_ratio⟩
  have F_pair := fun_mk (st := s_pair) l_pair c_pair k_pair
  have b_pair := F_pair.binds (ps := ["number"]) fun _ _ _ _ _ _ us hl => match us, hl with | [_], _ => rfl
  have D_pair : DefG K mg "pair" ["number"] _ _ := ⟨⟨k_pair, b_pair⟩, PySem.W.mg_of X G a_pair⟩
  have F_in_lowest := fun_mk (st := s_in_lowest) l_in_lowest c_in_lowest k_in_lowest
  have b_in_lowest := F_in_lowest.binds (ps := ["top", "bottom"]) fun _ _ _ _ _ _ us hl => match us, hl with | [_, _], _ => rfl
  have D_in_lowest : DefG K mg "in_lowest" ["top", "bottom"] _ _ := ⟨⟨k_in_lowest, b_in_lowest⟩, PySem.W.mg_of X G a_in_lowest⟩
  have F_added := fun_mk (st := s_added) l_added c_added k_added
  have b_added := F_added.binds (ps := ["one", "other"]) fun _ _ _ _ _ _ us hl => match us, hl with | [_, _], _ => rfl
  have D_added : DefG K mg "added" ["one", "other"] _ _ := ⟨⟨k_added, b_added⟩, PySem.W.mg_of X G a_added⟩
  have F_sign_of := fun_mk (st := s_sign_of) l_sign_of c_sign_of k_sign_of
  have b_sign_of := F_sign_of.binds (ps := ["number"]) fun _ _ _ _ _ _ us hl => match us, hl with | [_], _ => rfl
  have D_sign_of : DefG K mg "sign_of" ["number"] _ _ := ⟨⟨k_sign_of, b_sign_of⟩, PySem.W.mg_of X G a_sign_of⟩
  have F_summed := fun_mk (st := s_summed) l_summed c_summed k_summed
  have b_summed := F_summed.binds (ps := ["row", "other"]) fun _ _ _ _ _ _ us hl => match us, hl with | [_, _], _ => rfl
  have D_summed : DefG K mg "summed" ["row", "other"] _ _ := ⟨⟨k_summed, b_summed⟩, PySem.W.mg_of X G a_summed⟩
  have F_as_tuples := fun_mk (st := s_as_tuples) l_as_tuples c_as_tuples k_as_tuples
  have b_as_tuples := F_as_tuples.binds (ps := ["value"]) fun _ _ _ _ _ _ us hl => match us, hl with | [_], _ => rfl
  have D_as_tuples : DefG K mg "as_tuples" ["value"] _ _ := ⟨⟨k_as_tuples, b_as_tuples⟩, PySem.W.mg_of X G a_as_tuples⟩
  have F_is_list := fun_mk (st := s_is_list) l_is_list c_is_list k_is_list
  have b_is_list := F_is_list.binds (ps := ["value"]) fun _ _ _ _ _ _ us hl => match us, hl with | [_], _ => rfl
  have D_is_list : DefG K mg "is_list" ["value"] _ _ := ⟨⟨k_is_list, b_is_list⟩, PySem.W.mg_of X G a_is_list⟩
  have F_is_row := fun_mk (st := s_is_row) l_is_row c_is_row k_is_row
  have b_is_row := F_is_row.binds (ps := ["value", "many"]) fun _ _ _ _ _ _ us hl => match us, hl with | [_, _], _ => rfl
  have D_is_row : DefG K mg "is_row" ["value", "many"] _ _ := ⟨⟨k_is_row, b_is_row⟩, PySem.W.mg_of X G a_is_row⟩
  have F_is_told_row := fun_mk (st := s_is_told_row) l_is_told_row c_is_told_row k_is_told_row
  have b_is_told_row := F_is_told_row.binds (ps := ["value", "many"]) fun _ _ _ _ _ _ us hl => match us, hl with | [_, _], _ => rfl
  have D_is_told_row : DefG K mg "is_told_row" ["value", "many"] _ _ := ⟨⟨k_is_told_row, b_is_told_row⟩, PySem.W.mg_of X G a_is_told_row⟩
  have F_Frame___init__ := fun_mk (st := s_Frame___init__) l_Frame___init__ c_Frame___init__ k_Frame___init__
  have b_Frame___init__ := F_Frame___init__.binds (ps := ["self", "rows"]) fun _ _ _ _ _ _ us hl => match us, hl with | [_, _], _ => rfl
  have D_Frame___init__ : DefAt K mg ["self", "rows"] _ _ := ⟨k_Frame___init__, b_Frame___init__⟩
  have F_fits := fun_mk (st := s_fits) l_fits c_fits k_fits
  have b_fits := F_fits.binds (ps := ["frame", "load"]) fun _ _ _ _ _ _ us hl => match us, hl with | [_, _], _ => rfl
  have D_fits : DefG K mg "fits" ["frame", "load"] _ _ := ⟨⟨k_fits, b_fits⟩, PySem.W.mg_of X G a_fits⟩
  have F_need_load := fun_mk (st := s_need_load) l_need_load c_need_load k_need_load
  have b_need_load := F_need_load.binds (ps := ["frame", "load"]) fun _ _ _ _ _ _ us hl => match us, hl with | [_, _], _ => rfl
  have D_need_load : DefG K mg "need_load" ["frame", "load"] _ _ := ⟨⟨k_need_load, b_need_load⟩, PySem.W.mg_of X G a_need_load⟩
  have F_need_row := fun_mk (st := s_need_row) l_need_row c_need_row k_need_row
  have b_need_row := F_need_row.binds (ps := ["frame", "row", "what"]) fun _ _ _ _ _ _ us hl => match us, hl with | [_, _, _], _ => rfl
  have D_need_row : DefG K mg "need_row" ["frame", "row", "what"] _ _ := ⟨⟨k_need_row, b_need_row⟩, PySem.W.mg_of X G a_need_row⟩
  have F_slack_at := fun_mk (st := s_slack_at) l_slack_at c_slack_at k_slack_at
  have b_slack_at := F_slack_at.binds (ps := ["row", "number", "standing"]) fun _ _ _ _ _ _ us hl => match us, hl with | [_, _, _], _ => rfl
  have D_slack_at : DefG K mg "slack_at" ["row", "number", "standing"] _ _ := ⟨⟨k_slack_at, b_slack_at⟩, PySem.W.mg_of X G a_slack_at⟩
  have F_slacks_at := fun_mk (st := s_slacks_at) l_slacks_at c_slacks_at k_slacks_at
  have b_slacks_at := F_slacks_at.binds (ps := ["frame", "load", "standing"]) fun _ _ _ _ _ _ us hl => match us, hl with | [_, _, _], _ => rfl
  have D_slacks_at : DefG K mg "slacks_at" ["frame", "load", "standing"] _ _ := ⟨⟨k_slacks_at, b_slacks_at⟩, PySem.W.mg_of X G a_slacks_at⟩
  have F_slacks := fun_mk (st := s_slacks) l_slacks c_slacks k_slacks
  have b_slacks := F_slacks.binds (ps := ["frame", "load", "standing"]) fun _ _ _ _ _ _ us hl => match us, hl with | [_, _, _], _ => rfl
  have D_slacks : DefG K mg "slacks" ["frame", "load", "standing"] _ _ := ⟨⟨k_slacks, b_slacks⟩, PySem.W.mg_of X G a_slacks⟩
  have F_resting := fun_mk (st := s_resting) l_resting c_resting k_resting
  have b_resting := F_resting.binds (ps := ["frame", "load", "standing"]) fun _ _ _ _ _ _ us hl => match us, hl with | [_, _, _], _ => rfl
  have D_resting : DefG K mg "resting" ["frame", "load", "standing"] _ _ := ⟨⟨k_resting, b_resting⟩, PySem.W.mg_of X G a_resting⟩
  have F_answers_at := fun_mk (st := s_answers_at) l_answers_at c_answers_at k_answers_at
  have b_answers_at := F_answers_at.binds (ps := ["frame", "load", "standing"]) fun _ _ _ _ _ _ us hl => match us, hl with | [_, _, _], _ => rfl
  have D_answers_at : DefG K mg "answers_at" ["frame", "load", "standing"] _ _ := ⟨⟨k_answers_at, b_answers_at⟩, PySem.W.mg_of X G a_answers_at⟩
  have F_is_answer := fun_mk (st := s_is_answer) l_is_answer c_is_answer k_is_answer
  have b_is_answer := F_is_answer.binds (ps := ["frame", "load", "standing"]) fun _ _ _ _ _ _ us hl => match us, hl with | [_, _, _], _ => rfl
  have D_is_answer : DefG K mg "is_answer" ["frame", "load", "standing"] _ _ := ⟨⟨k_is_answer, b_is_answer⟩, PySem.W.mg_of X G a_is_answer⟩
  have F__law_pen := fun_mk (st := s__law_pen) l__law_pen c__law_pen k__law_pen
  have b__law_pen := F__law_pen.binds (ps := ["script"]) fun _ _ _ _ _ _ us hl => match us, hl with | [_], _ => rfl
  have D__law_pen : DefG K mg "_law_pen" ["script"] _ _ := ⟨⟨k__law_pen, b__law_pen⟩, PySem.W.mg_of X G a__law_pen⟩
  have F__law_draw := fun_mk (st := s__law_draw) l__law_draw c__law_draw k__law_draw
  have b__law_draw := F__law_draw.binds (ps := ["pen", "many"]) fun _ _ _ _ _ _ us hl => match us, hl with | [_, _], _ => rfl
  have D__law_draw : DefG K mg "_law_draw" ["pen", "many"] _ _ := ⟨⟨k__law_draw, b__law_draw⟩, PySem.W.mg_of X G a__law_draw⟩
  have F__law_pick := fun_mk (st := s__law_pick) l__law_pick c__law_pick k__law_pick
  have b__law_pick := F__law_pick.binds (ps := ["pen", "some"]) fun _ _ _ _ _ _ us hl => match us, hl with | [_, _], _ => rfl
  have D__law_pick : DefG K mg "_law_pick" ["pen", "some"] _ _ := ⟨⟨k__law_pick, b__law_pick⟩, PySem.W.mg_of X G a__law_pick⟩
  have F__law_shuffled := fun_mk (st := s__law_shuffled) l__law_shuffled c__law_shuffled k__law_shuffled
  have b__law_shuffled := F__law_shuffled.binds (ps := ["pen", "some"]) fun _ _ _ _ _ _ us hl => match us, hl with | [_, _], _ => rfl
  have D__law_shuffled : DefG K mg "_law_shuffled" ["pen", "some"] _ _ := ⟨⟨k__law_shuffled, b__law_shuffled⟩, PySem.W.mg_of X G a__law_shuffled⟩
  have F__law_is := fun_mk (st := s__law_is) l__law_is c__law_is k__law_is
  have b__law_is := F__law_is.binds (ps := ["told", "due"]) fun _ _ _ _ _ _ us hl => match us, hl with | [_, _], _ => rfl
  have D__law_is : DefG K mg "_law_is" ["told", "due"] _ _ := ⟨⟨k__law_is, b__law_is⟩, PySem.W.mg_of X G a__law_is⟩
  have F__law_says := fun_mk (st := s__law_says) l__law_says c__law_says k__law_says
  have b__law_says := F__law_says.binds (ps := ["told", "due"]) fun _ _ _ _ _ _ us hl => match us, hl with | [_, _], _ => rfl
  have D__law_says : DefG K mg "_law_says" ["told", "due"] _ _ := ⟨⟨k__law_says, b__law_says⟩, PySem.W.mg_of X G a__law_says⟩
  have F__law_divisor := fun_mk (st := s__law_divisor) l__law_divisor c__law_divisor k__law_divisor
  have b__law_divisor := F__law_divisor.binds (ps := ["one", "other"]) fun _ _ _ _ _ _ us hl => match us, hl with | [_, _], _ => rfl
  have D__law_divisor : DefG K mg "_law_divisor" ["one", "other"] _ _ := ⟨⟨k__law_divisor, b__law_divisor⟩, PySem.W.mg_of X G a__law_divisor⟩
  have F__law_low := fun_mk (st := s__law_low) l__law_low c__law_low k__law_low
  have b__law_low := F__law_low.binds (ps := ["top", "bottom"]) fun _ _ _ _ _ _ us hl => match us, hl with | [_, _], _ => rfl
  have D__law_low : DefG K mg "_law_low" ["top", "bottom"] _ _ := ⟨⟨k__law_low, b__law_low⟩, PySem.W.mg_of X G a__law_low⟩
  have F__law_pair := fun_mk (st := s__law_pair) l__law_pair c__law_pair k__law_pair
  have b__law_pair := F__law_pair.binds (ps := ["number"]) fun _ _ _ _ _ _ us hl => match us, hl with | [_], _ => rfl
  have D__law_pair : DefG K mg "_law_pair" ["number"] _ _ := ⟨⟨k__law_pair, b__law_pair⟩, PySem.W.mg_of X G a__law_pair⟩
  have F__law_plus := fun_mk (st := s__law_plus) l__law_plus c__law_plus k__law_plus
  have b__law_plus := F__law_plus.binds (ps := ["one", "other"]) fun _ _ _ _ _ _ us hl => match us, hl with | [_, _], _ => rfl
  have D__law_plus : DefG K mg "_law_plus" ["one", "other"] _ _ := ⟨⟨k__law_plus, b__law_plus⟩, PySem.W.mg_of X G a__law_plus⟩
  have F__law_opposite := fun_mk (st := s__law_opposite) l__law_opposite c__law_opposite k__law_opposite
  have b__law_opposite := F__law_opposite.binds (ps := ["number"]) fun _ _ _ _ _ _ us hl => match us, hl with | [_], _ => rfl
  have D__law_opposite : DefG K mg "_law_opposite" ["number"] _ _ := ⟨⟨k__law_opposite, b__law_opposite⟩, PySem.W.mg_of X G a__law_opposite⟩
  have F__law_minus := fun_mk (st := s__law_minus) l__law_minus c__law_minus k__law_minus
  have b__law_minus := F__law_minus.binds (ps := ["one", "other"]) fun _ _ _ _ _ _ us hl => match us, hl with | [_, _], _ => rfl
  have D__law_minus : DefG K mg "_law_minus" ["one", "other"] _ _ := ⟨⟨k__law_minus, b__law_minus⟩, PySem.W.mg_of X G a__law_minus⟩
  have F__law_sign := fun_mk (st := s__law_sign) l__law_sign c__law_sign k__law_sign
  have b__law_sign := F__law_sign.binds (ps := ["number"]) fun _ _ _ _ _ _ us hl => match us, hl with | [_], _ => rfl
  have D__law_sign : DefG K mg "_law_sign" ["number"] _ _ := ⟨⟨k__law_sign, b__law_sign⟩, PySem.W.mg_of X G a__law_sign⟩
  have F__law_dot := fun_mk (st := s__law_dot) l__law_dot c__law_dot k__law_dot
  have b__law_dot := F__law_dot.binds (ps := ["row", "other"]) fun _ _ _ _ _ _ us hl => match us, hl with | [_, _], _ => rfl
  have D__law_dot : DefG K mg "_law_dot" ["row", "other"] _ _ := ⟨⟨k__law_dot, b__law_dot⟩, PySem.W.mg_of X G a__law_dot⟩
  have F__law_is_whole := fun_mk (st := s__law_is_whole) l__law_is_whole c__law_is_whole k__law_is_whole
  have b__law_is_whole := F__law_is_whole.binds (ps := ["value"]) fun _ _ _ _ _ _ us hl => match us, hl with | [_], _ => rfl
  have D__law_is_whole : DefG K mg "_law_is_whole" ["value"] _ _ := ⟨⟨k__law_is_whole, b__law_is_whole⟩, PySem.W.mg_of X G a__law_is_whole⟩
  have F__law_is_ratio := fun_mk (st := s__law_is_ratio) l__law_is_ratio c__law_is_ratio k__law_is_ratio
  have b__law_is_ratio := F__law_is_ratio.binds (ps := ["value"]) fun _ _ _ _ _ _ us hl => match us, hl with | [_], _ => rfl
  have D__law_is_ratio : DefG K mg "_law_is_ratio" ["value"] _ _ := ⟨⟨k__law_is_ratio, b__law_is_ratio⟩, PySem.W.mg_of X G a__law_is_ratio⟩
  have F__law_wide := fun_mk (st := s__law_wide) l__law_wide c__law_wide k__law_wide
  have b__law_wide := F__law_wide.binds (ps := ["pen", "figures"]) fun _ _ _ _ _ _ us hl => match us, hl with | [_, _], _ => rfl
  have D__law_wide : DefG K mg "_law_wide" ["pen", "figures"] _ _ := ⟨⟨k__law_wide, b__law_wide⟩, PySem.W.mg_of X G a__law_wide⟩
  have F__law_number := fun_mk (st := s__law_number) l__law_number c__law_number k__law_number
  have b__law_number := F__law_number.binds (ps := ["pen", "size"]) fun _ _ _ _ _ _ us hl => match us, hl with | [_, _], _ => rfl
  have D__law_number : DefG K mg "_law_number" ["pen", "size"] _ _ := ⟨⟨k__law_number, b__law_number⟩, PySem.W.mg_of X G a__law_number⟩
  have F__law_row := fun_mk (st := s__law_row) l__law_row c__law_row k__law_row
  have b__law_row := F__law_row.binds (ps := ["pen", "many", "size"]) fun _ _ _ _ _ _ us hl => match us, hl with | [_, _, _], _ => rfl
  have D__law_row : DefG K mg "_law_row" ["pen", "many", "size"] _ _ := ⟨⟨k__law_row, b__law_row⟩, PySem.W.mg_of X G a__law_row⟩
  have F__law_counts := fun_mk (st := s__law_counts) l__law_counts c__law_counts k__law_counts
  have b__law_counts := F__law_counts.binds (ps := ["pen", "places", "most"]) fun _ _ _ _ _ _ us hl => match us, hl with | [_, _, _], _ => rfl
  have D__law_counts : DefG K mg "_law_counts" ["pen", "places", "most"] _ _ := ⟨⟨k__law_counts, b__law_counts⟩, PySem.W.mg_of X G a__law_counts⟩
  have F__law_any_frame := fun_mk (st := s__law_any_frame) l__law_any_frame c__law_any_frame k__law_any_frame
  have b__law_any_frame := F__law_any_frame.binds (ps := ["pen", "counts", "size"]) fun _ _ _ _ _ _ us hl => match us, hl with | [_, _, _], _ => rfl
  have D__law_any_frame : DefG K mg "_law_any_frame" ["pen", "counts", "size"] _ _ := ⟨⟨k__law_any_frame, b__law_any_frame⟩, PySem.W.mg_of X G a__law_any_frame⟩
  have F__law_slacks := fun_mk (st := s__law_slacks) l__law_slacks c__law_slacks k__law_slacks
  have b__law_slacks := F__law_slacks.binds (ps := ["rows", "load", "standing"]) fun _ _ _ _ _ _ us hl => match us, hl with | [_, _, _], _ => rfl
  have D__law_slacks : DefG K mg "_law_slacks" ["rows", "load", "standing"] _ _ := ⟨⟨k__law_slacks, b__law_slacks⟩, PySem.W.mg_of X G a__law_slacks⟩
  have F__law_answers := fun_mk (st := s__law_answers) l__law_answers c__law_answers k__law_answers
  have b__law_answers := F__law_answers.binds (ps := ["rows", "load", "standing"]) fun _ _ _ _ _ _ us hl => match us, hl with | [_, _, _], _ => rfl
  have D__law_answers : DefG K mg "_law_answers" ["rows", "load", "standing"] _ _ := ⟨⟨k__law_answers, b__law_answers⟩, PySem.W.mg_of X G a__law_answers⟩
  have F__law_load_at := fun_mk (st := s__law_load_at) l__law_load_at c__law_load_at k__law_load_at
  have b__law_load_at := F__law_load_at.binds (ps := ["pen", "rows", "standing", "size"]) fun _ _ _ _ _ _ us hl => match us, hl with | [_, _, _, _], _ => rfl
  have D__law_load_at : DefG K mg "_law_load_at" ["pen", "rows", "standing", "size"] _ _ := ⟨⟨k__law_load_at, b__law_load_at⟩, PySem.W.mg_of X G a__law_load_at⟩
  have F__law_made := fun_mk (st := s__law_made) l__law_made c__law_made k__law_made
  have b__law_made := F__law_made.binds (ps := ["rows"]) fun _ _ _ _ _ _ us hl => match us, hl with | [_], _ => rfl
  have D__law_made : DefG K mg "_law_made" ["rows"] _ _ := ⟨⟨k__law_made, b__law_made⟩, PySem.W.mg_of X G a__law_made⟩
  have F__law_more_kinds := fun_mk (st := s__law_more_kinds) l__law_more_kinds c__law_more_kinds k__law_more_kinds
  have b__law_more_kinds := F__law_more_kinds.binds (ps := ["e"]) fun _ _ _ _ _ _ us hl => match us, hl with | [_], _ => rfl
  have D__law_more_kinds : DefG K mg "_law_more_kinds" ["e"] _ _ := ⟨⟨k__law_more_kinds, b__law_more_kinds⟩, PySem.W.mg_of X G a__law_more_kinds⟩
  have F__law_kinds := fun_mk (st := s__law_kinds) l__law_kinds c__law_kinds k__law_kinds
  have b__law_kinds := F__law_kinds.binds (ps := ["e"]) fun _ _ _ _ _ _ us hl => match us, hl with | [_], _ => rfl
  have D__law_kinds : DefG K mg "_law_kinds" ["e"] _ _ := ⟨⟨k__law_kinds, b__law_kinds⟩, PySem.W.mg_of X G a__law_kinds⟩
  have F__law_fault := fun_mk (st := s__law_fault) l__law_fault c__law_fault k__law_fault
  have b__law_fault := F__law_fault.binds (ps := ["call"]) fun _ _ _ _ _ _ us hl => match us, hl with | [_], _ => rfl
  have D__law_fault : DefG K mg "_law_fault" ["call"] _ _ := ⟨⟨k__law_fault, b__law_fault⟩, PySem.W.mg_of X G a__law_fault⟩
  have F__law_odd := fun_mk (st := s__law_odd) l__law_odd c__law_odd k__law_odd
  have b__law_odd := F__law_odd.binds (ps := ["pen"]) fun _ _ _ _ _ _ us hl => match us, hl with | [_], _ => rfl
  have D__law_odd : DefG K mg "_law_odd" ["pen"] _ _ := ⟨⟨k__law_odd, b__law_odd⟩, PySem.W.mg_of X G a__law_odd⟩
  have F__law_bent_row := fun_mk (st := s__law_bent_row) l__law_bent_row c__law_bent_row k__law_bent_row
  have b__law_bent_row := F__law_bent_row.binds (ps := ["pen", "row"]) fun _ _ _ _ _ _ us hl => match us, hl with | [_, _], _ => rfl
  have D__law_bent_row : DefG K mg "_law_bent_row" ["pen", "row"] _ _ := ⟨⟨k__law_bent_row, b__law_bent_row⟩, PySem.W.mg_of X G a__law_bent_row⟩
  have F__law_is_list := fun_mk (st := s__law_is_list) l__law_is_list c__law_is_list k__law_is_list
  have b__law_is_list := F__law_is_list.binds (ps := ["value"]) fun _ _ _ _ _ _ us hl => match us, hl with | [_], _ => rfl
  have D__law_is_list : DefG K mg "_law_is_list" ["value"] _ _ := ⟨⟨k__law_is_list, b__law_is_list⟩, PySem.W.mg_of X G a__law_is_list⟩
  have F__law_is_any_row := fun_mk (st := s__law_is_any_row) l__law_is_any_row c__law_is_any_row k__law_is_any_row
  have b__law_is_any_row := F__law_is_any_row.binds (ps := ["value", "many"]) fun _ _ _ _ _ _ us hl => match us, hl with | [_, _], _ => rfl
  have D__law_is_any_row : DefG K mg "_law_is_any_row" ["value", "many"] _ _ := ⟨⟨k__law_is_any_row, b__law_is_any_row⟩, PySem.W.mg_of X G a__law_is_any_row⟩
  have F__law_fits := fun_mk (st := s__law_fits) l__law_fits c__law_fits k__law_fits
  have b__law_fits := F__law_fits.binds (ps := ["rows", "load"]) fun _ _ _ _ _ _ us hl => match us, hl with | [_, _], _ => rfl
  have D__law_fits : DefG K mg "_law_fits" ["rows", "load"] _ _ := ⟨⟨k__law_fits, b__law_fits⟩, PySem.W.mg_of X G a__law_fits⟩
  have F__law_bent_load := fun_mk (st := s__law_bent_load) l__law_bent_load c__law_bent_load k__law_bent_load
  have b__law_bent_load := F__law_bent_load.binds (ps := ["pen", "load"]) fun _ _ _ _ _ _ us hl => match us, hl with | [_, _], _ => rfl
  have D__law_bent_load : DefG K mg "_law_bent_load" ["pen", "load"] _ _ := ⟨⟨k__law_bent_load, b__law_bent_load⟩, PySem.W.mg_of X G a__law_bent_load⟩
  have F__law_moved := fun_mk (st := s__law_moved) l__law_moved c__law_moved k__law_moved
  have b__law_moved := F__law_moved.binds (ps := ["pen", "load"]) fun _ _ _ _ _ _ us hl => match us, hl with | [_, _], _ => rfl
  have D__law_moved : DefG K mg "_law_moved" ["pen", "load"] _ _ := ⟨⟨k__law_moved, b__law_moved⟩, PySem.W.mg_of X G a__law_moved⟩
  have F__law_resting := fun_mk (st := s__law_resting) l__law_resting c__law_resting k__law_resting
  have b__law_resting := F__law_resting.binds (ps := ["rows", "load", "standing"]) fun _ _ _ _ _ _ us hl => match us, hl with | [_, _, _], _ => rfl
  have D__law_resting : DefG K mg "_law_resting" ["rows", "load", "standing"] _ _ := ⟨⟨k__law_resting, b__law_resting⟩, PySem.W.mg_of X G a__law_resting⟩
  have F__law_right := fun_mk (st := s__law_right) l__law_right c__law_right k__law_right
  have b__law_right := F__law_right.binds (ps := ["rows", "load", "standing"]) fun _ _ _ _ _ _ us hl => match us, hl with | [_, _, _], _ => rfl
  have D__law_right : DefG K mg "_law_right" ["rows", "load", "standing"] _ _ := ⟨⟨k__law_right, b__law_right⟩, PySem.W.mg_of X G a__law_right⟩
  have F__law_faults_right := fun_mk (st := s__law_faults_right) l__law_faults_right c__law_faults_right k__law_faults_right
  have b__law_faults_right := F__law_faults_right.binds (ps := ["pen", "rows", "load", "standing"]) fun _ _ _ _ _ _ us hl => match us, hl with | [_, _, _, _], _ => rfl
  have D__law_faults_right : DefG K mg "_law_faults_right" ["pen", "rows", "load", "standing"] _ _ := ⟨⟨k__law_faults_right, b__law_faults_right⟩, PySem.W.mg_of X G a__law_faults_right⟩
  have F_law := fun_mk (st := s_law) l_law c_law k_law
  have b_law := F_law.binds (ps := ["script"]) fun _ _ _ _ _ _ us hl => match us, hl with | [_], _ => rfl
  have D_law : DefG K mg "law" ["script"] _ _ := ⟨⟨k_law, b_law⟩, PySem.W.mg_of X G a_law⟩
  have F_BadFrame___init__ := fun_mk (st := s_BadFrame___init__) l_BadFrame___init__ c_BadFrame___init__ k_BadFrame___init__
  have b_BadFrame___init__ := F_BadFrame___init__.binds (ps := ["self", "what", "place"]) fun _ _ _ _ _ _ us hl => match us, hl with | [_, _, _], _ => rfl
  have D_BadFrame___init__ : DefAt K mg ["self", "what", "place"] _ _ := ⟨k_BadFrame___init__, b_BadFrame___init__⟩
  have no_BadFrame : ∀ f ∈ (["what", "place"] : List Str), PySem.W.findIn K (.ref C_BadFrame) f = some none := fun f hf => by
    simp only [List.mem_cons, List.mem_nil_iff, or_false] at hf
    rcases hf with rfl | rfl
    · exact nb_BadFrame_what
    · exact nb_BadFrame_place
  have O_BadFrame : ExOk K mg "BadFrame" C_BadFrame f_BadFrame___init__ ["what", "place"] := { gC := g_BadFrame, ox := ⟨⟨nm_BadFrame, q_BadFrame, N_BadFrame, bs_BadFrame, _, sn_BadFrame, su_BadFrame, ab_BadFrame, co_BadFrame, dd_BadFrame, m0_BadFrame, m1_BadFrame, m2_BadFrame, m3_BadFrame, m5_BadFrame, xL_BadFrame, by rfl⟩, sa_BadFrame, eC_BadFrame, tC_BadFrame, kC_BadFrame⟩, no := no_BadFrame, iC := a_BadFrame___init__, tI := tI_BadFrame }
  have F_BadLoad___init__ := fun_mk (st := s_BadLoad___init__) l_BadLoad___init__ c_BadLoad___init__ k_BadLoad___init__
  have b_BadLoad___init__ := F_BadLoad___init__.binds (ps := ["self", "what"]) fun _ _ _ _ _ _ us hl => match us, hl with | [_, _], _ => rfl
  have D_BadLoad___init__ : DefAt K mg ["self", "what"] _ _ := ⟨k_BadLoad___init__, b_BadLoad___init__⟩
  have no_BadLoad : ∀ f ∈ (["what"] : List Str), PySem.W.findIn K (.ref C_BadLoad) f = some none := fun f hf => by
    simp only [List.mem_cons, List.mem_nil_iff, or_false] at hf
    rcases hf with rfl
    · exact nb_BadLoad_what
  have O_BadLoad : ExOk K mg "BadLoad" C_BadLoad f_BadLoad___init__ ["what"] := { gC := g_BadLoad, ox := ⟨⟨nm_BadLoad, q_BadLoad, N_BadLoad, bs_BadLoad, _, sn_BadLoad, su_BadLoad, ab_BadLoad, co_BadLoad, dd_BadLoad, m0_BadLoad, m1_BadLoad, m2_BadLoad, m3_BadLoad, m5_BadLoad, xL_BadLoad, by rfl⟩, sa_BadLoad, eC_BadLoad, tC_BadLoad, kC_BadLoad⟩, no := no_BadLoad, iC := a_BadLoad___init__, tI := tI_BadLoad }
  have F_BadRow___init__ := fun_mk (st := s_BadRow___init__) l_BadRow___init__ c_BadRow___init__ k_BadRow___init__
  have b_BadRow___init__ := F_BadRow___init__.binds (ps := ["self", "what", "row"]) fun _ _ _ _ _ _ us hl => match us, hl with | [_, _, _], _ => rfl
  have D_BadRow___init__ : DefAt K mg ["self", "what", "row"] _ _ := ⟨k_BadRow___init__, b_BadRow___init__⟩
  have no_BadRow : ∀ f ∈ (["what", "row"] : List Str), PySem.W.findIn K (.ref C_BadRow) f = some none := fun f hf => by
    simp only [List.mem_cons, List.mem_nil_iff, or_false] at hf
    rcases hf with rfl | rfl
    · exact nb_BadRow_what
    · exact nb_BadRow_row
  have O_BadRow : ExOk K mg "BadRow" C_BadRow f_BadRow___init__ ["what", "row"] := { gC := g_BadRow, ox := ⟨⟨nm_BadRow, q_BadRow, N_BadRow, bs_BadRow, _, sn_BadRow, su_BadRow, ab_BadRow, co_BadRow, dd_BadRow, m0_BadRow, m1_BadRow, m2_BadRow, m3_BadRow, m5_BadRow, xL_BadRow, by rfl⟩, sa_BadRow, eC_BadRow, tC_BadRow, kC_BadRow⟩, no := no_BadRow, iC := a_BadRow___init__, tI := tI_BadRow }
  have M_Frame : MkOk K mg "Frame" C_Frame f_Frame___init__ := ⟨g_Frame, ⟨mk_Frame, a_Frame___init__, i_Frame___init__, kC_Frame⟩⟩
  let T : List (Addr × Str) := [(PT__law_faults_right, ("_law_faults_right.<locals>.<lambda>" : Str))]
  have hmT__law_faults_right : (PT__law_faults_right, ("_law_faults_right.<locals>.<lambda>" : Str)) ∈ T := by simp [T]
  have hu__law_faults_right : ∀ p ∈ T, p.1 = PT__law_faults_right → p.2 = ("_law_faults_right.<locals>.<lambda>" : Str) := fun p hp he => by
    rw [List.mem_singleton.mp hp]
  refine ⟨PySem.W.fnOf "law" "law" (defArgs s_law) (defBody s_law) (defScope s_law) .none kV_law dc_law pm_law an_law cd_law ct_law, [(cT__law_faults_right, PT__law_faults_right)], lSp ⟨K, cmOf mg, [], T⟩ 1 sp_law, ⟨?_, ?_, ?_⟩, fun s u => .of_eq rfl, fun H a ns hn hb hT hS => ?_, fun base hK hN hTB => ?_⟩
  · intro p hp
    rw [List.mem_singleton.mp hp]
    exact hTab__law_faults_right
  · intro p hp
    rw [List.mem_singleton.mp hp]
    exact nT__law_faults_right
  · intro p hp
    rw [List.mem_singleton.mp hp]
    exact PySem.W.codeHd_of_K X hdT__law_faults_right
  · refine ⟨H, fun _ => none, [.scr ns], fun d => d = .bl true, fun _ => False, (jn_none' H).symm, ⟨fun _ _ _ => rfl, fun _ _ z => by cases z⟩, ?_, ?_, rfl, ⟨ns, rfl, hn, rfl⟩, ⟨fun v d F' x dj rv q => by rw [q] at rv; exact rep_bl rv⟩, fun _ _ _ _ _ _ _ z => z.elim⟩
    · intro p hp
      rw [List.mem_singleton.mp hp]
      exact LamX.TabS.nil (hT (cT__law_faults_right, PT__law_faults_right) (by simp))
    · exact Reps.cons (by unfold Rep; exact ⟨a, rfl, hS⟩) Reps.nil
  · have TB__law_faults_right := hTB (cT__law_faults_right, PT__law_faults_right) (by simp)
    have G_BadFrame___init__ : FnOk l.prog w K mg base (L2.CX l.prog w) 1 _ _ ["self", "what", "place"] (spInit K ["what", "place"]) := ok_init2 F_BadFrame___init__ sc_BadFrame___init__ rfl (.inl rfl) (.inl rfl) rfl rfl (.inl rfl) rfl rfl
    have G_BadLoad___init__ : FnOk l.prog w K mg base (L2.CX l.prog w) 1 _ _ ["self", "what"] (spInit K ["what"]) := ok_init1 F_BadLoad___init__ sc_BadLoad___init__ rfl (.inl rfl) (.inl rfl) rfl rfl
    have G_BadRow___init__ : FnOk l.prog w K mg base (L2.CX l.prog w) 1 _ _ ["self", "what", "row"] (spInit K ["what", "row"]) := ok_init2 F_BadRow___init__ sc_BadRow___init__ rfl (.inl rfl) (.inl rfl) rfl rfl (.inl rfl) rfl rfl
    have G_is_integer := ok_is_integer (P := l.prog) (w := w) (base := base) (T := T) Z Y  F_is_integer
    have G_is_ratio := ok_is_ratio (P := l.prog) (w := w) (base := base) (T := T) Z Y D_is_integer G_is_integer F_is_ratio
    have G_pair := ok_pair (P := l.prog) (w := w) (base := base) (T := T) Z Y  F_pair
    have G_in_lowest := ok_in_lowest (P := l.prog) (w := w) (base := base) (T := T) Z Y  F_in_lowest
    have G_added := ok_added (P := l.prog) (w := w) (base := base) (T := T) Z Y D_pair G_pair D_in_lowest G_in_lowest F_added
    have G_sign_of := ok_sign_of (P := l.prog) (w := w) (base := base) (T := T) Z Y  F_sign_of
    have G_summed := ok_summed (P := l.prog) (w := w) (base := base) (T := T) Z Y D_pair G_pair D_in_lowest G_in_lowest F_summed
    have G_as_tuples := ok_as_tuples (P := l.prog) (w := w) (base := base) (T := T) Z Y  D_as_tuples F_as_tuples 8
    have G_is_list := ok_is_list (P := l.prog) (w := w) (base := base) (T := T) Z Y  F_is_list
    have G_is_row := ok_is_row (P := l.prog) (w := w) (base := base) (T := T) Z Y D_is_list G_is_list D_is_ratio G_is_ratio F_is_row
    have G_is_told_row := ok_is_told_row (P := l.prog) (w := w) (base := base) (T := T) Z Y D_is_row G_is_row F_is_told_row
    have G_Frame___init__ := ok_Frame___init__ (P := l.prog) (w := w) (base := base) (T := T) Z Y D_is_list G_is_list O_BadFrame D_BadFrame___init__ G_BadFrame___init__ D_is_row G_is_row D_as_tuples G_as_tuples F_Frame___init__
    have G_fits := ok_fits (P := l.prog) (w := w) (base := base) (T := T) Z Y D_is_list G_is_list D_is_row G_is_row F_fits
    have G_need_load := ok_need_load (P := l.prog) (w := w) (base := base) (T := T) Z Y D_fits G_fits O_BadLoad D_BadLoad___init__ G_BadLoad___init__ F_need_load
    have G_need_row := ok_need_row (P := l.prog) (w := w) (base := base) (T := T) Z Y D_is_row G_is_row O_BadRow D_BadRow___init__ G_BadRow___init__ F_need_row
    have G_slack_at := ok_slack_at (P := l.prog) (w := w) (base := base) (T := T) Z Y D_added G_added D_summed G_summed F_slack_at
    have G_slacks_at := ok_slacks_at (P := l.prog) (w := w) (base := base) (T := T) Z Y D_slack_at G_slack_at F_slacks_at
    have G_slacks := ok_slacks (P := l.prog) (w := w) (base := base) (T := T) Z Y D_need_load G_need_load D_need_row G_need_row D_slacks_at G_slacks_at F_slacks
    have G_resting := ok_resting (P := l.prog) (w := w) (base := base) (T := T) Z Y D_slacks G_slacks F_resting
    have G_answers_at := ok_answers_at (P := l.prog) (w := w) (base := base) (T := T) Z Y D_sign_of G_sign_of D_slack_at G_slack_at F_answers_at
    have G_is_answer := ok_is_answer (P := l.prog) (w := w) (base := base) (T := T) Z Y D_need_load G_need_load D_is_told_row G_is_told_row D_answers_at G_answers_at F_is_answer
    have G__law_pen := ok__law_pen (P := l.prog) (w := w) (base := base) (T := T) Z Y  F__law_pen
    have G__law_draw := ok__law_draw (P := l.prog) (w := w) (base := base) (T := T) (PySem.W.mg_none_of X G z_len) (PySem.W.mg_none_of X G z_int) F__law_draw
    have G__law_pick := ok__law_pick (P := l.prog) (w := w) (base := base) (T := T) Z Y D__law_draw G__law_draw F__law_pick
    have G__law_shuffled := ok__law_shuffled (P := l.prog) (w := w) (base := base) (T := T) Z Y D__law_draw G__law_draw F__law_shuffled
    have G__law_is := ok__law_is (P := l.prog) (w := w) (base := base) (T := T) Z Y  D__law_is F__law_is 8
    have G__law_says := ok__law_says (P := l.prog) (w := w) (base := base) (T := T) Z Y  F__law_says
    have G__law_divisor := ok__law_divisor (P := l.prog) (w := w) (base := base) (T := T) Z Y  F__law_divisor
    have G__law_low := ok__law_low (P := l.prog) (w := w) (base := base) (T := T) Z Y D__law_divisor G__law_divisor F__law_low
    have G__law_pair := ok__law_pair (P := l.prog) (w := w) (base := base) (T := T) Z Y  F__law_pair
    have G__law_plus := ok__law_plus (P := l.prog) (w := w) (base := base) (T := T) Z Y D__law_pair G__law_pair D__law_low G__law_low F__law_plus
    have G__law_opposite := ok__law_opposite (P := l.prog) (w := w) (base := base) (T := T) Z Y  F__law_opposite
    have G__law_minus := ok__law_minus (P := l.prog) (w := w) (base := base) (T := T) Z Y D__law_plus G__law_plus D__law_opposite G__law_opposite F__law_minus
    have G__law_sign := ok__law_sign (P := l.prog) (w := w) (base := base) (T := T) Z Y D__law_pair G__law_pair F__law_sign
    have G__law_dot := ok__law_dot (P := l.prog) (w := w) (base := base) (T := T) Z Y D__law_pair G__law_pair D__law_low G__law_low F__law_dot
    have G__law_is_whole := ok__law_is_whole (P := l.prog) (w := w) (base := base) (T := T) Z Y  F__law_is_whole
    have G__law_is_ratio := ok__law_is_ratio (P := l.prog) (w := w) (base := base) (T := T) Z Y D__law_is_whole G__law_is_whole D__law_divisor G__law_divisor F__law_is_ratio
    have G__law_wide := ok__law_wide (P := l.prog) (w := w) (base := base) (T := T) Z Y D__law_draw G__law_draw F__law_wide
    have G__law_number := ok__law_number (P := l.prog) (w := w) (base := base) (T := T) Z Y D__law_draw G__law_draw D__law_low G__law_low D__law_wide G__law_wide F__law_number
    have G__law_row := ok__law_row (P := l.prog) (w := w) (base := base) (T := T) Z Y D__law_draw G__law_draw D__law_number G__law_number F__law_row
    have G__law_counts := ok__law_counts (P := l.prog) (w := w) (base := base) (T := T) Z Y D__law_pick G__law_pick D__law_shuffled G__law_shuffled F__law_counts
    have G__law_any_frame := ok__law_any_frame (P := l.prog) (w := w) (base := base) (T := T) Z Y D__law_row G__law_row F__law_any_frame
    have G__law_slacks := ok__law_slacks (P := l.prog) (w := w) (base := base) (T := T) Z Y D__law_plus G__law_plus D__law_dot G__law_dot F__law_slacks
    have G__law_answers := ok__law_answers (P := l.prog) (w := w) (base := base) (T := T) Z Y D__law_slacks G__law_slacks D__law_sign G__law_sign F__law_answers
    have G__law_load_at := ok__law_load_at (P := l.prog) (w := w) (base := base) (T := T) Z Y D__law_draw G__law_draw D__law_number G__law_number D__law_sign G__law_sign D__law_opposite G__law_opposite D__law_minus G__law_minus D__law_dot G__law_dot F__law_load_at
    have G__law_made := ok__law_made (P := l.prog) (w := w) (base := base) (T := T) Z Y M_Frame D_Frame___init__ G_Frame___init__ F__law_made
    have G__law_more_kinds := ok__law_more_kinds (P := l.prog) (w := w) (base := base) (T := T) Z Y Xn F__law_more_kinds
    have G__law_kinds := ok__law_kinds (P := l.prog) (w := w) (base := base) (T := T) Z Y D__law_more_kinds G__law_more_kinds Xn F__law_kinds
    have G__law_odd := ok__law_odd (P := l.prog) (w := w) (base := base) (T := T) Z Y D__law_pick G__law_pick F__law_odd
    have G__law_bent_row := ok__law_bent_row (P := l.prog) (w := w) (base := base) (T := T) Z Y D__law_draw G__law_draw D__law_odd G__law_odd D__law_pick G__law_pick F__law_bent_row
    have G__law_is_list := ok__law_is_list (P := l.prog) (w := w) (base := base) (T := T) Z Y  F__law_is_list
    have G__law_is_any_row := ok__law_is_any_row (P := l.prog) (w := w) (base := base) (T := T) Z Y D__law_is_list G__law_is_list D__law_is_ratio G__law_is_ratio F__law_is_any_row
    have G__law_fits := ok__law_fits (P := l.prog) (w := w) (base := base) (T := T) Z Y D__law_is_list G__law_is_list D__law_is_any_row G__law_is_any_row F__law_fits
    have G__law_bent_load := ok__law_bent_load (P := l.prog) (w := w) (base := base) (T := T) Z Y D__law_draw G__law_draw D__law_pick G__law_pick D__law_bent_row G__law_bent_row F__law_bent_load
    have G__law_moved := ok__law_moved (P := l.prog) (w := w) (base := base) (T := T) Z Y D__law_draw G__law_draw D__law_pick G__law_pick D__law_plus G__law_plus F__law_moved
    have G__law_resting := ok__law_resting (P := l.prog) (w := w) (base := base) (T := T) Z Y D__law_slacks G__law_slacks F__law_resting
    have G__law_right := ok__law_right (P := l.prog) (w := w) (base := base) (T := T) Z Y D__law_made G__law_made D__law_is G__law_is D__law_slacks G__law_slacks D_slacks G_slacks D__law_resting G__law_resting D_resting G_resting D__law_answers G__law_answers D_is_answer G_is_answer D__law_says G__law_says F__law_right
    have G__law_faults_right := ok__law_faults_right (P := l.prog) (w := w) (base := base) (T := T) Z Y D__law_made G__law_made D__law_draw G__law_draw D__law_bent_load G__law_bent_load D__law_bent_row G__law_bent_row D__law_fits G__law_fits D_is_answer G_is_answer D__law_is_any_row G__law_is_any_row D_slacks G_slacks D_resting G_resting D__law_fault F__law_fault Xn g_RestsError D__law_kinds G__law_kinds XR TB__law_faults_right hmT__law_faults_right hu__law_faults_right cdT__law_faults_right F__law_faults_right
    have G_law := ok_law (P := l.prog) (w := w) (base := base) (T := T) Z Y D__law_pen G__law_pen D__law_any_frame G__law_any_frame D__law_pick G__law_pick D__law_counts G__law_counts D__law_draw G__law_draw D__law_row G__law_row D__law_load_at G__law_load_at D_is_answer G_is_answer D__law_made G__law_made D__law_right G__law_right D__law_moved G__law_moved D__law_faults_right G__law_faults_right F_law
    exact G_law
end Cl
open PySem PySem.W PySem.Calls  PyProof.Rows
open PySem PySem.W in
open PyProof.Rows in
set_option maxRecDepth 120000 in
set_option maxHeartbeats 0 in
theorem PySem.Challenge.cw_onerests_k07_slacks_and_answers_holds : PySem.Challenge.rw_onerests_k07_slacks_and_answers.Holds := by
  w_on; o_law
  refine HandSHeadRun.head_imp (r := (PySem.W.OpenLaw.row PySem.Challenge.rw_onerests_k07_slacks_and_answers)) (q := Cl.qv) (H := Cl.hkC) (ob := Cl.obC) (M := 30000) (loose := Cl.looseN) (d := Cl.dl) (kwd := []) (fun s => Cl.km_ob s) Cl.run_h (by kernel_rfl) (by kernel_rfl) (by kernel_rfl) (by rfl) (by first | assumption | decide +kernel) (by decide +kernel) ⟨rfl, rfl, rfl, rfl, rfl, by decide +kernel⟩ ?hw ?hc
  (case hw => w_witness2)
  k_fill
  refine L3.walkG (l := PySem.Challenge.rw_onerests_k07_slacks_and_answers) (n := 63) (k := 15) (x := "script") rfl (by decide) (by kernel_rfl) ⟨⟨rfl, by decide, by decide⟩, rfl⟩ (fun w h Y => PySem.W.km_in_of Y) ?F
  case F =>
    intro w mg fa h Y KX G hmg
    have hmg : mg ("law" : PySem.Str) = some (.ref fa) :=  by
      have e : Cl.dl.name = ("law" : PySem.Str) := by kernel_rfl
      rw [← e]
      exact hmg
    refine' Cl.all_mk KX G hmg ?A_BadFrame ?A_BadHouse ?A_BadLoad ?A_BadName ?A_BadNet ?A_BadNumber ?A_BadRow ?A_BadTable ?A_BadText ?A_BadWeb ?A_Flat ?A_Frame ?A_NoName ?A_NoPlace ?A_NoRow ?A_NoWall ?A_NotKept ?A_NotOnce ?A_NotPlain ?A_NothingToRedo ?A_NothingToUndo ?A_RestsError ?A_TakenName ?A_TooMany ?A_Unlike ?a_is_integer ?l_is_integer ?c_is_integer ?k_is_integer ?a_is_ratio ?l_is_ratio ?c_is_ratio ?k_is_ratio ?a_pair ?l_pair ?c_pair ?k_pair ?a_in_lowest ?l_in_lowest ?c_in_lowest ?k_in_lowest ?a_added ?l_added ?c_added ?k_added ?a_sign_of ?l_sign_of ?c_sign_of ?k_sign_of ?a_summed ?l_summed ?c_summed ?k_summed ?a_as_tuples ?l_as_tuples ?c_as_tuples ?k_as_tuples ?a_is_list ?l_is_list ?c_is_list ?k_is_list ?a_is_row ?l_is_row ?c_is_row ?k_is_row ?a_is_told_row ?l_is_told_row ?c_is_told_row ?k_is_told_row ?a_Frame___init__ ?l_Frame___init__ ?c_Frame___init__ ?k_Frame___init__ ?a_fits ?l_fits ?c_fits ?k_fits ?a_need_load ?l_need_load ?c_need_load ?k_need_load ?a_need_row ?l_need_row ?c_need_row ?k_need_row ?a_slack_at ?l_slack_at ?c_slack_at ?k_slack_at ?a_slacks_at ?l_slacks_at ?c_slacks_at ?k_slacks_at ?a_slacks ?l_slacks ?c_slacks ?k_slacks ?a_resting ?l_resting ?c_resting ?k_resting ?a_answers_at ?l_answers_at ?c_answers_at ?k_answers_at ?a_is_answer ?l_is_answer ?c_is_answer ?k_is_answer ?a__law_pen ?l__law_pen ?c__law_pen ?k__law_pen ?a__law_draw ?l__law_draw ?c__law_draw ?k__law_draw ?a__law_pick ?l__law_pick ?c__law_pick ?k__law_pick ?a__law_shuffled ?l__law_shuffled ?c__law_shuffled ?k__law_shuffled ?a__law_is ?l__law_is ?c__law_is ?k__law_is ?a__law_says ?l__law_says ?c__law_says ?k__law_says ?a__law_divisor ?l__law_divisor ?c__law_divisor ?k__law_divisor ?a__law_low ?l__law_low ?c__law_low ?k__law_low ?a__law_pair ?l__law_pair ?c__law_pair ?k__law_pair ?a__law_plus ?l__law_plus ?c__law_plus ?k__law_plus ?a__law_opposite ?l__law_opposite ?c__law_opposite ?k__law_opposite ?a__law_minus ?l__law_minus ?c__law_minus ?k__law_minus ?a__law_sign ?l__law_sign ?c__law_sign ?k__law_sign ?a__law_dot ?l__law_dot ?c__law_dot ?k__law_dot ?a__law_is_whole ?l__law_is_whole ?c__law_is_whole ?k__law_is_whole ?a__law_is_ratio ?l__law_is_ratio ?c__law_is_ratio ?k__law_is_ratio ?a__law_wide ?l__law_wide ?c__law_wide ?k__law_wide ?a__law_number ?l__law_number ?c__law_number ?k__law_number ?a__law_row ?l__law_row ?c__law_row ?k__law_row ?a__law_counts ?l__law_counts ?c__law_counts ?k__law_counts ?a__law_any_frame ?l__law_any_frame ?c__law_any_frame ?k__law_any_frame ?a__law_slacks ?l__law_slacks ?c__law_slacks ?k__law_slacks ?a__law_answers ?l__law_answers ?c__law_answers ?k__law_answers ?a__law_load_at ?l__law_load_at ?c__law_load_at ?k__law_load_at ?a__law_made ?l__law_made ?c__law_made ?k__law_made ?a__law_more_kinds ?l__law_more_kinds ?c__law_more_kinds ?k__law_more_kinds ?a__law_kinds ?l__law_kinds ?c__law_kinds ?k__law_kinds ?a__law_fault ?l__law_fault ?c__law_fault ?k__law_fault ?a__law_odd ?l__law_odd ?c__law_odd ?k__law_odd ?a__law_bent_row ?l__law_bent_row ?c__law_bent_row ?k__law_bent_row ?a__law_is_list ?l__law_is_list ?c__law_is_list ?k__law_is_list ?a__law_is_any_row ?l__law_is_any_row ?c__law_is_any_row ?k__law_is_any_row ?a__law_fits ?l__law_fits ?c__law_fits ?k__law_fits ?a__law_bent_load ?l__law_bent_load ?c__law_bent_load ?k__law_bent_load ?a__law_moved ?l__law_moved ?c__law_moved ?k__law_moved ?a__law_resting ?l__law_resting ?c__law_resting ?k__law_resting ?a__law_right ?l__law_right ?c__law_right ?k__law_right ?a__law_faults_right ?l__law_faults_right ?c__law_faults_right ?k__law_faults_right ?a_law ?l_law ?c_law ?k_law ?a_BadFrame___init__ ?l_BadFrame___init__ ?c_BadFrame___init__ ?k_BadFrame___init__ ?xL_BadFrame ?sa_BadFrame ?eC_BadFrame ?tC_BadFrame ?kC_BadFrame ?tI_BadFrame ?nb_BadFrame_what ?nb_BadFrame_place ?a_BadLoad___init__ ?l_BadLoad___init__ ?c_BadLoad___init__ ?k_BadLoad___init__ ?xL_BadLoad ?sa_BadLoad ?eC_BadLoad ?tC_BadLoad ?kC_BadLoad ?tI_BadLoad ?nb_BadLoad_what ?a_BadRow___init__ ?l_BadRow___init__ ?c_BadRow___init__ ?k_BadRow___init__ ?xL_BadRow ?sa_BadRow ?eC_BadRow ?tC_BadRow ?kC_BadRow ?tI_BadRow ?nb_BadRow_what ?nb_BadRow_row ?pg_Frame ?hd_Frame ?po_Frame ?sa_Frame ?mk_Frame ?kC_Frame ?i_Frame___init__ ?na_Frame_rows ?z_ValueError ?z_abs ?z_all ?z_bool ?z_int ?z_isinstance ?z_len ?z_list ?z_min ?z_range ?z_repr ?z_str ?z_tuple ?z_zip ?z_MOST_PLACES ?z_MOST_ROWS ?z_gcd ?cl_BadLoad ?ga_BadLoad ?gg_BadLoad ?fc_BadLoad ?mo_BadLoad ?hD_BadLoad ?ve_BadLoad ?er_BadLoad ?kt_BadLoad_BadFrame ?kt_BadLoad_BadHouse ?kt_BadLoad_BadLoad ?kt_BadLoad_BadName ?kt_BadLoad_BadNet ?kt_BadLoad_BadNumber ?kt_BadLoad_BadRow ?kt_BadLoad_BadTable ?kt_BadLoad_BadText ?kt_BadLoad_BadWeb ?kt_BadLoad_Flat ?kt_BadLoad_NoName ?kt_BadLoad_NoPlace ?kt_BadLoad_NoRow ?kt_BadLoad_NoWall ?kt_BadLoad_NotKept ?kt_BadLoad_NotOnce ?kt_BadLoad_NotPlain ?kt_BadLoad_NothingToRedo ?kt_BadLoad_NothingToUndo ?kt_BadLoad_TakenName ?kt_BadLoad_TooMany ?kt_BadLoad_Unlike ?cl_BadRow ?ga_BadRow ?gg_BadRow ?fc_BadRow ?mo_BadRow ?hD_BadRow ?ve_BadRow ?er_BadRow ?kt_BadRow_BadFrame ?kt_BadRow_BadHouse ?kt_BadRow_BadLoad ?kt_BadRow_BadName ?kt_BadRow_BadNet ?kt_BadRow_BadNumber ?kt_BadRow_BadRow ?kt_BadRow_BadTable ?kt_BadRow_BadText ?kt_BadRow_BadWeb ?kt_BadRow_Flat ?kt_BadRow_NoName ?kt_BadRow_NoPlace ?kt_BadRow_NoRow ?kt_BadRow_NoWall ?kt_BadRow_NotKept ?kt_BadRow_NotOnce ?kt_BadRow_NotPlain ?kt_BadRow_NothingToRedo ?kt_BadRow_NothingToUndo ?kt_BadRow_TakenName ?kt_BadRow_TooMany ?kt_BadRow_Unlike ?spc ?tkc ?cdT__law_faults_right ?hdT__law_faults_right ?nT__law_faults_right ?hTab__law_faults_right
    (case A_BadFrame => k_is)
    (case A_BadHouse => k_is)
    (case A_BadLoad => k_is)
    (case A_BadName => k_is)
    (case A_BadNet => k_is)
    (case A_BadNumber => k_is)
    (case A_BadRow => k_is)
    (case A_BadTable => k_is)
    (case A_BadText => k_is)
    (case A_BadWeb => k_is)
    (case A_Flat => k_is)
    (case A_Frame => k_is)
    (case A_NoName => k_is)
    (case A_NoPlace => k_is)
    (case A_NoRow => k_is)
    (case A_NoWall => k_is)
    (case A_NotKept => k_is)
    (case A_NotOnce => k_is)
    (case A_NotPlain => k_is)
    (case A_NothingToRedo => k_is)
    (case A_NothingToUndo => k_is)
    (case A_RestsError => k_is)
    (case A_TakenName => k_is)
    (case A_TooMany => k_is)
    (case A_Unlike => k_is)
    (case a_is_integer => k_is)
    (case l_is_integer => k_is)
    (case c_is_integer => k_is)
    (case k_is_integer => k_is)
    (case a_is_ratio => k_is)
    (case l_is_ratio => k_is)
    (case c_is_ratio => k_is)
    (case k_is_ratio => k_is)
    (case a_pair => k_is)
    (case l_pair => k_is)
    (case c_pair => k_is)
    (case k_pair => k_is)
    (case a_in_lowest => k_is)
    (case l_in_lowest => k_is)
    (case c_in_lowest => k_is)
    (case k_in_lowest => k_is)
    (case a_added => k_is)
    (case l_added => k_is)
    (case c_added => k_is)
    (case k_added => k_is)
    (case a_sign_of => k_is)
    (case l_sign_of => k_is)
    (case c_sign_of => k_is)
    (case k_sign_of => k_is)
    (case a_summed => k_is)
    (case l_summed => k_is)
    (case c_summed => k_is)
    (case k_summed => k_is)
    (case a_as_tuples => k_is)
    (case l_as_tuples => k_is)
    (case c_as_tuples => k_is)
    (case k_as_tuples => k_is)
    (case a_is_list => k_is)
    (case l_is_list => k_is)
    (case c_is_list => k_is)
    (case k_is_list => k_is)
    (case a_is_row => k_is)
    (case l_is_row => k_is)
    (case c_is_row => k_is)
    (case k_is_row => k_is)
    (case a_is_told_row => k_is)
    (case l_is_told_row => k_is)
    (case c_is_told_row => k_is)
    (case k_is_told_row => k_is)
    (case a_Frame___init__ => k_is)
    (case l_Frame___init__ => k_is)
    (case c_Frame___init__ => k_is)
    (case k_Frame___init__ => k_is)
    (case a_fits => k_is)
    (case l_fits => k_is)
    (case c_fits => k_is)
    (case k_fits => k_is)
    (case a_need_load => k_is)
    (case l_need_load => k_is)
    (case c_need_load => k_is)
    (case k_need_load => k_is)
    (case a_need_row => k_is)
    (case l_need_row => k_is)
    (case c_need_row => k_is)
    (case k_need_row => k_is)
    (case a_slack_at => k_is)
    (case l_slack_at => k_is)
    (case c_slack_at => k_is)
    (case k_slack_at => k_is)
    (case a_slacks_at => k_is)
    (case l_slacks_at => k_is)
    (case c_slacks_at => k_is)
    (case k_slacks_at => k_is)
    (case a_slacks => k_is)
    (case l_slacks => k_is)
    (case c_slacks => k_is)
    (case k_slacks => k_is)
    (case a_resting => k_is)
    (case l_resting => k_is)
    (case c_resting => k_is)
    (case k_resting => k_is)
    (case a_answers_at => k_is)
    (case l_answers_at => k_is)
    (case c_answers_at => k_is)
    (case k_answers_at => k_is)
    (case a_is_answer => k_is)
    (case l_is_answer => k_is)
    (case c_is_answer => k_is)
    (case k_is_answer => k_is)
    (case a__law_pen => k_is)
    (case l__law_pen => k_is)
    (case c__law_pen => k_is)
    (case k__law_pen => k_is)
    (case a__law_draw => k_is)
    (case l__law_draw => k_is)
    (case c__law_draw => k_is)
    (case k__law_draw => k_is)
    (case a__law_pick => k_is)
    (case l__law_pick => k_is)
    (case c__law_pick => k_is)
    (case k__law_pick => k_is)
    (case a__law_shuffled => k_is)
    (case l__law_shuffled => k_is)
    (case c__law_shuffled => k_is)
    (case k__law_shuffled => k_is)
    (case a__law_is => k_is)
    (case l__law_is => k_is)
    (case c__law_is => k_is)
    (case k__law_is => k_is)
    (case a__law_says => k_is)
    (case l__law_says => k_is)
    (case c__law_says => k_is)
    (case k__law_says => k_is)
    (case a__law_divisor => k_is)
    (case l__law_divisor => k_is)
    (case c__law_divisor => k_is)
    (case k__law_divisor => k_is)
    (case a__law_low => k_is)
    (case l__law_low => k_is)
    (case c__law_low => k_is)
    (case k__law_low => k_is)
    (case a__law_pair => k_is)
    (case l__law_pair => k_is)
    (case c__law_pair => k_is)
    (case k__law_pair => k_is)
    (case a__law_plus => k_is)
    (case l__law_plus => k_is)
    (case c__law_plus => k_is)
    (case k__law_plus => k_is)
    (case a__law_opposite => k_is)
    (case l__law_opposite => k_is)
    (case c__law_opposite => k_is)
    (case k__law_opposite => k_is)
    (case a__law_minus => k_is)
    (case l__law_minus => k_is)
    (case c__law_minus => k_is)
    (case k__law_minus => k_is)
    (case a__law_sign => k_is)
    (case l__law_sign => k_is)
    (case c__law_sign => k_is)
    (case k__law_sign => k_is)
    (case a__law_dot => k_is)
    (case l__law_dot => k_is)
    (case c__law_dot => k_is)
    (case k__law_dot => k_is)
    (case a__law_is_whole => k_is)
    (case l__law_is_whole => k_is)
    (case c__law_is_whole => k_is)
    (case k__law_is_whole => k_is)
    (case a__law_is_ratio => k_is)
    (case l__law_is_ratio => k_is)
    (case c__law_is_ratio => k_is)
    (case k__law_is_ratio => k_is)
    (case a__law_wide => k_is)
    (case l__law_wide => k_is)
    (case c__law_wide => k_is)
    (case k__law_wide => k_is)
    (case a__law_number => k_is)
    (case l__law_number => k_is)
    (case c__law_number => k_is)
    (case k__law_number => k_is)
    (case a__law_row => k_is)
    (case l__law_row => k_is)
    (case c__law_row => k_is)
    (case k__law_row => k_is)
    (case a__law_counts => k_is)
    (case l__law_counts => k_is)
    (case c__law_counts => k_is)
    (case k__law_counts => k_is)
    (case a__law_any_frame => k_is)
    (case l__law_any_frame => k_is)
    (case c__law_any_frame => k_is)
    (case k__law_any_frame => k_is)
    (case a__law_slacks => k_is)
    (case l__law_slacks => k_is)
    (case c__law_slacks => k_is)
    (case k__law_slacks => k_is)
    (case a__law_answers => k_is)
    (case l__law_answers => k_is)
    (case c__law_answers => k_is)
    (case k__law_answers => k_is)
    (case a__law_load_at => k_is)
    (case l__law_load_at => k_is)
    (case c__law_load_at => k_is)
    (case k__law_load_at => k_is)
    (case a__law_made => k_is)
    (case l__law_made => k_is)
    (case c__law_made => k_is)
    (case k__law_made => k_is)
    (case a__law_more_kinds => k_is)
    (case l__law_more_kinds => k_is)
    (case c__law_more_kinds => k_is)
    (case k__law_more_kinds => k_is)
    (case a__law_kinds => k_is)
    (case l__law_kinds => k_is)
    (case c__law_kinds => k_is)
    (case k__law_kinds => k_is)
    (case a__law_fault => k_is)
    (case l__law_fault => k_is)
    (case c__law_fault => k_is)
    (case k__law_fault => k_is)
    (case a__law_odd => k_is)
    (case l__law_odd => k_is)
    (case c__law_odd => k_is)
    (case k__law_odd => k_is)
    (case a__law_bent_row => k_is)
    (case l__law_bent_row => k_is)
    (case c__law_bent_row => k_is)
    (case k__law_bent_row => k_is)
    (case a__law_is_list => k_is)
    (case l__law_is_list => k_is)
    (case c__law_is_list => k_is)
    (case k__law_is_list => k_is)
    (case a__law_is_any_row => k_is)
    (case l__law_is_any_row => k_is)
    (case c__law_is_any_row => k_is)
    (case k__law_is_any_row => k_is)
    (case a__law_fits => k_is)
    (case l__law_fits => k_is)
    (case c__law_fits => k_is)
    (case k__law_fits => k_is)
    (case a__law_bent_load => k_is)
    (case l__law_bent_load => k_is)
    (case c__law_bent_load => k_is)
    (case k__law_bent_load => k_is)
    (case a__law_moved => k_is)
    (case l__law_moved => k_is)
    (case c__law_moved => k_is)
    (case k__law_moved => k_is)
    (case a__law_resting => k_is)
    (case l__law_resting => k_is)
    (case c__law_resting => k_is)
    (case k__law_resting => k_is)
    (case a__law_right => k_is)
    (case l__law_right => k_is)
    (case c__law_right => k_is)
    (case k__law_right => k_is)
    (case a__law_faults_right => k_is)
    (case l__law_faults_right => k_is)
    (case c__law_faults_right => k_is)
    (case k__law_faults_right => k_is)
    (case a_law => k_is)
    (case l_law => k_is)
    (case c_law => k_is)
    (case k_law => k_is)
    (case a_BadFrame___init__ => k_is)
    (case l_BadFrame___init__ => k_is)
    (case c_BadFrame___init__ => k_is)
    (case k_BadFrame___init__ => k_is)
    (case xL_BadFrame => k_is)
    (case sa_BadFrame => k_is)
    (case eC_BadFrame => k_is)
    (case tC_BadFrame => k_is)
    (case kC_BadFrame => k_is)
    (case tI_BadFrame => k_is)
    (case nb_BadFrame_what => k_is)
    (case nb_BadFrame_place => k_is)
    (case a_BadLoad___init__ => k_is)
    (case l_BadLoad___init__ => k_is)
    (case c_BadLoad___init__ => k_is)
    (case k_BadLoad___init__ => k_is)
    (case xL_BadLoad => k_is)
    (case sa_BadLoad => k_is)
    (case eC_BadLoad => k_is)
    (case tC_BadLoad => k_is)
    (case kC_BadLoad => k_is)
    (case tI_BadLoad => k_is)
    (case nb_BadLoad_what => k_is)
    (case a_BadRow___init__ => k_is)
    (case l_BadRow___init__ => k_is)
    (case c_BadRow___init__ => k_is)
    (case k_BadRow___init__ => k_is)
    (case xL_BadRow => k_is)
    (case sa_BadRow => k_is)
    (case eC_BadRow => k_is)
    (case tC_BadRow => k_is)
    (case kC_BadRow => k_is)
    (case tI_BadRow => k_is)
    (case nb_BadRow_what => k_is)
    (case nb_BadRow_row => k_is)
    (case pg_Frame => k_is)
    (case hd_Frame => k_is)
    (case po_Frame => k_is)
    (case sa_Frame => k_is)
    (case mk_Frame => k_is)
    (case kC_Frame => k_is)
    (case i_Frame___init__ => k_is)
    (case na_Frame_rows => k_is)
    (case z_ValueError => k_is)
    (case z_abs => k_is)
    (case z_all => k_is)
    (case z_bool => k_is)
    (case z_int => k_is)
    (case z_isinstance => k_is)
    (case z_len => k_is)
    (case z_list => k_is)
    (case z_min => k_is)
    (case z_range => k_is)
    (case z_repr => k_is)
    (case z_str => k_is)
    (case z_tuple => k_is)
    (case z_zip => k_is)
    (case z_MOST_PLACES => k_is)
    (case z_MOST_ROWS => k_is)
    (case z_gcd => k_is)
    (case cl_BadLoad => kernel_rfl)
    (case ga_BadLoad => k_is)
    (case gg_BadLoad => k_is)
    (case fc_BadLoad => k_is)
    (case mo_BadLoad => k_is)
    (case hD_BadLoad => k_is)
    (case ve_BadLoad => kit_is)
    (case er_BadLoad => kts_exm)
    (case kt_BadLoad_BadFrame => kit_is)
    (case kt_BadLoad_BadHouse => kit_is)
    (case kt_BadLoad_BadLoad => kit_is)
    (case kt_BadLoad_BadName => kit_is)
    (case kt_BadLoad_BadNet => kit_is)
    (case kt_BadLoad_BadNumber => kit_is)
    (case kt_BadLoad_BadRow => kit_is)
    (case kt_BadLoad_BadTable => kit_is)
    (case kt_BadLoad_BadText => kit_is)
    (case kt_BadLoad_BadWeb => kit_is)
    (case kt_BadLoad_Flat => kit_is)
    (case kt_BadLoad_NoName => kit_is)
    (case kt_BadLoad_NoPlace => kit_is)
    (case kt_BadLoad_NoRow => kit_is)
    (case kt_BadLoad_NoWall => kit_is)
    (case kt_BadLoad_NotKept => kit_is)
    (case kt_BadLoad_NotOnce => kit_is)
    (case kt_BadLoad_NotPlain => kit_is)
    (case kt_BadLoad_NothingToRedo => kit_is)
    (case kt_BadLoad_NothingToUndo => kit_is)
    (case kt_BadLoad_TakenName => kit_is)
    (case kt_BadLoad_TooMany => kit_is)
    (case kt_BadLoad_Unlike => kit_is)
    (case cl_BadRow => kernel_rfl)
    (case ga_BadRow => k_is)
    (case gg_BadRow => k_is)
    (case fc_BadRow => k_is)
    (case mo_BadRow => k_is)
    (case hD_BadRow => k_is)
    (case ve_BadRow => kit_is)
    (case er_BadRow => kts_exm)
    (case kt_BadRow_BadFrame => kit_is)
    (case kt_BadRow_BadHouse => kit_is)
    (case kt_BadRow_BadLoad => kit_is)
    (case kt_BadRow_BadName => kit_is)
    (case kt_BadRow_BadNet => kit_is)
    (case kt_BadRow_BadNumber => kit_is)
    (case kt_BadRow_BadRow => kit_is)
    (case kt_BadRow_BadTable => kit_is)
    (case kt_BadRow_BadText => kit_is)
    (case kt_BadRow_BadWeb => kit_is)
    (case kt_BadRow_Flat => kit_is)
    (case kt_BadRow_NoName => kit_is)
    (case kt_BadRow_NoPlace => kit_is)
    (case kt_BadRow_NoRow => kit_is)
    (case kt_BadRow_NoWall => kit_is)
    (case kt_BadRow_NotKept => kit_is)
    (case kt_BadRow_NotOnce => kit_is)
    (case kt_BadRow_NotPlain => kit_is)
    (case kt_BadRow_NothingToRedo => kit_is)
    (case kt_BadRow_NothingToUndo => kit_is)
    (case kt_BadRow_TakenName => kit_is)
    (case kt_BadRow_TooMany => kit_is)
    (case kt_BadRow_Unlike => kit_is)
    (case spc => k_is)
    (case tkc => k_is)
    (case cdT__law_faults_right => rfl)
    (case hTab__law_faults_right => exact PySem.W.km_tabs_of Y _ (List.mem_singleton.mpr rfl))
    (case hdT__law_faults_right => kernel_rfl)
    (case nT__law_faults_right => kernel_rfl)
