import PyProof.Rows.All
import Wide.All
import OpenK.AllK
import Wide.FinOn
import HandS.ForMost
import HandS.ForExc
import HandS.Wide
import HandS.IsInst
import HandS.Walk
import KE.KeyNested
import HandS.ExcCtx
import HandS.HotCalls
import HandS.ExcIs
import KE.KExcIs
import HandS.ExcField
import HandS.TupAny
import HandS.Zip
import HandS.Iter
import HandS.More
import HandS.Conv
import HandS.Style
import KE.GoesEnum
import KE.SortCalls
import KE.DataCmp
import HandS.CallLocal
import HandS.Deep
import HandS.TupMul
import HandS.ExcInit
import HandS.TupSets
import PySem.Challenge.RW_mainskeep_k17_lines_refused
set_option Elab.async false
set_option linter.all false
set_option maxRecDepth 100000
set_option maxHeartbeats 4000000
/-! The layer of plain values: tuples and frozen lists by value, a small heap of what may still change. -/
namespace WL
open PySem PySem.Spec PyProof.Rows L2
inductive W where
  | non | bl (b : Bool) | int (i : Int) | str (x : Str)
  | tup (ws : List W) | lst (ws : List W) | scr (ws : List W) | ins (C : Str) (fs : List (Str × W)) | ref (a : Addr) | ty (n : String) | dic (kvs : List (NestedKey × W)) | exc (a : Addr) (d : Option Addr) (nm : Str) (fs : List (Str × W))
inductive GO where
  | lst (ws : List W) | ins (C : Str) (fs : List (Str × W)) | dic (kvs : List (NestedKey × W))
abbrev Gp := Addr → Option GO
abbrev Zp := Addr → Prop
def gup (G : Gp) (a : Addr) (o : GO) : Gp := fun b => if b = a then some o else G b
def gdel (G : Gp) (a : Addr) : Gp := fun b => if b = a then none else G b
theorem gup_same {G : Gp} {a : Addr} {o : GO} : gup G a o a = some o := by unfold gup; rw [if_pos rfl]
theorem gup_ne {G : Gp} {a b : Addr} {o : GO} (h : b ≠ a) : gup G a o b = G b := by unfold gup; rw [if_neg h]
theorem gup_gup {G : Gp} {a : Addr} {o u : GO} : gup (gup G a o) a u = gup G a u := by funext b; unfold gup; split <;> rfl
theorem gdel_same {G : Gp} {a : Addr} : gdel G a a = none := by unfold gdel; rw [if_pos rfl]
theorem gdel_ne {G : Gp} {a b : Addr} (h : b ≠ a) : gdel G a b = G b := by unfold gdel; rw [if_neg h]
theorem gdel_gup {G : Gp} {a : Addr} {o : GO} (h : G a = none) : gdel (gup G a o) a = G := by
  funext b; unfold gdel gup
  by_cases e : b = a
  · rw [if_pos e, e, h]
  · rw [if_neg e, if_neg e]
theorem gup_self {G : Gp} {a : Addr} {o : GO} (h : G a = some o) : gup G a o = G := by
  funext b; unfold gup
  by_cases e : b = a
  · rw [if_pos e, e, h]
  · rw [if_neg e]
/-- a list that is not ours: the script -/
def SqF (K : PySem.W.Frag) (H : Hp) (p : Addr) (vs : List V) : Prop := (∃ o, H p = some (.frz o (.lst vs))) ∨ SqL K (fun _ => none) p vs
theorem SqF.sq {K : PySem.W.Frag} {H : Hp} {p : Addr} {vs : List V} (h : SqF K H p vs) : SqL K H p vs := by
  rcases h with h | (h | ⟨o, h⟩) | h
  · exact .inl (.inr h)
  · cases h
  · cases h
  · exact .inr h
/-- a plain key as one of any depth -/
def nk : Key → NestedKey
  | .inl n => .num n
  | .inr s => .text s
theorem nk_inj {a b : Key} (h : nk a = nk b) : a = b := by
  cases a <;> cases b <;> simp only [nk, NestedKey.num.injEq, NestedKey.text.injEq, reduceCtorEq] at h <;> rw [h]
/-- the class of a name of the module -/
def ClsA (K : PySem.W.Frag) (nm : Str) (C : Addr) : Prop := PySem.W.nsIn K mainGlobals nm = some (some (.ref C))
theorem ClsA.one {K : PySem.W.Frag} {nm : Str} {C D : Addr} (h : ClsA K nm C) (h' : ClsA K nm D) : C = D := by
  unfold ClsA at h h'
  rw [h] at h'
  simpa using h'
mutual
inductive Rw (K : PySem.W.Frag) (Z : Zp) (H : Hp) : W → V → Prop
  | non : Rw K Z H .non .non
  | bl {b} : Rw K Z H (.bl b) (.bl b)
  | int {i} : Rw K Z H (.int i) (.int i)
  | str {x} : Rw K Z H (.str x) (.str x)
  | ref {a} : Rw K Z H (.ref a) (.ref a)
  | tup {p ws vs} : SqT K H p vs → RwL K Z H ws vs → Rw K Z H (.tup ws) (.ref p)
  | lst {p ws vs} : Z p → H p = some (.lst vs) → RwL K Z H ws vs → Rw K Z H (.lst ws) (.ref p)
  | scr {p ws vs} : SqF K H p vs → RwL K Z H ws vs → Rw K Z H (.scr ws) (.ref p)
  | ty {n} : Rw K Z H (.ty n) (.ty n)
  | ins {p nm C dx fs gs} : ClsA K nm C → Z p → H p = some (.ins C dx gs) → RwF K Z H fs gs → Rw K Z H (.ins nm fs) (.ref p)
  | dic {p kvs us} : Z p → H p = some (.dK us) → RwD K Z H kvs us → Rw K Z H (.dic kvs) (.ref p)
  | exc0 {a nm} : Rw K Z H (.exc a none nm []) (.ref a)
  | excF {a dd nm fs gs} : Z dd → H dd = some (.xd gs) → RwF K Z H fs gs → Rw K Z H (.exc a (some dd) nm fs) (.ref a)
inductive RwL (K : PySem.W.Frag) (Z : Zp) (H : Hp) : List W → List V → Prop
  | nil : RwL K Z H [] []
  | cons {w v ws vs} : Rw K Z H w v → RwL K Z H ws vs → RwL K Z H (w :: ws) (v :: vs)
inductive RwF (K : PySem.W.Frag) (Z : Zp) (H : Hp) : List (Str × W) → List (Str × V) → Prop
  | nil : RwF K Z H [] []
  | cons {f w v ws vs} : Rw K Z H w v → RwF K Z H ws vs → RwF K Z H ((f, w) :: ws) ((f, v) :: vs)
inductive RwD (K : PySem.W.Frag) (Z : Zp) (H : Hp) : List (NestedKey × W) → List (Key × V) → Prop
  | nil : RwD K Z H [] []
  | cons {k w v ws vs} : Rw K Z H w v → RwD K Z H ws vs → RwD K Z H ((nk k, w) :: ws) ((k, v) :: vs)
end
inductive Rgo (K : PySem.W.Frag) (Z : Zp) (H : Hp) : GO → HO → Prop
  | lst {ws vs} : RwL K Z H ws vs → Rgo K Z H (.lst ws) (.lst vs)
  | ins {nm C dx fs gs} : ClsA K nm C → RwF K Z H fs gs → Rgo K Z H (.ins nm fs) (.ins C dx gs)
  | dic {kvs us} : RwD K Z H kvs us → Rgo K Z H (.dic kvs) (.dK us)
structure HRel (K : PySem.W.Frag) (Z : Zp) (G : Gp) (H : Hp) : Prop where
  z : ∀ p, Z p → G p = none ∧ H p ≠ none
  g : ∀ p o, G p = some o → ∃ u, H p = some u ∧ Rgo K Z H o u
structure Ext (Z : Zp) (G : Gp) (H : Hp) (Z' : Zp) (G' : Gp) (H' : Hp) : Prop where
  z : ∀ p, Z p → Z' p
  f : ∀ p u, H p = some u → G p = none → H' p = some u ∧ G' p = none
  n : ∀ p, H p ≠ none → G p = none → Z' p → Z p
theorem Ext.refl {Z : Zp} {G : Gp} {H : Hp} : Ext Z G H Z G H := ⟨fun _ h => h, fun _ _ h g => ⟨h, g⟩, fun _ _ _ z => z⟩
theorem Ext.trans {Z1 Z2 Z3 : Zp} {G1 G2 G3 : Gp} {H1 H2 H3 : Hp} (a : Ext Z1 G1 H1 Z2 G2 H2) (b : Ext Z2 G2 H2 Z3 G3 H3) : Ext Z1 G1 H1 Z3 G3 H3 :=
  ⟨fun p h => b.z p (a.z p h), fun p u h g => let ⟨x, y⟩ := a.f p u h g; b.f p u x y, fun p h g z => by
    obtain ⟨u, e⟩ := Option.ne_none_iff_exists'.mp h
    obtain ⟨x, y⟩ := a.f p u e g
    exact a.n p h g (b.n p (by rw [x]; simp) y z)⟩
/-- what values lean on is kept -/
structure Keep (Z : Zp) (H : Hp) (Z' : Zp) (H' : Hp) : Prop where
  z : ∀ p, Z p → Z' p
  k : ∀ p u, H p = some u → Z p → H' p = some u
  t : ∀ p vs, H p = some (.tup vs) → H' p = some (.tup vs)
  o : ∀ p ob u, H p = some (.frz ob u) → H' p = some (.frz ob u)
section
variable {K : PySem.W.Frag} {Z Z' : Zp} {G G' : Gp} {H H' : Hp}
theorem HRel.nog (h : HRel K Z G H) {p : Addr} {u : HO} (e : H p = some u) (n : ∀ o, ¬ Rgo K Z H o u) : G p = none := by
  cases q : G p with
  | none => rfl
  | some o =>
    obtain ⟨u', e', r⟩ := h.g p o q
    rw [e] at e'; cases e'
    exact absurd r (n o)
theorem HRel.fresh (h : HRel K Z G H) {p : Addr} (e : H p = none) : G p = none := by
  cases q : G p with
  | none => rfl
  | some o =>
    obtain ⟨u', e', r⟩ := h.g p o q
    rw [e] at e'; cases e'
theorem HRel.freshZ (h : HRel K Z G H) {p : Addr} (e : H p = none) : ¬ Z p := fun z => (h.z p z).2 e
theorem Ext.keep (h : HRel K Z G H) (x : Ext Z G H Z' G' H') : Keep Z H Z' H' :=
  ⟨x.z, fun p u e z => (x.f p u e (h.z p z).1).1, fun p vs e => (x.f p _ e (h.nog e fun o r => by cases r)).1, fun p ob u e => (x.f p _ e (h.nog e fun o r => by cases r)).1⟩
/-- a list that is hidden changes -/
theorem Keep.hid {D : Addr} {xs : List V} {o : HO} (e : H D = some (.lst xs)) (z : ¬ Z D) : Keep Z H Z (upd H D o) :=
  ⟨fun _ z => z, fun p u e' zp => by rw [upd_ne (fun c => z (by rw [← c]; exact zp))]; exact e', fun p vs e' => by rw [upd_ne (fun c => by rw [c, e] at e'; cases e')]; exact e', fun p ob u e' => by rw [upd_ne (fun c => by rw [c, e] at e'; cases e')]; exact e'⟩
theorem SqT.keep {p : Addr} {vs : List V} (x : Keep Z H Z' H') (s : SqT K H p vs) : SqT K H' p vs := by
  rcases s with (s | ⟨o, s⟩) | s
  · exact .inl (.inl (x.t p _ s))
  · exact .inl (.inr ⟨o, x.o p _ _ s⟩)
  · exact .inr s
theorem SqF.keep {p : Addr} {vs : List V} (x : Keep Z H Z' H') (s : SqF K H p vs) : SqF K H' p vs := by
  rcases s with ⟨o, s⟩ | s
  · exact .inl ⟨o, x.o p _ _ s⟩
  · exact .inr s
mutual
theorem Rw.keep (x : Keep Z H Z' H') : ∀ {w : W} {v : V}, Rw K Z H w v → Rw K Z' H' w v
  | _, _, .non => .non
  | _, _, .bl => .bl
  | _, _, .int => .int
  | _, _, .str => .str
  | _, _, .ref => .ref
  | _, _, .tup s r => .tup (SqT.keep x s) (RwL.keep x r)
  | _, _, .lst z e r => .lst (x.z _ z) (x.k _ _ e z) (RwL.keep x r)
  | _, _, .scr s r => .scr (SqF.keep x s) (RwL.keep x r)
  | _, _, .ty => .ty
  | _, _, .ins c z e r => .ins c (x.z _ z) (x.k _ _ e z) (RwF.keep x r)
  | _, _, .dic z e r => .dic (x.z _ z) (x.k _ _ e z) (RwD.keep x r)
  | _, _, .exc0 => .exc0
  | _, _, .excF z e r => .excF (x.z _ z) (x.k _ _ e z) (RwF.keep x r)
theorem RwL.keep (x : Keep Z H Z' H') : ∀ {ws : List W} {vs : List V}, RwL K Z H ws vs → RwL K Z' H' ws vs
  | _, _, .nil => .nil
  | _, _, .cons r t => .cons (Rw.keep x r) (RwL.keep x t)
theorem RwF.keep (x : Keep Z H Z' H') : ∀ {ws : List (Str × W)} {vs : List (Str × V)}, RwF K Z H ws vs → RwF K Z' H' ws vs
  | _, _, .nil => .nil
  | _, _, .cons r t => .cons (Rw.keep x r) (RwF.keep x t)
theorem RwD.keep (x : Keep Z H Z' H') : ∀ {ws : List (NestedKey × W)} {vs : List (Key × V)}, RwD K Z H ws vs → RwD K Z' H' ws vs
  | _, _, .nil => .nil
  | _, _, .cons r t => .cons (Rw.keep x r) (RwD.keep x t)
end
theorem SqT.ext {p : Addr} {vs : List V} (h : HRel K Z G H) (x : Ext Z G H Z' G' H') (s : SqT K H p vs) : SqT K H' p vs := SqT.keep (x.keep h) s
theorem SqF.ext {p : Addr} {vs : List V} (h : HRel K Z G H) (x : Ext Z G H Z' G' H') (s : SqF K H p vs) : SqF K H' p vs := SqF.keep (x.keep h) s
theorem Rw.ext (h : HRel K Z G H) (x : Ext Z G H Z' G' H') {w : W} {v : V} (r : Rw K Z H w v) : Rw K Z' H' w v := r.keep (x.keep h)
theorem RwL.ext (h : HRel K Z G H) (x : Ext Z G H Z' G' H') {w : List W} {v : List V} (r : RwL K Z H w v) : RwL K Z' H' w v := r.keep (x.keep h)
theorem RwF.ext (h : HRel K Z G H) (x : Ext Z G H Z' G' H') {w : List (Str × W)} {v : List (Str × V)} (r : RwF K Z H w v) : RwF K Z' H' w v := r.keep (x.keep h)
theorem Rgo.keep (x : Keep Z H Z' H') {o : GO} {u : HO} (r : Rgo K Z H o u) : Rgo K Z' H' o u := by
  cases r with
  | lst r => exact .lst (r.keep x)
  | ins c r => exact .ins c (r.keep x)
  | dic r => exact .dic (r.keep x)
theorem Rgo.ext (h : HRel K Z G H) (x : Ext Z G H Z' G' H') {o : GO} {u : HO} (r : Rgo K Z H o u) : Rgo K Z' H' o u := by
  cases r with
  | lst r => exact .lst (r.ext h x)
  | ins c r => exact .ins c (r.ext h x)
  | dic r => exact .dic (r.keep (x.keep h))
theorem RwL.length : ∀ {ws : List W} {vs : List V}, RwL K Z H ws vs → ws.length = vs.length
  | _, _, .nil => rfl
  | _, _, .cons _ t => by rw [List.length_cons, List.length_cons, RwL.length t]
theorem RwL.get : ∀ {ws : List W} {vs : List V} (i : Nat) {w : W}, RwL K Z H ws vs → ws[i]? = some w → ∃ v, vs[i]? = some v ∧ Rw K Z H w v
  | _, _, _, _, .nil, e => by simp at e
  | _, _, 0, _, .cons r _, e => by simp at e; subst e; exact ⟨_, rfl, r⟩
  | _, _, i + 1, w, .cons _ t, e => by
    obtain ⟨v, h1, h2⟩ := RwL.get i (w := w) t (by simpa using e)
    exact ⟨v, by simpa using h1, h2⟩
theorem RwL.get' : ∀ {ws : List W} {vs : List V} (i : Nat) {v : V}, RwL K Z H ws vs → vs[i]? = some v → ∃ w, ws[i]? = some w ∧ Rw K Z H w v
  | _, _, _, _, .nil, e => by simp at e
  | _, _, 0, _, .cons r _, e => by simp at e; subst e; exact ⟨_, rfl, r⟩
  | _, _, i + 1, w, .cons _ t, e => by
    obtain ⟨v, h1, h2⟩ := RwL.get' i t (by simpa using e)
    exact ⟨v, by simpa using h1, h2⟩
theorem RwL.append : ∀ {ws ws' : List W} {vs vs' : List V}, RwL K Z H ws vs → RwL K Z H ws' vs' → RwL K Z H (ws ++ ws') (vs ++ vs')
  | _, _, _, _, .nil, s => s
  | _, _, _, _, .cons r t, s => .cons r (RwL.append t s)
theorem RwL.set {w : W} {v : V} (r : Rw K Z H w v) : ∀ {ws : List W} {vs : List V} (i : Nat), RwL K Z H ws vs → RwL K Z H (ws.set i w) (vs.set i v)
  | _, _, _, .nil => .nil
  | _, _, 0, .cons _ t => .cons r t
  | _, _, i + 1, .cons q t => .cons q (RwL.set r i t)
theorem RwL.take : ∀ {ws : List W} {vs : List V} (n : Nat), RwL K Z H ws vs → RwL K Z H (ws.take n) (vs.take n)
  | _, _, 0, _ => .nil
  | _, _, _ + 1, .nil => .nil
  | _, _, n + 1, .cons r t => .cons r (RwL.take n t)
theorem RwL.drop : ∀ {ws : List W} {vs : List V} (n : Nat), RwL K Z H ws vs → RwL K Z H (ws.drop n) (vs.drop n)
  | _, _, 0, r => r
  | _, _, _ + 1, .nil => .nil
  | _, _, n + 1, .cons _ t => RwL.drop n t
theorem RwL.dropLast : ∀ {ws : List W} {vs : List V}, RwL K Z H ws vs → RwL K Z H ws.dropLast vs.dropLast
  | _, _, .nil => .nil
  | _, _, .cons _ .nil => .nil
  | _, _, .cons r (.cons r2 t) => .cons r (RwL.dropLast (.cons r2 t))
theorem RwL.reverse : ∀ {ws : List W} {vs : List V}, RwL K Z H ws vs → RwL K Z H ws.reverse vs.reverse
  | _, _, .nil => .nil
  | _, _, .cons r t => by rw [List.reverse_cons, List.reverse_cons]; exact (RwL.reverse t).append (.cons r .nil)
theorem RwL.ints : ∀ (ns : List Int), RwL K Z H (ns.map W.int) (ns.map V.int)
  | [] => .nil
  | _ :: ns => .cons .int (RwL.ints ns)
theorem RwF.get : ∀ {ws : List (Str × W)} {vs : List (Str × V)} {f : Str} {w : W}, RwF K Z H ws vs → ws.lookup f = some w → ∃ v, vs.lookup f = some v ∧ Rw K Z H w v
  | _, _, _, _, .nil, e => by simp [List.lookup] at e
  | _, _, f, w, .cons (f := g) r t, e => by
    rw [List.lookup_cons] at e ⊢
    cases q : f == g with
    | true => rw [q] at e; simp only [Option.some.injEq] at e; subst e; exact ⟨_, rfl, r⟩
    | false => rw [q] at e; exact RwF.get t e
theorem RwF.none : ∀ {ws : List (Str × W)} {vs : List (Str × V)} {f : Str}, RwF K Z H ws vs → ws.lookup f = none → vs.lookup f = none
  | _, _, _, .nil, _ => rfl
  | _, _, f, .cons (f := g) r t, e => by
    rw [List.lookup_cons] at e ⊢
    cases q : f == g with
    | true => rw [q] at e; cases e
    | false => rw [q] at e; exact RwF.none t e
theorem RwF.length : ∀ {ws : List (Str × W)} {vs : List (Str × V)}, RwF K Z H ws vs → ws.length = vs.length
  | _, _, .nil => rfl
  | _, _, .cons _ t => by rw [List.length_cons, List.length_cons, RwF.length t]
end
/-! ### the names' values: none: not known -/
abbrev SW := List (Option W)
abbrev SV := L2.St
inductive RwS (K : PySem.W.Frag) (Z : Zp) (H : Hp) : SW → SV → Prop
  | nil : RwS K Z H [] []
  | skip {v ws vs} : RwS K Z H ws vs → RwS K Z H (Option.none :: ws) (v :: vs)
  | cons {w v ws vs} : Rw K Z H w v → RwS K Z H ws vs → RwS K Z H (some w :: ws) (some v :: vs)
def slot : SW → Nat → Option W
  | [], _ => none
  | a :: _, 0 => a
  | _ :: l, i + 1 => slot l i
def sset : SW → Nat → W → SW
  | [], _, _ => []
  | _ :: l, 0, w => some w :: l
  | a :: l, i + 1, w => a :: sset l i w
/-- the names of a list of places are forgotten -/
def skill : SW → List Bool → SW
  | a :: l, true :: ks => none :: skill l ks
  | a :: l, false :: ks => a :: skill l ks
  | l, _ => l
section
variable {K : PySem.W.Frag} {Z Z' : Zp} {G G' : Gp} {H H' : Hp}
theorem RwS.ext (h : HRel K Z G H) (x : Ext Z G H Z' G' H') : ∀ {ws : SW} {vs : SV}, RwS K Z H ws vs → RwS K Z' H' ws vs
  | _, _, .nil => .nil
  | _, _, .skip t => .skip (RwS.ext h x t)
  | _, _, .cons r t => .cons (r.ext h x) (RwS.ext h x t)
theorem RwS.get : ∀ {ws : SW} {vs : SV} (i : Nat) {w : W}, RwS K Z H ws vs → slot ws i = some w → ∃ v, vs[i]? = some (some v) ∧ Rw K Z H w v
  | _, _, _, _, .nil, e => by simp [slot] at e
  | _, _, 0, _, .skip _, e => by simp [slot] at e
  | _, _, 0, _, .cons r _, e => by simp [slot] at e; subst e; exact ⟨_, rfl, r⟩
  | _, _, i + 1, w, .skip t, e => by
    obtain ⟨v, h1, h2⟩ := RwS.get i (w := w) t (by simpa [slot] using e)
    exact ⟨v, by simpa using h1, h2⟩
  | _, _, i + 1, w, .cons _ t, e => by
    obtain ⟨v, h1, h2⟩ := RwS.get i (w := w) t (by simpa [slot] using e)
    exact ⟨v, by simpa using h1, h2⟩
theorem RwS.set {w : W} {v : V} (r : Rw K Z H w v) : ∀ {ws : SW} {vs : SV} (i : Nat), RwS K Z H ws vs → RwS K Z H (sset ws i w) (vs.set i (some v))
  | _, _, _, .nil => .nil
  | _, _, 0, .skip t => .cons r t
  | _, _, 0, .cons _ t => .cons r t
  | _, _, i + 1, .skip t => .skip (RwS.set r i t)
  | _, _, i + 1, .cons q t => .cons q (RwS.set r i t)
theorem RwS.kill : ∀ {ws : SW} {vs : SV} (ks : List Bool), RwS K Z H ws vs → RwS K Z H (skill ws ks) vs
  | _, _, [], .nil => .nil
  | _, _, [], .skip t => .skip t
  | _, _, [], .cons r t => .cons r t
  | _, _, true :: _, .nil => .nil
  | _, _, false :: _, .nil => .nil
  | _, _, true :: ks, .skip t => .skip (RwS.kill ks t)
  | _, _, true :: ks, .cons _ t => .skip (RwS.kill ks t)
  | _, _, false :: ks, .skip t => .skip (RwS.kill ks t)
  | _, _, false :: ks, .cons r t => .cons r (RwS.kill ks t)
end
def startW (N : List Str) (ws : List W) : SW := ws.map some ++ List.replicate (N.length - ws.length) none
section
variable {K : PySem.W.Frag} {Z : Zp} {H : Hp}
theorem RwS.repl : ∀ (n : Nat), RwS K Z H (List.replicate n none) (List.replicate n none)
  | 0 => .nil
  | n + 1 => by rw [List.replicate_succ, List.replicate_succ]; exact .skip (RwS.repl n)
theorem RwS.app : ∀ {ws : List W} {vs : List V} {s : SW} {t : SV}, RwL K Z H ws vs → RwS K Z H s t → RwS K Z H (ws.map some ++ s) (vs.map some ++ t)
  | _, _, _, _, .nil, r => r
  | _, _, _, _, .cons a b, r => .cons a (RwS.app b r)
theorem RwS.start {N : List Str} {ws : List W} {vs : List V} (r : RwL K Z H ws vs) : RwS K Z H (startW N ws) (L2.start N vs) := by
  unfold startW L2.start
  rw [r.length]
  exact RwS.app r (RwS.repl _)
end
end WL

namespace WL
open PySem PySem.Spec PyProof.Rows L2
abbrev QW := W → Gp → Prop
abbrev TEw := SW → Gp → QW → Prop
abbrev TTw := SW → Gp → (Bool → Gp → Prop) → Prop
abbrev TAw := SW → Gp → (List W → Gp → Prop) → Prop
abbrev TGw := W → SW → Gp → (SW → Gp → Prop) → Prop
abbrev TGsw := List W → SW → Gp → (SW → Gp → Prop) → Prop
structure EndsW where
  nx : SW → Gp → Prop
  rt : QW
  bk : SW → Gp → Prop := fun _ _ => False
  ct : SW → Gp → Prop := fun _ _ => False
  ex : Str → List (Str × W) → SW → Gp → Prop := fun _ _ _ _ => False
abbrev TSw := EndsW → SW → Gp → Prop
/-- what the small heap wants behind a step is what the great one wants -/
def KE (K : PySem.W.Frag) (Z : Zp) (G : Gp) (H : Hp) (Qw : QW) (Q : VK) : Prop := ∀ Z' G' H' w v, Ext Z G H Z' G' H' → HRel K Z' G' H' → Rw K Z' H' w v → Qw w G' → Q v H'
def KS (K : PySem.W.Frag) (Z : Zp) (G : Gp) (H : Hp) (Qw : SW → Gp → Prop) (Q : SV → Hp → Prop) : Prop := ∀ Z' G' H' σ' σ, Ext Z G H Z' G' H' → HRel K Z' G' H' → RwS K Z' H' σ' σ → Qw σ' G' → Q σ H'
/-- the weakest wish of an exception that X takes -/
def wishOf (X : Cx) : WX := fun cls d σ H => ∀ (a : Addr) (B : Heap) (sI : Shared) (pins : List (Addr × Obj)) (s' : Shared), Inv X pins σ H sI → (∀ b o, sI.heap.get? b = some o → b ∉ frs X.stack → B.get? b = some o) → sI.heap.UpToSlots s'.heap →
  Sky B X.stack a (L2N.Zn cls d) X.env.locals s'.heap → H a = none → s'.os = sI.os → AllBare s'.gens → X.xe (.ref a) s'
theorem takes_wish {X : Cx} : L2N.Takes X (wishOf X) := fun _ s' ⟨a, B, sI, pins, σ, H, cls, d, e, I, nb, up, sky, na, os, ag, w⟩ => by
  subst e
  exact w a B sI pins s' I nb up sky na os ag
theorem wish_of {X : Cx} {V : WX} (t : L2N.Takes X V) {cls : Value} {d : Option Addr} {σ : SV} {H : Hp} (h : V cls d σ H) : wishOf X cls d σ H := fun a B sI pins s' I nb up sky na os ag =>
  t _ s' ⟨a, B, sI, pins, σ, H, cls, d, rfl, I, nb, up, sky, na, os, ag, h⟩
/-- an exception's own attributes -/
def ExF (K : PySem.W.Frag) (Z : Zp) (H : Hp) (fs : List (Str × W)) (d : Option Addr) : Prop := fs = [] ∧ d = none ∨ ∃ a gs, d = some a ∧ Z a ∧ H a = some (.xd gs) ∧ RwF K Z H fs gs
def KX (X : Cx) (Z : Zp) (G : Gp) (H : Hp) (Ew : Str → List (Str × W) → SW → Gp → Prop) : Prop := ∀ Z' G' H' σ' σ nm C fs d, Ext Z G H Z' G' H' → HRel X.K Z' G' H' → RwS X.K Z' H' σ' σ → ClsA X.K nm C → ExF X.K Z' H' fs d → Ew nm fs σ' G' → wishOf X (.ref C) d σ H'
structure EndsR (X : Cx) (Z : Zp) (G : Gp) (H : Hp) (Dw : EndsW) (D : Ends) : Prop where
  nx : KS X.K Z G H Dw.nx D.nx
  rt : KE X.K Z G H Dw.rt D.rt
  bk : KS X.K Z G H Dw.bk D.bk
  ct : KS X.K Z G H Dw.ct D.ct
  ex : KX X Z G H Dw.ex
def liftE (K : PySem.W.Frag) (t : TEw) : TE := fun σ H Q => ∃ Z σ' G Qw, RwS K Z H σ' σ ∧ HRel K Z G H ∧ t σ' G Qw ∧ KE K Z G H Qw Q
def liftT (K : PySem.W.Frag) (t : TTw) : TT := fun σ H Q => ∃ Z σ' G Qw, RwS K Z H σ' σ ∧ HRel K Z G H ∧ t σ' G Qw ∧ ∀ Z' G' H' b, Ext Z G H Z' G' H' → HRel K Z' G' H' → Qw b G' → Q b H'
def liftA (K : PySem.W.Frag) (t : TAw) : TA := fun σ H Q => ∃ Z σ' G Qw, RwS K Z H σ' σ ∧ HRel K Z G H ∧ t σ' G Qw ∧ ∀ Z' G' H' ws vs, Ext Z G H Z' G' H' → HRel K Z' G' H' → RwL K Z' H' ws vs → Qw ws G' → Q vs H'
def liftG (K : PySem.W.Frag) (t : TGw) : TG := fun v σ H Q => ∃ Z σ' G w Qw, RwS K Z H σ' σ ∧ HRel K Z G H ∧ Rw K Z H w v ∧ t w σ' G Qw ∧ KS K Z G H Qw Q
def liftGs (K : PySem.W.Frag) (t : TGsw) : TGs := fun vs σ H Q => ∃ Z σ' G ws Qw, RwS K Z H σ' σ ∧ HRel K Z G H ∧ RwL K Z H ws vs ∧ t ws σ' G Qw ∧ KS K Z G H Qw Q
def liftS (X : Cx) (t : TSw) : TS := fun D σ H => ∃ Z σ' G Dw, RwS X.K Z H σ' σ ∧ HRel X.K Z G H ∧ t Dw σ' G ∧ EndsR X Z G H Dw D
def PEw (X : Cx) (e : Expr) (t : TEw) : Prop := PE X e (liftE X.K t)
def PTw (X : Cx) (e : Expr) (t : TTw) : Prop := PT X e (liftT X.K t)
def PWw (X : Cx) (e : Expr) (t : TTw) : Prop := PW X e (liftT X.K t)
def PAw (X : Cx) (es : List Expr) (t : TAw) : Prop := PA X es (liftA X.K t)
def PGw (X : Cx) (e : Expr) (t : TGw) : Prop := PG X e (liftG X.K t)
def PGsw (X : Cx) (es : List Expr) (t : TGsw) : Prop := PGs X es (liftGs X.K t)
def PSw (X : Cx) (st : Stmt) (t : TSw) : Prop := PS X st (liftS X t)
def PSsw (X : Cx) (st : List Stmt) (t : TSw) : Prop := PSs X st (liftS X t)
section
variable {X : Cx}
theorem PE.imp {e : Expr} {t t' : TE} (h : PE X e t) (i : ∀ σ H Q, t' σ H Q → t σ H Q) : PE X e t' := ⟨fun pins s σ H Q I q => h.run pins s σ H Q I (i _ _ _ q)⟩
theorem PT.imp {e : Expr} {t t' : TT} (h : PT X e t) (i : ∀ σ H Q, t' σ H Q → t σ H Q) : PT X e t' := ⟨fun pins s σ H Q I q => h.run pins s σ H Q I (i _ _ _ q)⟩
theorem PW.imp {e : Expr} {t t' : TT} (h : PW X e t) (i : ∀ σ H Q, t' σ H Q → t σ H Q) : PW X e t' := ⟨fun whole pins s σ H Q I q => h.run whole pins s σ H Q I (i _ _ _ q)⟩
theorem PA.imp {es : List Expr} {t t' : TA} (h : PA X es t) (i : ∀ σ H Q, t' σ H Q → t σ H Q) : PA X es t' := ⟨fun pos pins s σ H Q I q => h.run pos pins s σ H Q I (i _ _ _ q)⟩
theorem PS.imp {st : Stmt} {t t' : TS} (h : PS X st t) (i : ∀ D σ H, t' D σ H → t D σ H) : PS X st t' := ⟨fun pins s σ H D I q => h.run pins s σ H D I (i _ _ _ q)⟩
theorem PSs.imp {st : List Stmt} {t t' : TS} (h : PSs X st t) (i : ∀ D σ H, t' D σ H → t D σ H) : PSs X st t' := ⟨fun pins s σ H D I q => h.run pins s σ H D I (i _ _ _ q)⟩
theorem PG.imp {e : Expr} {t t' : TG} (h : PG X e t) (i : ∀ v σ H Q, t' v σ H Q → t v σ H Q) : PG X e t' := ⟨fun pins s σ H v u Q I r q => h.run pins s σ H v u Q I r (i _ _ _ _ q)⟩
theorem PGs.imp {e : List Expr} {t t' : TGs} (h : PGs X e t) (i : ∀ v σ H Q, t' v σ H Q → t v σ H Q) : PGs X e t' := ⟨fun pins s σ H v u Q I r q => h.run pins s σ H v u Q I r (i _ _ _ _ q)⟩
end
section
variable {K : PySem.W.Frag} {Z Z' : Zp} {G G' : Gp} {H H' : Hp}
theorem KE.mono {Qw : QW} {Q : VK} (k : KE K Z G H Qw Q) (x : Ext Z G H Z' G' H') : KE K Z' G' H' Qw Q := fun Z2 G2 H2 w v x2 => k Z2 G2 H2 w v (x.trans x2)
theorem KS.mono {Qw : SW → Gp → Prop} {Q : SV → Hp → Prop} (k : KS K Z G H Qw Q) (x : Ext Z G H Z' G' H') : KS K Z' G' H' Qw Q := fun Z2 G2 H2 w v x2 => k Z2 G2 H2 w v (x.trans x2)
theorem KX.mono {X : Cx} {Ew : Str → List (Str × W) → SW → Gp → Prop} (k : KX X Z G H Ew) (x : Ext Z G H Z' G' H') : KX X Z' G' H' Ew := fun Z2 G2 H2 a b c d e f x2 => k Z2 G2 H2 a b c d e f (x.trans x2)
theorem EndsR.mono {X : Cx} {Dw : EndsW} {D : Ends} (k : EndsR X Z G H Dw D) (x : Ext Z G H Z' G' H') : EndsR X Z' G' H' Dw D := ⟨k.nx.mono x, k.rt.mono x, k.bk.mono x, k.ct.mono x, k.ex.mono x⟩
theorem KE.at {Qw : QW} {Q : VK} (k : KE K Z G H Qw Q) (h : HRel K Z G H) {w : W} {v : V} (r : Rw K Z H w v) (q : Qw w G) : Q v H := k Z G H w v Ext.refl h r q
/-- something new is laid: untracked by the small heap -/
theorem Ext.laid (h : HRel K Z G H) {p : Addr} {o : HO} (n : H p = none) : Ext Z G H Z G (upd H p o) :=
  ⟨fun _ z => z, fun q u e g => ⟨by rw [upd_ne (ne_of_none e n)]; exact e, g⟩, fun _ _ _ z => z⟩
theorem HRel.laid (h : HRel K Z G H) {p : Addr} {o : HO} (n : H p = none) : HRel K Z G (upd H p o) := by
  have x : Ext Z G H Z G (upd H p o) := Ext.laid h n
  refine ⟨fun q z => ⟨(h.z q z).1, ?_⟩, fun q g e => ?_⟩
  · by_cases e : q = p
    · rw [e, upd_same]; simp
    · rw [upd_ne e]; exact (h.z q z).2
  · obtain ⟨u, e', r⟩ := h.g q g e
    exact ⟨u, by rw [upd_ne (ne_of_none e' n)]; exact e', r.ext h x⟩
/-- what is laid and tracked -/
theorem HRel.track (h : HRel K Z G H) {p : Addr} {o : GO} {u : HO} (e : H p = some u) (nz : ¬ Z p) (r : Rgo K Z H o u) : HRel K Z (gup G p o) H := by
  refine ⟨fun q z => ⟨?_, (h.z q z).2⟩, fun q g e' => ?_⟩
  · rw [gup_ne (show q ≠ p from fun c => nz (by rw [← c]; exact z))]; exact (h.z q z).1
  · by_cases c : q = p
    · rw [c, gup_same] at e'; cases e'; exact ⟨u, c ▸ e, r⟩
    · rw [gup_ne c] at e'; exact h.g q g e'
/-- frozen: read as a value from now on -/
theorem HRel.frz (h : HRel K Z G H) {p : Addr} (e : H p ≠ none) : HRel K (fun q => Z q ∨ q = p) (gdel G p) H ∧ Keep Z H (fun q => Z q ∨ q = p) H := by
  have x : Keep Z H (fun q => Z q ∨ q = p) H := ⟨fun q z => .inl z, fun _ _ e _ => e, fun _ _ e => e, fun _ _ _ e => e⟩
  refine ⟨⟨fun q z => ?_, fun q g e' => ?_⟩, x⟩
  · rcases z with z | z
    · refine ⟨?_, (h.z q z).2⟩
      unfold gdel; split
      · rfl
      · exact (h.z q z).1
    · subst z; exact ⟨gdel_same, e⟩
  · have e2 : G q = some g := by
      by_cases c : q = p
      · rw [c, gdel_same] at e'; cases e'
      · rw [gdel_ne c] at e'; exact e'
    obtain ⟨u, e3, r⟩ := h.g q g e2
    exact ⟨u, e3, Rgo.keep x r⟩
theorem HRel.freeze (h : HRel K Z G H) {p : Addr} (g : G p ≠ none) : HRel K (fun q => Z q ∨ q = p) (gdel G p) H ∧ Ext Z G H (fun q => Z q ∨ q = p) (gdel G p) H := by
  have e : H p ≠ none := by
    obtain ⟨o, go⟩ := Option.ne_none_iff_exists'.mp g
    obtain ⟨u, e, _⟩ := h.g p o go
    rw [e]; simp
  refine ⟨(h.frz e).1, fun q z => .inl z, fun q u e g => ⟨e, ?_⟩, fun q _ gq z => ?_⟩
  · unfold gdel; split
    · rfl
    · exact g
  · rcases z with z | z
    · exact z
    · rw [z] at gq; exact absurd gq g
theorem new_tup (h : HRel K Z G H) {p : Addr} {ws : List W} {vs : List V} (n : H p = none) (r : RwL K Z H ws vs) :
    HRel K Z G (upd H p (.tup vs)) ∧ Ext Z G H Z G (upd H p (.tup vs)) ∧ Rw K Z (upd H p (.tup vs)) (.tup ws) (.ref p) :=
  ⟨h.laid n, Ext.laid h n, .tup (.inl (.inl upd_same)) (r.ext h (Ext.laid h n))⟩
theorem new_lst (h : HRel K Z G H) {p : Addr} {ws : List W} {vs : List V} (n : H p = none) (r : RwL K Z H ws vs) :
    G p = none ∧ HRel K Z (gup G p (.lst ws)) (upd H p (.lst vs)) ∧ Ext Z G H Z (gup G p (.lst ws)) (upd H p (.lst vs)) := by
  have x : Ext Z G H Z G (upd H p (.lst vs)) := Ext.laid h n
  refine ⟨h.fresh n, (h.laid n).track upd_same (h.freshZ n) (.lst (r.ext h x)), ⟨fun _ z => z, fun q u e g => ?_, fun _ _ _ z => z⟩⟩
  have c : q ≠ p := ne_of_none e n
  exact ⟨by rw [upd_ne c]; exact e, by rw [gup_ne c]; exact g⟩
theorem new_frz (h : HRel K Z G H) {p : Addr} {ws : List W} {vs : List V} (n : H p = none) (r : RwL K Z H ws vs) :
    HRel K (fun q => Z q ∨ q = p) G (upd H p (.lst vs)) ∧ Ext Z G H (fun q => Z q ∨ q = p) G (upd H p (.lst vs)) ∧ Rw K (fun q => Z q ∨ q = p) (upd H p (.lst vs)) (.lst ws) (.ref p) := by
  have x : Ext Z G H Z G (upd H p (.lst vs)) := Ext.laid h n
  have h1 := h.laid (o := .lst vs) n
  obtain ⟨h2, x2⟩ := h1.frz (p := p) (by rw [upd_same]; simp)
  have e2 : gdel G p = G := by
    funext b; unfold gdel; split
    · rename_i c; rw [c, h.fresh n]
    · rfl
  rw [e2] at h2
  refine ⟨h2, ⟨fun q z => .inl z, x.f, fun q e _ z => ?_⟩, .lst (.inr rfl) upd_same ((r.ext h x).keep x2)⟩
  rcases z with z | z
  · exact z
  · rw [z] at e; exact absurd n e
/-- a list that stands in the small heap is changed -/
theorem chg_lst (h : HRel K Z G H) {p : Addr} {ws ws' : List W} {vs' : List V} (e : G p = some (.lst ws)) (r : RwL K Z H ws' vs') :
    HRel K Z (gup G p (.lst ws')) (upd H p (.lst vs')) ∧ Ext Z G H Z (gup G p (.lst ws')) (upd H p (.lst vs')) := by
  have x : Ext Z G H Z (gup G p (.lst ws')) (upd H p (.lst vs')) := ⟨fun _ z => z, fun q u e' g => by
    have c : q ≠ p := fun c => by rw [c, e] at g; cases g
    exact ⟨by rw [upd_ne c]; exact e', by rw [gup_ne c]; exact g⟩, fun _ _ _ z => z⟩
  refine ⟨⟨fun q z => ?_, fun q g e' => ?_⟩, x⟩
  · have c : q ≠ p := fun c => by
      have := (h.z q z).1
      rw [c, e] at this; cases this
    exact ⟨by rw [gup_ne c]; exact (h.z q z).1, by rw [upd_ne c]; exact (h.z q z).2⟩
  · by_cases c : q = p
    · rw [c, gup_same] at e'; cases e'
      exact ⟨_, by rw [c]; exact upd_same, .lst (r.ext h x)⟩
    · rw [gup_ne c] at e'
      obtain ⟨u, e2, r2⟩ := h.g q g e'
      exact ⟨u, by rw [upd_ne c]; exact e2, r2.ext h x⟩
theorem HRel.lst (h : HRel K Z G H) {p : Addr} {ws : List W} (e : G p = some (.lst ws)) : ∃ vs, H p = some (.lst vs) ∧ RwL K Z H ws vs := by
  obtain ⟨u, e', r⟩ := h.g p _ e
  cases r with
  | lst r => exact ⟨_, e', r⟩
/-- what is read as a list: frozen, or in the small heap -/
def asL (G : Gp) : W → Option (List W)
  | .lst ws => some ws
  | .scr ws => some ws
  | .ref p => match G p with
    | some (.lst ws) => some ws
    | _ => none
  | _ => none
theorem asL_sq (h : HRel K Z G H) {w : W} {v : V} {ws : List W} (r : Rw K Z H w v) (e : asL G w = some ws) : ∃ p vs, v = .ref p ∧ SqL K H p vs ∧ RwL K Z H ws vs := by
  cases r with
  | lst _ s t => simp only [asL, Option.some.injEq] at e; subst e; exact ⟨_, _, rfl, SqL.of s, t⟩
  | scr s t => simp only [asL, Option.some.injEq] at e; subst e; exact ⟨_, _, rfl, s.sq, t⟩
  | @ref a =>
    simp only [asL] at e
    cases q : G a with
    | none => rw [q] at e; cases e
    | some o =>
      rw [q] at e
      cases o with
      | lst us =>
        simp only [Option.some.injEq] at e; subst e
        obtain ⟨vs, e', t⟩ := h.lst q
        exact ⟨_, _, rfl, SqL.of e', t⟩
      | ins _ _ => cases e
      | dic _ => cases e
  | _ => cases e
end
/-! ### two values and one -/
abbrev RW2 := W → W → Gp → QW → Prop
def Sim2 (K : PySem.W.Frag) (r : R2) (wr : RW2) : Prop := ∀ Z G H x y v u Qw Q, HRel K Z G H → Rw K Z H x v → Rw K Z H y u → wr x y G Qw → KE K Z G H Qw Q → r v u H Q
def Sim1 (K : PySem.W.Frag) (r : V → Hp → VK → Prop) (wr : W → Gp → QW → Prop) : Prop := ∀ Z G H x v Qw Q, HRel K Z G H → Rw K Z H x v → wr x G Qw → KE K Z G H Qw Q → r v H Q
def SimN (K : PySem.W.Frag) (r : List V → Hp → VK → Prop) (wr : List W → Gp → QW → Prop) : Prop := ∀ Z G H ws vs Qw Q, HRel K Z G H → RwL K Z H ws vs → wr ws G Qw → KE K Z G H Qw Q → r vs H Q
def wOp (wr : RW2) (ta tb : TEw) : TEw := fun σ G Q => ta σ G fun x G1 => tb σ G1 fun y G2 => wr x y G2 Q
def wUn (wr : W → Gp → QW → Prop) (ta : TEw) : TEw := fun σ G Q => ta σ G fun x G1 => wr x G1 Q
def wCB (wr : List W → Gp → QW → Prop) (t : TAw) : TEw := fun σ G Q => t σ G fun ws G1 => wr ws G1 Q
/-- it is there, and then -/
def isS {α : Type} (o : Option α) (P : α → Prop) : Prop := match o with
  | some w => P w
  | none => False
theorem isS_some {α : Type} {a : α} {P : α → Prop} : isS (some a) P = P a := rfl
theorem isS_ex {α : Type} {o : Option α} {P : α → Prop} (h : isS o P) : ∃ w, o = some w ∧ P w := by
  cases o with
  | none => exact h.elim
  | some w => exact ⟨w, rfl, h⟩
/-- a list of the small heap -/
def isG (o : Option GO) (P : List W → Prop) : Prop := match o with
  | some (.lst ws) => P ws
  | _ => False
theorem isG_lst {ws : List W} {P : List W → Prop} : isG (some (.lst ws)) P = P ws := rfl
theorem isG_ex {o : Option GO} {P : List W → Prop} (h : isG o P) : ∃ ws, o = some (.lst ws) ∧ P ws := by
  cases o with
  | none => exact h.elim
  | some g =>
    cases g with
    | lst ws => exact ⟨ws, rfl, h⟩
    | ins _ _ => exact h.elim
    | dic _ => exact h.elim
def wVar (i : Nat) : TEw := fun σ G Q => isS (slot σ i) fun w => Q w G
def wC (w : W) : TEw := fun _ G Q => Q w G
def wNil : TAw := fun _ G Q => Q [] G
def wCons (ta : TEw) (t : TAw) : TAw := fun σ G Q => ta σ G fun x G1 => t σ G1 fun xs G2 => Q (x :: xs) G2
section
variable {X : Cx} {K : PySem.W.Frag}
theorem lift2 {r : R2} {wr : RW2} (hs : Sim2 K r wr) {ta tb : TEw} {σ : SV} {H : Hp} {Q : VK} (h : liftE K (wOp wr ta tb) σ H Q) : tOp r (liftE K ta) (liftE K tb) σ H Q := by
  obtain ⟨Z, σ', G, Qw, e, hr, t, k⟩ := h
  refine ⟨Z, σ', G, _, e, hr, t, fun Z1 G1 H1 x v x1 h1 r1 t1 => ?_⟩
  refine ⟨Z1, σ', G1, _, e.ext hr x1, h1, t1, fun Z2 G2 H2 y u x2 h2 r2 t2 => ?_⟩
  exact hs Z2 G2 H2 x y v u Qw Q h2 (r1.ext h1 x2) r2 t2 (k.mono (x1.trans x2))
theorem lift1 {r : V → Hp → VK → Prop} {wr : W → Gp → QW → Prop} (hs : Sim1 K r wr) {ta : TEw} {σ : SV} {H : Hp} {Q : VK} (h : liftE K (wUn wr ta) σ H Q) : tUn r (liftE K ta) σ H Q := by
  obtain ⟨Z, σ', G, Qw, e, hr, t, k⟩ := h
  exact ⟨Z, σ', G, _, e, hr, t, fun Z1 G1 H1 x v x1 h1 r1 t1 => hs Z1 G1 H1 x v Qw Q h1 r1 t1 (k.mono x1)⟩
theorem liftN {r : List V → Hp → VK → Prop} {wr : List W → Gp → QW → Prop} (hs : SimN K r wr) {ta : TAw} {σ : SV} {H : Hp} {Q : VK} (h : liftE K (wCB wr ta) σ H Q) : tCB r (liftA K ta) σ H Q := by
  obtain ⟨Z, σ', G, Qw, e, hr, t, k⟩ := h
  exact ⟨Z, σ', G, _, e, hr, t, fun Z1 G1 H1 ws vs x1 h1 r1 t1 => hs Z1 G1 H1 ws vs Qw Q h1 r1 t1 (k.mono x1)⟩
theorem lvar {i : Nat} {σ : SV} {H : Hp} {Q : VK} (h : liftE K (wVar i) σ H Q) : tVar i σ H Q := by
  obtain ⟨Z, σ', G, Qw, e, hr, q, k⟩ := h
  obtain ⟨w, t, q⟩ := isS_ex q
  obtain ⟨v, ev, r⟩ := e.get i t
  exact ⟨v, ev, k.at hr r q⟩
theorem qv (i : Nat) {x : Str} {pos : Pos} (hN : X.N[i]? = some x := by rfl) (hv : Vis X.env.scope x := by first | exact Or.inl rfl | exact Or.inr (Or.inl rfl) | exact Or.inr (Or.inr rfl)) (hd : (x == ("__debug__" : Str)) = false := by decide)
    (hcd : (x == ("__classdict__" : Str)) = false := by decide) : PEw X (.Name x pos) (wVar i) := PE.imp (pe_var hN hv hd hcd) fun _ _ _ h => lvar h
theorem lC {w : W} {v : V} (r : ∀ Z H, Rw K Z H w v) {σ : SV} {H : Hp} {Q : VK} (h : liftE K (wC w) σ H Q) : tC v σ H Q := by
  obtain ⟨Z, σ', G, Qw, e, hr, q, k⟩ := h
  exact k.at hr (r Z H) q
theorem qint {i j pos} : PEw X (.Constant (.int i) j pos) (wC (.int i)) := PE.imp pe_int fun _ _ _ h => lC (fun _ _ => .int) h
theorem qbl {b j pos} : PEw X (.Constant (.bool b) j pos) (wC (.bl b)) := PE.imp pe_bl fun _ _ _ h => lC (fun _ _ => .bl) h
theorem qnon {j pos} : PEw X (.Constant .none j pos) (wC .non) := PE.imp pe_non fun _ _ _ h => lC (fun _ _ => .non) h
theorem qstr {x j pos} : PEw X (.Constant (.str x) j pos) (wC (.str x)) := PE.imp pe_str fun _ _ _ h => lC (fun _ _ => .str) h
theorem qop {op : Operator} {r : R2} {wr : RW2} {a b : Expr} {ta tb : TEw} {pos : Pos} (ho : OpR X (binaryOp op) r) (hs : Sim2 X.K r wr) (ha : PEw X a ta) (hb : PEw X b tb) : PEw X (.BinOp a op b pos) (wOp wr ta tb) :=
  PE.imp (pe_op ho ha hb) fun _ _ _ h => lift2 hs h
theorem qcmp {op : CmpOp} {r : R2} {wr : RW2} {a b : Expr} {ta tb : TEw} {pos : Pos} (ho : OpR X (compareOp op) r) (hs : Sim2 X.K r wr) (ha : PEw X a ta) (hb : PEw X b tb) (hm : behindInMarks op b = false) : PEw X (.Compare a [op] [b] pos) (wOp wr ta tb) :=
  PE.imp (pe_cmpR ho ha hb hm) fun _ _ _ h => lift2 hs h
/-- a test: the value is a truth -/
def wTest (t : TEw) : TTw := fun σ G Q => t σ G fun x G1 => ∃ k, x = .bl k ∧ Q k G1
theorem ltest {te : TEw} {t : TE} {σ : SV} {H : Hp} {Q : Bool → Hp → Prop} (i : ∀ σ H Q, liftE K te σ H Q → t σ H Q) (h : liftT K (wTest te) σ H Q) : tTest t σ H Q := by
  obtain ⟨Z, σ', G, Qw, e, hr, t', k⟩ := h
  refine i _ _ _ ⟨Z, σ', G, _, e, hr, t', fun Z1 G1 H1 w v x1 h1 r1 t1 => ?_⟩
  obtain ⟨b, rfl, q⟩ := t1
  cases r1
  exact ⟨b, rfl, k Z1 G1 H1 b x1 h1 q⟩
theorem qtcmp {op : CmpOp} {r : R2} {wr : RW2} {a b : Expr} {ta tb : TEw} {pos : Pos} (ho : OpR X (compareOp op) r) (hs : Sim2 X.K r wr) (ha : PEw X a ta) (hb : PEw X b tb) (hm : behindInMarks op b = false) : PTw X (.Compare a [op] [b] pos) (wTest (wOp wr ta tb)) :=
  PT.imp (pt_cmpR ho ha hb hm) fun _ _ _ h => ltest (fun _ _ _ => lift2 hs) h
theorem lA_nil {σ : SV} {H : Hp} {Q} (h : liftA K wNil σ H Q) : tNil σ H Q := by
  obtain ⟨Z, σ', G, Qw, e, hr, t, k⟩ := h
  exact k Z G H _ _ Ext.refl hr .nil t
theorem qa_nil : PAw X [] wNil := PA.imp pa_nil fun _ _ _ h => lA_nil h
theorem qa_cons {e : Expr} {es : List Expr} {te : TEw} {t : TAw} (h1 : PEw X e te) (h2 : PAw X es t)
    (hs : starEach (e :: es) X.env = (false, eval e X.env) :: starEach es X.env := by rfl) : PAw X (e :: es) (wCons te t) :=
  PA.imp (pa_cons h1 h2 hs) fun σ H Q h => by
    obtain ⟨Z, σ', G, Qw, e, hr, t', k⟩ := h
    refine ⟨Z, σ', G, _, e, hr, t', fun Z1 G1 H1 x v x1 h1 r1 t1 => ?_⟩
    refine ⟨Z1, σ', G1, _, e.ext hr x1, h1, t1, fun Z2 G2 H2 xs vs x2 h2 r2 t2 => ?_⟩
    exact k Z2 G2 H2 _ _ (x1.trans x2) h2 (.cons (r1.ext h1 x2) r2) t2
end
end WL

namespace WL
open PySem PySem.Spec PyProof.Rows L2
/-! ### operators -/
def wI2 (C : Int → Int → Prop) (g : Int → Int → W) : RW2 := fun x y G Q => match x, y with
  | .int i, .int j => C i j ∧ Q (g i j) G
  | _, _ => False
def wII (g : Int → Int → W) : RW2 := fun x y G Q => match x, y with
  | .int i, .int j => Q (g i j) G
  | _, _ => False
def wI1 (g : Int → W) : W → Gp → QW → Prop := fun x G Q => match x with
  | .int i => Q (g i) G
  | _ => False
/-- the place where a body runs lets great divisions be -/
structure Deep (X : Cx) : Prop where
  seer : X.base.NoSeer
  tree : X.prog.given.tree = none
  room : X.A.depth + Builtin.pylongFrames < recursionLimit
  frame : ∃ env l, X.stack = env :: l ∧ env.scope.isGenerator = false ∧ env.scope.isCoroutine = false ∧ env.builtins = builtinsNs ∧ env.globals = mainGlobals
/-- the sizes of a product -/
def CMulX (i j : Int) : Prop := i.natAbs.log2 + j.natAbs.log2 < 134217000
def wAdd : RW2 := fun x y G Q => match x, y with
  | .int i, .int j => Q (.int (i + j)) G
  | .str a, .str b => a.length + b.length ≤ sizeLine ∧ Q (.str (a ++ b)) G
  | .tup a, .tup b => a.length + b.length ≤ sizeLine ∧ Q (.tup (a ++ b)) G
  | .lst a, .lst b => a.length + b.length ≤ sizeLine ∧ Q (.lst (a ++ b)) G
  | _, _ => False
abbrev wSub : RW2 := wII fun i j => .int (i - j)
abbrev wMod : RW2 := wI2 (fun _ j => j ≠ 0) fun i j => .int (i.fmod j)
abbrev wFdiv : RW2 := wI2 (fun _ j => j ≠ 0) fun i j => .int (i.fdiv j)
abbrev wMul : RW2 := wI2 CMulX fun i j => .int (i * j)
abbrev wPow : RW2 := wI2 CPow fun i j => .int (i ^ j.toNat)
abbrev wLt : RW2 := wII fun i j => .bl (decide (i < j))
abbrev wLe : RW2 := wII fun i j => .bl (decide (i ≤ j))
abbrev wGt : RW2 := wII fun i j => .bl (decide (j < i))
abbrev wGe : RW2 := wII fun i j => .bl (decide (j ≤ i))
section
variable {X : Cx} {K : PySem.W.Frag}
theorem op_fdivX (hd : Deep X) : OpR X (binaryOp .FloorDiv) (rI (fun _ j => j ≠ 0) fun i j => .int (i.fdiv j)) := by
  intro pins s σ H x y v u Q I rx ry h
  obtain ⟨i, j, rfl, rfl, c, q⟩ := h
  obtain ⟨t, rfl⟩ := rx
  obtain ⟨t', rfl⟩ := ry
  obtain ⟨env, l, e1, e2, e3, e4, e5⟩ := hd.frame
  exact floordiv_int c ⟨.int _, H, I.tok _, ⟨_, rfl⟩, q⟩ (.inr (PylongRoom.of I.nolimit hd.room (SeerAt.of (hd.seer.keeps I.bk) hd.tree (I.ok.frames.trans (by rw [e1])) e2 e3 e4 e5)))
theorem CMulX.ok {i j : Int} (h : CMulX i j) : IntMulOk i j := by
  have b : ∀ x : Int, Builtin.Int.intBits x ≤ x.natAbs.log2 + 1 := fun x => by
    show (if (x == 0) = true then 0 else x.natAbs.log2 + 1) ≤ _
    split <;> omega
  have h1 := b i
  have h2 := b j
  have hz : i.natAbs.log2 + j.natAbs.log2 < 134217000 := h
  have hb : bitsLine = 134217728 := by decide
  intro z
  simp only [Builtin.Int.intTooBig, Bool.and_eq_true, decide_eq_true_eq, hb] at z
  omega
theorem op_mulX : OpR X (binaryOp .Mult) (rI CMulX fun i j => .int (i * j)) := opI fun _ _ _ _ _ _ _ hc q => mul_int q hc.ok
theorem sim_I {C : Int → Int → Prop} {g : Int → Int → W} {g' : Int → Int → V} (hg : ∀ i j Z H, Rw K Z H (g i j) (g' i j)) : Sim2 K (rI C g') (wI2 C g) := by
  intro Z G H x y v u Qw Q h rx ry t k
  cases rx <;> cases ry <;> first
    | exact False.elim t
    | exact ⟨_, _, rfl, rfl, t.1, k.at h (hg _ _ Z H) t.2⟩
theorem sim_II {g : Int → Int → W} {g' : Int → Int → V} (hg : ∀ i j Z H, Rw K Z H (g i j) (g' i j)) : Sim2 K (rI0 g') (wII g) := by
  intro Z G H x y v u Qw Q h rx ry t k
  cases rx <;> cases ry <;> first
    | exact False.elim t
    | exact ⟨_, _, rfl, rfl, k.at h (hg _ _ Z H) t⟩
theorem sim_U {g : Int → W} {g' : Int → V} (hg : ∀ i Z H, Rw K Z H (g i) (g' i)) : Sim1 K (rU g') (wI1 g) := by
  intro Z G H x v Qw Q h rx t k
  cases rx <;> first
    | exact False.elim t
    | exact ⟨_, rfl, k.at h (hg _ Z H) t⟩
def rAddU (K : PySem.W.Frag) : R2 := fun x y H Q => (rI0 fun i j => .int (i + j)) x y H Q ∨ (∃ i j, x = .str i ∧ y = .str j ∧ i.length + j.length ≤ sizeLine ∧ Q (.str (i ++ j)) H) ∨ rCatA K x y H Q ∨ rCat x y H Q
theorem op_addU : OpR X (binaryOp .Add) (rAddU X.K) := OpR.or op_add (OpR.or op_add_str (OpR.or op_catA op_cat))
theorem sim_add : Sim2 K (rAddU K) wAdd := by
  intro Z G H x y v u Qw Q h rx ry t k
  cases rx with
  | int =>
    cases ry <;> first
      | exact False.elim t
      | exact .inl ⟨_, _, rfl, rfl, k.at h .int t⟩
  | str =>
    cases ry <;> first
      | exact False.elim t
      | exact .inr (.inl ⟨_, _, rfl, rfl, t.1, k.at h .str t.2⟩)
  | @tup p a vs s1 r1 =>
    cases ry with
    | @tup p2 b us s2 r2 =>
      obtain ⟨t2, t3⟩ := t
      refine .inr (.inr (.inl ⟨_, _, vs, us, rfl, rfl, s1, s2, ?_, fun z => ?_, fun _ z => ?_, fun _ z q n => ?_⟩))
      · rw [← r1.length, ← r2.length]; exact t2
      · subst z
        cases r1
        exact k.at h (.tup s2 r2) t3
      · subst z
        cases r2
        rw [List.append_nil] at t3
        exact k.at h (.tup s1 r1) t3
      · obtain ⟨h2, x2, r⟩ := new_tup h n (r1.append r2)
        exact k Z G _ _ _ x2 h2 r t3
    | _ => exact False.elim t
  | @lst p a vs z1 s1 r1 =>
    cases ry with
    | @lst p2 b us z2 s2 r2 =>
      obtain ⟨t2, t3⟩ := t
      refine .inr (.inr (.inr ⟨_, _, vs, us, rfl, rfl, s1, s2, ?_, fun q n => ?_⟩))
      · rw [← r1.length, ← r2.length]; exact t2
      · obtain ⟨h2, x2, r⟩ := new_frz h n (r1.append r2)
        exact k _ G _ _ _ x2 h2 r t3
    | _ => exact False.elim t
  | _ => exact False.elim t
variable {a b : Expr} {ta tb : TEw} {pos : Pos}
theorem qadd (ha : PEw X a ta) (hb : PEw X b tb) : PEw X (.BinOp a .Add b pos) (wOp wAdd ta tb) := qop op_addU sim_add ha hb
theorem qsub (ha : PEw X a ta) (hb : PEw X b tb) : PEw X (.BinOp a .Sub b pos) (wOp wSub ta tb) := qop op_sub (sim_II fun _ _ _ _ => .int) ha hb
theorem qmul (ha : PEw X a ta) (hb : PEw X b tb) : PEw X (.BinOp a .Mult b pos) (wOp wMul ta tb) := qop op_mulX (sim_I fun _ _ _ _ => .int) ha hb
theorem qmod (ha : PEw X a ta) (hb : PEw X b tb) : PEw X (.BinOp a .Mod b pos) (wOp wMod ta tb) := qop op_modN (sim_I fun _ _ _ _ => .int) ha hb
theorem qfdiv (hd : Deep X) (ha : PEw X a ta) (hb : PEw X b tb) : PEw X (.BinOp a .FloorDiv b pos) (wOp wFdiv ta tb) := qop (op_fdivX hd) (sim_I fun _ _ _ _ => .int) ha hb
theorem qpow (ha : PEw X a ta) (hb : PEw X b tb) : PEw X (.BinOp a .Pow b pos) (wOp wPow ta tb) := qop op_pow (sim_I fun _ _ _ _ => .int) ha hb
abbrev wNeg (ta : TEw) : TEw := wUn (wI1 fun i => .int (-i)) ta
theorem qneg (ha : PEw X a ta) : PEw X (.UnaryOp .USub a pos) (wNeg ta) := PE.imp (pe_un un_neg ha) fun _ _ _ h => lift1 (sim_U fun _ _ _ => .int) h
/-! ### comparisons -/
theorem qlt (ha : PEw X a ta) (hb : PEw X b tb) : PEw X (.Compare a [.Lt] [b] pos) (wOp wLt ta tb) := qcmp op_lt (sim_II fun _ _ _ _ => .bl) ha hb (nomark _)
theorem qle (ha : PEw X a ta) (hb : PEw X b tb) : PEw X (.Compare a [.LtE] [b] pos) (wOp wLe ta tb) := qcmp op_le (sim_II fun _ _ _ _ => .bl) ha hb (nomark _)
theorem qgt (ha : PEw X a ta) (hb : PEw X b tb) : PEw X (.Compare a [.Gt] [b] pos) (wOp wGt ta tb) := qcmp op_gt (sim_II fun _ _ _ _ => .bl) ha hb (nomark _)
theorem qge (ha : PEw X a ta) (hb : PEw X b tb) : PEw X (.Compare a [.GtE] [b] pos) (wOp wGe ta tb) := qcmp op_ge (sim_II fun _ _ _ _ => .bl) ha hb (nomark _)
theorem qtlt (ha : PEw X a ta) (hb : PEw X b tb) : PTw X (.Compare a [.Lt] [b] pos) (wTest (wOp wLt ta tb)) := qtcmp op_lt (sim_II fun _ _ _ _ => .bl) ha hb (nomark _)
theorem qtle (ha : PEw X a ta) (hb : PEw X b tb) : PTw X (.Compare a [.LtE] [b] pos) (wTest (wOp wLe ta tb)) := qtcmp op_le (sim_II fun _ _ _ _ => .bl) ha hb (nomark _)
theorem qtgt (ha : PEw X a ta) (hb : PEw X b tb) : PTw X (.Compare a [.Gt] [b] pos) (wTest (wOp wGt ta tb)) := qtcmp op_gt (sim_II fun _ _ _ _ => .bl) ha hb (nomark _)
theorem qtge (ha : PEw X a ta) (hb : PEw X b tb) : PTw X (.Compare a [.GtE] [b] pos) (wTest (wOp wGe ta tb)) := qtcmp op_ge (sim_II fun _ _ _ _ => .bl) ha hb (nomark _)
end
/-! ### == by data -/
mutual
def wdat : W → PyData
  | .non => .none
  | .bl b => .bool b
  | .int i => .int i
  | .str x => .str x
  | .tup ws => .tuple (wdats ws)
  | .lst ws => .list (wdats ws)
  | .scr ws => .list (wdats ws)
  | _ => .none
def wdats : List W → List PyData
  | [] => []
  | w :: ws => wdat w :: wdats ws
end
mutual
/-- data all through -/
def wpure : W → Bool
  | .ins _ _ => false
  | .dic _ => false
  | .exc _ _ _ _ => false
  | .ref _ => false
  | .ty _ => false
  | .tup ws => wpures ws
  | .lst ws => wpures ws
  | .scr ws => wpures ws
  | _ => true
def wpures : List W → Bool
  | [] => true
  | w :: ws => wpure w && wpures ws
end
def wder (G : Gp) : W → W
  | .ref p => match G p with
    | some (.lst ws) => .lst ws
    | _ => .ref p
  | w => w
def weqb (x y : W) : Bool := PyData.eqv (wdat x) (wdat y)
def wOk (w : W) : Prop := wpure w = true ∧ SeqAt.shaped (wdat w) = true
def wEq : RW2 := fun x y G Q => match x, y with
  | .int i, .int j => Q (.bl (decide (i = j))) G
  | .str i, .str j => Q (.bl (decide (i = j))) G
  | x, y => wOk (wder G x) ∧ wOk (wder G y) ∧ Q (.bl (weqb (wder G x) (wder G y))) G
def wNe : RW2 := fun x y G Q => match x, y with
  | .int i, .int j => Q (.bl (!decide (i = j))) G
  | .str i, .str j => Q (.bl (!decide (i = j))) G
  | x, y => wOk (wder G x) ∧ wOk (wder G y) ∧ Q (.bl (!weqb (wder G x) (wder G y))) G
section
variable {X : Cx} {K : PySem.W.Frag} {Z : Zp} {G : Gp} {H : Hp}
mutual
theorem Rw.dp : ∀ {w : W} {v : V}, Rw K Z H w v → wpure w = true → Dp K H v (wdat w)
  | _, _, .non, _ => by simp only [wdat]; exact .non
  | _, _, .bl, _ => by simp only [wdat]; exact .bl _
  | _, _, .int, _ => by simp only [wdat]; exact .int _
  | _, _, .str, _ => by simp only [wdat]; exact .str _
  | _, _, .ref, p => by simp [wpure] at p
  | _, _, .ty, p => by simp [wpure] at p
  | _, _, .ins _ _ _ _, p => by simp [wpure] at p
  | _, _, .dic _ _ _, p => by simp [wpure] at p
  | _, _, .exc0, p => by simp [wpure] at p
  | _, _, .excF _ _ _, p => by simp [wpure] at p
  | _, _, .tup s r, p => by simp only [wdat]; exact .tup s (RwL.dp r (by simpa [wpure] using p))
  | _, _, .lst _ s r, p => by simp only [wdat]; exact .lst (SqL.of s) (RwL.dp r (by simpa [wpure] using p))
  | _, _, .scr s r, p => by simp only [wdat]; exact .lst s.sq (RwL.dp r (by simpa [wpure] using p))
theorem RwL.dp : ∀ {ws : List W} {vs : List V}, RwL K Z H ws vs → wpures ws = true → DpAll K H vs (wdats ws)
  | _, _, .nil, _ => by simp only [wdats]; exact .nil
  | _, _, .cons r t, p => by
    simp only [wpures, Bool.and_eq_true] at p
    simp only [wdats]
    exact .cons (Rw.dp r p.1) (RwL.dp t p.2)
end
theorem dp_der (h : HRel K Z G H) {w : W} {v : V} (r : Rw K Z H w v) (p : wpure (wder G w) = true) : Dp K H v (wdat (wder G w)) := by
  cases r with
  | @ref a =>
    simp only [wder] at p ⊢
    cases q : G a with
    | none => rw [q] at p; simp [wpure] at p
    | some o =>
      rw [q] at p
      cases o with
      | lst ws =>
        simp only [wpure] at p
        simp only [wdat]
        obtain ⟨vs, e, t⟩ := h.lst q
        exact .lst (SqL.of e) (RwL.dp t p)
      | ins _ _ => simp [wpure] at p
      | dic _ => simp [wpure] at p
  | _ => first
    | exact Rw.dp (Z := Z) (by constructor <;> assumption) p
    | exact Rw.dp (Z := Z) (by constructor) p
def rEqU (K : PySem.W.Frag) : R2 := fun x y H Q => rEq x y H Q ∨ rEqD K x y H Q
def rNeU (K : PySem.W.Frag) : R2 := fun x y H Q => rNe x y H Q ∨ rNeD K x y H Q
theorem sim_eq : Sim2 K (rEqU K) wEq := by
  intro Z G H x y v u Qw Q h rx ry t k
  have gen : (wOk (wder G x) ∧ wOk (wder G y) ∧ Qw (.bl (weqb (wder G x) (wder G y))) G) → rEqU K v u H Q := fun t =>
    .inr ⟨_, _, dp_der h rx t.1.1, dp_der h ry t.2.1.1, t.1.2, t.2.1.2, k.at h .bl t.2.2⟩
  cases rx with
  | @int i =>
    cases ry with
    | @int j =>
      refine .inl ⟨rfl, ?_⟩
      rw [show decide (V.int i = V.int j) = decide (i = j) by simp]
      exact k.at h .bl t
    | _ => exact gen t
  | @str i =>
    cases ry with
    | @str j =>
      refine .inl ⟨rfl, ?_⟩
      rw [show decide (V.str i = V.str j) = decide (i = j) by simp]
      exact k.at h .bl t
    | _ => exact gen t
  | _ => exact gen t
theorem sim_ne : Sim2 K (rNeU K) wNe := by
  intro Z G H x y v u Qw Q h rx ry t k
  have gen : (wOk (wder G x) ∧ wOk (wder G y) ∧ Qw (.bl (!weqb (wder G x) (wder G y))) G) → rNeU K v u H Q := fun t =>
    .inr ⟨_, _, dp_der h rx t.1.1, dp_der h ry t.2.1.1, t.1.2, t.2.1.2, k.at h .bl t.2.2⟩
  cases rx with
  | @int i =>
    cases ry with
    | @int j =>
      refine .inl ⟨rfl, ?_⟩
      rw [show decide (V.int i = V.int j) = decide (i = j) by simp]
      exact k.at h .bl t
    | _ => exact gen t
  | @str i =>
    cases ry with
    | @str j =>
      refine .inl ⟨rfl, ?_⟩
      rw [show decide (V.str i = V.str j) = decide (i = j) by simp]
      exact k.at h .bl t
    | _ => exact gen t
  | _ => exact gen t
variable {a b : Expr} {ta tb : TEw} {pos : Pos}
theorem hu64 {A : Around} {k : Nat} (hr : Room k A) : A.units + 64 < cLine := by have := hr.un; omega
theorem qeq {k : Nat} (hr : Room k X.A) (ha : PEw X a ta) (hb : PEw X b tb) : PEw X (.Compare a [.Eq] [b] pos) (wOp wEq ta tb) := qcmp (OpR.or op_eq (op_eqD (hu64 hr))) sim_eq ha hb (nomark _)
theorem qne {k : Nat} (hr : Room k X.A) (ha : PEw X a ta) (hb : PEw X b tb) : PEw X (.Compare a [.NotEq] [b] pos) (wOp wNe ta tb) := qcmp (OpR.or op_ne (op_neD (hu64 hr))) sim_ne ha hb (nomark _)
theorem qteq {k : Nat} (hr : Room k X.A) (ha : PEw X a ta) (hb : PEw X b tb) : PTw X (.Compare a [.Eq] [b] pos) (wTest (wOp wEq ta tb)) := qtcmp (OpR.or op_eq (op_eqD (hu64 hr))) sim_eq ha hb (nomark _)
theorem qtne {k : Nat} (hr : Room k X.A) (ha : PEw X a ta) (hb : PEw X b tb) : PTw X (.Compare a [.NotEq] [b] pos) (wTest (wOp wNe ta tb)) := qtcmp (OpR.or op_ne (op_neD (hu64 hr))) sim_ne ha hb (nomark _)
/-! ### is None -/
def isNon : W → Bool
  | .non => true
  | _ => false
def wIsN (ta : TEw) : TEw := wUn (fun x G Q => Q (.bl (isNon x)) G) ta
def wNotN (ta : TEw) : TEw := wUn (fun x G Q => Q (.bl (!isNon x)) G) ta
theorem Rw.isNon {w : W} {v : V} (r : Rw K Z H w v) : decide (v = .non) = isNon w := by
  cases r <;> simp [WL.isNon]
theorem qisN {j p2} (ha : PEw X a ta) : PEw X (.Compare a [.Is] [.Constant .none j p2] pos) (wIsN ta) := PE.imp (pe_cmp (pc_isN ha) rfl) fun σ H Q h => by
  obtain ⟨Z, σ', G, Qw, e, hr, t, k⟩ := h
  exact ⟨Z, σ', G, _, e, hr, t, fun Z1 G1 H1 x v x1 h1 r1 t1 => by show Q (V.bl (decide (v = .non))) H1; rw [r1.isNon]; exact k Z1 G1 H1 _ _ x1 h1 .bl t1⟩
theorem qnotN {j p2} (ha : PEw X a ta) : PEw X (.Compare a [.IsNot] [.Constant .none j p2] pos) (wNotN ta) := PE.imp (pe_cmp (pc_notN ha) rfl) fun σ H Q h => by
  obtain ⟨Z, σ', G, Qw, e, hr, t, k⟩ := h
  exact ⟨Z, σ', G, _, e, hr, t, fun Z1 G1 H1 x v x1 h1 r1 t1 => by show Q (V.bl (!decide (v = .non))) H1; rw [r1.isNon]; exact k Z1 G1 H1 _ _ x1 h1 .bl t1⟩
end
/-! ### tests, truths -/
section
variable {X : Cx} {K : PySem.W.Frag} {a b c : Expr} {ta tb : TEw} {t u : TTw} {rest : List Expr} {pos : Pos}
theorem qtv (ha : PEw X a ta) (he : ∀ whole, isTrue a X.env whole = (do let v ← whole; standAt a.pos; holding [v] (truthy v)) := by intro _; rfl) : PTw X a (wTest ta) :=
  PT.imp (pt_val ha he) fun σ H Q h => by
    obtain ⟨Z, σ', G, Qw, e, hr, t', k⟩ := h
    refine ⟨Z, σ', G, _, e, hr, t', fun Z1 G1 H1 w v x1 h1 r1 t1 => ?_⟩
    obtain ⟨b, rfl, q⟩ := t1
    cases r1
    exact ⟨b, rfl, k Z1 G1 H1 b x1 h1 q⟩
def wAnd (t u : TTw) : TTw := fun σ G Q => t σ G fun c G1 => if c = true then u σ G1 Q else Q false G1
def wOr (t u : TTw) : TTw := fun σ G Q => t σ G fun c G1 => if c = true then Q true G1 else u σ G1 Q
def wNot (t : TTw) : TTw := fun σ G Q => t σ G fun c G1 => Q (!c) G1
theorem qand1 (ha : PTw X a t) : PWw X (.BoolOp .And [a] pos) t := pw_and1 ha
theorem qor1 (ha : PTw X a t) : PWw X (.BoolOp .Or [a] pos) t := pw_or1 ha
theorem qand (ha : PTw X a t) (hb : PWw X (.BoolOp .And (b :: rest) pos) u) : PWw X (.BoolOp .And (a :: b :: rest) pos) (wAnd t u) :=
  PW.imp (pw_and ha hb) fun σ H Q h => by
    obtain ⟨Z, σ', G, Qw, e, hr, t', k⟩ := h
    refine ⟨Z, σ', G, _, e, hr, t', fun Z1 G1 H1 b x1 h1 t1 => ?_⟩
    cases b with
    | true => exact ⟨Z1, σ', G1, Qw, e.ext hr x1, h1, t1, fun Z2 G2 H2 b x2 => k Z2 G2 H2 b (x1.trans x2)⟩
    | false => exact k Z1 G1 H1 _ x1 h1 t1
theorem qor (ha : PTw X a t) (hb : PWw X (.BoolOp .Or (b :: rest) pos) u) : PWw X (.BoolOp .Or (a :: b :: rest) pos) (wOr t u) :=
  PW.imp (pw_or ha hb) fun σ H Q h => by
    obtain ⟨Z, σ', G, Qw, e, hr, t', k⟩ := h
    refine ⟨Z, σ', G, _, e, hr, t', fun Z1 G1 H1 b x1 h1 t1 => ?_⟩
    cases b with
    | false => exact ⟨Z1, σ', G1, Qw, e.ext hr x1, h1, t1, fun Z2 G2 H2 b x2 => k Z2 G2 H2 b (x1.trans x2)⟩
    | true => exact k Z1 G1 H1 _ x1 h1 t1
theorem qwt (h : PWw X a t) : PTw X a t := PW.pt h
theorem qnot (ha : PTw X a t) : PTw X (.UnaryOp .Not a pos) (wNot t) :=
  PT.imp (pt_not ha) fun σ H Q h => by
    obtain ⟨Z, σ', G, Qw, e, hr, t', k⟩ := h
    exact ⟨Z, σ', G, _, e, hr, t', fun Z1 G1 H1 b x1 h1 t1 => k Z1 G1 H1 _ x1 h1 t1⟩
/-- and, or, not as values -/
def wAndV (ta tb : TEw) : TEw := fun σ G Q => ta σ G fun x G1 => ∃ c, x = .bl c ∧ if c = true then tb σ G1 Q else Q (.bl false) G1
def wOrV (ta tb : TEw) : TEw := fun σ G Q => ta σ G fun x G1 => ∃ c, x = .bl c ∧ if c = true then Q (.bl true) G1 else tb σ G1 Q
def wNotV (ta : TEw) : TEw := fun σ G Q => ta σ G fun x G1 => ∃ c, x = .bl c ∧ Q (.bl (!c)) G1
theorem qone {op} (ha : PEw X a ta) : PEw X (.BoolOp op [a] pos) ta := pe_one ha
theorem qandV (ha : PEw X a ta) (hb : PEw X (.BoolOp .And (b :: rest) pos) tb) : PEw X (.BoolOp .And (a :: b :: rest) pos) (wAndV ta tb) :=
  PE.imp (pe_and ha hb) fun σ H Q h => by
    obtain ⟨Z, σ', G, Qw, e, hr, t', k⟩ := h
    refine ⟨Z, σ', G, _, e, hr, t', fun Z1 G1 H1 x v x1 h1 r1 t1 => ?_⟩
    obtain ⟨c, rfl, t1⟩ := t1
    cases r1
    refine ⟨c, rfl, ?_⟩
    cases c with
    | true => exact ⟨Z1, σ', G1, Qw, e.ext hr x1, h1, t1, k.mono x1⟩
    | false => exact k Z1 G1 H1 _ _ x1 h1 .bl t1
theorem qorV (ha : PEw X a ta) (hb : PEw X (.BoolOp .Or (b :: rest) pos) tb) : PEw X (.BoolOp .Or (a :: b :: rest) pos) (wOrV ta tb) :=
  PE.imp (pe_or ha hb) fun σ H Q h => by
    obtain ⟨Z, σ', G, Qw, e, hr, t', k⟩ := h
    refine ⟨Z, σ', G, _, e, hr, t', fun Z1 G1 H1 x v x1 h1 r1 t1 => ?_⟩
    obtain ⟨c, rfl, t1⟩ := t1
    cases r1
    refine ⟨c, rfl, ?_⟩
    cases c with
    | false => exact ⟨Z1, σ', G1, Qw, e.ext hr x1, h1, t1, k.mono x1⟩
    | true => exact k Z1 G1 H1 _ _ x1 h1 .bl t1
theorem qnotV (ha : PEw X a ta) : PEw X (.UnaryOp .Not a pos) (wNotV ta) :=
  PE.imp (pe_not ha) fun σ H Q h => by
    obtain ⟨Z, σ', G, Qw, e, hr, t', k⟩ := h
    refine ⟨Z, σ', G, _, e, hr, t', fun Z1 G1 H1 x v x1 h1 r1 t1 => ?_⟩
    obtain ⟨c, rfl, t1⟩ := t1
    cases r1
    exact ⟨c, rfl, k Z1 G1 H1 _ _ x1 h1 .bl t1⟩
def wIf (t : TTw) (ta tb : TEw) : TEw := fun σ G Q => t σ G fun c G1 => if c = true then ta σ G1 Q else tb σ G1 Q
theorem qifExp (hc : PTw X c t) (ha : PEw X a ta) (hb : PEw X b tb) : PEw X (.IfExp c a b pos) (wIf t ta tb) :=
  PE.imp (pe_ifExp hc ha hb) fun σ H Q h => by
    obtain ⟨Z, σ', G, Qw, e, hr, t', k⟩ := h
    refine ⟨Z, σ', G, _, e, hr, t', fun Z1 G1 H1 b x1 h1 t1 => ?_⟩
    cases b with
    | true => exact ⟨Z1, σ', G1, Qw, e.ext hr x1, h1, t1, k.mono x1⟩
    | false => exact ⟨Z1, σ', G1, Qw, e.ext hr x1, h1, t1, k.mono x1⟩
/-- a < b < c -/
def wChain (r r' : RW2) (ta tb tc : TEw) : TEw := fun σ G Q => ta σ G fun x G1 => tb σ G1 fun y G2 => r x y G2 fun z G3 => ∃ k, z = .bl k ∧ (if k = true then tc σ G3 fun w G4 => r' y w G4 Q else Q (.bl false) G3)
theorem lchain {r r' : R2} {wr wr' : RW2} {tc : TEw} (hs : Sim2 K r wr) (hs' : Sim2 K r' wr') {σ : SV} {H : Hp} {Q : VK} (h : liftE K (wChain wr wr' ta tb tc) σ H Q) : tChain r r' (liftE K ta) (liftE K tb) (liftE K tc) σ H Q := by
  obtain ⟨Z, σ', G, Qw, e, hr, t, k⟩ := h
  refine ⟨Z, σ', G, _, e, hr, t, fun Z1 G1 H1 x v x1 h1 r1 t1 => ?_⟩
  refine ⟨Z1, σ', G1, _, e.ext hr x1, h1, t1, fun Z2 G2 H2 y u x2 h2 r2 t2 => ?_⟩
  refine hs Z2 G2 H2 x y v u _ _ h2 (r1.ext h1 x2) r2 t2 fun Z3 G3 H3 z zv x3 h3 r3 t3 => ?_
  obtain ⟨b, rfl, t3⟩ := t3
  cases r3
  refine ⟨b, rfl, ?_⟩
  cases b with
  | false => exact k Z3 G3 H3 _ _ ((x1.trans x2).trans x3) h3 .bl t3
  | true =>
    refine ⟨Z3, σ', G3, _, e.ext hr ((x1.trans x2).trans x3), h3, t3, fun Z4 G4 H4 w wv x4 h4 r4 t4 => ?_⟩
    exact hs' Z4 G4 H4 y w u wv Qw Q h4 (r2.ext h2 (x3.trans x4)) r4 t4 (k.mono (((x1.trans x2).trans x3).trans x4))
theorem qchain {op op' : CmpOp} {r r' : R2} {wr wr' : RW2} {tc : TEw} (ho : OpR X (compareOp op) r) (ho' : OpR X (compareOp op') r') (hs : Sim2 X.K r wr) (hs' : Sim2 X.K r' wr') (ha : PEw X a ta) (hb : PEw X b tb) (hc : PEw X c tc)
    (hm : lastMarks [op, op'] [b, c] = false := by with_unfolding_all rfl) : PEw X (.Compare a [op, op'] [b, c] pos) (wChain wr wr' ta tb tc) := PE.imp (pe_chain ho ho' ha hb hc hm) fun _ _ _ h => lchain hs hs' h
theorem qtchain {op op' : CmpOp} {r r' : R2} {wr wr' : RW2} {tc : TEw} (ho : OpR X (compareOp op) r) (ho' : OpR X (compareOp op') r') (hs : Sim2 X.K r wr) (hs' : Sim2 X.K r' wr') (ha : PEw X a ta) (hb : PEw X b tb) (hc : PEw X c tc)
    (hm : lastMarks [op, op'] [b, c] = false := by with_unfolding_all rfl) : PTw X (.Compare a [op, op'] [b, c] pos) (wTest (wChain wr wr' ta tb tc)) := PT.imp (pt_chain ho ho' ha hb hc hm) fun _ _ _ h => ltest (fun _ _ _ => lchain hs hs') h
theorem qlele {tc : TEw} (ha : PEw X a ta) (hb : PEw X b tb) (hc : PEw X c tc) (hm : lastMarks [.LtE, .LtE] [b, c] = false := by with_unfolding_all rfl) : PEw X (.Compare a [.LtE, .LtE] [b, c] pos) (wChain wLe wLe ta tb tc) :=
  qchain op_le op_le (sim_II fun _ _ _ _ => .bl) (sim_II fun _ _ _ _ => .bl) ha hb hc hm
theorem qtlele {tc : TEw} (ha : PEw X a ta) (hb : PEw X b tb) (hc : PEw X c tc) (hm : lastMarks [.LtE, .LtE] [b, c] = false := by with_unfolding_all rfl) : PTw X (.Compare a [.LtE, .LtE] [b, c] pos) (wTest (wChain wLe wLe ta tb tc)) :=
  qtchain op_le op_le (sim_II fun _ _ _ _ => .bl) (sim_II fun _ _ _ _ => .bl) ha hb hc hm
end
end WL

namespace WL
open PySem PySem.Spec PyProof.Rows L2
/-! ### tuples, lists -/
def wTup (t : TAw) : TEw := fun σ G Q => t σ G fun ws G1 => ws.length ≤ sizeLine ∧ Q (.tup ws) G1
/-- a new list, frozen at once -/
def wLst (t : TAw) : TEw := fun σ G Q => t σ G fun ws G1 => ws.length ≤ sizeLine ∧ Q (.lst ws) G1
/-- a new list that may be changed -/
def wLstM (t : TAw) : TEw := fun σ G Q => t σ G fun ws G1 => ws.length ≤ sizeLine ∧ ∀ p, G1 p = none → Q (.ref p) (gup G1 p (.lst ws))
def wIx : RW2 := fun x y G Q => match x, y with
  | .tup ws, .int i => isS (atI ws i) fun w => Q w G
  | .str z, .int i => z.length ≤ sizeLine ∧ isS (atI z.cps.toList i) fun c => Q (.str ⟨#[c]⟩) G
  | x, .int i => isS (asL G x) fun ws => isS (atI ws i) fun w => Q w G
  | _, _ => False
theorem ixN_len {n m : Nat} (e : n = m) (i : Int) : ixN n i = ixN m i := by rw [e]
section
variable {X : Cx} {K : PySem.W.Frag} {Z : Zp} {G : Gp} {H : Hp}
theorem RwL.atI {ws : List W} {vs : List V} (r : RwL K Z H ws vs) {i : Int} {w : W} (e : L2.atI ws i = some w) : ∃ v, L2.atI vs i = some v ∧ Rw K Z H w v := by
  unfold L2.atI at e ⊢
  rw [← r.length]
  cases q : ixN ws.length i with
  | none => rw [q] at e; cases e
  | some j =>
    rw [q] at e
    exact r.get j e
theorem sim_ix : Sim2 K (rIx K) wIx := by
  intro Z G H x y v u Qw Q h rx ry t k
  have gen : ∀ {i : Int}, (isS (asL G x) fun ws => isS (L2.atI ws i) fun w => Qw w G) → rIx K v (.int i) H Q := fun q => by
    obtain ⟨ws, e, q⟩ := isS_ex q
    obtain ⟨w, a, q⟩ := isS_ex q
    obtain ⟨p, vs, rfl, s, r⟩ := asL_sq h rx e
    obtain ⟨v', a', r'⟩ := r.atI a
    exact .inl ⟨p, vs, _, v', rfl, rfl, s, a', k.at h r' q⟩
  cases ry with
  | @int i =>
    cases rx with
    | @tup p ws vs s r =>
      obtain ⟨w, a, q⟩ := isS_ex t
      obtain ⟨v', a', r'⟩ := r.atI a
      exact .inr (.inl ⟨p, vs, _, v', rfl, rfl, s, a', k.at h r' q⟩)
    | str =>
      obtain ⟨l, t⟩ := t
      obtain ⟨c, a, q⟩ := isS_ex t
      exact .inr (.inr ⟨_, _, c, rfl, rfl, l, a, k.at h .str q⟩)
    | _ => exact gen t
  | _ => cases rx <;> exact False.elim t
variable {a b : Expr} {ta tb : TEw} {es : List Expr} {t : TAw} {pos : Pos}
theorem qtup {x1} (h : PAw X es t) : PEw X (.Tuple es x1 pos) (wTup t) := PE.imp (pe_tup h) fun σ H Q h => by
  obtain ⟨Z, σ', G, Qw, e, hr, t', k⟩ := h
  refine ⟨Z, σ', G, _, e, hr, t', fun Z1 G1 H1 ws vs x1 h1 r1 t1 => ⟨by rw [← r1.length]; exact t1.1, fun p n => ?_⟩⟩
  obtain ⟨h2, x2, r2⟩ := new_tup h1 n r1
  exact k Z1 G1 _ _ _ (x1.trans x2) h2 r2 t1.2
theorem qlst (h : PAw X es t) : PEw X (.List es pos) (wLst t) := PE.imp (pe_lst h) fun σ H Q h => by
  obtain ⟨Z, σ', G, Qw, e, hr, t', k⟩ := h
  refine ⟨Z, σ', G, _, e, hr, t', fun Z1 G1 H1 ws vs x1 h1 r1 t1 => ⟨by rw [← r1.length]; exact t1.1, fun p n => ?_⟩⟩
  obtain ⟨h2, x2, r2⟩ := new_frz h1 n r1
  exact k _ G1 _ _ _ (x1.trans x2) h2 r2 t1.2
theorem qlstM (h : PAw X es t) : PEw X (.List es pos) (wLstM t) := PE.imp (pe_lst h) fun σ H Q h => by
  obtain ⟨Z, σ', G, Qw, e, hr, t', k⟩ := h
  refine ⟨Z, σ', G, _, e, hr, t', fun Z1 G1 H1 ws vs x1 h1 r1 t1 => ⟨by rw [← r1.length]; exact t1.1, fun p n => ?_⟩⟩
  obtain ⟨g, h2, x2⟩ := new_lst h1 n r1
  exact k Z1 _ _ _ _ (x1.trans x2) h2 .ref (t1.2 p g)
theorem qix (ha : PEw X a ta) (hb : PEw X b tb) (hp : PlainIx b := by exact fun _ _ => rfl) : PEw X (.Subscript a b pos) (wOp wIx ta tb) := PE.imp (pe_ix ix_seq ha hb hp) fun _ _ _ h => lift2 sim_ix h
/-! ### calls of the built-in -/
def wLen : List W → Gp → QW → Prop := fun ws G Q => match ws with
  | [.tup us] => Q (.int us.length) G
  | [.str z] => z.length ≤ sizeLine ∧ Q (.int z.length) G
  | [x] => isS (asL G x) fun us => Q (.int us.length) G
  | _ => False
theorem sim_len : SimN K (fun xs H Q => ∃ x n, xs = [x] ∧ LenV K x H n ∧ Q (.int n) H) wLen := by
  intro Z G H ws vs Qw Q h r t k
  cases r with
  | nil => exact False.elim t
  | @cons w v ws vs rx rr =>
    cases rr with
    | cons _ _ => cases rx <;> exact False.elim t
    | nil =>
      have gen : (isS (asL G w) fun us => Qw (.int us.length) G) → ∃ x n, [v] = [x] ∧ LenV K x H n ∧ Q (.int n) H := fun q => by
        obtain ⟨us, e, q⟩ := isS_ex q
        obtain ⟨p, vs, rfl, s, r⟩ := asL_sq h rx e
        exact ⟨_, vs.length, rfl, .inl ⟨vs, s, rfl⟩, by rw [← r.length]; exact k.at h .int q⟩
      cases rx with
      | @tup p us vs s r => exact ⟨_, vs.length, rfl, .inr ⟨vs, s, rfl⟩, by rw [← r.length]; exact k.at h .int t⟩
      | str => exact ⟨_, _, rfl, ⟨t.1, rfl⟩, k.at h .int t.2⟩
      | _ => exact gen t
def wI1N (g : Int → W) : List W → Gp → QW → Prop := fun ws G Q => match ws with
  | [.int i] => Q (g i) G
  | _ => False
def wI2N (g : Int → Int → W) : List W → Gp → QW → Prop := fun ws G Q => match ws with
  | [.int i, .int j] => Q (g i j) G
  | _ => False
theorem sim_1N {g : Int → W} {g' : Int → V} (hg : ∀ i Z H, Rw K Z H (g i) (g' i)) : SimN K (fun xs H Q => ∃ i, xs = [.int i] ∧ Q (g' i) H) (wI1N g) := by
  intro Z G H ws vs Qw Q h r t k
  cases r with
  | nil => exact False.elim t
  | cons rx rr =>
    cases rr with
    | cons _ _ => cases rx <;> exact False.elim t
    | nil => cases rx <;> first
      | exact False.elim t
      | exact ⟨_, rfl, k.at h (hg _ _ _) t⟩
theorem sim_2N {g : Int → Int → W} {g' : Int → Int → V} (hg : ∀ i j Z H, Rw K Z H (g i j) (g' i j)) : SimN K (fun xs H Q => ∃ i j, xs = [.int i, .int j] ∧ Q (g' i j) H) (wI2N g) := by
  intro Z G H ws vs Qw Q h r t k
  cases r with
  | nil => exact False.elim t
  | cons rx rr =>
    cases rr with
    | nil => cases rx <;> exact False.elim t
    | cons ry rr =>
      cases rr with
      | cons _ _ => cases rx <;> cases ry <;> exact False.elim t
      | nil => cases rx <;> cases ry <;> first
        | exact False.elim t
        | exact ⟨_, _, rfl, k.at h (hg _ _ _ _) t⟩
variable {x : Str} {p : Pos} {e : Expr}
theorem qlen (hg : Gl X "len") (hm : X.mg "len" = none) (ha : PAw X (e :: es) t) (he : starEach (e :: es) X.env = (false, eval e X.env) :: starEach es X.env := by rfl) (hpl : (backTo pos (starEach es X.env)).any (·.1) = false := by rfl) :
    PEw X (.Call (.Name "len" p) (e :: es) [] pos) (wCB wLen t) := PE.imp (pe_callB call_len hg hm PySem.boot_len ha (by decide) (by decide) he hpl) fun _ _ _ h => liftN sim_len h
theorem qabs (hg : Gl X "abs") (hm : X.mg "abs" = none) (ha : PAw X (e :: es) t) (he : starEach (e :: es) X.env = (false, eval e X.env) :: starEach es X.env := by rfl) (hpl : (backTo pos (starEach es X.env)).any (·.1) = false := by rfl) :
    PEw X (.Call (.Name "abs" p) (e :: es) [] pos) (wCB (wI1N fun i => .int (if i < 0 then -i else i)) t) := PE.imp (pe_callB call_abs hg hm (by decide +kernel) ha (by decide) (by decide) he hpl) fun _ _ _ h => liftN (sim_1N fun _ _ _ => .int) h
theorem qmin2 (hc : X.calm = true) (hg : Gl X "min") (hm : X.mg "min" = none) (ha : PAw X (e :: es) t) (he : starEach (e :: es) X.env = (false, eval e X.env) :: starEach es X.env := by rfl) (hpl : (backTo pos (starEach es X.env)).any (·.1) = false := by rfl) :
    PEw X (.Call (.Name "min" p) (e :: es) [] pos) (wCB (wI2N fun i j => .int (if j < i then j else i)) t) := PE.imp (pe_callB (call_min2 hc) hg hm (by decide +kernel) ha (by decide) (by decide) he hpl) fun _ _ _ h => liftN (sim_2N fun _ _ _ _ => .int) h
theorem qmax2 (hc : X.calm = true) (hg : Gl X "max") (hm : X.mg "max" = none) (ha : PAw X (e :: es) t) (he : starEach (e :: es) X.env = (false, eval e X.env) :: starEach es X.env := by rfl) (hpl : (backTo pos (starEach es X.env)).any (·.1) = false := by rfl) :
    PEw X (.Call (.Name "max" p) (e :: es) [] pos) (wCB (wI2N fun i j => .int (if j > i then j else i)) t) := PE.imp (pe_callB (call_max2 hc) hg hm (by decide +kernel) ha (by decide) (by decide) he hpl) fun _ _ _ h => liftN (sim_2N fun _ _ _ _ => .int) h
def wInt : List W → Gp → QW → Prop := fun ws G Q => match ws with
  | [.int i] => Q (.int i) G
  | [.bl b] => Q (.int (if b then 1 else 0)) G
  | _ => False
theorem sim_int : SimN K (fun xs H Q => (∃ i, xs = [.int i] ∧ Q (.int i) H) ∨ ∃ k, xs = [.bl k] ∧ Q (.int (if k then 1 else 0)) H) wInt := by
  intro Z G H ws vs Qw Q h r t k
  cases r with
  | nil => exact False.elim t
  | cons rx rr =>
    cases rr with
    | cons _ _ => cases rx <;> exact False.elim t
    | nil => cases rx <;> first
      | exact False.elim t
      | exact .inl ⟨_, rfl, k.at h .int t⟩
      | exact .inr ⟨_, rfl, k.at h .int t⟩
theorem qint1 (hg : Gl X "int") (hm : X.mg "int" = none) (ha : PAw X (e :: es) t) (he : starEach (e :: es) X.env = (false, eval e X.env) :: starEach es X.env := by rfl) (hpl : (backTo pos (starEach es X.env)).any (·.1) = false := by rfl) :
    PEw X (.Call (.Name "int" p) (e :: es) [] pos) (wCB wInt t) := PE.imp (pe_callTy call_int1 hg hm (by decide +kernel) ha (by decide) (by decide) he hpl) fun _ _ _ h => liftN sim_int h
def wStrI : List W → Gp → QW → Prop := fun ws G Q => match ws with
  | [.int i] => i.natAbs.log2 < 1920 ∧ Q (.str (Str.ofString (toString i))) G
  | _ => False
theorem sim_strI : SimN K (fun xs H Q => ∃ i, xs = [V.int i] ∧ i.natAbs.log2 < 1920 ∧ Q (V.str (Str.ofString (toString i))) H) wStrI := by
  intro Z G H ws vs Qw Q h r t k
  cases r with
  | nil => exact False.elim t
  | cons rx rr =>
    cases rr with
    | cons _ _ => cases rx <;> exact False.elim t
    | nil => cases rx <;> first
      | exact False.elim t
      | exact ⟨_, rfl, t.1, k.at h .str t.2⟩
theorem qstrI (hg : Gl X "str") (hm : X.mg "str" = none) (ha : PAw X (e :: es) t) (he : starEach (e :: es) X.env = (false, eval e X.env) :: starEach es X.env := by rfl) (hpl : (backTo pos (starEach es X.env)).any (·.1) = false := by rfl) :
    PEw X (.Call (.Name "str" p) (e :: es) [] pos) (wCB wStrI t) := PE.imp (pe_callTy call_str_int hg hm (by decide +kernel) ha (by decide) (by decide) he hpl) fun _ _ _ h => liftN sim_strI h
end
/-! ### statements -/
def wNext : TSw := fun D σ G => D.nx σ G
def wSeq (t u : TSw) : TSw := fun D σ G => t { D with nx := u D } σ G
def wBreak : TSw := fun D σ G => D.bk σ G
def wCont : TSw := fun D σ G => D.ct σ G
def wDrop (te : TEw) : TSw := fun D σ G => te σ G fun _ G1 => D.nx σ G1
def wRet (te : TEw) : TSw := fun D σ G => te σ G D.rt
def wRetN : TSw := fun D _ G => D.rt .non G
def wIfS (c : TTw) (t u : TSw) : TSw := fun D σ G => c σ G fun b G1 => if b = true then t D σ G1 else u D σ G1
def wNever : TSw := fun _ _ _ => False
def gN (i : Nat) : TGw := fun w σ G Q => Q (sset σ i w) G
def gsN : TGsw := fun ws σ G Q => match ws with
  | [] => Q σ G
  | _ => False
def gsC (t : TGw) (u : TGsw) : TGsw := fun ws σ G Q => match ws with
  | w :: r => t w σ G fun σ1 G1 => u r σ1 G1 Q
  | [] => False
def gT (n : Nat) (t : TGsw) : TGw := fun w σ G Q => match w with
  | .tup ws => ws.length = n ∧ t ws σ G Q
  | .lst ws => ws.length = n ∧ t ws σ G Q
  | .ref p => isG (G p) fun ws => ws.length = n ∧ t ws σ G Q
  | _ => False
def setIx (o i w : W) (G : Gp) (Q : Gp → Prop) : Prop := match o, i with
  | .ref p, .int k => isG (G p) fun ws => isS (ixN ws.length k) fun j => Q (gup G p (.lst (ws.set j w)))
  | _, _ => False
theorem setIx_ex {o i w : W} {G : Gp} {Q : Gp → Prop} (h : setIx o i w G Q) : ∃ p k ws j, o = .ref p ∧ i = .int k ∧ G p = some (.lst ws) ∧ ixN ws.length k = some j ∧ Q (gup G p (.lst (ws.set j w))) := by
  unfold setIx at h
  split at h
  · obtain ⟨ws, g, h⟩ := isG_ex h
    obtain ⟨j, e, h⟩ := isS_ex h
    exact ⟨_, _, ws, j, rfl, rfl, g, e, h⟩
  · exact h.elim
def gIx (to ti : TEw) : TGw := fun w σ G Q => to σ G fun o G1 => ti σ G1 fun i G2 => setIx o i w G2 (Q σ)
def wAsg (te : TEw) (g : TGw) : TSw := fun D σ G => te σ G fun w G1 => g w σ G1 D.nx
def wPar (i j : Nat) (t : TAw) : TSw := fun D σ G => t σ G fun ws G1 => match ws with
  | [a, b] => D.nx (sset (sset σ i a) j b) G1
  | _ => False
def wAug (i : Nat) (te : TEw) (r : RW2) : TSw := fun D σ G => isS (slot σ i) fun x => te σ G fun y G1 => r x y G1 fun z G2 => D.nx (sset σ i z) G2
section
variable {X : Cx} {K : PySem.W.Frag} {st : Stmt} {rest : List Stmt} {t u : TSw} {e : Expr} {te : TEw} {pos : Pos}
theorem qs_nil : PSsw X [] wNext := PSs.imp pss_nil fun D σ H h => by
  obtain ⟨Z, σ', G, Dw, e, hr, t, k⟩ := h
  exact k.nx Z G H σ' σ Ext.refl hr e t
theorem qs_cons (h1 : PSw X st t) (h2 : PSsw X rest u) : PSsw X (st :: rest) (wSeq t u) := PSs.imp (pss_cons h1 h2) fun D σ H h => by
  obtain ⟨Z, σ', G, Dw, e, hr, t, k⟩ := h
  exact ⟨Z, σ', G, _, e, hr, t, ⟨fun Z1 G1 H1 s1 s2 x1 h1 r1 q => ⟨Z1, s1, G1, Dw, r1, h1, q, k.mono x1⟩, k.rt, k.bk, k.ct, k.ex⟩⟩
theorem qs_one (h1 : PSw X st t) : PSsw X [st] t := pss_one h1
theorem qpass : PSw X (.Pass pos) wNext := PS.imp ps_pass fun D σ H h => by
  obtain ⟨Z, σ', G, Dw, e, hr, t, k⟩ := h
  exact k.nx Z G H σ' σ Ext.refl hr e t
theorem qdoc {x j pos pos'} : PSw X (.Expr (.Constant (.str x) j pos) pos') wNext := PS.imp ps_doc fun D σ H h => by
  obtain ⟨Z, σ', G, Dw, e, hr, t, k⟩ := h
  exact k.nx Z G H σ' σ Ext.refl hr e t
theorem qbreak : PSw X (.Break pos) wBreak := PS.imp ps_break fun D σ H h => by
  obtain ⟨Z, σ', G, Dw, e, hr, t, k⟩ := h
  exact k.bk Z G H σ' σ Ext.refl hr e t
theorem qcont : PSw X (.Continue pos) wCont := PS.imp ps_continue fun D σ H h => by
  obtain ⟨Z, σ', G, Dw, e, hr, t, k⟩ := h
  exact k.ct Z G H σ' σ Ext.refl hr e t
theorem qexpr (he : PEw X e te) (hs : swapsWith e none pos.line X.env = pure false := by rfl) : PSw X (.Expr e pos) (wDrop te) := PS.imp (ps_expr he hs) fun D σ H h => by
  obtain ⟨Z, σ', G, Dw, e, hr, t, k⟩ := h
  exact ⟨Z, σ', G, _, e, hr, t, fun Z1 G1 H1 w v x1 h1 r1 q => k.nx Z1 G1 H1 σ' σ x1 h1 (e.ext hr x1) q⟩
theorem qret (he : PEw X e te) : PSw X (.Return (some e) pos) (wRet te) := PS.imp (ps_ret he) fun D σ H h => by
  obtain ⟨Z, σ', G, Dw, e, hr, t, k⟩ := h
  exact ⟨Z, σ', G, _, e, hr, t, k.rt⟩
theorem qretN : PSw X (.Return none pos) wRetN := PS.imp ps_retN fun D σ H h => by
  obtain ⟨Z, σ', G, Dw, e, hr, t, k⟩ := h
  exact k.rt.at hr .non t
theorem qif {c : Expr} {a b : List Stmt} {tc : TTw} (hc : PTw X c tc) (ha : PSsw X a t) (hb : PSsw X b u) : PSw X (.If c a b pos) (wIfS tc t u) := PS.imp (ps_if hc ha hb) fun D σ H h => by
  obtain ⟨Z, σ', G, Dw, e, hr, t, k⟩ := h
  refine ⟨Z, σ', G, _, e, hr, t, fun Z1 G1 H1 b x1 h1 q => ?_⟩
  cases b with
  | true => exact ⟨Z1, σ', G1, Dw, e.ext hr x1, h1, q, k.mono x1⟩
  | false => exact ⟨Z1, σ', G1, Dw, e.ext hr x1, h1, q, k.mono x1⟩
theorem qnever : PSw X st wNever := PS.imp ps_never fun D σ H h => by
  obtain ⟨Z, σ', G, Dw, e, hr, t, k⟩ := h
  exact t
theorem qs_never {sts : List Stmt} : PSsw X sts wNever := PSs.imp pss_never fun D σ H h => by
  obtain ⟨Z, σ', G, Dw, e, hr, t, k⟩ := h
  exact t
theorem lgN {i : Nat} {v : V} {σ : SV} {H : Hp} {Q : SV → Hp → Prop} (h : liftG K (gN i) v σ H Q) : gName i v σ H Q := by
  obtain ⟨Z, σ', G, w, Qw, e, hr, r, t, k⟩ := h
  exact k Z G H _ _ Ext.refl hr (e.set r i) t
theorem qgN {i : Nat} {x : Str} (hN : X.N.Nodup) (hi : X.N[i]? = some x) (hx : Loc X.env.scope x := by first | exact Or.inl rfl | exact Or.inr rfl) (hf : X.fn x = true ∨ X.env.scope.names.lookup x = some .local := by first | exact .inl rfl | exact .inr rfl | assumption) : PGw X (.Name x pos) (gN i) :=
  PG.imp (pg_name hN hi hx hf) fun _ _ _ _ h => lgN h
theorem qgs_nil : PGsw X [] gsN := PGs.imp pgs_nil fun vs σ H Q h => by
  obtain ⟨Z, σ', G, ws, Qw, e, hr, r, t, k⟩ := h
  cases r with
  | nil => exact ⟨rfl, k Z G H _ _ Ext.refl hr e t⟩
  | cons _ _ => exact False.elim t
theorem qgs_cons {e : Expr} {es : List Expr} {t : TGw} {u : TGsw} (h1 : PGw X e t) (h2 : PGsw X es u)
    (hs : (assignEach (e :: es) X.env).map (·.2) = assign e X.env :: (assignEach es X.env).map (·.2) := by rfl) : PGsw X (e :: es) (gsC t u) := PGs.imp (pgs_cons h1 h2 hs) fun vs σ H Q h => by
  obtain ⟨Z, σ', G, ws, Qw, e, hr, r, t, k⟩ := h
  cases r with
  | nil => exact False.elim t
  | @cons w v us vs r rr =>
    refine ⟨_, _, rfl, Z, σ', G, w, _, e, hr, r, t, fun Z1 G1 H1 s1 s2 x1 h1 r1 q1 => ?_⟩
    exact ⟨Z1, s1, G1, us, Qw, r1, h1, rr.ext hr x1, q1, k.mono x1⟩
theorem PG.or {e : Expr} {t u : TG} (h1 : PG X e t) (h2 : PG X e u) : PG X e (fun v σ H Q => t v σ H Q ∨ u v σ H Q) := ⟨fun pins s σ H v x Q I r q => q.elim (fun q => h1.run pins s σ H v x Q I r q) (fun q => h2.run pins s σ H v x Q I r q)⟩
theorem qgT {es : List Expr} {k : Nat} {t : TGsw} {n : Nat} (hc : X.calm = true) (h : PGsw X es t)
    (hn : (assignEach es X.env).length = n := by rfl) (hst : (assignEach es X.env).findIdx? (·.1) = none := by rfl) : PGw X (.Tuple es k pos) (gT n t) := PG.imp (PG.or (pg_tup hc h hn hst) (pg_lst hc h hn hst)) fun v σ H Q h => by
  obtain ⟨Z, σ', G, w, Qw, e, hr, r, t, k⟩ := h
  cases r with
  | tup s r => exact .inl ⟨_, _, rfl, s, by rw [← r.length]; exact t.1, Z, σ', G, _, Qw, e, hr, r, t.2, k⟩
  | lst z s r => exact .inr ⟨_, _, rfl, SqL.of s, by rw [← r.length]; exact t.1, Z, σ', G, _, Qw, e, hr, r, t.2, k⟩
  | @ref p =>
    obtain ⟨ws, g, t1, t2⟩ := isG_ex t
    obtain ⟨vs, s, r⟩ := hr.lst g
    exact .inr ⟨_, _, rfl, SqL.of s, by rw [← r.length]; exact t1, Z, σ', G, _, Qw, e, hr, r, t2, k⟩
  | _ => exact False.elim t
theorem qgIx {o i : Expr} {to ti : TEw} (ho : PEw X o to) (hi : PEw X i ti)
    (ha : ∀ v, assign (.Subscript o i pos) X.env v = (do
      let ov ← holding [v] (eval o X.env)
      let iv ← holding [v, ov] (eval i X.env)
      standAt pos
      holding [v, ov, iv] (setItem ov iv v)
      release [v, ov, iv] []) := by intro _; rfl) : PGw X (.Subscript o i pos) (gIx to ti) := PG.imp (pg_sub ho hi set_list ha) fun v σ H Q h => by
  obtain ⟨Z, σ', G, w, Qw, e, hr, r, t, k⟩ := h
  refine ⟨Z, σ', G, _, e, hr, t, fun Z1 G1 H1 ow ov x1 h1 r1 t1 => ⟨Z1, σ', G1, _, e.ext hr x1, h1, t1, fun Z2 G2 H2 iw iv x2 h2 r2 t2 => ?_⟩⟩
  obtain ⟨p, kk, ws, j, rfl, rfl, g, l, q⟩ := setIx_ex t2
  cases r1
  cases r2
  obtain ⟨vs, e2, rr⟩ := h2.lst g
  obtain ⟨h3, x3⟩ := chg_lst h2 g (((r.ext hr (x1.trans x2)) : Rw _ _ _ w v) |> fun r => RwL.set r j rr)
  refine ⟨p, vs, kk, j, rfl, rfl, e2, by rw [← rr.length]; exact l, ?_⟩
  exact k Z2 _ _ _ _ ((x1.trans x2).trans x3) h3 ((e.ext hr (x1.trans x2)).ext h2 x3) q
theorem qasg {tg : Expr} {g : TGw} (he : PEw X e te) (hg : PGw X tg g) (hs : swapsWithSole [tg] e pos.line X.env = pure false := by rfl) (hw : swappedStores [tg] e X.env = pure none := by rfl)
    (h1 : (assignEach [tg] X.env).map (·.2) = [assign tg X.env] := by rfl) : PSw X (.Assign [tg] e pos) (wAsg te g) := PS.imp (ps_asg he hg hs hw h1) fun D σ H h => by
  obtain ⟨Z, σ', G, Dw, e, hr, t, k⟩ := h
  exact ⟨Z, σ', G, _, e, hr, t, fun Z1 G1 H1 w v x1 h1 r1 q => ⟨Z1, σ', G1, w, _, e.ext hr x1, h1, r1, q, k.nx.mono x1⟩⟩
theorem qset {i : Nat} {x : Str} {pos' : Pos} (hN : X.N.Nodup) (hi : X.N[i]? = some x) (hx : Loc X.env.scope x := by first | exact Or.inl rfl | exact Or.inr rfl) (he : PEw X e te) (hs : swapsWith e (some (.Name x pos')) pos.line X.env = pure false := by rfl) (hf : X.fn x = true ∨ X.env.scope.names.lookup x = some .local := by first | exact .inl rfl | exact .inr rfl | assumption) :
    PSw X (.Assign [.Name x pos'] e pos) (wAsg te (gN i)) := PS.imp (ps_set hN hi hx he hs hf) fun D σ H h => by
  obtain ⟨Z, σ', G, Dw, e, hr, t, k⟩ := h
  exact ⟨Z, σ', G, _, e, hr, t, fun Z1 G1 H1 w v x1 h1 r1 q => lgN ⟨Z1, σ', G1, w, _, e.ext hr x1, h1, r1, q, k.nx.mono x1⟩⟩
theorem qpar {i j : Nat} {x y : Str} {a b : Expr} {ta : TAw} {px py pt : Pos} {kt k2 pt2} (hc : X.calm = true) (hN : X.N.Nodup) (hi : X.N[i]? = some x) (hj : X.N[j]? = some y) (hij : i ≠ j)
    (hx : X.env.scope.names.lookup x = some .local) (hy : X.env.scope.names.lookup y = some .local) (ha : PAw X [a, b] ta)
    (hw : swappedStores [.Tuple [.Name x px, .Name y py] kt pt] (.Tuple [a, b] k2 pt2) X.env = pure (some [x, y]))
    (hs : swapsWithSole [.Tuple [.Name x px, .Name y py] kt pt] (.Tuple [a, b] k2 pt2) pos.line X.env = pure false := by rfl) :
    PSw X (.Assign [.Tuple [.Name x px, .Name y py] kt pt] (.Tuple [a, b] k2 pt2) pos) (wPar i j ta) := PS.imp (ps_par hc hN hi hj hij hx hy ha hw hs) fun D σ H h => by
  obtain ⟨Z, σ', G, Dw, e, hr, t, k⟩ := h
  refine ⟨Z, σ', G, _, e, hr, t, fun Z1 G1 H1 ws vs x1 h1 r1 q => ?_⟩
  cases r1 with
  | nil => exact False.elim q
  | cons ra r1 =>
    cases r1 with
    | nil => exact False.elim q
    | cons rb r1 =>
      cases r1 with
      | cons _ _ => exact False.elim q
      | nil =>
      exact ⟨_, _, rfl, k.nx Z1 G1 H1 _ _ x1 h1 (((e.ext hr x1).set ra i).set rb j) q⟩
/-- name op= e -/
theorem qaug {i : Nat} {x : Str} {op : Operator} {ti : TIp} {wr : RW2} {pos' : Pos} (hN : X.N.Nodup) (hi : X.N[i]? = some x) (hx : Loc X.env.scope x := by first | exact Or.inl rfl | exact Or.inr rfl) (he : PEw X e te) (ho : PIp X op ti) (hs : Sim2 X.K ti wr) (hf : X.fn x = true ∨ X.env.scope.names.lookup x = some .local := by first | exact .inl rfl | exact .inr rfl | assumption) :
    PSw X (.AugAssign (.Name x pos') op e pos) (wAug i te wr) := PS.imp (ps_aug hN hi hx he ho hf) fun D σ H h => by
  obtain ⟨Z, σ', G, Dw, e, hr, t, k⟩ := h
  obtain ⟨xw, es, t⟩ := isS_ex t
  obtain ⟨xv, ev, rx⟩ := e.get i es
  refine ⟨xv, ev, Z, σ', G, _, e, hr, t, fun Z1 G1 H1 w v x1 h1 r1 q => ?_⟩
  exact hs Z1 G1 H1 xw w xv v _ _ h1 (rx.ext hr x1) r1 q fun Z2 G2 H2 z zv x2 h2 r2 q2 => k.nx Z2 G2 H2 _ _ (x1.trans x2) h2 ((e.ext hr (x1.trans x2)).set r2 i) q2
abbrev wAddI : RW2 := wII fun i j => .int (i + j)
theorem sim_ip {g : Int → Int → Int} : Sim2 K (ipI g) (wII fun i j => .int (g i j)) := by
  intro Z G H x y v u Qw Q h rx ry t k
  cases rx <;> cases ry <;> first
    | exact False.elim t
    | exact ⟨_, _, rfl, rfl, k.at h .int t⟩
theorem qaugA {i : Nat} {x : Str} {pos' : Pos} (hN : X.N.Nodup) (hi : X.N[i]? = some x) (hx : Loc X.env.scope x := by first | exact Or.inl rfl | exact Or.inr rfl) (he : PEw X e te) (hf : X.fn x = true ∨ X.env.scope.names.lookup x = some .local := by first | exact .inl rfl | exact .inr rfl | assumption) : PSw X (.AugAssign (.Name x pos') .Add e pos) (wAug i te wAddI) := qaug hN hi hx he ip_add sim_ip hf
theorem qaugS {i : Nat} {x : Str} {pos' : Pos} (hN : X.N.Nodup) (hi : X.N[i]? = some x) (hx : Loc X.env.scope x := by first | exact Or.inl rfl | exact Or.inr rfl) (he : PEw X e te) (hf : X.fn x = true ∨ X.env.scope.names.lookup x = some .local := by first | exact .inl rfl | exact .inr rfl | assumption) : PSw X (.AugAssign (.Name x pos') .Sub e pos) (wAug i te wSub) := qaug hN hi hx he ip_sub sim_ip hf
end
end WL

namespace WL
open PySem PySem.Spec PyProof.Rows L2
/-! ### while -/
def wWhile (ks : List Bool) (c : TTw) (tb : TSw) : TSw := fun D σ G => ∃ P : Nat → SW → Gp → Prop, (∃ m, P m (skill σ ks) G) ∧ ∀ m σ G, P m σ G →
  c σ G fun b G1 => if b = true then tb { nx := fun σ' G' => ∃ m', m' < m ∧ P m' (skill σ' ks) G', ct := fun σ' G' => ∃ m', m' < m ∧ P m' (skill σ' ks) G', bk := D.nx, rt := D.rt, ex := D.ex } σ G1 else D.nx σ G1
section
variable {X : Cx} {K : PySem.W.Frag} {pos : Pos}
theorem lwhile {ks : List Bool} {c : TTw} {tb : TSw} {D : Ends} {σ : SV} {H : Hp} (h : liftS X (wWhile ks c tb) D σ H) : tWhile (liftT X.K c) (liftS X tb) D σ H := by
  obtain ⟨Z, σ', G, Dw, e, hr, ⟨P, ⟨m0, p0⟩, step⟩, k⟩ := h
  refine ⟨fun m σ1 H1 => ∃ Z1 σ1' G1, Ext Z G H Z1 G1 H1 ∧ HRel X.K Z1 G1 H1 ∧ RwS X.K Z1 H1 σ1' σ1 ∧ P m σ1' G1, ⟨m0, Z, _, G, Ext.refl, hr, e.kill ks, p0⟩, ?_⟩
  rintro m σ1 H1 ⟨Z1, σ1', G1, x1, h1, e1, p1⟩
  refine ⟨Z1, σ1', G1, _, e1, h1, step m σ1' G1 p1, fun Z2 G2 H2 b x2 h2 q => ?_⟩
  cases b with
  | false => exact k.nx Z2 G2 H2 _ _ (x1.trans x2) h2 (e1.ext h1 x2) q
  | true =>
    refine iteT ⟨fun σ' H' => ∃ m', m' < m ∧ ∃ Z1 σ1' G1, Ext Z G H Z1 G1 H' ∧ HRel X.K Z1 G1 H' ∧ RwS X.K Z1 H' σ1' σ' ∧ P m' σ1' G1, fun σ' H' n => n, ?_⟩
    refine ⟨Z2, σ1', G2, _, e1.ext h1 x2, h2, q, ⟨fun Z3 G3 H3 s3 t3 x3 h3 e3 q3 => ?_, k.rt.mono (x1.trans x2), k.nx.mono (x1.trans x2), fun Z3 G3 H3 s3 t3 x3 h3 e3 q3 => ?_, k.ex.mono (x1.trans x2)⟩⟩
    · obtain ⟨m', hm, p3⟩ := q3
      exact ⟨m', hm, Z3, _, G3, (x1.trans x2).trans x3, h3, e3.kill ks, p3⟩
    · obtain ⟨m', hm, p3⟩ := q3
      exact ⟨m', hm, Z3, _, G3, (x1.trans x2).trans x3, h3, e3.kill ks, p3⟩
theorem qwhile {ks : List Bool} {c : Expr} {body : List Stmt} {tc : TTw} {tb : TSw} (hp : PassesOwn (model X.prog X.w) X.A X.env X.xe) (hc : PTw X c tc) (hb : PSsw X body tb) : PSw X (.While c body [] pos) (wWhile ks tc tb) :=
  PS.imp (ps_while hp hc hb) fun _ _ _ h => lwhile h
end
/-! ### for -/
/-- the turns bring these values, whatever the loop does to what is tracked -/
def WalkW (K : PySem.W.Frag) (J : It) (Z : Zp) (G : Gp) (H : Hp) (ws : List W) : Prop := ∃ (Gd : Hp → Prop) (Y : Nat → Hp → V → Hp → Prop), Walk J ws.length Gd Y ∧
  ∀ Z' G' H', Ext Z G H Z' G' H' → HRel K Z' G' H' → Gd H' ∧ ∀ i v H'', i < ws.length → Y i H' v H'' → ∃ w, ws[i]? = some w ∧ Rw K Z' H'' w v ∧ Ext Z' G' H' Z' G' H'' ∧ HRel K Z' G' H''
abbrev TIw := SW → Gp → (List W → Gp → Prop) → Prop
def liftI (K : PySem.W.Frag) (t : TIw) : TI := fun σ H R => ∃ Z σ' G Rw', RwS K Z H σ' σ ∧ HRel K Z G H ∧ t σ' G Rw' ∧ ∀ Z' G' H' ws J, Ext Z G H Z' G' H' → HRel K Z' G' H' → WalkW K J Z' G' H' ws → Rw' ws G' → R J H'
def PIw (X : Cx) (tg iter : Expr) (t : TIw) : Prop := PI X tg iter (liftI X.K t)
def forW (ks : List Bool) (g : TGw) (tb : TSw) : List W → TSw
  | [], D, σ, G => D.nx σ G
  | w :: ws, D, σ, G => g w σ G fun σ1 G1 => tb { nx := fun σ2 G2 => forW ks g tb ws D (skill σ2 ks) G2, ct := fun σ2 G2 => forW ks g tb ws D (skill σ2 ks) G2, bk := D.nx, rt := D.rt, ex := D.ex } σ1 G1
def wFor (ks : List Bool) (ti : TIw) (g : TGw) (tb : TSw) : TSw := fun D σ G => ti σ G fun ws G1 => forW ks g tb ws D (skill σ ks) G1
section
variable {X : Cx} {K : PySem.W.Frag} {pos : Pos}
theorem PI.imp {tg iter : Expr} {t t' : TI} (h : PI X tg iter t) (i : ∀ σ H R, t' σ H R → t σ H R) : PI X tg iter t' := ⟨fun pins s σ H R I q => h.run pins s σ H R I (i _ _ _ q)⟩
theorem lfor {ks : List Bool} {ti : TIw} {g : TGw} {tb : TSw} {D : Ends} {σ : SV} {H : Hp} (h : liftS X (wFor ks ti g tb) D σ H) : tFor (liftI X.K ti) (liftG X.K g) (liftS X tb) D σ H := by
  obtain ⟨Z, σ', G, Dw, e, hr, t, k⟩ := h
  refine ⟨Z, σ', G, _, e, hr, t, fun Z1 G1 H1 ws J x1 h1 ⟨Gd, Y, wk, hY⟩ t1 => ?_⟩
  refine for_it wk (fun i σ2 H2 => ∃ Z2 σ2' G2, Ext Z1 G1 H1 Z2 G2 H2 ∧ HRel X.K Z2 G2 H2 ∧ RwS X.K Z2 H2 σ2' σ2 ∧ forW ks g tb (ws.drop i) Dw σ2' G2) ?_ ?_ ?_ ?_
  · exact ⟨Z1, _, G1, Ext.refl, h1, (e.ext hr x1).kill ks, t1⟩
  · rintro i σ2 H2 _ ⟨Z2, σ2', G2, x2, h2, _, _⟩
    exact (hY Z2 G2 H2 x2 h2).1
  · rintro i v σ2 H2 H3 hi ⟨Z2, σ2', G2, x2, h2, e2, t2⟩ y
    obtain ⟨w, ew, rw', x3, h3⟩ := (hY Z2 G2 H2 x2 h2).2 i v H3 hi y
    have ed : ws.drop i = w :: ws.drop (i + 1) := by
      obtain ⟨hl, e⟩ := List.getElem?_eq_some_iff.mp ew
      rw [← e]; exact List.drop_eq_getElem_cons hl
    rw [ed] at t2
    refine ⟨Z2, σ2', G2, w, _, e2.ext h2 x3, h3, rw', t2, fun Z4 G4 H4 s4 t4 x4 h4 e4 q4 => ?_⟩
    have x24 := (x2.trans x3).trans x4
    have xx := x1.trans x24
    exact ⟨Z4, s4, G4, _, e4, h4, q4, ⟨fun Z5 G5 H5 s5 t5 x5 h5 e5 q5 => ⟨Z5, _, G5, x24.trans x5, h5, e5.kill ks, q5⟩, k.rt.mono xx, k.nx.mono xx, fun Z5 G5 H5 s5 t5 x5 h5 e5 q5 => ⟨Z5, _, G5, x24.trans x5, h5, e5.kill ks, q5⟩, k.ex.mono xx⟩⟩
  · rintro σ2 H2 ⟨Z2, σ2', G2, x2, h2, e2, t2⟩
    rw [List.drop_length] at t2
    exact k.nx Z2 G2 H2 _ _ (x1.trans x2) h2 e2 t2
theorem qfor {ks : List Bool} {tg iter : Expr} {body : List Stmt} {ti : TIw} {g : TGw} {tb : TSw} (hp : PassesOwn (model X.prog X.w) X.A X.env X.xe) (hc : X.calm = true) (hi : PIw X tg iter ti) (hg : PGw X tg g) (hb : PSsw X body tb)
    (hs : ∀ x, foldedSetIterable iter X.env x = pure x := by intro _; rfl) : PSw X (.For tg iter body [] pos) (wFor ks ti g tb) := PS.imp (ps_for hp hc hi hg hb hs) fun _ _ _ h => lfor h
/-! what is walked -/
variable {tg : Expr} {te : TEw} {ta : TAw}
/-- a tuple or a list that stays as it is (a list of the small heap is frozen) -/
def iSeqW (te : TEw) : TIw := fun σ G R => te σ G fun w G1 => match w with
  | .tup ws => R ws G1
  | .lst ws => R ws G1
  | .scr ws => R ws G1
  | .ref p => isG (G1 p) fun ws => R ws (gdel G1 p)
  | _ => False
def iSeq (K : PySem.W.Frag) (tl : TE) : TI := fun σ H R => tl σ H fun x H1 => (∃ a, x = .ref a ∧ (∃ xs, SqL K H1 a xs) ∧ R (Itl K a) H1) ∨ (∃ a, x = .ref a ∧ (∃ xs, SqT K H1 a xs) ∧ R (Itt K a) H1)
theorem pi_seq {l : Expr} {tl : TE} (hl : PE X l tl) : PI X tg l (iSeq X.K tl) := by
  refine ⟨fun pins s σ H R I h => ?_⟩
  have two : ∀ v s1, EP X pins σ (fun x H1 => (∃ a, x = .ref a ∧ (∃ xs, SqL X.K H1 a xs) ∧ R (Itl X.K a) H1) ∨ (∃ a, x = .ref a ∧ (∃ xs, SqT X.K H1 a xs) ∧ R (Itt X.K a) H1)) v s1 →
      EP X pins σ (fun x H1 => ∃ a, x = .ref a ∧ (∃ xs, SqL X.K H1 a xs) ∧ R (Itl X.K a) H1) v s1 ∨ EP X pins σ (fun x H1 => ∃ a, x = .ref a ∧ (∃ xs, SqT X.K H1 a xs) ∧ R (Itt X.K a) H1) v s1 := fun v s1 ⟨x, H1, I1, r1, q⟩ => by
    rcases q with q | q
    · exact .inl ⟨x, H1, I1, r1, q⟩
    · exact .inr ⟨x, H1, I1, r1, q⟩
  -- the two rules of the layer, each over an expression that is already evaluated
  refine thn (hl.run pins s σ H _ I h) fun v s1 q => ?_
  rcases two v s1 q with ⟨x, H1, I1, r1, a, rfl, ⟨xs, hq⟩, q1⟩ | ⟨x, H1, I1, r1, a, rfl, ⟨xs, hq⟩, q1⟩
  · cases r1
    obtain ⟨its, _, pl, _⟩ := I1.list hq
    refine wpAny_pyIter_list pl.isList ⟨_, [s1.heap.objs.size], _, _, H1, rfl, I1.kept (t' := s1.toks) (fun b o e => Heap.get?_push_of_some _ e), turn_list a _, ⟨_, Heap.get?_push_size _ rfl, rfl, rfl⟩, ?_, q1⟩
    intro b hb
    rw [List.mem_singleton.mp hb]
    exact I1.fpOk (Nat.le_refl _) (I1.hok.fresh (Nat.le_refl _))
  · cases r1
    obtain ⟨its, _, pl, _⟩ := I1.tuple hq
    refine wpAny_pyIter_tuple (show s1.heap.IsTuple a its.toArray from pl) ⟨_, [s1.heap.objs.size], _, _, H1, rfl, I1.kept (t' := s1.toks) (fun b o e => Heap.get?_push_of_some _ e), turn_tuple a _, ⟨_, Heap.get?_push_size _ rfl, rfl, rfl⟩, ?_, q1⟩
    intro b hb
    rw [List.mem_singleton.mp hb]
    exact I1.fpOk (Nat.le_refl _) (I1.hok.fresh (Nat.le_refl _))
theorem walkT {Z : Zp} {G : Gp} {H : Hp} {a : Addr} {ws : List W} {vs : List V} (h : HRel K Z G H) (s : SqT K H a vs) (r : RwL K Z H ws vs) : WalkW K (Itt K a) Z G H ws := by
  refine ⟨_, _, by rw [r.length]; exact walk_tup (K := K) (a := a) (xs := vs), fun Z' G' H' x h' => ⟨SqT.ext h x s, fun i v H'' hi y => ?_⟩⟩
  obtain ⟨rfl, ev⟩ := y
  obtain ⟨w, ew, rw'⟩ := (r.ext h x).get' i ev
  exact ⟨w, ew, rw', Ext.refl, h'⟩
theorem walkL {Z : Zp} {G : Gp} {H : Hp} {a : Addr} {ws : List W} {vs : List V} (h : HRel K Z G H) (z : Z a) (s : H a = some (.lst vs)) (r : RwL K Z H ws vs) : WalkW K (Itl K a) Z G H ws := by
  refine ⟨_, _, by rw [r.length]; exact walk_list (K := K) (a := a) (xs := vs), fun Z' G' H' x h' => ⟨SqL.of (x.f a _ s (h.z a z).1).1, fun i v H'' hi y => ?_⟩⟩
  obtain ⟨rfl, ev⟩ := y
  obtain ⟨w, ew, rw'⟩ := (r.ext h x).get' i ev
  exact ⟨w, ew, rw', Ext.refl, h'⟩
theorem walkS {Z : Zp} {G : Gp} {H : Hp} {a : Addr} {ws : List W} {vs : List V} (h : HRel K Z G H) (s : SqF K H a vs) (r : RwL K Z H ws vs) : WalkW K (Itl K a) Z G H ws := by
  refine ⟨_, _, by rw [r.length]; exact walk_list (K := K) (a := a) (xs := vs), fun Z' G' H' x h' => ⟨(s.ext h x).sq, fun i v H'' hi y => ?_⟩⟩
  obtain ⟨rfl, ev⟩ := y
  obtain ⟨w, ew, rw'⟩ := (r.ext h x).get' i ev
  exact ⟨w, ew, rw', Ext.refl, h'⟩
theorem qiseq {l : Expr} (hl : PEw X l te) : PIw X tg l (iSeqW te) := PI.imp (pi_seq hl) fun σ H R h => by
  obtain ⟨Z, σ', G, Qw, e, hr, t, k⟩ := h
  refine ⟨Z, σ', G, _, e, hr, t, fun Z1 G1 H1 w v x1 h1 r1 t1 => ?_⟩
  cases r1 with
  | tup s r => exact .inr ⟨_, rfl, ⟨_, s⟩, k Z1 G1 H1 _ _ x1 h1 (walkT h1 s r) t1⟩
  | lst z s r => exact .inl ⟨_, rfl, ⟨_, SqL.of s⟩, k Z1 G1 H1 _ _ x1 h1 (walkL h1 z s r) t1⟩
  | scr s r => exact .inl ⟨_, rfl, ⟨_, s.sq⟩, k Z1 G1 H1 _ _ x1 h1 (walkS h1 s r) t1⟩
  | @ref p =>
    obtain ⟨ws, g, q⟩ := isG_ex t1
    obtain ⟨vs, s, r⟩ := h1.lst g
    obtain ⟨h2, x2⟩ := h1.freeze (p := p) (by rw [g]; simp)
    exact .inl ⟨_, rfl, ⟨_, SqL.of s⟩, k _ _ H1 _ _ (x1.trans x2) h2 (walkL h2 (.inr rfl) s (r.ext h1 x2)) q⟩
  | _ => exact False.elim t1
def rangeW (lo : Int) (n : Nat) : List W := (List.range n).map fun i => W.int (lo + (i : Nat))
theorem walkR {Z : Zp} {G : Gp} {H : Hp} {lo : Int} {n : Nat} : WalkW K (Itr lo n) Z G H (rangeW lo n) := by
  refine ⟨_, _, by unfold rangeW; rw [List.length_map, List.length_range]; exact walk_range, fun Z' G' H' x h' => ⟨trivial, fun i v H'' hi y => ?_⟩⟩
  obtain ⟨rfl, rfl⟩ := y
  unfold rangeW at hi ⊢
  rw [List.length_map, List.length_range] at hi
  exact ⟨.int (lo + i), by rw [List.getElem?_map, List.getElem?_range hi]; rfl, .int, Ext.refl, h'⟩
def rng1 (ws : List W) (G : Gp) (R : List W → Gp → Prop) : Prop := match ws with
  | [.int j] => j < 4611686018427387904 ∧ -4611686018427387904 ≤ j ∧ R (rangeW 0 j.toNat) G
  | _ => False
def rng2 (ws : List W) (G : Gp) (R : List W → Gp → Prop) : Prop := match ws with
  | [.int i, .int j] => (-4611686018427387904 ≤ i ∧ i < 4611686018427387904 ∧ -4611686018427387904 ≤ j ∧ j < 4611686018427387904) ∧ R (rangeW i (j - i).toNat) G
  | _ => False
theorem rng1_int {j : Int} {G : Gp} {R : List W → Gp → Prop} : rng1 [.int j] G R = (j < 4611686018427387904 ∧ -4611686018427387904 ≤ j ∧ R (rangeW 0 j.toNat) G) := rfl
theorem rng2_int {i j : Int} {G : Gp} {R : List W → Gp → Prop} : rng2 [.int i, .int j] G R = ((-4611686018427387904 ≤ i ∧ i < 4611686018427387904 ∧ -4611686018427387904 ≤ j ∧ j < 4611686018427387904) ∧ R (rangeW i (j - i).toNat) G) := rfl
def iR1 (ta : TAw) : TIw := fun σ G R => ta σ G fun ws G1 => rng1 ws G1 R
def iR2 (ta : TAw) : TIw := fun σ G R => ta σ G fun ws G1 => rng2 ws G1 R
theorem qrange1 {a : Expr} {p pos : Pos} (hg : Gl X "range") (hm : X.mg "range" = none) (ha : PAw X [a] ta) (hs : starEach [a] X.env = [(false, eval a X.env)] := by rfl) : PIw X tg (.Call (.Name "range" p) [a] [] pos) (iR1 ta) :=
  PI.imp (pi_range1 hg hm ha hs) fun σ H R h => by
    obtain ⟨Z, σ', G, Qw, e, hr, t, k⟩ := h
    refine ⟨Z, σ', G, _, e, hr, t, fun Z1 G1 H1 ws vs x1 h1 r1 t1 => ?_⟩
    cases r1 with
    | nil => exact False.elim t1
    | cons ra rr =>
      cases rr with
      | cons _ _ => cases ra <;> exact False.elim t1
      | nil => cases ra <;> first
        | exact False.elim t1
        | exact ⟨_, rfl, t1.2.1, t1.1, k Z1 G1 H1 _ _ x1 h1 walkR t1.2.2⟩
theorem qrange2 {a b : Expr} {p pos : Pos} (hg : Gl X "range") (hm : X.mg "range" = none) (ha : PAw X [a, b] ta) (hs : starEach [a, b] X.env = [(false, eval a X.env), (false, eval b X.env)] := by rfl) (hs2 : starEach [b] X.env = [(false, eval b X.env)] := by rfl) :
    PIw X tg (.Call (.Name "range" p) [a, b] [] pos) (iR2 ta) :=
  PI.imp (pi_range2 hg hm ha hs hs2) fun σ H R h => by
    obtain ⟨Z, σ', G, Qw, e, hr, t, k⟩ := h
    refine ⟨Z, σ', G, _, e, hr, t, fun Z1 G1 H1 ws vs x1 h1 r1 t1 => ?_⟩
    cases r1 with
    | nil => exact False.elim t1
    | cons ra rr =>
      cases rr with
      | nil => cases ra <;> exact False.elim t1
      | cons rb rr =>
        cases rr with
        | cons _ _ => cases ra <;> cases rb <;> exact False.elim t1
        | nil => cases ra <;> cases rb <;> first
          | exact False.elim t1
          | exact ⟨_, _, rfl, t1.1, k Z1 G1 H1 _ _ x1 h1 walkR t1.2⟩
end
/-! ### what a def promises -/
/-- the arguments, the small heap, the wanted end, the wanted exception: its class, its own attributes -/
abbrev EXw := Str → List (Str × W) → Gp → Prop
abbrev Spw := List W → Gp → QW → EXw → Prop
def KXE (K : PySem.W.Frag) (Z : Zp) (G : Gp) (H : Hp) (Ew : EXw) (E : XK) : Prop := ∀ Z' G' H' nm C fs d, Ext Z G H Z' G' H' → HRel K Z' G' H' → ClsA K nm C → ExF K Z' H' fs d → Ew nm fs G' → E (.ref C) d H'
def liftSp (K : PySem.W.Frag) (sp : Spw) : Sp := fun vs H Q E => ∃ Z ws G Qw Ew, RwL K Z H ws vs ∧ HRel K Z G H ∧ sp ws G Qw Ew ∧ KE K Z G H Qw Q ∧ KXE K Z G H Ew E
/-- what a body's end may do besides: freeze what is told, forget what is left -/
def Cl0 (Q : QW) : QW := fun w G => Q w G ∨ ∃ p ws, w = .ref p ∧ G p = some (.lst ws) ∧ Q (.lst ws) (gdel G p)
def Cl (Q : QW) : QW := fun w G => Q w G ∨ ∃ ps : List Addr, Cl0 Q w (ps.foldl gdel G)
theorem KE.cl0 {K : PySem.W.Frag} {Z : Zp} {G : Gp} {H : Hp} {Qw : QW} {Q : VK} (k : KE K Z G H Qw Q) : KE K Z G H (Cl0 Qw) Q := by
  intro Z1 G1 H1 w v x1 h1 r1 q
  rcases q with q | ⟨p, ws, rfl, g, q⟩
  · exact k Z1 G1 H1 w v x1 h1 r1 q
  · cases r1
    obtain ⟨vs, s, r⟩ := h1.lst g
    obtain ⟨h2, x2⟩ := h1.freeze (p := p) (by rw [g]; simp)
    exact k _ _ H1 (.lst ws) _ (x1.trans x2) h2 (.lst (.inr rfl) s (r.ext h1 x2)) q
theorem KE.drops {K : PySem.W.Frag} {Qw : QW} {Q : VK} : ∀ (ps : List Addr) {Z : Zp} {G : Gp} {H : Hp}, KE K Z G H Qw Q → ∀ Z1 G1 w v, Ext Z G H Z1 G1 H → HRel K Z1 G1 H → Rw K Z1 H w v → Qw w (ps.foldl gdel G1) → Q v H
  | [], Z, G, H, k, Z1, G1, w, v, x1, h1, r1, q => k Z1 G1 H w v x1 h1 r1 q
  | p :: ps, Z, G, H, k, Z1, G1, w, v, x1, h1, r1, q => by
    by_cases c : G1 p = none
    · have e : gdel G1 p = G1 := by
        funext b; unfold gdel; split
        · rename_i z; rw [z, c]
        · rfl
      rw [List.foldl_cons, e] at q
      exact KE.drops ps k Z1 G1 w v x1 h1 r1 q
    · obtain ⟨h2, x2⟩ := h1.freeze (p := p) c
      exact KE.drops ps k _ _ w v (x1.trans x2) h2 (r1.ext h1 x2) q
theorem KE.cl {K : PySem.W.Frag} {Z : Zp} {G : Gp} {H : Hp} {Qw : QW} {Q : VK} (k : KE K Z G H Qw Q) : KE K Z G H (Cl Qw) Q := by
  intro Z1 G1 H1 w v x1 h1 r1 q
  rcases q with q | ⟨ps, q⟩
  · exact k Z1 G1 H1 w v x1 h1 r1 q
  · exact KE.drops ps (k.cl0.mono x1) Z1 G1 w v Ext.refl h1 r1 q
/-- one list forgotten -/
theorem Cl.drop {Q : QW} {w : W} {G : Gp} {p : Addr} {o : GO} (n : G p = none) (q : Q w G) : Cl Q w (gup G p o) := .inr ⟨[p], .inl (by show Q w (gdel (gup G p o) p); rw [gdel_gup n]; exact q)⟩
/-- a list told by a def: the caller's own, or frozen -/
def tellL (ws : List W) (Q : QW) (G : Gp) : Prop := Q (.lst ws) G ∨ ∀ p, G p = none → Q (.ref p) (gup G p (.lst ws))
theorem tellL.cl {ws : List W} {Q : QW} {G : Gp} (h : tellL ws Q G) {p : Addr} (n : G p = none) : Cl Q (.ref p) (gup G p (.lst ws)) := by
  rcases h with h | h
  · exact .inr ⟨[], .inr ⟨p, ws, rfl, gup_same, by show Q (.lst ws) (gdel (gup G p (.lst ws)) p); rw [gdel_gup n]; exact h⟩⟩
  · exact .inl (h p n)
/-- a def called by its name in the module -/
structure Cal (P : Program) (w : World) (K : PySem.W.Frag) (mg : Str → Option Value) (base : Heap) (CX : CXT) (k : Nat) (x : Str) (sp : Spw) : Prop where
  ex : ∃ f fd ps, FnOk P w K mg base CX k f fd ps (liftSp K sp) ∧ mg x = some (.ref f) ∧ PySem.W.keepIn K (.ref f) = true ∧ Binds K fd ps []
def E0w : EXw := fun _ _ _ => False
def wCall (sp : Spw) (t : TAw) : TEw := fun σ G Q => t σ G fun ws G1 => sp ws G1 Q E0w
section
variable {X : Cx} {K : PySem.W.Frag} {x : Str} {p pos : Pos} {e : Expr} {es : List Expr} {t : TAw} {sp : Spw} {k : Nat}
theorem lcall {σ : SV} {H : Hp} {Q : VK} (h : liftE K (wCall sp t) σ H Q) : tCall (liftSp K sp) [] E0 (liftA K t) σ H Q := by
  obtain ⟨Z, σ', G, Qw, e, hr, t, k⟩ := h
  refine ⟨Z, σ', G, _, e, hr, t, fun Z1 G1 H1 ws vs x1 h1 r1 t1 => ?_⟩
  show liftSp K sp (vs ++ []) H1 Q E0
  rw [List.append_nil]
  exact ⟨Z1, ws, G1, Qw, E0w, r1, h1, t1, k.mono x1, fun _ _ _ _ _ _ _ _ _ _ _ z => z.elim⟩
theorem qcall (c : Cal X.prog X.w X.K X.mg X.base CX0 k x sp) (hr : Room k X.A) (hg : Gl X x) (ha : PAw X (e :: es) t) (hdb : (x == ("__debug__" : Str)) = false := by decide)
    (he : starEach (e :: es) X.env = (false, eval e X.env) :: starEach es X.env := by rfl) (hpl : (backTo pos (starEach es X.env)).any (·.1) = false := by rfl) : PEw X (.Call (.Name x p) (e :: es) [] pos) (wCall sp t) := by
  obtain ⟨f, fd, ps, F, m, kp, b⟩ := c.ex
  exact PE.imp (pe_call F hr hg m kp b .nil pass0 ha hdb he hpl) fun _ _ _ h => lcall h
theorem qcall0 (c : Cal X.prog X.w X.K X.mg X.base CX0 k x sp) (hr : Room k X.A) (hg : Gl X x) (hdb : (x == ("__debug__" : Str)) = false := by decide) : PEw X (.Call (.Name x p) [] [] pos) (wCall sp wNil) := by
  obtain ⟨f, fd, ps, F, m, kp, b⟩ := c.ex
  refine PE.imp (pe_call0 F hr hg m kp b .nil pass0 hdb) fun σ H Q h => ?_
  obtain ⟨Z, σ', G, Qw, e, hr, t, k⟩ := h
  exact ⟨Z, [], G, Qw, E0w, .nil, hr, t, k, fun _ _ _ _ _ _ _ _ _ _ _ z => z.elim⟩
end
section
variable {P : Program} {w : World} {K : PySem.W.Frag} {mg : Str → Option Value} {base : Heap}
/-- THE RULE for a def that raises nothing -/
theorem okW {x qual : Str} {st : Stmt} {f : Addr} {fd : FuncData} {N ps : List Str} {k : Nat} {sp : Spw} (F : Fun K x qual st f fd) (S : FnScope N ps (defScope st)) (seer : base.NoSeer) (tree : P.given.tree = none) (big : 32 ≤ k) (len : ∀ ws G Q E, sp ws G Q E → ws.length = ps.length)
    (hbody : ∀ (cdv : Value) (A : Around) (outer : List Env) (s : Shared) (H : Hp) (E : XK), Room k (A.deeper (envOfC qual (defScope st) s.heap.objs.size f cdv)) → Deep (cxOf CX0 P w K mg base N qual (defScope st) f cdv A outer s H E).nox →
      ∃ t, PSsw (cxOf CX0 P w K mg base N qual (defScope st) f cdv A outer s H E).nox (defBody st) t ∧ ∀ ws G Q E, sp ws G Q E → t { nx := fun _ G' => Q .non G', rt := Cl Q } (startW N ws) G) :
    FnOk P w K mg base CX0 (k + 1) f fd ps (liftSp K sp) := by
  refine F.ok S (fun vs H Q E h => ?_) fun cdv A outer s H vs Q E hr h => ?_
  · obtain ⟨Z, ws, G, Qw, Ew, r, _, s, _⟩ := h
    rw [← r.length]
    exact len _ _ _ _ s
  · obtain ⟨Z, ws, G, Qw, Ew, r, hh, s1, kq, ke⟩ := h
    have dp : Deep (cxOf CX0 P w K mg base N qual (defScope st) f cdv A outer s H E).nox := ⟨seer, tree, by
      have h1 := hr.dp
      have h2 : Builtin.pylongFrames = 100 := rfl
      show (A.deeper (envOfC qual (defScope st) s.heap.objs.size f cdv)).depth + _ < _
      omega, _, _, rfl, S.gen, S.co, rfl, rfl⟩
    obtain ⟨t, ht, q⟩ := hbody cdv A outer s H E hr dp
    exact ⟨_, ht, Z, _, G, _, RwS.start r, hh, q ws G Qw Ew s1, ⟨fun Z1 G1 H1 _ _ x1 h1 _ q1 => kq Z1 G1 H1 _ _ x1 h1 .non q1, kq.cl, fun _ _ _ _ _ _ _ _ z => z.elim, fun _ _ _ _ _ _ _ _ z => z.elim, fun _ _ _ _ _ _ _ _ _ _ _ _ _ _ z => z.elim⟩⟩
/-- as Fun.okX, the exceptions' context being None -/
theorem okNX {x qual : Str} {st : Stmt} {f : Addr} {fd : FuncData} {N ps : List Str} {k : Nat} {sp : Sp} (F : Fun K x qual st f fd) (S : FnScope N ps (defScope st)) (len : ∀ vs H Q E, sp vs H Q E → vs.length = ps.length)
    (hbody : ∀ (cdv : Value) (A : Around) (outer : List Env) (s : Shared) (H : Hp) (vs : List V) (Q : VK) (E : XK), Room k (A.deeper (envOfC qual (defScope st) s.heap.objs.size f cdv)) → sp vs H Q E →
      ∃ t, PSs (cxOf (L2N.CX P w) P w K mg base N qual (defScope st) f cdv A outer s H E) (defBody st) t ∧ t { nx := fun _ H' => Q .non H', rt := Q } (start N vs) H) : FnOk P w K mg base (L2N.CX P w) (k + 1) f fd ps sp := by
  obtain ⟨oc, od, kV, doc, pm, an, cdv, ct, osl, rfl, lk, hcd⟩ := F.ex
  exact fn_of lk hcd S len fun A outer s H vs Q E hr hsp => hbody cdv A outer s H vs Q E hr hsp
/-- the rule for a def that may raise -/
theorem okWX {x qual : Str} {st : Stmt} {f : Addr} {fd : FuncData} {N ps : List Str} {k : Nat} {sp : Spw} (F : Fun K x qual st f fd) (S : FnScope N ps (defScope st)) (seer : base.NoSeer) (tree : P.given.tree = none) (big : 32 ≤ k) (len : ∀ ws G Q E, sp ws G Q E → ws.length = ps.length)
    (hbody : ∀ (cdv : Value) (A : Around) (outer : List Env) (s : Shared) (H : Hp) (E : XK), Room k (A.deeper (envOfC qual (defScope st) s.heap.objs.size f cdv)) → Deep (cxOf (L2N.CX P w) P w K mg base N qual (defScope st) f cdv A outer s H E) →
      PassesOwn (model P w) (A.deeper (envOfC qual (defScope st) s.heap.objs.size f cdv)) (envOfC qual (defScope st) s.heap.objs.size f cdv) (cxOf (L2N.CX P w) P w K mg base N qual (defScope st) f cdv A outer s H E).xe →
      ∃ t, PSsw (cxOf (L2N.CX P w) P w K mg base N qual (defScope st) f cdv A outer s H E) (defBody st) t ∧ ∀ ws G Q E, sp ws G Q E → t { nx := fun _ G' => Q .non G', rt := Cl Q, ex := fun nm fs _ G' => E nm fs G' } (startW N ws) G) :
    FnOk P w K mg base (L2N.CX P w) (k + 1) f fd ps (liftSp K sp) := by
  refine okNX F S (fun vs H Q E h => ?_) fun cdv A outer s H vs Q E hr h => ?_
  · obtain ⟨Z, ws, G, Qw, Ew, r, _, s, _⟩ := h
    rw [← r.length]
    exact len _ _ _ _ s
  · obtain ⟨Z, ws, G, Qw, Ew, r, hh, s1, kq, ke⟩ := h
    have dp : Deep (cxOf (L2N.CX P w) P w K mg base N qual (defScope st) f cdv A outer s H E) := ⟨seer, tree, by
      have h1 := hr.dp
      have h2 : Builtin.pylongFrames = 100 := rfl
      show (A.deeper (envOfC qual (defScope st) s.heap.objs.size f cdv)).depth + _ < _
      omega, _, _, rfl, S.gen, S.co, rfl, rfl⟩
    obtain ⟨t, ht, q⟩ := hbody cdv A outer s H E hr dp (passes_of (X := cxOf (L2N.CX P w) P w K mg base N qual (defScope st) f cdv A outer s H E) rfl)
    refine ⟨_, ht, Z, _, G, _, RwS.start r, hh, q ws G Qw Ew s1, ⟨fun Z1 G1 H1 _ _ x1 h1 _ q1 => kq Z1 G1 H1 _ _ x1 h1 .non q1, kq.cl, fun _ _ _ _ _ _ _ _ z => z.elim, fun _ _ _ _ _ _ _ _ z => z.elim, fun Z1 G1 H1 σ' σ nm C fs d x1 h1 r1 c1 f1 q1 => ?_⟩⟩
    exact wish_of (L2N.takes_of (X := cxOf (L2N.CX P w) P w K mg base N qual (defScope st) f cdv A outer s H E) (E := E) rfl rfl rfl rfl) (ke Z1 G1 H1 nm C fs d x1 h1 c1 f1 q1)
end
/-! ### methods of lists -/
abbrev RWM := W → List W → Gp → QW → Prop
def SimM (K : PySem.W.Frag) (r : V → List V → Hp → VK → Prop) (wr : RWM) : Prop := ∀ Z G H x v ws vs Qw Q, HRel K Z G H → Rw K Z H x v → RwL K Z H ws vs → wr x ws G Qw → KE K Z G H Qw Q → r v vs H Q
def wBM (wr : RWM) (to : TEw) (t : TAw) : TEw := fun σ G Q => to σ G fun o G1 => (asL G1 o).isSome = true ∧ t σ G1 fun ws G2 => wr o ws G2 Q
def wBM0 (wr : RWM) (to : TEw) : TEw := fun σ G Q => to σ G fun o G1 => (asL G1 o).isSome = true ∧ wr o [] G1 Q
section
variable {X : Cx} {K : PySem.W.Frag} {o e : Expr} {es : List Expr} {to : TEw} {t : TAw} {cpos apos : Pos}
theorem lbm {r : V → List V → Hp → VK → Prop} {wr : RWM} (hs : SimM K r wr) {σ : SV} {H : Hp} {Q : VK} (h : liftE K (wBM wr to t) σ H Q) : tBM K "list" r (liftE K to) (liftA K t) σ H Q := by
  obtain ⟨Z, σ', G, Qw, ev, hr, t, k⟩ := h
  refine ⟨Z, σ', G, _, ev, hr, t, fun Z1 G1 H1 w v x1 h1 r1 t1 => ?_⟩
  obtain ⟨eu, t1⟩ := t1
  obtain ⟨us, eu⟩ := Option.isSome_iff_exists.mp eu
  obtain ⟨p, vs, rfl, s, _⟩ := asL_sq h1 r1 eu
  refine ⟨.inl ⟨rfl, vs, s⟩, Z1, σ', G1, _, ev.ext hr x1, h1, t1, fun Z2 G2 H2 ws us x2 h2 r2 t2 => ?_⟩
  exact hs Z2 G2 H2 w _ ws us Qw Q h2 (r1.ext h1 x2) r2 t2 (k.mono (x1.trans x2))
theorem lbm0 {r : V → List V → Hp → VK → Prop} {wr : RWM} (hs : SimM K r wr) {σ : SV} {H : Hp} {Q : VK} (h : liftE K (wBM0 wr to) σ H Q) : tBM0 K "list" r (liftE K to) σ H Q := by
  obtain ⟨Z, σ', G, Qw, ev, hr, t, k⟩ := h
  refine ⟨Z, σ', G, _, ev, hr, t, fun Z1 G1 H1 w v x1 h1 r1 t1 => ?_⟩
  obtain ⟨eu, t1⟩ := t1
  obtain ⟨us, eu⟩ := Option.isSome_iff_exists.mp eu
  obtain ⟨p, vs, rfl, s, _⟩ := asL_sq h1 r1 eu
  exact ⟨.inl ⟨rfl, vs, s⟩, hs Z1 G1 H1 w _ [] [] Qw Q h1 r1 .nil t1 (k.mono x1)⟩
def wAppend : RWM := fun o ws G Q => match o, ws with
  | .ref p, [w] => isG (G p) fun us => us.length < sizeLine ∧ Q .non (gup G p (.lst (us ++ [w])))
  | _, _ => False
theorem sim_append : SimM K rAppend wAppend := by
  intro Z G H x v ws vs Qw Q h rx rs t k
  cases rx with
  | @ref p =>
    cases rs with
    | nil => exact False.elim t
    | cons r1 rs =>
      cases rs with
      | cons _ _ => exact False.elim t
      | nil =>
        obtain ⟨us, g, l, q⟩ := isG_ex t
        obtain ⟨xs, s, r⟩ := h.lst g
        obtain ⟨h2, x2⟩ := chg_lst h g (r.append (.cons r1 .nil))
        exact ⟨p, xs, _, rfl, rfl, s, by rw [← r.length]; exact l, k _ _ _ _ _ x2 h2 .non q⟩
  | _ => exact False.elim t
def wPop : RWM := fun o ws G Q => match o, ws with
  | .ref p, [] => isG (G p) fun us => isS us[us.length - 1]? fun w => Q w (gup G p (.lst us.dropLast))
  | _, _ => False
theorem sim_pop : SimM K rPop wPop := by
  intro Z G H x v ws vs Qw Q h rx rs t k
  cases rx with
  | @ref p =>
    cases rs with
    | cons _ _ => exact False.elim t
    | nil =>
      obtain ⟨us, g, t⟩ := isG_ex t
      obtain ⟨w, l, q⟩ := isS_ex t
      obtain ⟨xs, s, r⟩ := h.lst g
      obtain ⟨y, ey, ry⟩ := r.get _ l
      obtain ⟨h2, x2⟩ := chg_lst h g r.dropLast
      exact ⟨p, xs, y, rfl, rfl, s, by rw [← r.length]; exact ey, k _ _ _ _ _ x2 h2 (ry.ext h x2) q⟩
  | _ => exact False.elim t
def wExtend : RWM := fun o ws G Q => match o, ws with
  | .ref p, [.lst zs] => isG (G p) fun us => us.length + zs.length ≤ sizeLine ∧ Q .non (gup G p (.lst (us ++ zs)))
  | _, _ => False
theorem sim_extend : SimM K rExtend wExtend := by
  intro Z G H x v ws vs Qw Q h rx rs t k
  cases rx with
  | @ref p =>
    cases rs with
    | nil => exact False.elim t
    | cons r1 rs =>
      cases rs with
      | cons _ _ => cases r1 <;> exact False.elim t
      | nil =>
        cases r1 with
        | lst z s1 r1 =>
          obtain ⟨us, g, l, q⟩ := isG_ex t
          obtain ⟨xs, s, r⟩ := h.lst g
          obtain ⟨h2, x2⟩ := chg_lst h g (r.append r1)
          exact ⟨p, _, xs, _, rfl, rfl, s, s1, by rw [← r.length, ← r1.length]; exact l, k _ _ _ _ _ x2 h2 .non q⟩
        | _ => exact False.elim t
  | _ => exact False.elim t
theorem qbm {nm : Str} {id : String} {r : V → List V → Hp → VK → Prop} {wr : RWM} (slot : Slot "list" nm id) (hty : typeOf (.builtin id) = pure (.type "method_descriptor")) (hm : MtR X id r) (hs : SimM X.K r wr) (ho : PEw X o to) (ha : PAw X (e :: es) t)
    (hbase : attributeBase o nm X.env (eval o X.env) = eval o X.env := by rfl)
    (hfew : ((backTo cpos (starEach (e :: es) X.env)).all (fun x => !x.1) && (backToKw cpos (keywordEach [] X.env)).all (fun x => x.1.isSome)
      && decide ((e :: es).length + ([] : List Keyword).length + (if ([] : List Keyword).isEmpty then 0 else 1) < 30)) = true := by rfl)
    (hline : (apos.endLine == cpos.line) = true := by rfl) (h1 : starEach (e :: es) X.env = (false, eval e X.env) :: starEach es X.env := by rfl) (h2 : (backTo cpos (starEach es X.env)).any (·.1) = false := by rfl) :
    PEw X (.Call (.Attribute o nm apos) (e :: es) [] cpos) (wBM wr to t) := PE.imp (pe_bm PySem.F.plainAttrs_list slot hty hm ho ha hbase hfew hline h1 h2) fun _ _ _ h => lbm hs h
end
end WL

namespace WL
open PySem PySem.Spec PyProof.Rows L2
section
variable {α : Type} {a b c d e f g h : α} {l : List α} {n : Nat}
theorem at0 : atI (a :: l) 0 = some a := atI_nat (j := 0) rfl
theorem at1 : atI (a :: b :: l) 1 = some b := atI_nat (j := 1) rfl
theorem at2 : atI (a :: b :: c :: l) 2 = some c := atI_nat (j := 2) rfl
theorem at3 : atI (a :: b :: c :: d :: l) 3 = some d := atI_nat (j := 3) rfl
theorem at4 : atI (a :: b :: c :: d :: e :: l) 4 = some e := atI_nat (j := 4) rfl
theorem at5 : atI (a :: b :: c :: d :: e :: f :: l) 5 = some f := atI_nat (j := 5) rfl
theorem at6 : atI (a :: b :: c :: d :: e :: f :: g :: l) 6 = some g := atI_nat (j := 6) rfl
theorem at7 : atI (a :: b :: c :: d :: e :: f :: g :: h :: l) 7 = some h := atI_nat (j := 7) rfl
theorem ixK {k : Nat} (h : k < n) : ixN n (k : Int) = some k := by
  unfold ixN
  rw [if_pos (by omega), if_pos (by omega)]
  rfl
theorem ix0 : ixN (n + 1) 0 = some 0 := ixK (k := 0) (by omega)
theorem ix1 : ixN (n + 1 + 1) 1 = some 1 := ixK (k := 1) (by omega)
theorem ix2 : ixN (n + 1 + 1 + 1) 2 = some 2 := ixK (k := 2) (by omega)
theorem ix3 : ixN (n + 1 + 1 + 1 + 1) 3 = some 3 := ixK (k := 3) (by omega)
theorem ix4 : ixN (n + 1 + 1 + 1 + 1 + 1) 4 = some 4 := ixK (k := 4) (by omega)
theorem ix5 : ixN (n + 1 + 1 + 1 + 1 + 1 + 1) 5 = some 5 := ixK (k := 5) (by omega)
theorem at_nat {k : Nat} {v : α} (h : l[k]? = some v) : atI l (k : Int) = some v := atI_nat h
/-- a drawn place of a written list -/
theorem at_in {i : Int} (h0 : 0 ≤ i) (h1 : i < l.length) : ∃ v, atI l i = some v ∧ v ∈ l := by
  obtain ⟨k, rfl⟩ : ∃ k : Nat, i = (k : Int) := ⟨i.toNat, by omega⟩
  have hk : k < l.length := by omega
  exact ⟨l[k], atI_nat (List.getElem?_eq_getElem hk), List.getElem_mem hk⟩
end
/-! ### the readings of values, where their kinds are known -/
section
variable {G : Gp} {Q : QW} {i j : Int} {ws us : List W} {x y : Str} {p : Addr} {a b w : W}
theorem asL_lst : asL G (.lst ws) = some ws := rfl
theorem asL_scr : asL G (.scr ws) = some ws := rfl
theorem asL_ref (h : G p = some (.lst ws)) : asL G (.ref p) = some ws := by simp only [asL, h]
theorem asL_gup : asL (gup G p (.lst ws)) (.ref p) = some ws := asL_ref gup_same
theorem wIx_tup : wIx (.tup ws) (.int i) G Q = isS (atI ws i) fun w => Q w G := rfl
theorem wIx_lst : wIx (.lst ws) (.int i) G Q = isS (atI ws i) fun w => Q w G := rfl
theorem wIx_scr : wIx (.scr ws) (.int i) G Q = isS (atI ws i) fun w => Q w G := rfl
theorem wIx_ref : wIx (.ref p) (.int i) G Q = isS (asL G (.ref p)) fun ws => isS (atI ws i) fun w => Q w G := rfl
theorem wIx_str : wIx (.str x) (.int i) G Q = (x.length ≤ sizeLine ∧ isS (atI x.cps.toList i) fun c => Q (.str ⟨#[c]⟩) G) := rfl
theorem wAdd_int : wAdd (.int i) (.int j) G Q = Q (.int (i + j)) G := rfl
theorem wAdd_str : wAdd (.str x) (.str y) G Q = (x.length + y.length ≤ sizeLine ∧ Q (.str (x ++ y)) G) := rfl
theorem wAdd_tup : wAdd (.tup ws) (.tup us) G Q = (ws.length + us.length ≤ sizeLine ∧ Q (.tup (ws ++ us)) G) := rfl
theorem wAdd_lst : wAdd (.lst ws) (.lst us) G Q = (ws.length + us.length ≤ sizeLine ∧ Q (.lst (ws ++ us)) G) := rfl
theorem wII_int {g : Int → Int → W} : wII g (.int i) (.int j) G Q = Q (g i j) G := rfl
theorem wI2_int {C : Int → Int → Prop} {g : Int → Int → W} : wI2 C g (.int i) (.int j) G Q = (C i j ∧ Q (g i j) G) := rfl
theorem wI1_int {g : Int → W} : wI1 g (.int i) G Q = Q (g i) G := rfl
theorem wI1N_int {g : Int → W} : wI1N g [.int i] G Q = Q (g i) G := rfl
theorem wI2N_int {g : Int → Int → W} : wI2N g [.int i, .int j] G Q = Q (g i j) G := rfl
theorem wLen_tup : wLen [.tup us] G Q = Q (.int us.length) G := rfl
theorem wLen_lst : wLen [.lst us] G Q = Q (.int us.length) G := rfl
theorem wLen_scr : wLen [.scr us] G Q = Q (.int us.length) G := rfl
theorem wLen_ref : wLen [.ref p] G Q = isS (asL G (.ref p)) fun us => Q (.int us.length) G := rfl
theorem wLen_str : wLen [.str x] G Q = (x.length ≤ sizeLine ∧ Q (.int x.length) G) := rfl
theorem wInt_int : wInt [.int i] G Q = Q (.int i) G := rfl
theorem wInt_bl {c : Bool} : wInt [.bl c] G Q = Q (.int (if c then 1 else 0)) G := rfl
theorem wStrI_int : wStrI [.int i] G Q = (i.natAbs.log2 < 1920 ∧ Q (.str (Str.ofString (toString i))) G) := rfl
theorem wEq_int : wEq (.int i) (.int j) G Q = Q (.bl (decide (i = j))) G := rfl
theorem wEq_str : wEq (.str x) (.str y) G Q = Q (.bl (decide (x = y))) G := rfl
theorem wNe_int : wNe (.int i) (.int j) G Q = Q (.bl (!decide (i = j))) G := rfl
theorem wNe_str : wNe (.str x) (.str y) G Q = Q (.bl (!decide (x = y))) G := rfl
theorem wEq_tup : wEq (.tup ws) (.tup us) G Q = (wOk (.tup ws) ∧ wOk (.tup us) ∧ Q (.bl (weqb (.tup ws) (.tup us))) G) := rfl
theorem wNe_tup : wNe (.tup ws) (.tup us) G Q = (wOk (.tup ws) ∧ wOk (.tup us) ∧ Q (.bl (!weqb (.tup ws) (.tup us))) G) := rfl
theorem wEq_lst : wEq (.lst ws) (.lst us) G Q = (wOk (.lst ws) ∧ wOk (.lst us) ∧ Q (.bl (weqb (.lst ws) (.lst us))) G) := rfl
theorem wNe_lst : wNe (.lst ws) (.lst us) G Q = (wOk (.lst ws) ∧ wOk (.lst us) ∧ Q (.bl (!weqb (.lst ws) (.lst us))) G) := rfl
theorem setIx_ref {P : Gp → Prop} : setIx (.ref p) (.int i) w G P = isG (G p) fun ws => isS (ixN ws.length i) fun j => P (gup G p (.lst (ws.set j w))) := rfl
theorem gT_tup {n : Nat} {t : TGsw} {σ : SW} {P : SW → Gp → Prop} : gT n t (.tup ws) σ G P = (ws.length = n ∧ t ws σ G P) := rfl
theorem gT_lst {n : Nat} {t : TGsw} {σ : SW} {P : SW → Gp → Prop} : gT n t (.lst ws) σ G P = (ws.length = n ∧ t ws σ G P) := rfl
theorem gT_ref {n : Nat} {t : TGsw} {σ : SW} {P : SW → Gp → Prop} : gT n t (.ref p) σ G P = isG (G p) fun ws => ws.length = n ∧ t ws σ G P := rfl
theorem gsC_cons {t : TGw} {u : TGsw} {σ : SW} {P : SW → Gp → Prop} : gsC t u (w :: ws) σ G P = t w σ G fun σ1 G1 => u ws σ1 G1 P := rfl
theorem gsN_nil {σ : SW} {P : SW → Gp → Prop} : gsN [] σ G P = P σ G := rfl
theorem wAppend_ref : wAppend (.ref p) [w] G Q = isG (G p) fun us => us.length < sizeLine ∧ Q .non (gup G p (.lst (us ++ [w]))) := rfl
theorem wPop_ref : wPop (.ref p) [] G Q = isG (G p) fun us => isS us[us.length - 1]? fun w => Q w (gup G p (.lst us.dropLast)) := rfl
theorem wExtend_ref : wExtend (.ref p) [.lst ws] G Q = isG (G p) fun us => us.length + ws.length ≤ sizeLine ∧ Q .non (gup G p (.lst (us ++ ws))) := rfl
theorem seq_tup {R : List W → Gp → Prop} {σ : SW} : iSeqW (wC (.tup ws)) σ G R = R ws G := rfl
end
/-- what is walked, by its kind -/
def seqOf (w : W) (G : Gp) (R : List W → Gp → Prop) : Prop := match w with
  | .tup ws => R ws G
  | .lst ws => R ws G
  | .scr ws => R ws G
  | .ref p => isG (G p) fun ws => R ws (gdel G p)
  | _ => False
theorem iSeqW_eq {te : TEw} {σ : SW} {G : Gp} {R : List W → Gp → Prop} : iSeqW te σ G R = te σ G fun w G1 => seqOf w G1 R := rfl
section
variable {G : Gp} {ws : List W} {p : Addr} {R : List W → Gp → Prop}
theorem seqOf_tup : seqOf (.tup ws) G R = R ws G := rfl
theorem seqOf_lst : seqOf (.lst ws) G R = R ws G := rfl
theorem seqOf_scr : seqOf (.scr ws) G R = R ws G := rfl
theorem seqOf_ref : seqOf (.ref p) G R = isG (G p) fun ws => R ws (gdel G p) := rfl
end
theorem log2_lt_pow {m : Nat} {b : Nat} (h : m < 2 ^ b) (h0 : 0 < b) : m.log2 < b := PySem.Flt.log2_lt_of h0 h
theorem cmX {i j : Int} {a b : Nat} (ha : i.natAbs < 2 ^ a) (hb : j.natAbs < 2 ^ b) (h0 : 0 < a) (h1 : 0 < b) (h : a + b ≤ 134217000) : CMulX i j := by
  have x := log2_lt_pow ha h0
  have y := log2_lt_pow hb h1
  unfold CMulX
  omega
theorem cm64 {i j : Int} (h1 : -18446744073709551616 < i ∧ i < 18446744073709551616) (h2 : -18446744073709551616 < j ∧ j < 18446744073709551616) : CMulX i j :=
  cmX (a := 64) (b := 64) (by omega) (by omega) (by decide) (by decide) (by decide)
theorem cp64 {i j : Int} (h1 : -18446744073709551616 < i ∧ i < 18446744073709551616) (h2 : 0 ≤ j ∧ j ≤ 1000000) : CPow i j := ⟨h2.1, h2.2, by omega⟩
theorem fmodP {i j : Int} (h : 0 ≤ j := by decide) : i.fmod j = i % j := Int.fmod_eq_emod_of_nonneg i h
theorem fdivP {i j : Int} (h : 0 ≤ j := by decide) : i.fdiv j = i / j := Int.fdiv_eq_ediv_of_nonneg i h
/-! ### loops -/
/-- a loop that carries nothing but what stands in P -/
theorem forW_inv {ks : List Bool} {g : TGw} {tb : TSw} {D : EndsW} (P : SW → Gp → Prop) : ∀ (items : List W) (σ : SW) (G : Gp), P σ G →
    (∀ w ∈ items, ∀ σ G (N : SW → Gp → Prop), P σ G → (∀ σ' G', P (skill σ' ks) G' → N σ' G') → g w σ G fun σ1 G1 => tb { nx := N, ct := N, bk := D.nx, rt := D.rt, ex := D.ex } σ1 G1) →
    (∀ σ G, P σ G → D.nx σ G) → forW ks g tb items D σ G
  | [], σ, G, p, _, hd => hd σ G p
  | w :: ws, σ, G, p, hs, hd => hs w (.head _) σ G _ p fun σ' G' p' => forW_inv P ws _ G' p' (fun w' hw => hs w' (.tail _ hw)) hd
/-- a loop that carries a state a: step by step -/
theorem forW_fold {α : Type} {ks : List Bool} {g : TGw} {tb : TSw} {D : EndsW} (P : α → SW → Gp → Prop) (step : α → W → α) : ∀ (items : List W) (a : α) (σ : SW) (G : Gp), P a σ G →
    (∀ w ∈ items, ∀ a σ G (N : SW → Gp → Prop), P a σ G → (∀ σ' G', P (step a w) (skill σ' ks) G' → N σ' G') → g w σ G fun σ1 G1 => tb { nx := N, ct := N, bk := D.nx, rt := D.rt, ex := D.ex } σ1 G1) →
    (∀ σ G, P (items.foldl step a) σ G → D.nx σ G) → forW ks g tb items D σ G
  | [], a, σ, G, p, _, hd => hd σ G p
  | w :: ws, a, σ, G, p, hs, hd => hs w (.head _) a σ G _ p fun σ' G' p' => forW_fold P step ws _ _ G' p' (fun w' hw => hs w' (.tail _ hw)) hd
theorem rangeW_mem {lo : Int} {n : Nat} {w : W} (h : w ∈ rangeW lo n) : ∃ i : Nat, i < n ∧ w = .int (lo + i) := by
  unfold rangeW at h
  obtain ⟨i, hi, e⟩ := List.mem_map.mp h
  exact ⟨i, List.mem_range.mp hi, e.symm⟩
/-! ### the law's bag: a list of a cell and a mixed number -/
abbrev bagO (c x : Int) : GO := .lst [.int c, .int x]
def sp__law_take : Spw := fun ws G Q _ => ∃ p m c x, ws = [.ref p, .int m] ∧ G p = some (bagO c x) ∧ 0 ≤ c ∧ 0 ≤ x ∧ x < 2147483648 ∧ 0 < m ∧
  ∀ d c' x', 0 ≤ d → d < m → 0 ≤ c' → 0 ≤ x' → x' < 2147483648 → Q (.int d) (gup G p (bagO c' x'))
def sp__law_bag : Spw := fun ws G Q _ => ∃ (ns : List Int) (k : Int), ws = [.scr (ns.map W.int), .int k] ∧ ns.length ≤ 63 ∧ 0 ≤ k ∧ k < 1000 ∧
  ∀ p c x, G p = none → 0 ≤ c → 0 ≤ x → x < 2147483648 → Q (.ref p) (gup G p (bagO c x))
/-! ### the law's own head -/
def sp_law : Spw := fun ws _ Q _ => ∃ ns : List Int, ws = [.scr (ns.map W.int)] ∧ ns.length ≤ 63 ∧ ∀ G', Q (.bl true) G'
theorem law_sp {K : PySem.W.Frag} {H : Hp} {a : Addr} {ns : List Int} (hl : ns.length ≤ 63) (hO : Only H) (hS : SqL K H a (ns.map V.int)) : liftSp K sp_law [.ref a] H (fun v _ => v = .bl true) fun _ _ _ => False := by
  have hF : SqF K H a (ns.map V.int) := by
    rcases hS with (hS | ⟨o, hS⟩) | hS
    · rcases hO a with z | ⟨o, xs, z⟩
      · rw [z] at hS; cases hS
      · rw [z] at hS; cases hS
    · exact .inl ⟨o, hS⟩
    · exact .inr (.inr hS)
  refine ⟨fun _ => False, [.scr (ns.map W.int)], fun _ => none, fun w _ => w = .bl true, E0w, .cons (.scr hF (RwL.ints ns)) .nil, ⟨fun _ z => z.elim, fun _ _ z => (by cases z)⟩, ⟨ns, rfl, hl, fun _ => rfl⟩, fun Z' G' H' w v _ _ r e => ?_, fun _ _ _ _ _ _ _ _ _ _ _ z => z.elim⟩
  subst e
  cases r
  rfl
end WL

namespace WL
open PySem PySem.Spec PyProof.Rows L2
/-! ### isinstance -/
inductive Kd where | non | bool | int | str | tuple | list
  deriving DecidableEq
def kdName : Kd → String
  | .non => "NoneType" | .bool => "bool" | .int => "int" | .str => "str" | .tuple => "tuple" | .list => "list"
def kdIs : Kd → Kd → Bool
  | .bool, .bool => true | .bool, .int => true | .int, .int => true | .str, .str => true | .tuple, .tuple => true | .list, .list => true
  | _, _ => false
theorem kd_kit : ∀ d k : Kd, k ≠ .non → kitB (kdName d) (kdName k) = some (kdIs d k) := by
  intro d k h
  cases d <;> cases k <;> first
    | exact absurd rfl h
    | decide +kernel
def wIsi (k : Kd) : W → Gp → QW → Prop := fun x G Q => match x with
  | .non => Q (.bl (kdIs .non k)) G
  | .bl _ => Q (.bl (kdIs .bool k)) G
  | .int _ => Q (.bl (kdIs .int k)) G
  | .str _ => Q (.bl (kdIs .str k)) G
  | .tup _ => Q (.bl (kdIs .tuple k)) G
  | .lst _ => Q (.bl (kdIs .list k)) G
  | .scr _ => Q (.bl (kdIs .list k)) G
  | .ref p => isG (G p) fun _ => Q (.bl (kdIs .list k)) G
  | _ => False
section
variable {k : Kd} {G : Gp} {Q : QW} {b : Bool} {i : Int} {x : Str} {ws : List W} {p : Addr}
theorem wIsi_non : wIsi k .non G Q = Q (.bl (kdIs .non k)) G := rfl
theorem wIsi_bl : wIsi k (.bl b) G Q = Q (.bl (kdIs .bool k)) G := rfl
theorem wIsi_int : wIsi k (.int i) G Q = Q (.bl (kdIs .int k)) G := rfl
theorem wIsi_str : wIsi k (.str x) G Q = Q (.bl (kdIs .str k)) G := rfl
theorem wIsi_tup : wIsi k (.tup ws) G Q = Q (.bl (kdIs .tuple k)) G := rfl
theorem wIsi_lst : wIsi k (.lst ws) G Q = Q (.bl (kdIs .list k)) G := rfl
theorem wIsi_ref : wIsi k (.ref p) G Q = isG (G p) fun _ => Q (.bl (kdIs .list k)) G := rfl
end
def wIsiN (k : Kd) : List W → Gp → QW → Prop := fun ws G Q => match ws with
  | [x, .ty n] => n = kdName k ∧ wIsi k x G Q
  | _ => False
section
variable {X : Cx} {K : PySem.W.Frag}
theorem sim_isi {k : Kd} (hk : k ≠ .non) : SimN K (rIsi K) (wIsiN k) := by
  intro Z G H ws vs Qw Q h r t kq
  cases r with
  | nil => exact False.elim t
  | @cons w v ws vs rx rr =>
    cases rr with
    | nil => cases rx <;> exact False.elim t
    | cons ry rr =>
      cases rr with
      | cons _ _ => cases ry <;> exact False.elim t
      | nil =>
        cases ry with
        | @ty n =>
          obtain ⟨rfl, t⟩ := t
          have fin : ∀ d, TyX K H v (.type (kdName d)) → Qw (.bl (kdIs d k)) G → rIsi K [v, .ty (kdName k)] H Q := fun d ty q =>
            ⟨v, _, _, _, _, rfl, .ty _, ty, kit_ty (kd_kit d k hk), kq.at h .bl q⟩
          cases rx with
          | non => exact fin .non (.base .non) t
          | bl => exact fin .bool (.base (.bl _)) t
          | int => exact fin .int (.base (.int _)) t
          | str => exact fin .str (.base (.str _)) t
          | tup s r =>
            refine fin .tuple ?_ t
            rcases s with (s | ⟨o, s⟩) | ⟨o, its, n, e, c, _⟩
            · exact .base (.tup s)
            · exact .fTuple s
            · exact .kTuple e c
          | lst z s r => exact fin .list (.base (.lst s)) t
          | scr s r =>
            refine fin .list ?_ t
            rcases s with ⟨o, s⟩ | (s | ⟨o, s⟩) | ⟨o, its, n, e, c, _⟩
            · exact .base (.frz s)
            · cases s
            · cases s
            · exact .kList e c
          | @ref p =>
            obtain ⟨us, g, q⟩ := isG_ex t
            obtain ⟨vs, s, _⟩ := h.lst g
            exact fin .list (.base (.lst s)) q
          | _ => exact False.elim t
        | _ => exact False.elim t
variable {e : Expr} {te : TEw} {p p2 pos : Pos}
theorem qisi {k : Kd} {T : Str} (hk : k ≠ .non) (hb : bootBuiltins T = some (.type (kdName k))) (hn : T ≠ "__name__") (hd : (T == ("__debug__" : Str)) = false) (hg : Gl X "isinstance") (hm : X.mg "isinstance" = none) (hg2 : Gl X T) (hm2 : X.mg T = none) (he : PEw X e te)
    (h1 : starEach [e, .Name T p2] X.env = (false, eval e X.env) :: starEach [.Name T p2] X.env := by rfl) (h2 : (backTo pos (starEach [.Name T p2] X.env)).any (·.1) = false := by rfl) (h3 : starEach [.Name T p2] X.env = (false, eval (.Name T p2) X.env) :: starEach [] X.env := by rfl) :
    PEw X (.Call (.Name "isinstance" p) [e, .Name T p2] [] pos) (wUn (wIsi k) te) := by
  have ht : PEw X (.Name T p2) (wC (.ty (kdName k))) := PE.imp (pe_bltn hg2 hm2 hb (show RelV (.ty (kdName k)) (.type (kdName k)) from rfl) hn hd) fun _ _ _ h => lC (fun _ _ => .ty) h
  refine PE.imp (pe_callB call_isi hg hm (by decide +kernel) (qa_cons he (qa_cons ht qa_nil h3) h1) (by decide) (by decide) h1 h2) fun σ H Q h => liftN (sim_isi (k := k) hk) (wr := wIsiN k) ?_
  obtain ⟨Z, σ', G, Qw, ev, hr, t, kk⟩ := h
  exact ⟨Z, σ', G, Qw, ev, hr, (show te σ' G _ from by
    have t' : te σ' G fun x G1 => wIsi k x G1 Qw := t
    simpa only [wCons, wC, wNil, wIsiN, true_and] using t'), kk⟩
end
/-! ### is None as a test -/
section
variable {X : Cx} {K : PySem.W.Frag} {a : Expr} {ta : TEw} {pos : Pos}
theorem qtisN {j p2} (ha : PEw X a ta) : PTw X (.Compare a [.Is] [.Constant .none j p2] pos) (wTest (wIsN ta)) := PT.imp (pt_cmpR op_isN ha (pe_non (j := j) (pos := p2)) (nomark _)) fun σ H Q h => by
  obtain ⟨Z, σ', G, Qw, e, hr, t, k⟩ := h
  refine ⟨Z, σ', G, _, e, hr, t, fun Z1 G1 H1 x v x1 h1 r1 t1 => ?_⟩
  obtain ⟨b, eb, q⟩ := t1
  refine ⟨rfl, b, ?_, k Z1 G1 H1 b x1 h1 q⟩
  rw [r1.isNon]
  injection eb with eb
  rw [eb]
theorem qtnotN {j p2} (ha : PEw X a ta) : PTw X (.Compare a [.IsNot] [.Constant .none j p2] pos) (wTest (wNotN ta)) := PT.imp (pt_cmpR op_notN ha (pe_non (j := j) (pos := p2)) (nomark _)) fun σ H Q h => by
  obtain ⟨Z, σ', G, Qw, e, hr, t, k⟩ := h
  refine ⟨Z, σ', G, _, e, hr, t, fun Z1 G1 H1 x v x1 h1 r1 t1 => ?_⟩
  obtain ⟨b, eb, q⟩ := t1
  refine ⟨rfl, b, ?_, k Z1 G1 H1 b x1 h1 q⟩
  rw [r1.isNon]
  injection eb with eb
  rw [eb]
end
/-! ### all, any, sum, tuple, list -/
def wAll : List W → Gp → QW → Prop := fun ws G Q => match ws with
  | [x] => isS (asL G x) fun us => ∃ bs : List Bool, us = bs.map W.bl ∧ Q (.bl (bs.all id)) G
  | _ => False
def wAny : List W → Gp → QW → Prop := fun ws G Q => match ws with
  | [x] => isS (asL G x) fun us => ∃ bs : List Bool, us = bs.map W.bl ∧ Q (.bl (bs.any id)) G
  | _ => False
def wSum : List W → Gp → QW → Prop := fun ws G Q => match ws with
  | [x] => isS (asL G x) fun us => ∃ ns : List Int, us = ns.map W.int ∧ Q (.int ns.sum) G
  | _ => False
def wTuple : List W → Gp → QW → Prop := fun ws G Q => match ws with
  | [.tup us] => Q (.tup us) G
  | [x] => isS (asL G x) fun us => Q (.tup us) G
  | _ => False
def wList : List W → Gp → QW → Prop := fun ws G Q => match ws with
  | [.tup us] => Q (.lst us) G
  | [x] => isS (asL G x) fun us => Q (.lst us) G
  | _ => False
def wListM : List W → Gp → QW → Prop := fun ws G Q => match ws with
  | [.tup us] => ∀ p, G p = none → Q (.ref p) (gup G p (.lst us))
  | [x] => isS (asL G x) fun us => ∀ p, G p = none → Q (.ref p) (gup G p (.lst us))
  | _ => False
section
variable {K : PySem.W.Frag} {Z : Zp} {H : Hp} {G : Gp} {Q : QW} {us : List W} {p : Addr}
theorem wAll_lst : wAll [.lst us] G Q = ∃ bs : List Bool, us = bs.map W.bl ∧ Q (.bl (bs.all id)) G := rfl
theorem wAny_lst : wAny [.lst us] G Q = ∃ bs : List Bool, us = bs.map W.bl ∧ Q (.bl (bs.any id)) G := rfl
theorem wSum_lst : wSum [.lst us] G Q = ∃ ns : List Int, us = ns.map W.int ∧ Q (.int ns.sum) G := rfl
theorem wTuple_tup : wTuple [.tup us] G Q = Q (.tup us) G := rfl
theorem wTuple_lst : wTuple [.lst us] G Q = Q (.tup us) G := rfl
theorem wList_tup : wList [.tup us] G Q = Q (.lst us) G := rfl
theorem wList_lst : wList [.lst us] G Q = Q (.lst us) G := rfl
theorem wList_ref : wList [.ref p] G Q = isS (asL G (.ref p)) fun us => Q (.lst us) G := rfl
theorem wListM_tup : wListM [.tup us] G Q = ∀ p, G p = none → Q (.ref p) (gup G p (.lst us)) := rfl
theorem wListM_lst : wListM [.lst us] G Q = ∀ p, G p = none → Q (.ref p) (gup G p (.lst us)) := rfl
theorem RwL.unbl : ∀ {bs : List Bool} {vs : List V}, RwL K Z H (bs.map W.bl) vs → vs = bs.map V.bl
  | [], _, r => by cases r; rfl
  | b :: bs, _, r => by
    rw [List.map_cons] at r
    cases r with
    | cons r t => cases r; rw [RwL.unbl t]; rfl
theorem RwL.unint : ∀ {ns : List Int} {vs : List V}, RwL K Z H (ns.map W.int) vs → vs = ns.map V.int
  | [], _, r => by cases r; rfl
  | n :: ns, _, r => by
    rw [List.map_cons] at r
    cases r with
    | cons r t => cases r; rw [RwL.unint t]; rfl
theorem sim_all : SimN K (rAll K) wAll := by
  intro Z G H ws vs Qw Q h r t k
  cases r with
  | nil => exact False.elim t
  | cons rx rr =>
    cases rr with
    | cons _ _ => exact False.elim t
    | nil =>
      obtain ⟨us, e, bs, rfl, q⟩ := isS_ex t
      obtain ⟨p, vs, rfl, s, r⟩ := asL_sq h rx e
      cases r.unbl
      exact ⟨p, bs, rfl, s, k.at h .bl q⟩
theorem sim_any : SimN K (rAny K) wAny := by
  intro Z G H ws vs Qw Q h r t k
  cases r with
  | nil => exact False.elim t
  | cons rx rr =>
    cases rr with
    | cons _ _ => exact False.elim t
    | nil =>
      obtain ⟨us, e, bs, rfl, q⟩ := isS_ex t
      obtain ⟨p, vs, rfl, s, r⟩ := asL_sq h rx e
      cases r.unbl
      exact ⟨p, bs, rfl, s, k.at h .bl q⟩
theorem sim_sum : SimN K (rSum K) wSum := by
  intro Z G H ws vs Qw Q h r t k
  cases r with
  | nil => exact False.elim t
  | cons rx rr =>
    cases rr with
    | cons _ _ => exact False.elim t
    | nil =>
      obtain ⟨us, e, ns, rfl, q⟩ := isS_ex t
      obtain ⟨p, vs, rfl, s, r⟩ := asL_sq h rx e
      cases r.unint
      exact ⟨p, ns, rfl, s, k.at h .int q⟩
theorem sim_tuple : SimN K (fun xs H Q => ∃ p ys, xs = [.ref p] ∧ ((SqL K H p ys ∧ ∀ l, H l = none → Q (.ref l) (upd H l (.tup ys))) ∨ (SqT K H p ys ∧ Q (.ref p) H))) wTuple := by
  intro Z G H ws vs Qw Q h r t k
  cases r with
  | nil => exact False.elim t
  | @cons w v ws vs rx rr =>
    cases rr with
    | cons _ _ => cases rx <;> exact False.elim t
    | nil =>
      have gen : (isS (asL G w) fun us => Qw (.tup us) G) → ∃ p ys, [v] = [.ref p] ∧ ((SqL K H p ys ∧ ∀ l, H l = none → Q (.ref l) (upd H l (.tup ys))) ∨ (SqT K H p ys ∧ Q (.ref p) H)) := fun t => by
        obtain ⟨us, e, q⟩ := isS_ex t
        obtain ⟨p, vs, rfl, s, r⟩ := asL_sq h rx e
        refine ⟨p, vs, rfl, .inl ⟨s, fun l n => ?_⟩⟩
        obtain ⟨h2, x2, r2⟩ := new_tup h n r
        exact k _ _ _ _ _ x2 h2 r2 q
      cases rx with
      | tup s r => exact ⟨_, _, rfl, .inr ⟨s, k.at h (.tup s r) t⟩⟩
      | _ => exact gen t
theorem sim_list : SimN K (fun xs H Q => ∃ p ys, xs = [.ref p] ∧ (SqL K H p ys ∨ SqT K H p ys) ∧ ∀ l, H l = none → Q (.ref l) (upd H l (.lst ys))) wList := by
  intro Z G H ws vs Qw Q h r t k
  cases r with
  | nil => exact False.elim t
  | @cons w v ws vs rx rr =>
    cases rr with
    | cons _ _ => cases rx <;> exact False.elim t
    | nil =>
      have gen : (isS (asL G w) fun us => Qw (.lst us) G) → ∃ p ys, [v] = [.ref p] ∧ (SqL K H p ys ∨ SqT K H p ys) ∧ ∀ l, H l = none → Q (.ref l) (upd H l (.lst ys)) := fun t => by
        obtain ⟨us, e, q⟩ := isS_ex t
        obtain ⟨p, vs, rfl, s, r⟩ := asL_sq h rx e
        refine ⟨p, vs, rfl, .inl s, fun l n => ?_⟩
        obtain ⟨h2, x2, r2⟩ := new_frz h n r
        exact k _ _ _ _ _ x2 h2 r2 q
      cases rx with
      | tup s r =>
        refine ⟨_, _, rfl, .inr s, fun l n => ?_⟩
        obtain ⟨h2, x2, r2⟩ := new_frz h n r
        exact k _ _ _ _ _ x2 h2 r2 t
      | _ => exact gen t
theorem sim_listM : SimN K (fun xs H Q => ∃ p ys, xs = [.ref p] ∧ (SqL K H p ys ∨ SqT K H p ys) ∧ ∀ l, H l = none → Q (.ref l) (upd H l (.lst ys))) wListM := by
  intro Z G H ws vs Qw Q h r t k
  cases r with
  | nil => exact False.elim t
  | @cons w v ws vs rx rr =>
    cases rr with
    | cons _ _ => cases rx <;> exact False.elim t
    | nil =>
      have gen : (isS (asL G w) fun us => ∀ p, G p = none → Qw (.ref p) (gup G p (.lst us))) → ∃ p ys, [v] = [.ref p] ∧ (SqL K H p ys ∨ SqT K H p ys) ∧ ∀ l, H l = none → Q (.ref l) (upd H l (.lst ys)) := fun t => by
        obtain ⟨us, e, q⟩ := isS_ex t
        obtain ⟨p, vs, rfl, s, r⟩ := asL_sq h rx e
        refine ⟨p, vs, rfl, .inl s, fun l n => ?_⟩
        obtain ⟨g, h2, x2⟩ := new_lst h n r
        exact k _ _ _ _ _ x2 h2 .ref (q l g)
      cases rx with
      | tup s r =>
        refine ⟨_, _, rfl, .inr s, fun l n => ?_⟩
        obtain ⟨g, h2, x2⟩ := new_lst h n r
        exact k _ _ _ _ _ x2 h2 .ref (t l g)
      | _ => exact gen t
variable {X : Cx} {e : Expr} {es : List Expr} {t : TAw} {p pos : Pos}
theorem qall (hc : X.calm = true) (hg : Gl X "all") (hm : X.mg "all" = none) (ha : PAw X (e :: es) t) (he : starEach (e :: es) X.env = (false, eval e X.env) :: starEach es X.env := by rfl) (hpl : (backTo pos (starEach es X.env)).any (·.1) = false := by rfl) :
    PEw X (.Call (.Name "all" p) (e :: es) [] pos) (wCB wAll t) := PE.imp (pe_callB (cr_all hc) hg hm (by decide +kernel) ha (by decide) (by decide) he hpl) fun _ _ _ h => liftN sim_all h
theorem qany (hc : X.calm = true) (hg : Gl X "any") (hm : X.mg "any" = none) (ha : PAw X (e :: es) t) (he : starEach (e :: es) X.env = (false, eval e X.env) :: starEach es X.env := by rfl) (hpl : (backTo pos (starEach es X.env)).any (·.1) = false := by rfl) :
    PEw X (.Call (.Name "any" p) (e :: es) [] pos) (wCB wAny t) := PE.imp (pe_callB (cr_any hc) hg hm (by decide +kernel) ha (by decide) (by decide) he hpl) fun _ _ _ h => liftN sim_any h
theorem qsum (hc : X.calm = true) (hg : Gl X "sum") (hm : X.mg "sum" = none) (ha : PAw X (e :: es) t) (he : starEach (e :: es) X.env = (false, eval e X.env) :: starEach es X.env := by rfl) (hpl : (backTo pos (starEach es X.env)).any (·.1) = false := by rfl) :
    PEw X (.Call (.Name "sum" p) (e :: es) [] pos) (wCB wSum t) := PE.imp (pe_callB (cr_sum hc) hg hm (by decide +kernel) ha (by decide) (by decide) he hpl) fun _ _ _ h => liftN sim_sum h
theorem qtuple (hg : Gl X "tuple") (hm : X.mg "tuple" = none) (ha : PAw X (e :: es) t) (he : starEach (e :: es) X.env = (false, eval e X.env) :: starEach es X.env := by rfl) (hpl : (backTo pos (starEach es X.env)).any (·.1) = false := by rfl) :
    PEw X (.Call (.Name "tuple" p) (e :: es) [] pos) (wCB wTuple t) := PE.imp (pe_callTy call_tuple_of hg hm (by decide +kernel) ha (by decide) (by decide) he hpl) fun _ _ _ h => liftN sim_tuple h
theorem qlist (hg : Gl X "list") (hm : X.mg "list" = none) (ha : PAw X (e :: es) t) (he : starEach (e :: es) X.env = (false, eval e X.env) :: starEach es X.env := by rfl) (hpl : (backTo pos (starEach es X.env)).any (·.1) = false := by rfl) :
    PEw X (.Call (.Name "list" p) (e :: es) [] pos) (wCB wList t) := PE.imp (pe_callTy call_list_of hg hm (by decide +kernel) ha (by decide) (by decide) he hpl) fun _ _ _ h => liftN sim_list h
theorem qlistM (hg : Gl X "list") (hm : X.mg "list" = none) (ha : PAw X (e :: es) t) (he : starEach (e :: es) X.env = (false, eval e X.env) :: starEach es X.env := by rfl) (hpl : (backTo pos (starEach es X.env)).any (·.1) = false := by rfl) :
    PEw X (.Call (.Name "list" p) (e :: es) [] pos) (wCB wListM t) := PE.imp (pe_callTy call_list_of hg hm (by decide +kernel) ha (by decide) (by decide) he hpl) fun _ _ _ h => liftN sim_listM h
end
end WL

namespace WL
open PySem PySem.Spec PyProof.Rows L2 RZ
/-! ### slices -/
abbrev TOw := SW → Gp → (Option Int → Gp → Prop) → Prop
def liftO (K : PySem.W.Frag) (t : TOw) : TO := fun σ H Q => ∃ Z σ' G Qw, RwS K Z H σ' σ ∧ HRel K Z G H ∧ t σ' G Qw ∧ ∀ Z' G' H' o, Ext Z G H Z' G' H' → HRel K Z' G' H' → Qw o G' → Q o H'
def POw (X : Cx) (e : Option Expr) (t : TOw) : Prop := PO X e (liftO X.K t)
def wpNone : TOw := fun _ G Q => Q none G
def wpSome (t : TEw) : TOw := fun σ G Q => t σ G fun w G1 => match w with
  | .int i => Q (some i) G1
  | _ => False
def cutW (xs : List W) (lo hi : Option Int) : List W := (xs.drop (HT.sIx xs.length 0 lo)).take (HT.sIx xs.length xs.length hi - HT.sIx xs.length 0 lo)
def wCut (x : W) (lo hi : Option Int) (G : Gp) (Q : QW) : Prop := match x with
  | .tup ws => Q (.tup (cutW ws lo hi)) G
  | .str z => z.length ≤ sizeLine ∧ Q (.str (cutS z lo hi)) G
  | x => isS (asL G x) fun ws => Q (.lst (cutW ws lo hi)) G
def wSlice (t : TEw) (lo hi : TOw) : TEw := fun σ G Q => t σ G fun x G1 => lo σ G1 fun l G2 => hi σ G2 fun h G3 => wCut x l h G3 Q
def wCutM (x : W) (lo hi : Option Int) (G : Gp) (Q : QW) : Prop := isS (asL G x) fun ws => ∀ p, G p = none → Q (.ref p) (gup G p (.lst (cutW ws lo hi)))
def wSliceM (t : TEw) (lo hi : TOw) : TEw := fun σ G Q => t σ G fun x G1 => lo σ G1 fun l G2 => hi σ G2 fun h G3 => wCutM x l h G3 Q
section
variable {K : PySem.W.Frag} {Z : Zp} {G : Gp} {H : Hp} {ws : List W} {lo hi : Option Int} {Q : QW} {p : Addr} {z : Str}
theorem wCut_tup : wCut (.tup ws) lo hi G Q = Q (.tup (cutW ws lo hi)) G := rfl
theorem wCut_lst : wCut (.lst ws) lo hi G Q = Q (.lst (cutW ws lo hi)) G := rfl
theorem wCut_ref : wCut (.ref p) lo hi G Q = isS (asL G (.ref p)) fun ws => Q (.lst (cutW ws lo hi)) G := rfl
theorem wCut_str : wCut (.str z) lo hi G Q = (z.length ≤ sizeLine ∧ Q (.str (cutS z lo hi)) G) := rfl
theorem wpSome_int {i : Int} {σ : SW} {P : Option Int → Gp → Prop} : wpSome (wC (.int i)) σ G P = P (some i) G := rfl
theorem RwL.cut {vs : List V} (r : RwL K Z H ws vs) : RwL K Z H (cutW ws lo hi) (cutV vs lo hi) := by
  unfold cutW cutV
  rw [← r.length]
  exact (r.drop _).take _
end
section
variable {X : Cx} {K : PySem.W.Frag} {e : Expr} {te : TEw} {lo hi : Option Expr} {tl th : TOw} {pos p2 : Pos}
theorem qp_none : POw X none wpNone := by
  refine ⟨fun pins s σ H Q I h => ?_⟩
  obtain ⟨Z, σ', G, Qw, ev, hr, t, k⟩ := h
  exact po_none.run pins s σ H Q I (k Z G H none Ext.refl hr t)
theorem qp_some (h : PEw X e te) : POw X (some e) (wpSome te) := by
  refine ⟨fun pins s σ H Q I h2 => (po_some h).run pins s σ H Q I ?_⟩
  obtain ⟨Z, σ', G, Qw, ev, hr, t, k⟩ := h2
  refine ⟨Z, σ', G, _, ev, hr, t, fun Z1 G1 H1 w v x1 h1 r1 t1 => ?_⟩
  cases r1 with
  | int => exact ⟨_, rfl, k Z1 G1 H1 _ x1 h1 t1⟩
  | _ => exact False.elim t1
def rSlU (K : PySem.W.Frag) : V → Option Int → Option Int → Hp → VK → Prop := fun x lo hi H Q => rSlL K x lo hi H Q ∨ rSlA K x lo hi H Q ∨ rSlS x lo hi H Q
theorem lslice {r : V → Option Int → Option Int → Hp → VK → Prop} {wr : W → Option Int → Option Int → Gp → QW → Prop} {σ : SV} {H : Hp} {Q : VK}
    (hs : ∀ Z G H x v lo hi Qw Q, HRel K Z G H → Rw K Z H x v → wr x lo hi G Qw → KE K Z G H Qw Q → r v lo hi H Q)
    (h : liftE K (fun σ G Q => te σ G fun x G1 => tl σ G1 fun l G2 => th σ G2 fun h G3 => wr x l h G3 Q) σ H Q) : tSl r (liftE K te) (liftO K tl) (liftO K th) σ H Q := by
  obtain ⟨Z, σ', G, Qw, e, hr, t, k⟩ := h
  refine ⟨Z, σ', G, _, e, hr, t, fun Z1 G1 H1 x v x1 h1 r1 t1 => ?_⟩
  refine ⟨Z1, σ', G1, _, e.ext hr x1, h1, t1, fun Z2 G2 H2 l x2 h2 t2 => ?_⟩
  refine ⟨Z2, σ', G2, _, e.ext hr (x1.trans x2), h2, t2, fun Z3 G3 H3 u x3 h3 t3 => ?_⟩
  exact hs Z3 G3 H3 x v l u Qw Q h3 (r1.ext h1 (x2.trans x3)) t3 (k.mono ((x1.trans x2).trans x3))
theorem qslice (he : PEw X e te) (hl : POw X lo tl) (hh : POw X hi th) : PEw X (.Subscript e (.Slice lo hi none p2) pos) (wSlice te tl th) :=
  PE.imp (pe_slice (SlR.or sl_list (SlR.or sl_tupA sl_str)) he hl hh) fun σ H Q h => lslice (wr := wCut) (fun Z G H x v lo hi Qw Q h rx t k => by
    have gen : (isS (asL G x) fun ws => Qw (.lst (cutW ws lo hi)) G) → rSlU X.K v lo hi H Q := fun t => by
      obtain ⟨us, e, q⟩ := isS_ex t
      obtain ⟨p, vs, rfl, s, r⟩ := asL_sq h rx e
      refine .inl ⟨p, vs, rfl, s, fun l n => ?_⟩
      obtain ⟨h2, x2, r2⟩ := new_frz h n (r.cut (lo := lo) (hi := hi))
      exact k _ _ _ _ _ x2 h2 r2 q
    cases rx with
    | @tup p ws vs s r =>
      refine .inr (.inl ⟨_, _, rfl, s, fun hw => ?_, fun _ l n => ?_⟩)
      · have e : cutW ws lo hi = ws := by
          unfold cutW
          rw [r.length, hw.1, hw.2, List.drop_zero, Nat.sub_zero, ← r.length, List.take_length]
        have t' : Qw (.tup (cutW ws lo hi)) G := t
        rw [e] at t'
        exact k.at h (.tup s r) t'
      · obtain ⟨h2, x2, r2⟩ := new_tup h n (r.cut (lo := lo) (hi := hi))
        exact k _ _ _ _ _ x2 h2 r2 t
    | str => exact .inr (.inr ⟨_, rfl, t.1, k.at h .str t.2⟩)
    | _ => exact gen t) h
theorem qsliceM (he : PEw X e te) (hl : POw X lo tl) (hh : POw X hi th) : PEw X (.Subscript e (.Slice lo hi none p2) pos) (wSliceM te tl th) :=
  PE.imp (pe_slice sl_list he hl hh) fun σ H Q h => lslice (wr := wCutM) (fun Z G H x v lo hi Qw Q h rx t k => by
      obtain ⟨us, e, q⟩ := isS_ex t
      obtain ⟨p, vs, rfl, s, r⟩ := asL_sq h rx e
      refine ⟨p, vs, rfl, s, fun l n => ?_⟩
      obtain ⟨g, h2, x2⟩ := new_lst h n (r.cut (lo := lo) (hi := hi))
      exact k _ _ _ _ _ x2 h2 .ref (q l g)) h
end
/-! ### in -/
def flatW : W → Bool
  | .non => true | .bl _ => true | .int _ => true | .str _ => true
  | _ => false
def eqW : W → W → Bool
  | .non, .non => true
  | .bl a, .bl b => a == b
  | .bl a, .int b => (if a then 1 else 0) == b
  | .int a, .bl b => a == (if b then 1 else 0)
  | .int a, .int b => a == b
  | .str a, .str b => a == b
  | _, _ => false
def inW (x : W) (xs : List W) : Bool := xs.any fun y => eqW y x
def seqs (G : Gp) : W → Option (List W)
  | .tup ws => some ws
  | w => asL G w
def wIn (neg : Bool) : RW2 := fun x y G Q => isS (seqs G y) fun ws => flatW x = true ∧ ws.all flatW = true ∧ Q (.bl (if neg then !inW x ws else inW x ws)) G
section
variable {X : Cx} {K : PySem.W.Frag} {Z : Zp} {H : Hp}
theorem Rw.flat {w : W} {v : V} (r : Rw K Z H w v) (f : flatW w = true) : flatV v = true := by cases r <;> first | rfl | cases f
theorem RwL.flat : ∀ {ws : List W} {vs : List V}, RwL K Z H ws vs → ws.all flatW = true → vs.all flatV = true
  | _, _, .nil, _ => rfl
  | _, _, .cons r t, f => by
    rw [List.all_cons, Bool.and_eq_true] at f ⊢
    exact ⟨r.flat f.1, RwL.flat t f.2⟩
theorem Rw.eqv {w w' : W} {v v' : V} (r : Rw K Z H w v) (r' : Rw K Z H w' v') (f : flatW w = true) (f' : flatW w' = true) : eqV v v' = eqW w w' := by
  cases r <;> cases r' <;> first | rfl | cases f | cases f'
theorem RwL.inv {w : W} {v : V} (r : Rw K Z H w v) (f : flatW w = true) : ∀ {ws : List W} {vs : List V}, RwL K Z H ws vs → ws.all flatW = true → inV v vs = inW w ws
  | _, _, .nil, _ => rfl
  | _, _, .cons q t, g => by
    rw [List.all_cons, Bool.and_eq_true] at g
    have ih := RwL.inv r f t g.2
    unfold inV inW at ih ⊢
    rw [List.any_cons, List.any_cons, ih, q.eqv r g.1 f]
theorem seqs_sq {G : Gp} (h : HRel K Z G H) {w : W} {v : V} {ws : List W} (r : Rw K Z H w v) (e : seqs G w = some ws) : ∃ p vs, v = .ref p ∧ (SqL K H p vs ∨ SqT K H p vs) ∧ RwL K Z H ws vs := by
  have gen : asL G w = some ws → ∃ p vs, v = .ref p ∧ (SqL K H p vs ∨ SqT K H p vs) ∧ RwL K Z H ws vs := fun e => by
    obtain ⟨p, vs, e1, s, t⟩ := asL_sq h r e
    exact ⟨p, vs, e1, .inl s, t⟩
  cases w with
  | tup us =>
    cases e
    cases r with
    | tup s r => exact ⟨_, _, rfl, .inr s, r⟩
  | _ => exact gen e
theorem sim_in {neg : Bool} : Sim2 K (rIn K neg) (wIn neg) := by
  intro Z G H x y v u Qw Q h rx ry t k
  obtain ⟨ws, e, f, g, q⟩ := isS_ex t
  obtain ⟨p, vs, e1, s, r⟩ := seqs_sq h ry e
  refine ⟨p, vs, e1, s, rx.flat f, r.flat g, ?_⟩
  rw [r.inv rx f g]
  exact k.at h .bl q
variable {a b : Expr} {ta tb : TEw} {pos : Pos}
theorem qin (ha : PEw X a ta) (hb : PEw X b tb) (hm : behindInMarks .In b = false := by rfl) : PEw X (.Compare a [.In] [b] pos) (wOp (wIn false) ta tb) := qcmp op_in_seq sim_in ha hb hm
theorem qnin (ha : PEw X a ta) (hb : PEw X b tb) (hm : behindInMarks .NotIn b = false := by rfl) : PEw X (.Compare a [.NotIn] [b] pos) (wOp (wIn true) ta tb) := qcmp op_notIn_seq sim_in ha hb hm
theorem qtin (ha : PEw X a ta) (hb : PEw X b tb) (hm : behindInMarks .In b = false := by rfl) : PTw X (.Compare a [.In] [b] pos) (wTest (wOp (wIn false) ta tb)) := qtcmp op_in_seq sim_in ha hb hm
theorem qtnin (ha : PEw X a ta) (hb : PEw X b tb) (hm : behindInMarks .NotIn b = false := by rfl) : PTw X (.Compare a [.NotIn] [b] pos) (wTest (wOp (wIn true) ta tb)) := qtcmp op_notIn_seq sim_in ha hb hm
end
/-! ### a list so many times -/
def repW (k : Int) (ws : List W) : List W := (List.replicate k.toNat ws).flatten
def CRep (n : Nat) (k : Int) : Prop := -9223372036854775808 ≤ k ∧ k < 9223372036854775808 ∧ n * k.toNat ≤ sizeLine
def wRep : RW2 := fun x y G Q => match x, y with
  | .lst ws, .int k => CRep ws.length k ∧ Q (.lst (repW k ws)) G
  | _, _ => False
def wRepM : RW2 := fun x y G Q => match x, y with
  | .lst ws, .int k => CRep ws.length k ∧ ∀ p, G p = none → Q (.ref p) (gup G p (.lst (repW k ws)))
  | _, _ => False
section
variable {X : Cx} {K : PySem.W.Frag} {Z : Zp} {H : Hp}
theorem wRep_lst {ws : List W} {k : Int} {G : Gp} {Q : QW} : wRep (.lst ws) (.int k) G Q = (CRep ws.length k ∧ Q (.lst (repW k ws)) G) := rfl
theorem wRepM_lst {ws : List W} {k : Int} {G : Gp} {Q : QW} : wRepM (.lst ws) (.int k) G Q = (CRep ws.length k ∧ ∀ p, G p = none → Q (.ref p) (gup G p (.lst (repW k ws)))) := rfl
theorem RwL.rep {ws : List W} {vs : List V} (r : RwL K Z H ws vs) : ∀ n : Nat, RwL K Z H (List.replicate n ws).flatten (List.replicate n vs).flatten
  | 0 => .nil
  | n + 1 => by
    rw [List.replicate_succ, List.replicate_succ, List.flatten_cons, List.flatten_cons]
    exact r.append (RwL.rep r n)
theorem sim_rep : Sim2 K rRep wRep := by
  intro Z G H x y v u Qw Q h rx ry t k
  cases rx with
  | @lst p a vs z1 s1 r1 =>
    cases ry with
    | int =>
      obtain ⟨c, q⟩ := t
      refine ⟨_, _, vs, rfl, rfl, s1, by have := c.1; omega, by have := c.2.1; omega, by rw [← r1.length]; exact c.2.2, fun l n => ?_⟩
      obtain ⟨h2, x2, r2⟩ := new_frz h n (r1.rep _)
      exact k _ _ _ _ _ x2 h2 r2 q
    | _ => exact False.elim t
  | _ => exact False.elim t
theorem sim_repM : Sim2 K rRep wRepM := by
  intro Z G H x y v u Qw Q h rx ry t k
  cases rx with
  | @lst p a vs z1 s1 r1 =>
    cases ry with
    | int =>
      obtain ⟨c, q⟩ := t
      refine ⟨_, _, vs, rfl, rfl, s1, by have := c.1; omega, by have := c.2.1; omega, by rw [← r1.length]; exact c.2.2, fun l n => ?_⟩
      obtain ⟨g, h2, x2⟩ := new_lst h n (r1.rep _)
      exact k _ _ _ _ _ x2 h2 .ref (q l g)
    | _ => exact False.elim t
  | _ => exact False.elim t
variable {a b : Expr} {ta tb : TEw} {pos : Pos}
theorem qrep (ha : PEw X a ta) (hb : PEw X b tb) : PEw X (.BinOp a .Mult b pos) (wOp wRep ta tb) := qop op_rep sim_rep ha hb
theorem qrepM (ha : PEw X a ta) (hb : PEw X b tb) : PEw X (.BinOp a .Mult b pos) (wOp wRepM ta tb) := qop op_rep sim_repM ha hb
end
/-! ### the module's constants -/
inductive GlobW (K : PySem.W.Frag) (mg : Str → Option Value) (x : Str) : W → Prop
  | int {i : Int} {t : Tok} : mg x = some (.int i t) → GlobW K mg x (.int i)
  | str {z : Str} {t : Tok} : mg x = some (.str z t) → GlobW K mg x (.str z)
  | tup {a : Addr} {ws : List W} {vs : List V} : mg x = some (.ref a) → SqT K (fun _ => none) a vs → RwL K (fun _ => False) (fun _ => none) ws vs → GlobW K mg x (.tup ws)
mutual
theorem Rw.none {K : PySem.W.Frag} {Z : Zp} {H : Hp} : ∀ {w : W} {v : V}, Rw K (fun _ => False) (fun _ => none) w v → Rw K Z H w v
  | _, _, .non => .non
  | _, _, .bl => .bl
  | _, _, .int => .int
  | _, _, .str => .str
  | _, _, .ref => .ref
  | _, _, .ty => .ty
  | _, _, .tup s r => .tup (by
      rcases s with (s | ⟨o, s⟩) | s
      · cases s
      · cases s
      · exact .inr s) (RwL.none r)
  | _, _, .lst z _ _ => z.elim
  | _, _, .ins _ z _ _ => z.elim
  | _, _, .dic z _ _ => z.elim
  | _, _, .exc0 => .exc0
  | _, _, .excF z _ _ => z.elim
  | _, _, .scr s r => .scr (by
      rcases s with ⟨o, s⟩ | s
      · cases s
      · exact .inr s) (RwL.none r)
theorem RwL.none {K : PySem.W.Frag} {Z : Zp} {H : Hp} : ∀ {ws : List W} {vs : List V}, RwL K (fun _ => False) (fun _ => none) ws vs → RwL K Z H ws vs
  | _, _, .nil => .nil
  | _, _, .cons r t => .cons (Rw.none r) (RwL.none t)
end
section
variable {X : Cx} {x : Str} {w : W} {pos : Pos}
theorem qglob (hg : Gl X x) (c : GlobW X.K X.mg x w) (hd : (x == ("__debug__" : Str)) = false := by decide) : PEw X (.Name x pos) (wC w) := by
  cases c with
  | @int i t m => exact PE.imp (pe_glob (v := .int i) hg m ⟨_, rfl⟩ hd) fun _ _ _ h => lC (fun _ _ => .int) h
  | @str z t m => exact PE.imp (pe_glob (v := .str z) hg m ⟨_, rfl⟩ hd) fun _ _ _ h => lC (fun _ _ => .str) h
  | @tup a ws vs m s r =>
    refine PE.imp (pe_glob (v := .ref a) hg m rfl hd) fun _ _ _ h => lC (fun Z H => .tup ?_ r.none) h
    rcases s with (s | ⟨o, s⟩) | s
    · cases s
    · cases s
    · exact .inr s
end
/-! ### a[i] op= e -/
def wGet (o i : W) (G : Gp) (Q : QW) : Prop := match o, i with
  | .ref p, .int k => 0 ≤ k ∧ isG (G p) fun ws => ws.length ≤ sizeLine ∧ isS ws[k.toNat]? fun w => Q w G
  | _, _ => False
theorem wGet_ref {p : Addr} {k : Int} {G : Gp} {Q : QW} : wGet (.ref p) (.int k) G Q = (0 ≤ k ∧ isG (G p) fun ws => ws.length ≤ sizeLine ∧ isS ws[k.toNat]? fun w => Q w G) := rfl
def wAugIx (to ti te : TEw) (r : RW2) : TSw := fun D σ G => to σ G fun o G1 => ti σ G1 fun i G2 => wGet o i G2 fun x G3 => te σ G3 fun y G4 => r x y G4 fun z G5 => setIx o i z G5 fun G6 => D.nx σ G6
section
variable {X : Cx} {K : PySem.W.Frag} {o i e : Expr} {to ti te : TEw} {tpos pos : Pos}
def rGetL (K : PySem.W.Frag) : V → V → Hp → VK → Prop := fun o i H Q => ∃ p xs k v, o = .ref p ∧ i = .int k ∧ 0 ≤ k ∧ xs.length ≤ sizeLine ∧ SqL K H p xs ∧ xs[k.toNat]? = some v ∧ Q v H
theorem get_list : PGet X (rGetL X.K) := by
  intro pins s σ H o i ov iv Q I r1 r2 q
  obtain ⟨p, xs, k, v, rfl, rfl, k0, l, s1, e, q⟩ := q
  cases r1
  obtain ⟨t, rfl⟩ := r2
  obtain ⟨its, r, pl, _⟩ := I.list s1
  obtain ⟨w, ew, rw'⟩ := r.get e
  have hs : sizeLine = 16777216 := by decide
  have hk : k.toNat < xs.length := (List.getElem?_eq_some_iff.mp e).1
  exact wpAny_getItem_list pl.isList k0 (by omega) (by simpa using ew) ⟨v, H, I, rw', q⟩
theorem laugix {r : TIp} {wr : RW2} (hs : Sim2 X.K r wr) {D : Ends} {σ : SV} {H : Hp} (h : liftS X (wAugIx to ti te wr) D σ H) : tAugS (liftE X.K to) (liftE X.K ti) (liftE X.K te) (rGetL X.K) r rSetL D σ H := by
  obtain ⟨Z, σ', G, Dw, e, hr, t, k⟩ := h
  refine ⟨Z, σ', G, _, e, hr, t, fun Z1 G1 H1 ow ov x1 h1 r1 t1 => ?_⟩
  refine ⟨Z1, σ', G1, _, e.ext hr x1, h1, t1, fun Z2 G2 H2 iw iv x2 h2 r2 t2 => ?_⟩
  have t3 : ∃ p kk, ow = .ref p ∧ iw = .int kk ∧ 0 ≤ kk ∧ isG (G2 p) fun ws => ws.length ≤ sizeLine ∧ isS ws[kk.toNat]? fun w => te σ' G2 fun y G4 => wr w y G4 fun z G5 => setIx ow iw z G5 fun G6 => Dw.nx σ' G6 := by
    cases ow <;> cases iw <;> first
      | exact False.elim t2
      | exact ⟨_, _, rfl, rfl, t2⟩
  obtain ⟨p, kk, rfl, rfl, k0, t3⟩ := t3
  obtain ⟨ws, g, l, t3⟩ := isG_ex t3
  obtain ⟨xw, ex, t3⟩ := isS_ex t3
  cases r1
  cases r2
  obtain ⟨vs, s, r⟩ := h2.lst g
  obtain ⟨xv, exv, rx⟩ := r.get _ ex
  refine ⟨p, vs, kk, xv, rfl, rfl, k0, by rw [← r.length]; exact l, SqL.of s, exv, ?_⟩
  refine ⟨Z2, σ', G2, _, (e.ext hr x1).ext h1 x2, h2, t3, fun Z3 G3 H3 y yv x3 h3 r3 t4 => ?_⟩
  refine hs Z3 G3 H3 xw y xv yv _ _ h3 (rx.ext h2 x3) r3 t4 fun Z4 G4 H4 z zv x4 h4 r4 t5 => ?_
  obtain ⟨p', kk', us, j, e1, e2, g', l', q⟩ := setIx_ex t5
  cases e1
  cases e2
  obtain ⟨us', s', ru⟩ := h4.lst g'
  obtain ⟨h5, x5⟩ := chg_lst h4 g' (RwL.set r4 j ru)
  refine ⟨p, us', kk, j, rfl, rfl, s', by rw [← ru.length]; exact l', ?_⟩
  have xx := (((x1.trans x2).trans x3).trans x4).trans x5
  exact k.nx _ _ _ _ _ xx h5 (e.ext hr xx) q
theorem qaugAIx (ho : PEw X o to) (hi : PEw X i ti) (he : PEw X e te)
    (ha : ∀ ov iv new, augStore i ov iv new = (do holding [new, ov, iv] (setItem ov iv new); release [new, ov, iv] []; pure .next) := by intros; rfl) : PSw X (.AugAssign (.Subscript o i tpos) .Add e pos) (wAugIx to ti te wAddI) :=
  PS.imp (ps_augS ho hi get_list he ip_add set_list ha) fun _ _ _ h => laugix sim_ip h
theorem qaugSIx (ho : PEw X o to) (hi : PEw X i ti) (he : PEw X e te)
    (ha : ∀ ov iv new, augStore i ov iv new = (do holding [new, ov, iv] (setItem ov iv new); release [new, ov, iv] []; pure .next) := by intros; rfl) : PSw X (.AugAssign (.Subscript o i tpos) .Sub e pos) (wAugIx to ti te wSub) :=
  PS.imp (ps_augS ho hi get_list he ip_sub set_list ha) fun _ _ _ h => laugix sim_ip h
end
/-! ### zip, enumerate -/
def tup2 (x y : W) : W := .tup [x, y]
theorem walkP {K : PySem.W.Frag} {J : It} {Z : Zp} {G : Gp} {H : Hp} {ws us : List W} {vs ts : List V} {Gd : Hp → Prop} (n : Nat) (hn : n = (ws.zipWith tup2 us).length)
    (wk : Walk J n Gd (YPair (fun i => vs[i]?) (fun i => ts[i]?))) (hg : ∀ Z' G' H', Ext Z G H Z' G' H' → HRel K Z' G' H' → Gd H') (h : HRel K Z G H) (r : RwL K Z H ws vs) (r2 : RwL K Z H us ts) : WalkW K J Z G H (ws.zipWith tup2 us) := by
  refine ⟨Gd, YPair (fun i => vs[i]?) (fun i => ts[i]?), by rw [← hn]; exact wk, fun Z' G' H' x h' => ⟨hg Z' G' H' x h', fun i v H'' hi y => ?_⟩⟩
  obtain ⟨T, a, b, rfl, nT, rfl, e1, e2⟩ := y
  obtain ⟨w, ew, rw'⟩ := (r.ext h x).get' i e1
  obtain ⟨u, eu, ru⟩ := (r2.ext h x).get' i e2
  obtain ⟨h2, x2, r3⟩ := new_tup h' nT (.cons rw' (.cons ru .nil))
  exact ⟨tup2 w u, by rw [List.getElem?_zipWith, ew, eu], r3, x2, h2⟩
theorem walk_zipT {K : PySem.W.Frag} {a b : Addr} {xs ys : List V} {n : Nat} (hn : n = min xs.length ys.length) : Walk (ItzT K a b) n (fun H => SqT K H a xs ∧ SqT K H b ys) (YPair (fun i => xs[i]?) (fun i => ys[i]?)) := by
  subst hn
  refine ⟨fun i H hi q => ?_, fun H q => ⟨xs, ys, q.1, q.2, by omega⟩, fun i H v H' hi q y => ?_⟩
  · have h1 : i < xs.length := Nat.lt_of_lt_of_le hi (Nat.min_le_left _ _)
    have h2 : i < ys.length := Nat.lt_of_lt_of_le hi (Nat.min_le_right _ _)
    exact ⟨xs, ys, _, _, q.1, q.2, List.getElem?_eq_getElem h1, List.getElem?_eq_getElem h2⟩
  · obtain ⟨T, x, z, e1, e2, e3, f1, f2⟩ := y
    exact ⟨T, x, z, e1, e2, e3, f1 xs q.1, f2 ys q.2⟩
/-- what zip takes: both lists, or both tuples -/
def zipOf (ws : List W) (G : Gp) (R : List W → Gp → Prop) : Prop := match ws with
  | [.tup a, .tup b] => R (a.zipWith tup2 b) G
  | [.lst a, .lst b] => R (a.zipWith tup2 b) G
  | _ => False
def i_zip2 (ta : TAw) : TIw := fun σ G R => ta σ G fun ws G1 => zipOf ws G1 R
section
variable {X : Cx} {K : PySem.W.Frag} {ta : TAw} {p pos tpos : Pos} {elts : List Expr} {kk : Nat}
theorem zipOf_tup {a b : List W} {G : Gp} {R : List W → Gp → Prop} : zipOf [.tup a, .tup b] G R = R (a.zipWith tup2 b) G := rfl
theorem zipOf_lst {a b : List W} {G : Gp} {R : List W → Gp → Prop} : zipOf [.lst a, .lst b] G R = R (a.zipWith tup2 b) G := rfl
theorem qizip2 {e e2 : Expr} (hg : Gl X "zip") (hm : X.mg "zip" = none) (ha : PAw X [e, e2] ta)
    (hs : starEach [e, e2] X.env = (false, eval e X.env) :: starEach [e2] X.env := by rfl) (hpl : (backTo pos (starEach [e2] X.env)).any (·.1) = false := by rfl) :
    PIw X (.Tuple elts kk tpos) (.Call (.Name "zip" p) [e, e2] [] pos) (i_zip2 ta) := PI.imp (pi_zipA hg hm ha hs hpl) fun σ H R h => by
  obtain ⟨Z, σ', G, Qw, ev, hr, t, k⟩ := h
  refine ⟨Z, σ', G, _, ev, hr, t, fun Z1 G1 H1 ws vs x1 h1 r1 t1 => ?_⟩
  cases r1 with
  | nil => exact False.elim t1
  | cons ra rr =>
    cases rr with
    | nil => cases ra <;> exact False.elim t1
    | cons rb rr =>
      cases rr with
      | cons _ _ => cases ra <;> cases rb <;> exact False.elim t1
      | nil =>
        cases ra with
        | tup sa qa =>
          cases rb with
          | tup sb qb => exact ⟨_, _, _, _, rfl, .inr ⟨sa, sb, k Z1 G1 H1 _ _ x1 h1 (walkP _ (by rw [List.length_zipWith, qa.length, qb.length]) (walk_zipT rfl) (fun Z' G' H' x h' => ⟨SqT.ext h1 x sa, SqT.ext h1 x sb⟩) h1 qa qb) t1⟩⟩
          | _ => exact False.elim t1
        | lst za sa qa =>
          cases rb with
          | lst zb sb qb => exact ⟨_, _, _, _, rfl, .inl ⟨SqL.of sa, SqL.of sb, k Z1 G1 H1 _ _ x1 h1 (walkP _ (by rw [List.length_zipWith, qa.length, qb.length]) (walk_zip rfl) (fun Z' G' H' x h' => ⟨SqL.of (x.f _ _ sa (h1.z _ za).1).1, SqL.of (x.f _ _ sb (h1.z _ zb).1).1⟩) h1 qa qb) t1⟩⟩
          | _ => exact False.elim t1
        | _ => cases rb <;> exact False.elim t1
end
/-- enumerate of a list -/
def enumFrom (n : Nat) : List W → List W
  | [] => []
  | w :: ws => tup2 (.int (n : Int)) w :: enumFrom (n + 1) ws
theorem enum_len : ∀ (n : Nat) (ws : List W), (enumFrom n ws).length = ws.length
  | _, [] => rfl
  | n, _ :: ws => by
    show (enumFrom (n + 1) ws).length + 1 = ws.length + 1
    rw [enum_len]
theorem enum_get : ∀ (n : Nat) (ws : List W) (i : Nat), (enumFrom n ws)[i]? = ws[i]?.map fun w => tup2 (.int ((n + i : Nat) : Int)) w
  | _, [], i => by simp [enumFrom]
  | n, w :: ws, 0 => rfl
  | n, w :: ws, i + 1 => by
    show (enumFrom (n + 1) ws)[i]? = ws[i]?.map _
    rw [enum_get (n + 1) ws i, show n + 1 + i = n + (i + 1) by omega]
def enumOf (ws : List W) (G : Gp) (R : List W → Gp → Prop) : Prop := match ws with
  | [x] => isS (asL G x) fun us => match x with
    | .ref p => R (enumFrom 0 us) (gdel G p)
    | _ => R (enumFrom 0 us) G
  | _ => False
def i_enum (ta : TAw) : TIw := fun σ G R => ta σ G fun ws G1 => enumOf ws G1 R
section
variable {K : PySem.W.Frag} {X : Cx} {ta : TAw} {p pos tpos : Pos} {elts : List Expr} {kk : Nat}
theorem enumOf_lst {a : List W} {G : Gp} {R : List W → Gp → Prop} : enumOf [.lst a] G R = R (enumFrom 0 a) G := rfl
theorem enumOf_scr {a : List W} {G : Gp} {R : List W → Gp → Prop} : enumOf [.scr a] G R = R (enumFrom 0 a) G := rfl
theorem walkE {Z : Zp} {G : Gp} {H : Hp} {a : Addr} {ws : List W} {vs : List V} (hs : ∀ Z' G' H', Ext Z G H Z' G' H' → SqL K H' a vs) (h : HRel K Z G H) (r : RwL K Z H ws vs) : WalkW K (Ite K a) Z G H (enumFrom 0 ws) := by
  refine ⟨_, _, by rw [enum_len, r.length]; exact walk_enum (K := K) (a := a) (xs := vs), fun Z' G' H' x h' => ⟨hs Z' G' H' x, fun i v H'' hi y => ?_⟩⟩
  obtain ⟨T, c, b, rfl, nT, rfl, e1, e2⟩ := y
  injection e1 with e1
  subst e1
  obtain ⟨w, ew, rw'⟩ := (r.ext h x).get' i e2
  obtain ⟨h2, x2, r3⟩ := new_tup h' nT (.cons (w := .int (i : Int)) .int (.cons rw' .nil))
  exact ⟨_, by rw [enum_get, ew, Nat.zero_add]; rfl, r3, x2, h2⟩
theorem qienum {e : Expr} (hg : Gl X "enumerate") (hm : X.mg "enumerate" = none) (ha : PAw X [e] ta) (hs : starEach [e] X.env = [(false, eval e X.env)] := by rfl) :
    PIw X (.Tuple elts kk tpos) (.Call (.Name "enumerate" p) [e] [] pos) (i_enum ta) := PI.imp (pi_enum hg hm ha hs) fun σ H R h => by
  obtain ⟨Z, σ', G, Qw, ev, hr, t, k⟩ := h
  refine ⟨Z, σ', G, _, ev, hr, t, fun Z1 G1 H1 ws vs x1 h1 r1 t1 => ?_⟩
  cases r1 with
  | nil => exact False.elim t1
  | @cons w v ws vs ra rr =>
    cases rr with
    | cons _ _ => exact False.elim t1
    | nil =>
      obtain ⟨us, e, q⟩ := isS_ex t1
      cases ra with
      | lst z s r => cases e; exact ⟨_, _, rfl, SqL.of s, k Z1 G1 H1 _ _ x1 h1 (walkE (fun Z' G' H' x => SqL.of (x.f _ _ s (h1.z _ z).1).1) h1 r) q⟩
      | scr s r => cases e; exact ⟨_, _, rfl, s.sq, k Z1 G1 H1 _ _ x1 h1 (walkE (fun Z' G' H' x => (s.ext h1 x).sq) h1 r) q⟩
      | @ref p =>
        obtain ⟨p', vs, e1, s, r⟩ := asL_sq (Z := Z1) h1 .ref e
        cases e1
        have g : ∃ us', G1 p = some (.lst us') := by
          simp only [asL] at e
          split at e
          · exact ⟨_, by assumption⟩
          · cases e
        obtain ⟨us', g⟩ := g
        obtain ⟨vs', s', r'⟩ := h1.lst g
        have eu : us' = us := by simpa [asL, g] using e
        subst eu
        obtain ⟨h2, x2⟩ := h1.freeze (p := p) (by rw [g]; simp)
        exact ⟨_, _, rfl, SqL.of s', k _ _ H1 _ _ (x1.trans x2) h2 (walkE (fun Z' G' H' x => SqL.of (x.f _ _ s' (h2.z p (.inr rfl)).1).1) h2 (r'.ext h1 x2)) q⟩
      | _ => cases e
end
/-! ### comprehensions -/
def wYes : TTw := fun _ G Q => Q true G
def swipe (σ : SW) : List Nat → SW
  | [] => σ
  | i :: vs => sforget (swipe σ vs) i
where sforget : SW → Nat → SW
  | [], _ => []
  | _ :: l, 0 => none :: l
  | a :: l, i + 1 => a :: sforget l i
def lcW (g : TGw) (tt : TTw) (te : TEw) (σ : SW) : List W → List W → Gp → (List W → Gp → Prop) → Prop
  | [], acc, G, Q => Q acc G
  | w :: ws, acc, G, Q => g w σ G fun σ1 G1 => tt σ1 G1 fun b G2 => if b = true then te σ1 G2 fun y G3 => lcW g tt te σ ws (acc ++ [y]) G3 Q else lcW g tt te σ ws acc G2 Q
def wLc (vs : List Nat) (ti : TIw) (g : TGw) (tt : TTw) (te : TEw) : TEw := fun σ G Q => ti σ G fun ws G1 => ws.length ≤ sizeLine ∧ lcW g tt te (swipe σ vs) ws [] G1 fun us G2 => Q (.lst us) G2
def wLcM (vs : List Nat) (ti : TIw) (g : TGw) (tt : TTw) (te : TEw) : TEw := fun σ G Q => ti σ G fun ws G1 => ws.length ≤ sizeLine ∧ lcW g tt te (swipe σ vs) ws [] G1 fun us G2 => ∀ p, G2 p = none → Q (.ref p) (gup G2 p (.lst us))
/-- a target that stores names of the block alone -/
inductive SetsIn (vs : List Nat) (σ : SV) : SV → Prop
  | refl : SetsIn vs σ σ
  | set {τ : SV} {i : Nat} {v : V} : SetsIn vs σ τ → i ∈ vs → SetsIn vs σ (τ.set i (some v))
theorem wipe_set {σ : SV} {i : Nat} {o : Option V} : ∀ {vs : List Nat}, i ∈ vs → L2.wipe (σ.set i o) vs = L2.wipe σ vs
  | [], h => by cases h
  | v :: vs, h => by
    unfold L2.wipe
    by_cases hv : i ∈ vs
    · rw [wipe_set hv]
    · have e : i = v := by
        rcases List.mem_cons.mp h with h | h
        · exact h
        · exact absurd h hv
      subst e
      have out : ∀ us : List Nat, i ∉ us → L2.wipe (σ.set i o) us = (L2.wipe σ us).set i o := by
        intro us hu
        induction us with
        | nil => rfl
        | cons u us ih =>
          unfold L2.wipe
          rw [ih fun z => hu (.tail _ z), List.set_comm]
          exact fun z => hu (by rw [z]; exact .head _)
      rw [out vs hv, List.set_set]
theorem SetsIn.wipe {vs : List Nat} {σ τ : SV} (h : SetsIn vs σ τ) : L2.wipe τ vs = L2.wipe σ vs := by
  induction h with
  | refl => rfl
  | set _ hi ih => rw [wipe_set hi, ih]
theorem wipe_wipe {σ : SV} : ∀ (vs us : List Nat), (∀ i ∈ us, i ∈ vs) → L2.wipe (L2.wipe σ us) vs = L2.wipe σ vs
  | vs, [], _ => rfl
  | vs, u :: us, h => by
    show L2.wipe ((L2.wipe σ us).set u none) vs = _
    rw [wipe_set (h u (.head _)), wipe_wipe vs us fun i hi => h i (.tail _ hi)]
section
variable {K : PySem.W.Frag} {Z : Zp} {H : Hp} {σ' : SW} {σ : SV}
theorem RwS.forget1 : ∀ {ws : SW} {vs : SV} (i : Nat) (o : Option V), RwS K Z H ws vs → RwS K Z H (swipe.sforget ws i) (vs.set i o)
  | _, _, _, _, .nil => .nil
  | _, _, 0, _, .skip t => .skip t
  | _, _, 0, _, .cons _ t => .skip t
  | _, _, i + 1, o, .skip t => .skip (RwS.forget1 i o t)
  | _, _, i + 1, o, .cons r t => .cons r (RwS.forget1 i o t)
theorem RwS.wipe (h : RwS K Z H σ' σ) : ∀ vs : List Nat, RwS K Z H (swipe σ' vs) (L2.wipe σ vs)
  | [] => h
  | i :: vs => (RwS.wipe h vs).forget1 i none
/-- a target's reading over both, storing names of the block alone -/
def SimG (K : PySem.W.Frag) (vs : List Nat) (g : TG) (gw : TGw) : Prop := ∀ Z G H σ' σ w v Qw Q, RwS K Z H σ' σ → HRel K Z G H → Rw K Z H w v → gw w σ' G Qw →
  (∀ τ' τ, RwS K Z H τ' τ → SetsIn vs σ τ → Qw τ' G → Q τ H) → g v σ H Q
theorem simg_name {vs : List Nat} {i : Nat} (hi : i ∈ vs) : SimG K vs (gName i) (gN i) := fun Z G H σ' σ w v Qw Q e h r t k => k _ _ (e.set r i) (.set .refl hi) t
def SimGs (K : PySem.W.Frag) (vs : List Nat) (g : TGs) (gw : TGsw) : Prop := ∀ Z G H σ' σ ws us Qw Q, RwS K Z H σ' σ → HRel K Z G H → RwL K Z H ws us → gw ws σ' G Qw →
  (∀ τ' τ, RwS K Z H τ' τ → SetsIn vs σ τ → Qw τ' G → Q τ H) → g us σ H Q
theorem simgs_nil {vs : List Nat} : SimGs K vs gNil gsN := fun Z G H σ' σ ws us Qw Q e h r t k => by
  cases r with
  | nil => exact ⟨rfl, k _ _ e .refl t⟩
  | cons _ _ => exact False.elim t
theorem SetsIn.trans {vs : List Nat} {a b c : SV} (h : SetsIn vs a b) (h' : SetsIn vs b c) : SetsIn vs a c := by
  induction h' with
  | refl => exact h
  | set _ hi ih => exact .set ih hi
theorem simgs_cons {vs : List Nat} {i : Nat} {g : TGs} {gw : TGsw} (hi : i ∈ vs) (hg : SimGs K vs g gw) : SimGs K vs (gCons (gName i) g) (gsC (gN i) gw) := fun Z G H σ' σ ws us Qw Q e h r t k => by
  cases r with
  | nil => exact False.elim t
  | cons r rr => exact ⟨_, _, rfl, hg Z G H _ _ _ _ Qw Q (e.set r i) h rr t fun τ' τ e' s q => k τ' τ e' ((SetsIn.set .refl hi).trans s) q⟩
theorem simg_tup {vs : List Nat} {n : Nat} {g : TGs} {gw : TGsw} (hg : SimGs K vs g gw) : SimG K vs (fun v σ H Q => gTup K n g v σ H Q ∨ gLst K n g v σ H Q) (gT n gw) := fun Z G H σ' σ w v Qw Q e h r t k => by
  cases r with
  | tup s r => exact .inl ⟨_, _, rfl, s, by rw [← r.length]; exact t.1, hg Z G H _ _ _ _ Qw Q e h r t.2 k⟩
  | lst z s r => exact .inr ⟨_, _, rfl, SqL.of s, by rw [← r.length]; exact t.1, hg Z G H _ _ _ _ Qw Q e h r t.2 k⟩
  | @ref p =>
    obtain ⟨ws, g, t1, t2⟩ := isG_ex t
    obtain ⟨vs, s, r⟩ := h.lst g
    exact .inr ⟨_, _, rfl, SqL.of s, by rw [← r.length]; exact t1, hg Z G H _ _ _ _ Qw Q e h r t2 k⟩
  | _ => exact False.elim t
end
/-- the loop of a comprehension: D is the list that grows, known to the great heap alone -/
theorem llc {K : PySem.W.Frag} {vs : List Nat} {ti : TIw} {g : TG} {gw : TGw} {tt : TTw} {te : TEw} (sg : SimG K vs g gw) {σ : SV} {H : Hp} {Q : VK} {fin : List W → Gp → QW → Prop}
    (hfin : ∀ Z0 G0 H0 Z G H us xs D Qw, H0 D = none → Ext Z0 G0 H0 Z G H → HRel K Z G H → RwL K Z H us xs → H D = some (.lst xs) → G D = none → ¬ Z D → fin us G Qw → ∃ Z' G' w, Ext Z0 G0 H0 Z' G' H ∧ HRel K Z' G' H ∧ Rw K Z' H w (.ref D) ∧ Qw w G')
    (h : liftE K (fun σ G Q => ti σ G fun ws G1 => ws.length ≤ sizeLine ∧ lcW gw tt te (swipe σ vs) ws [] G1 fun us G2 => fin us G2 Q) σ H Q) : tLc (liftI K ti) g (liftT K tt) (liftE K te) vs σ H Q := by
  obtain ⟨Z, σ', G, Qw, e, hr, t, k⟩ := h
  refine ⟨Z, σ', G, _, e, hr, t, fun Z1 G1 H1 ws J x1 h1 ⟨Gd, Y, wk, hY⟩ t1 D hD => ?_⟩
  obtain ⟨hl, t1⟩ := t1
  have x0 : Ext Z1 G1 H1 Z1 G1 (upd H1 D (.lst [])) := Ext.laid h1 hD
  have h0 := h1.laid (o := .lst []) hD
  refine lc_it wk (fun i H2 => ∃ Z2 G2 us xs, Ext Z1 G1 H1 Z2 G2 H2 ∧ HRel K Z2 G2 H2 ∧ H2 D = some (.lst xs) ∧ G2 D = none ∧ ¬ Z2 D ∧ RwL K Z2 H2 us xs ∧ us.length ≤ i ∧ lcW gw tt te (swipe σ' vs) (ws.drop i) us G2 fun us G2 => fin us G2 Qw) ?_ ?_ ?_ ?_
  · exact ⟨Z1, G1, [], [], x0, h0, upd_same, h1.fresh hD, h1.freshZ hD, .nil, Nat.le_refl _, t1⟩
  · rintro i H2 _ ⟨Z2, G2, us, xs, x2, h2, _⟩
    exact (hY Z2 G2 H2 x2 h2).1
  · rintro i v H2 H3 hi ⟨Z2, G2, us, xs, x2, h2, eD, gD, zD, rus, lus, t2⟩ y
    obtain ⟨w, ew, rw', x3, h3⟩ := (hY Z2 G2 H2 x2 h2).2 i v H3 hi y
    have ed : ws.drop i = w :: ws.drop (i + 1) := by
      obtain ⟨hl, e⟩ := List.getElem?_eq_some_iff.mp ew
      rw [← e]; exact List.drop_eq_getElem_cons hl
    rw [ed] at t2
    have x23 := x2.trans x3
    have eσ : RwS K Z2 H3 (swipe σ' vs) (L2.wipe σ vs) := (e.ext hr (x1.trans x23)).wipe vs
    refine sg Z2 G2 H3 _ _ w v _ _ eσ h3 rw' t2 fun τ' τ eτ sτ t3 => ⟨?_, ?_⟩
    · rw [sτ.wipe, wipe_wipe vs vs fun i hi => hi]
    have eD3 := (x3.f D _ eD gD).1
    refine ⟨Z2, τ', G2, _, eτ, h3, t3, fun Z4 G4 H4 b x4 h4 t4 => ?_⟩
    have eD4 := x4.f D _ eD3 gD
    have zD4 : ¬ Z4 D := fun z => zD (x4.n D (by rw [eD3]; simp) gD z)
    have rus4 := (rus.ext h2 x3).ext h3 x4
    cases b with
    | false => exact ⟨Z4, G4, us, xs, x23.trans x4, h4, eD4.1, eD4.2, zD4, rus4, by omega, t4⟩
    | true =>
      refine ⟨Z4, τ', G4, _, eτ.ext h3 x4, h4, t4, fun Z5 G5 H5 yw yv x5 h5 r5 t5 => ?_⟩
      have eD5 := x5.f D _ eD4.1 eD4.2
      have zD5 : ¬ Z5 D := fun z => zD4 (x5.n D (by rw [eD4.1]; simp) eD4.2 z)
      have rus5 := rus4.ext h4 x5
      have kp : Keep Z5 H5 Z5 (upd H5 D (.lst (xs ++ [yv]))) := Keep.hid eD5.1 zD5
      have xx := (x23.trans x4).trans x5
      refine ⟨xs, eD5.1, by rw [← rus.length]; omega, Z5, G5, us ++ [yw], xs ++ [yv], ⟨xx.z, fun p u e' g' => ?_, xx.n⟩, ⟨fun p z => ?_, fun p o g' => ?_⟩, upd_same, eD5.2, zD5, (rus5.append (.cons r5 .nil)).keep kp, by simp; omega, t5⟩
      · rw [upd_ne (ne_of_none e' hD)]; exact xx.f p u e' g'
      · have := h5.z p z
        rw [upd_ne (fun c => zD5 (by rw [← c]; exact z))]
        exact this
      · obtain ⟨u, e', r⟩ := h5.g p o g'
        have c : p ≠ D := fun c => by rw [c, eD5.2] at g'; cases g'
        exact ⟨u, by rw [upd_ne c]; exact e', r.keep kp⟩
  · rintro H2 ⟨Z2, G2, us, xs, x2, h2, eD, gD, zD, rus, lus, t2⟩
    rw [List.drop_length] at t2
    obtain ⟨Z3, G3, w, x3, h3, r3, q⟩ := hfin Z1 G1 H1 Z2 G2 H2 us xs D Qw hD x2 h2 rus eD gD zD t2
    exact k Z3 G3 H2 w _ (x1.trans x3) h3 r3 q
theorem lc_frz {K : PySem.W.Frag} : ∀ Z0 G0 H0 Z G H us xs D (Qw : QW), H0 D = none → Ext Z0 G0 H0 Z G H → HRel K Z G H → RwL K Z H us xs → H D = some (.lst xs) → G D = none → ¬ Z D → Qw (.lst us) G → ∃ Z' G' w, Ext Z0 G0 H0 Z' G' H ∧ HRel K Z' G' H ∧ Rw K Z' H w (.ref D) ∧ Qw w G' := by
  intro Z0 G0 H0 Z G H us xs D Qw n x h r e g z q
  obtain ⟨h2, kp⟩ := h.frz (p := D) (by rw [e]; simp)
  have e2 : gdel G D = G := by
    funext b; unfold gdel; split
    · rename_i c; rw [c, g]
    · rfl
  rw [e2] at h2
  refine ⟨_, G, .lst us, ⟨fun q z => .inl (x.z q z), x.f, fun q e' g' z' => ?_⟩, h2, .lst (.inr rfl) e (r.keep kp), q⟩
  rcases z' with z' | z'
  · exact x.n q e' g' z'
  · rw [z'] at e'; exact absurd n e'
theorem lc_mut {K : PySem.W.Frag} : ∀ Z0 G0 H0 Z G H us xs D (Qw : QW), H0 D = none → Ext Z0 G0 H0 Z G H → HRel K Z G H → RwL K Z H us xs → H D = some (.lst xs) → G D = none → ¬ Z D → (∀ p, G p = none → Qw (.ref p) (gup G p (.lst us))) → ∃ Z' G' w, Ext Z0 G0 H0 Z' G' H ∧ HRel K Z' G' H ∧ Rw K Z' H w (.ref D) ∧ Qw w G' := by
  intro Z0 G0 H0 Z G H us xs D Qw n x h r e g z q
  refine ⟨Z, _, .ref D, ⟨x.z, fun p u e' g' => ?_, x.n⟩, h.track e z (.lst r), .ref, q D g⟩
  have c : p ≠ D := ne_of_none e' n
  have y := x.f p u e' g'
  exact ⟨y.1, by rw [gup_ne c]; exact y.2⟩
/-- a comprehension's tests, in the block -/
def PTsw (X : Cx) (ifs : List Expr) (t : TTw) : Prop := PTs X ifs (liftT X.K t)
theorem qts_nil {X : Cx} : PTsw X [] wYes := ⟨fun pins s σ H Q I h => by
  obtain ⟨Z, σ', G, Qw, e, hr, t, k⟩ := h
  exact pts_nil.run pins s σ H Q I (k Z G H true Ext.refl hr t)⟩
theorem qts_one {X : Cx} {c : Expr} {t : TTw} (h : PTw X c t) : PTsw X [c] t := pts_one h
/-- a comprehension's target -/
structure TgW (X : Cx) (vs : List Nat) (tg : Expr) (scope : Scope) (gw : TGw) : Prop where
  ex : ∃ g, (∀ (s : Shared) (H : Hp) (C : Addr) (cl : List (Str × Addr)) (fp : List Addr), PG (X.blk s H scope (compEnvC scope cl C X.env) fp) tg g) ∧ SimG X.K vs g gw
structure TgsW (X : Cx) (vs : List Nat) (tg : List Expr) (scope : Scope) (gw : TGsw) : Prop where
  ex : ∃ g, (∀ (s : Shared) (H : Hp) (C : Addr) (cl : List (Str × Addr)) (fp : List Addr), PGs (X.blk s H scope (compEnvC scope cl C X.env) fp) tg g) ∧ SimGs X.K vs g gw
section
variable {X : Cx} {vs : List Nat} {scope : Scope} {pos : Pos}
theorem gcN {i : Nat} {x : Str} (hN : X.N.Nodup) (hi : X.N[i]? = some x) (hv : i ∈ vs := by decide) (hx : ∀ (cl : List (Str × Addr)) (C : Addr), L2.Loc (compEnvC scope cl C X.env).scope x := by intro _ _; first | exact Or.inl rfl | exact Or.inr rfl) (hf : ∀ (cl : List (Str × Addr)) (C : Addr), (scope.names.lookup x == some .cell) = true ∨ (compEnvC scope cl C X.env).scope.names.lookup x = some .local := by intro _ _; first | exact .inl rfl | exact .inr rfl) : TgW X vs (.Name x pos) scope (gN i) :=
  ⟨_, fun s H C cl fp => pg_name hN hi (hx cl C) (hf cl C), simg_name hv⟩
theorem lookup_relabel {env : Env} {x : Str} : ∀ (names : List (Str × NameKind)), (names.map fun (n, k) => if (k == NameKind.free && env.scope.kind == .function && env.kindOf n == some .cell) then (n, NameKind.cell) else (n, k)).lookup x = (names.lookup x).map fun k => if (k == NameKind.free && env.scope.kind == .function && env.kindOf x == some .cell) then .cell else k
  | [] => rfl
  | (n, k) :: r => by
    have ih := lookup_relabel (env := env) (x := x) r
    show List.lookup x ((if (k == NameKind.free && env.scope.kind == .function && env.kindOf n == some .cell) = true then (n, NameKind.cell) else (n, k)) :: _) = _
    by_cases c : x = n
    · subst c
      have e : (x == x) = true := by simp
      split <;> rename_i h
      · rw [List.lookup_cons, List.lookup_cons]
        dsimp only
        rw [e]
        dsimp only
        rw [Option.map_some, if_pos h]
      · rw [List.lookup_cons, List.lookup_cons]
        dsimp only
        rw [e]
        dsimp only
        rw [Option.map_some, if_neg h]
    · have e : (x == n) = false := by simpa using c
      split <;> simp only [List.lookup_cons, e] <;> exact ih
/-- a comprehension within a comprehension -/
theorem blkOk_nest {N : List Str} {scope1 scope : Scope} {own : List (Str × Nat)} {cl : List (Str × Addr)} {C : Addr} {env : Env} (h : blkC N scope1 scope own = true) : BlkOk N (compEnvC scope1 cl C env).scope scope own := by
  obtain ⟨a, b, c, d, e⟩ := blkOk_by h
  refine ⟨a, b, c, fun y hy z => ?_, e⟩
  have l := lookup_relabel (env := env) (x := y.1) scope1.names
  have l' : (compEnvC scope1 cl C env).scope.names.lookup y.1 = (scope1.names.lookup y.1).map fun k => if (k == NameKind.free && env.scope.kind == .function && env.kindOf y.1 == some .cell) then .cell else k := l
  rw [l']
  rcases d y hy z with q | q
  · rw [q]; exact .inl rfl
  · rw [q, Option.map_some]
    split
    · exact .inl rfl
    · exact .inr rfl
theorem gcs_nil : TgsW X vs [] scope gsN := ⟨_, fun _ _ _ _ _ => pgs_nil, simgs_nil⟩
theorem gcs_cons {i : Nat} {x : Str} {es : List Expr} {gw : TGsw} (hN : X.N.Nodup) (hi : X.N[i]? = some x) (h2 : TgsW X vs es scope gw) (hv : i ∈ vs := by decide) (hx : ∀ (cl : List (Str × Addr)) (C : Addr), L2.Loc (compEnvC scope cl C X.env).scope x := by intro _ _; first | exact Or.inl rfl | exact Or.inr rfl) (hf : ∀ (cl : List (Str × Addr)) (C : Addr), (scope.names.lookup x == some .cell) = true ∨ (compEnvC scope cl C X.env).scope.names.lookup x = some .local := by intro _ _; first | exact .inl rfl | exact .inr rfl)
    (hs : ∀ (cl : List (Str × Addr)) (C : Addr), (assignEach (.Name x pos :: es) (compEnvC scope cl C X.env)).map (·.2) = assign (.Name x pos) (compEnvC scope cl C X.env) :: (assignEach es (compEnvC scope cl C X.env)).map (·.2) := by intro _ _; rfl) : TgsW X vs (.Name x pos :: es) scope (gsC (gN i) gw) := by
  obtain ⟨g, pg, sg⟩ := h2.ex
  exact ⟨_, fun s H C cl fp => pgs_cons (pg_name hN hi (hx cl C) (hf cl C)) (pg s H C cl fp) (hs cl C), simgs_cons hv sg⟩
theorem gcT {es : List Expr} {k : Nat} {gw : TGsw} {n : Nat} (hc : X.calm = true) (h : TgsW X vs es scope gw) (hn : ∀ (cl : List (Str × Addr)) (C : Addr), (assignEach es (compEnvC scope cl C X.env)).length = n := by intro _ _; rfl)
    (hst : ∀ (cl : List (Str × Addr)) (C : Addr), (assignEach es (compEnvC scope cl C X.env)).findIdx? (·.1) = none := by intro _ _; rfl) : TgW X vs (.Tuple es k pos) scope (gT n gw) := by
  obtain ⟨g, pg, sg⟩ := h.ex
  exact ⟨_, fun s H C cl fp => PG.or (pg_tup (X := X.blk s H scope (compEnvC scope cl C X.env) fp) hc (pg s H C cl fp) (hn cl C) (hst cl C)) (pg_lst (X := X.blk s H scope (compEnvC scope cl C X.env) fp) hc (pg s H C cl fp) (hn cl C) (hst cl C)), simg_tup sg⟩
variable {elt tg iter : Expr} {ifs : List Expr} {own : List (Str × Nat)} {ti : TIw} {gw : TGw} {tt : TTw} {te : TEw}
theorem qlc (hc : X.calm = true) (hN : X.N.Nodup) (hi : PIw X tg iter ti) (ok : BlkOk X.N X.env.scope scope own) (hg : TgW X (own.map (·.2)) tg scope gw)
    (ht : ∀ (s : Shared) (H : Hp) (C : Addr) (cl : List (Str × Addr)) (fp : List Addr), PTsw (X.blk s H scope (compEnvC scope cl C X.env) fp) ifs tt) (he : ∀ (s : Shared) (H : Hp) (C : Addr) (cl : List (Str × Addr)) (fp : List Addr), PEw (X.blk s H scope (compEnvC scope cl C X.env) fp) elt te)
    (hs : ∀ x, foldedSetIterable iter X.env x = pure x := by intro _; rfl) : PEw X (.ListComp elt [⟨tg, iter, ifs, 0⟩] scope pos) (wLc (own.map (·.2)) ti gw tt te) := by
  obtain ⟨g, pg, sg⟩ := hg.ex
  exact PE.imp (pe_lc (tt := liftT X.K tt) (te := liftE X.K te) hc hN hi ok pg ht he hs) fun _ _ _ h => llc (fin := fun us G Q => Q (.lst us) G) sg lc_frz h
theorem qlcM (hc : X.calm = true) (hN : X.N.Nodup) (hi : PIw X tg iter ti) (ok : BlkOk X.N X.env.scope scope own) (hg : TgW X (own.map (·.2)) tg scope gw)
    (ht : ∀ (s : Shared) (H : Hp) (C : Addr) (cl : List (Str × Addr)) (fp : List Addr), PTsw (X.blk s H scope (compEnvC scope cl C X.env) fp) ifs tt) (he : ∀ (s : Shared) (H : Hp) (C : Addr) (cl : List (Str × Addr)) (fp : List Addr), PEw (X.blk s H scope (compEnvC scope cl C X.env) fp) elt te)
    (hs : ∀ x, foldedSetIterable iter X.env x = pure x := by intro _; rfl) : PEw X (.ListComp elt [⟨tg, iter, ifs, 0⟩] scope pos) (wLcM (own.map (·.2)) ti gw tt te) := by
  obtain ⟨g, pg, sg⟩ := hg.ex
  exact PE.imp (pe_lc (tt := liftT X.K tt) (te := liftE X.K te) hc hN hi ok pg ht he hs) fun _ _ _ h => llc (fin := fun us G Q => ∀ p, G p = none → Q (.ref p) (gup G p (.lst us))) sg lc_mut h
variable {j : Nat} {y : Str} {py spos : Pos}
theorem lsetLc {g : TG} {tA : TEw} (hl : ∀ σ H Q, liftE X.K tA σ H Q → tLc (liftI X.K ti) g (liftT X.K tt) (liftE X.K te) (own.map (·.2)) σ H Q) {D : Ends} {σ : SV} {H : Hp} (h : liftS X (wAsg tA (gN j)) D σ H) :
    tAsg (tLc (liftI X.K ti) g (liftT X.K tt) (liftE X.K te) (own.map (·.2))) (gName j) D σ H := by
  obtain ⟨Z, σ', G, Dw, e, hr, t, k⟩ := h
  exact hl _ _ _ ⟨Z, σ', G, _, e, hr, t, fun Z1 G1 H1 w v x1 h1 r1 q => lgN ⟨Z1, σ', G1, w, _, e.ext hr x1, h1, r1, q, k.nx.mono x1⟩⟩
theorem qsetLc (hc : X.calm = true) (hN : X.N.Nodup) (hy : X.N[j]? = some y) (hyl : X.env.scope.names.lookup y = some .local) (hsw : swapsWith (.ListComp elt [⟨tg, iter, ifs, 0⟩] scope pos) (some (.Name y py)) spos.line X.env = pure true) (hi : PIw X tg iter ti) (ok : BlkOk X.N X.env.scope scope own) (hg : TgW X (own.map (·.2)) tg scope gw)
    (ht : ∀ (s : Shared) (H : Hp) (C : Addr) (cl : List (Str × Addr)) (fp : List Addr), PTsw (X.blk s H scope (compEnvC scope cl C X.env) fp) ifs tt) (he : ∀ (s : Shared) (H : Hp) (C : Addr) (cl : List (Str × Addr)) (fp : List Addr), PEw (X.blk s H scope (compEnvC scope cl C X.env) fp) elt te)
    (hs : ∀ x, foldedSetIterable iter X.env x = pure x := by intro _; rfl) : PSw X (.Assign [.Name y py] (.ListComp elt [⟨tg, iter, ifs, 0⟩] scope pos) spos) (wAsg (wLc (own.map (·.2)) ti gw tt te) (gN j)) := by
  obtain ⟨g, pg, sg⟩ := hg.ex
  exact PS.imp (ps_setLc (tt := liftT X.K tt) (te := liftE X.K te) hc hN hy hyl hsw hi ok pg ht he hs) fun _ _ _ h => lsetLc (fun _ _ _ h => llc (fin := fun us G Q => Q (.lst us) G) sg lc_frz h) h
theorem qsetLcM (hc : X.calm = true) (hN : X.N.Nodup) (hy : X.N[j]? = some y) (hyl : X.env.scope.names.lookup y = some .local) (hsw : swapsWith (.ListComp elt [⟨tg, iter, ifs, 0⟩] scope pos) (some (.Name y py)) spos.line X.env = pure true) (hi : PIw X tg iter ti) (ok : BlkOk X.N X.env.scope scope own) (hg : TgW X (own.map (·.2)) tg scope gw)
    (ht : ∀ (s : Shared) (H : Hp) (C : Addr) (cl : List (Str × Addr)) (fp : List Addr), PTsw (X.blk s H scope (compEnvC scope cl C X.env) fp) ifs tt) (he : ∀ (s : Shared) (H : Hp) (C : Addr) (cl : List (Str × Addr)) (fp : List Addr), PEw (X.blk s H scope (compEnvC scope cl C X.env) fp) elt te)
    (hs : ∀ x, foldedSetIterable iter X.env x = pure x := by intro _; rfl) : PSw X (.Assign [.Name y py] (.ListComp elt [⟨tg, iter, ifs, 0⟩] scope pos) spos) (wAsg (wLcM (own.map (·.2)) ti gw tt te) (gN j)) := by
  obtain ⟨g, pg, sg⟩ := hg.ex
  exact PS.imp (ps_setLc (tt := liftT X.K tt) (te := liftE X.K te) hc hN hy hyl hsw hi ok pg ht he hs) fun _ _ _ h => lsetLc (fun _ _ _ h => llc (fin := fun us G Q => ∀ p, G p = none → Q (.ref p) (gup G p (.lst us))) sg lc_mut h) h
end
/-! ### a comprehension whose parts are plain -/
theorem lcW_map {g : TGw} {te : TEw} {σ : SW} {G : Gp} (f : W → W) : ∀ (ws acc : List W) (Q : List W → Gp → Prop), (∀ w ∈ ws, ∀ P : QW, P (f w) G → g w σ G fun σ1 G1 => te σ1 G1 P) → Q (acc ++ ws.map f) G → lcW g wYes te σ ws acc G Q
  | [], acc, Q, _, q => by simpa [lcW] using q
  | w :: ws, acc, Q, h, q => by
    have h1 := h w (.head _) (fun y G3 => lcW g wYes te σ ws (acc ++ [y]) G3 Q) (lcW_map f ws (acc ++ [f w]) Q (fun w' hw => h w' (.tail _ hw)) (by simpa using q))
    simpa only [lcW, wYes, if_true] using h1
theorem lcW_filter {g : TGw} {tt : TTw} {te : TEw} {σ : SW} {G : Gp} (c : W → Bool) (f : W → W) : ∀ (ws acc : List W) (Q : List W → Gp → Prop),
    (∀ w ∈ ws, ∀ (R : QW) (P : Gp → Prop), (c w = true → R (f w) G) → (c w = false → P G) → g w σ G fun σ1 G1 => tt σ1 G1 fun b G2 => if b = true then te σ1 G2 R else P G2) → Q (acc ++ (ws.filter c).map f) G → lcW g tt te σ ws acc G Q
  | [], acc, Q, _, q => by simpa [lcW] using q
  | w :: ws, acc, Q, h, q => by
    have rest : ∀ acc', Q (acc' ++ (ws.filter c).map f) G → lcW g tt te σ ws acc' G Q := fun acc' q' => lcW_filter c f ws acc' Q (fun w' hw => h w' (.tail _ hw)) q'
    exact h w (.head _) (fun y G3 => lcW g tt te σ ws (acc ++ [y]) G3 Q) (fun G2 => lcW g tt te σ ws acc G2 Q) (fun e => rest _ (by simpa [List.filter_cons, e] using q)) (fun e => rest _ (by simpa [List.filter_cons, e] using q))
end WL

namespace WL
open PySem PySem.Spec PyProof.Rows L2 RZ
/-! ### methods of lists, by their names -/
section
variable {X : Cx} {K : PySem.W.Frag} {o e : Expr} {es : List Expr} {to : TEw} {t : TAw} {cpos apos : Pos}
theorem qbm0 {nm : Str} {id : String} {r : V → List V → Hp → VK → Prop} {wr : RWM} (slot : Slot "list" nm id) (hty : typeOf (.builtin id) = pure (.type "method_descriptor")) (hm : MtR X id r) (hs : SimM X.K r wr) (ho : PEw X o to)
    (hbase : attributeBase o nm X.env (eval o X.env) = eval o X.env := by rfl) (hline : (apos.endLine == cpos.line) = true := by rfl) :
    PEw X (.Call (.Attribute o nm apos) [] [] cpos) (wBM0 wr to) := PE.imp (pe_bm0 PySem.F.plainAttrs_list slot hty hm ho hbase hline) fun _ _ _ h => lbm0 hs h
def wPopAt : RWM := fun o ws G Q => match o, ws with
  | .ref p, [.int i] => isG (G p) fun us => -(2 ^ 63) ≤ i ∧ i < 2 ^ 63 ∧ isS (ixN us.length i) fun j => isS us[j]? fun w => Q w (gup G p (.lst (us.eraseIdx j)))
  | _, _ => False
theorem RwL.eraseIdx {K : PySem.W.Frag} {Z : Zp} {H : Hp} : ∀ {ws : List W} {vs : List V} (j : Nat), RwL K Z H ws vs → RwL K Z H (ws.eraseIdx j) (vs.eraseIdx j)
  | _, _, _, .nil => .nil
  | _, _, 0, .cons r rs => rs
  | _, _, j + 1, .cons r rs => .cons r (RwL.eraseIdx j rs)
theorem sim_popAt : SimM K rPopAt wPopAt := by
  intro Z G H x v ws vs Qw Q h rx rs t k
  cases rx with
  | @ref p =>
    cases rs with
    | nil => exact False.elim t
    | cons r1 rs =>
      cases r1 with
      | @int i =>
        cases rs with
        | cons _ _ => exact False.elim t
        | nil =>
          obtain ⟨us, g, h1, h2, t⟩ := isG_ex t
          obtain ⟨j, ej, t⟩ := isS_ex t
          obtain ⟨w, ew, q⟩ := isS_ex t
          obtain ⟨xs, s, r⟩ := h.lst g
          obtain ⟨y, ey, ry⟩ := r.get _ ew
          obtain ⟨h3, x3⟩ := chg_lst h g (r.eraseIdx j)
          refine ⟨p, xs, i, j, y, rfl, rfl, s, h1, h2, ?_, ey, k _ _ _ _ _ x3 h3 (ry.ext h x3) q⟩
          rw [← r.length]
          exact (ixN_seq ej).1
      | _ => exact False.elim t
  | _ => exact False.elim t
def wInsert : RWM := fun o ws G Q => match o, ws with
  | .ref p, [.int i, w] => isG (G p) fun us => us.length < sizeLine ∧ 0 ≤ i ∧ i < 2 ^ 63 ∧ Q .non (gup G p (.lst (us.take i.toNat ++ [w] ++ us.drop i.toNat)))
  | _, _ => False
theorem sim_insert : SimM K (fun x vs H Q => ∃ (l : Addr) (xs : List V) (i : Int) (y : V), x = .ref l ∧ vs = [.int i, y] ∧ H l = some (.lst xs) ∧ xs.length < sizeLine ∧ 0 ≤ i ∧ i < 2 ^ 63 ∧
    Q .non (upd H l (.lst (xs.take i.toNat ++ [y] ++ xs.drop i.toNat)))) wInsert := by
  intro Z G H x v ws vs Qw Q h rx rs t k
  cases rx with
  | @ref p =>
    cases rs with
    | nil => exact False.elim t
    | cons r1 rs =>
      cases r1 with
      | @int i =>
        cases rs with
        | nil => exact False.elim t
        | cons r2 rs =>
          cases rs with
          | cons _ _ => exact False.elim t
          | nil =>
            obtain ⟨us, g, l, h1, h2, q⟩ := isG_ex t
            obtain ⟨xs, s, r⟩ := h.lst g
            obtain ⟨h3, x3⟩ := chg_lst h g (((r.take i.toNat).append (.cons r2 .nil)).append (r.drop i.toNat))
            exact ⟨p, xs, i, _, rfl, rfl, s, by rw [← r.length]; exact l, h1, h2, k _ _ _ _ _ x3 h3 .non q⟩
      | _ => cases rs <;> exact False.elim t
  | _ => exact False.elim t
abbrev wM_append := wAppend
abbrev wM_extend := wExtend
abbrev wM_pop := wPop
abbrev wM_popAt := wPopAt
abbrev wM_insert := wInsert
section
variable (ho : PEw X o to) (ha : PAw X (e :: es) t)
    (hbase : ∀ nm, attributeBase o nm X.env (eval o X.env) = eval o X.env := by intro _; rfl)
    (hfew : ((backTo cpos (starEach (e :: es) X.env)).all (fun x => !x.1) && (backToKw cpos (keywordEach [] X.env)).all (fun x => x.1.isSome)
      && decide ((e :: es).length + ([] : List Keyword).length + (if ([] : List Keyword).isEmpty then 0 else 1) < 30)) = true := by rfl)
    (hline : (apos.endLine == cpos.line) = true := by rfl) (h1 : starEach (e :: es) X.env = (false, eval e X.env) :: starEach es X.env := by rfl) (h2 : (backTo cpos (starEach es X.env)).any (·.1) = false := by rfl)
include ho ha hbase hfew hline h1 h2
theorem qm_append : PEw X (.Call (.Attribute o "append" apos) (e :: es) [] cpos) (wBM wM_append to t) := qbm PySem.F.slot_list_append PySem.F.type_list_append mt_append sim_append ho ha (hbase _) hfew hline h1 h2
theorem qm_extend : PEw X (.Call (.Attribute o "extend" apos) (e :: es) [] cpos) (wBM wM_extend to t) := qbm PySem.F.slot_list_extend PySem.F.type_list_extend mt_extend sim_extend ho ha (hbase _) hfew hline h1 h2
theorem qm_popAt : PEw X (.Call (.Attribute o "pop" apos) (e :: es) [] cpos) (wBM wM_popAt to t) := qbm PySem.F.slot_list_pop PySem.F.type_list_pop mt_popAt sim_popAt ho ha (hbase _) hfew hline h1 h2
theorem qm_insert : PEw X (.Call (.Attribute o "insert" apos) (e :: es) [] cpos) (wBM wM_insert to t) := qbm PySem.F.slot_list_insert PySem.F.type_list_insert mt_insert sim_insert ho ha (hbase _) hfew hline h1 h2
end
theorem qm_pop (ho : PEw X o to) (hbase : attributeBase o "pop" X.env (eval o X.env) = eval o X.env := by rfl) (hline : (apos.endLine == cpos.line) = true := by rfl) : PEw X (.Call (.Attribute o "pop" apos) [] [] cpos) (wBM0 wM_pop to) :=
  qbm0 PySem.F.slot_list_pop PySem.F.type_list_pop mt_pop sim_pop ho hbase hline
end
theorem wPopAt_ref {p : Addr} {i : Int} {G : Gp} {Q : QW} : wPopAt (.ref p) [.int i] G Q = isG (G p) fun us => -(2 ^ 63) ≤ i ∧ i < 2 ^ 63 ∧ isS (ixN us.length i) fun j => isS us[j]? fun w => Q w (gup G p (.lst (us.eraseIdx j))) := rfl
theorem wInsert_ref {p : Addr} {i : Int} {w : W} {G : Gp} {Q : QW} : wInsert (.ref p) [.int i, w] G Q = isG (G p) fun us => us.length < sizeLine ∧ 0 ≤ i ∧ i < 2 ^ 63 ∧ Q .non (gup G p (.lst (us.take i.toNat ++ [w] ++ us.drop i.toNat))) := rfl
/-! ### a comprehension over a list that is still to be changed: it must stand at every turn -/
def lcR (p : Addr) (us : List W) (g : TGw) (tt : TTw) (te : TEw) (σ : SW) : List W → List W → Gp → (List W → Gp → Prop) → Prop
  | [], acc, G, Q => G p = some (.lst us) ∧ Q acc G
  | w :: ws, acc, G, Q => G p = some (.lst us) ∧ g w σ G fun σ1 G1 => tt σ1 G1 fun b G2 => if b = true then te σ1 G2 fun y G3 => lcR p us g tt te σ ws (acc ++ [y]) G3 Q else lcR p us g tt te σ ws acc G2 Q
def refR (w : W) (G : Gp) (R : Addr → List W → Gp → Prop) : Prop := match w with
  | .ref p => isG (G p) fun us => R p us G
  | _ => False
theorem refR_ref {p : Addr} {G : Gp} {R : Addr → List W → Gp → Prop} : refR (.ref p) G R = isG (G p) fun us => R p us G := rfl
def wLcR (vs : List Nat) (t0 : TEw) (g : TGw) (tt : TTw) (te : TEw) : TEw := fun σ G Q => t0 σ G fun w G1 => refR w G1 fun p us G1 => us.length ≤ sizeLine ∧ lcR p us g tt te (swipe σ vs) us [] G1 fun zs G2 => Q (.lst zs) G2
theorem lcR_map {p : Addr} {us : List W} {g : TGw} {te : TEw} {σ : SW} {G : Gp} (hp : G p = some (.lst us)) (f : W → W) : ∀ (ws acc : List W) (Q : List W → Gp → Prop), (∀ w ∈ ws, ∀ P : QW, P (f w) G → g w σ G fun σ1 G1 => te σ1 G1 P) → Q (acc ++ ws.map f) G → lcR p us g wYes te σ ws acc G Q
  | [], acc, Q, _, q => ⟨hp, by simpa using q⟩
  | w :: ws, acc, Q, h, q => by
    refine ⟨hp, ?_⟩
    have := h w (.head _) (fun y G3 => lcR p us g wYes te σ ws (acc ++ [y]) G3 Q) (lcR_map hp f ws _ Q (fun w' m => h w' (.tail _ m)) (by simpa using q))
    exact this
section
variable {K : PySem.W.Frag}
theorem walk_live {a : Addr} {n : Nat} : Walk (Itl K a) n (fun H => ∃ xs, SqL K H a xs ∧ xs.length = n) (fun i H x H' => H' = H ∧ ∀ xs, SqL K H a xs → xs[i]? = some x) :=
  ⟨fun i _ hi ⟨xs, q, e⟩ => ⟨xs, xs[i]'(by omega), q, by simp [e, hi]⟩, fun _ ⟨xs, q, e⟩ => ⟨xs, q, by omega⟩, fun _ _ _ _ _ q y => y⟩
theorem llcR {vs : List Nat} {t0 : TEw} {g : TG} {gw : TGw} {tt : TTw} {te : TEw} (sg : SimG K vs g gw) {σ : SV} {H : Hp} {Q : VK}
    (h : liftE K (wLcR vs t0 gw tt te) σ H Q) : tLc (iSeq K (liftE K t0)) g (liftT K tt) (liftE K te) vs σ H Q := by
  obtain ⟨Z, σ', G, Qw, e, hr, t, k⟩ := h
  refine ⟨Z, σ', G, _, e, hr, t, fun Z1 G1 H1 w v x1 h1 r1 t1 => ?_⟩
  cases r1 with
  | @ref p =>
    obtain ⟨ws, gp, hl, t1⟩ := isG_ex t1
    obtain ⟨vs0, s0, r0⟩ := h1.lst gp
    refine .inl ⟨p, rfl, ⟨_, SqL.of s0⟩, fun D hD => ?_⟩
    have x0 : Ext Z1 G1 H1 Z1 G1 (upd H1 D (.lst [])) := Ext.laid h1 hD
    have h0 := h1.laid (o := .lst []) hD
    refine lc_it (walk_live (K := K) (a := p) (n := ws.length)) (fun i H2 => ∃ Z2 G2 us xs, Ext Z1 G1 H1 Z2 G2 H2 ∧ HRel K Z2 G2 H2 ∧ H2 D = some (.lst xs) ∧ G2 D = none ∧ ¬ Z2 D ∧ RwL K Z2 H2 us xs ∧ us.length ≤ i ∧ lcR p ws gw tt te (swipe σ' vs) (ws.drop i) us G2 fun us G2 => Qw (.lst us) G2) ?_ ?_ ?_ ?_
    · exact ⟨Z1, G1, [], [], x0, h0, upd_same, h1.fresh hD, h1.freshZ hD, .nil, Nat.le_refl _, t1⟩
    · rintro i H2 _ ⟨Z2, G2, us, xs, x2, h2, _, _, _, _, _, t2⟩
      have g2 : G2 p = some (.lst ws) := by
        cases q : ws.drop i with
        | nil => rw [q] at t2; exact t2.1
        | cons _ _ => rw [q] at t2; exact t2.1
      obtain ⟨vs2, s2, r2⟩ := h2.lst g2
      exact ⟨vs2, SqL.of s2, r2.length.symm⟩
    · rintro i v H2 H3 hi ⟨Z2, G2, us, xs, x2, h2, eD, gD, zD, rus, lus, t2⟩ ⟨e3, y⟩
      subst e3
      have ed : ws.drop i = ws[i] :: ws.drop (i + 1) := List.drop_eq_getElem_cons hi
      rw [ed] at t2
      obtain ⟨g2, t2⟩ := t2
      obtain ⟨vs2, s2, r2⟩ := h2.lst g2
      obtain ⟨w, ew, rw'⟩ := r2.get' i (y _ (SqL.of s2))
      rw [List.getElem?_eq_getElem hi] at ew
      injection ew with ew
      have eσ : RwS K Z2 H3 (swipe σ' vs) (L2.wipe σ vs) := (e.ext hr (x1.trans x2)).wipe vs
      refine sg Z2 G2 H3 _ _ ws[i] v _ _ eσ h2 (by rw [ew]; exact rw') t2 fun τ' τ eτ sτ t3 => ⟨?_, ?_⟩
      · rw [sτ.wipe, wipe_wipe vs vs fun i hi => hi]
      refine ⟨Z2, τ', G2, _, eτ, h2, t3, fun Z4 G4 H4 b x4 h4 t4 => ?_⟩
      have eD4 := x4.f D _ eD gD
      have zD4 : ¬ Z4 D := fun z => zD (x4.n D (by rw [eD]; simp) gD z)
      have rus4 := rus.ext h2 x4
      cases b with
      | false => exact ⟨Z4, G4, us, xs, x2.trans x4, h4, eD4.1, eD4.2, zD4, rus4, by omega, t4⟩
      | true =>
        refine ⟨Z4, τ', G4, _, eτ.ext h2 x4, h4, t4, fun Z5 G5 H5 yw yv x5 h5 r5 t5 => ?_⟩
        have eD5 := x5.f D _ eD4.1 eD4.2
        have zD5 : ¬ Z5 D := fun z => zD4 (x5.n D (by rw [eD4.1]; simp) eD4.2 z)
        have rus5 := rus4.ext h4 x5
        have kp : Keep Z5 H5 Z5 (upd H5 D (.lst (xs ++ [yv]))) := Keep.hid eD5.1 zD5
        have xx := (x2.trans x4).trans x5
        refine ⟨xs, eD5.1, by rw [← rus.length]; omega, Z5, G5, us ++ [yw], xs ++ [yv], ⟨xx.z, fun p u e' g' => ?_, xx.n⟩, ⟨fun p z => ?_, fun p o g' => ?_⟩, upd_same, eD5.2, zD5, (rus5.append (.cons r5 .nil)).keep kp, by simp; omega, t5⟩
        · rw [upd_ne (ne_of_none e' hD)]; exact xx.f p u e' g'
        · have := h5.z p z
          rw [upd_ne (fun c => zD5 (by rw [← c]; exact z))]
          exact this
        · obtain ⟨u, e', r⟩ := h5.g p o g'
          have c : p ≠ D := fun c => by rw [c, eD5.2] at g'; cases g'
          exact ⟨u, by rw [upd_ne c]; exact e', r.keep kp⟩
    · rintro H2 ⟨Z2, G2, us, xs, x2, h2, eD, gD, zD, rus, lus, t2⟩
      rw [List.drop_length] at t2
      obtain ⟨_, t2⟩ := t2
      obtain ⟨Z3, G3, w, x3, h3, r3, q⟩ := lc_frz Z1 G1 H1 Z2 G2 H2 us xs D Qw hD x2 h2 rus eD gD zD t2
      exact k Z3 G3 H2 w _ (x1.trans x3) h3 r3 q
  | _ => exact False.elim t1
end
section
variable {X : Cx} {scope : Scope} {pos : Pos} {elt tg iter : Expr} {ifs : List Expr} {own : List (Str × Nat)} {t0 : TEw} {gw : TGw} {tt : TTw} {te : TEw}
theorem qlcR (hc : X.calm = true) (hN : X.N.Nodup) (hi : PEw X iter t0) (ok : BlkOk X.N X.env.scope scope own) (hg : TgW X (own.map (·.2)) tg scope gw)
    (ht : ∀ (s : Shared) (H : Hp) (C : Addr) (cl : List (Str × Addr)) (fp : List Addr), PTsw (X.blk s H scope (compEnvC scope cl C X.env) fp) ifs tt) (he : ∀ (s : Shared) (H : Hp) (C : Addr) (cl : List (Str × Addr)) (fp : List Addr), PEw (X.blk s H scope (compEnvC scope cl C X.env) fp) elt te)
    (hs : ∀ x, foldedSetIterable iter X.env x = pure x := by intro _; rfl) : PEw X (.ListComp elt [⟨tg, iter, ifs, 0⟩] scope pos) (wLcR (own.map (·.2)) t0 gw tt te) := by
  obtain ⟨g, pg, sg⟩ := hg.ex
  exact PE.imp (pe_lc (tt := liftT X.K tt) (te := liftE X.K te) hc hN (pi_seq hi) ok pg ht he hs) fun _ _ _ h => llcR sg h
end
/-! ### a loop over lists that are still to be changed: they must stand at every turn -/
def WalkP (K : PySem.W.Frag) (J : It) (I : Gp → Prop) (Z : Zp) (G : Gp) (H : Hp) (ws : List W) : Prop := ∃ (Gd : Hp → Prop) (Y : Nat → Hp → V → Hp → Prop), Walk J ws.length Gd Y ∧
  ∀ Z' G' H', Ext Z G H Z' G' H' → HRel K Z' G' H' → I G' → Gd H' ∧ ∀ i v H'', i < ws.length → Y i H' v H'' → ∃ w, ws[i]? = some w ∧ Rw K Z' H'' w v ∧ Ext Z' G' H' Z' G' H'' ∧ HRel K Z' G' H''
abbrev TIr := SW → Gp → (List W → (Gp → Prop) → Gp → Prop) → Prop
def liftIr (K : PySem.W.Frag) (t : TIr) : TI := fun σ H R => ∃ Z σ' G Rw', RwS K Z H σ' σ ∧ HRel K Z G H ∧ t σ' G Rw' ∧ ∀ Z' G' H' ws I J, Ext Z G H Z' G' H' → HRel K Z' G' H' → WalkP K J I Z' G' H' ws → Rw' ws I G' → R J H'
def PIr (X : Cx) (tg iter : Expr) (t : TIr) : Prop := PI X tg iter (liftIr X.K t)
def forR (I : Gp → Prop) (ks : List Bool) (g : TGw) (tb : TSw) : List W → TSw
  | [], D, σ, G => I G ∧ D.nx σ G
  | w :: ws, D, σ, G => I G ∧ g w σ G fun σ1 G1 => tb { nx := fun σ2 G2 => forR I ks g tb ws D (skill σ2 ks) G2, ct := fun σ2 G2 => forR I ks g tb ws D (skill σ2 ks) G2, bk := D.nx, rt := D.rt, ex := D.ex } σ1 G1
def wForR (ks : List Bool) (ti : TIr) (g : TGw) (tb : TSw) : TSw := fun D σ G => ti σ G fun ws I G1 => forR I ks g tb ws D (skill σ ks) G1
theorem forR_at {I : Gp → Prop} {ks : List Bool} {g : TGw} {tb : TSw} {ws : List W} {D : EndsW} {σ : SW} {G : Gp} (h : forR I ks g tb ws D σ G) : I G := by
  cases ws with
  | nil => exact h.1
  | cons _ _ => exact h.1
theorem forR_ix {I : Gp → Prop} {ks : List Bool} {g : TGw} {tb : TSw} {D : EndsW} (P : Nat → SW → Gp → Prop) (hI : ∀ i σ G, P i σ G → I G) : ∀ (items : List W) (k : Nat) (σ : SW) (G : Gp), P k σ G →
    (∀ i w, items[i]? = some w → ∀ σ G (N : SW → Gp → Prop), P (k + i) σ G → (∀ σ' G', P (k + i + 1) (skill σ' ks) G' → N σ' G') → g w σ G fun σ1 G1 => tb { nx := N, ct := N, bk := D.nx, rt := D.rt, ex := D.ex } σ1 G1) →
    (∀ σ G, P (k + items.length) σ G → D.nx σ G) → forR I ks g tb items D σ G
  | [], k, σ, G, p, _, hd => ⟨hI _ _ _ p, hd σ G p⟩
  | w :: ws, k, σ, G, p, hs, hd => ⟨hI _ _ _ p, hs 0 w rfl σ G _ p fun σ' G' p' => forR_ix P hI ws (k + 1) _ G' p' (fun i w' hw => by
      have h := hs (i + 1) w' hw
      rw [show k + (i + 1) = k + 1 + i by omega] at h
      exact h) (by
      have h := hd
      rw [show k + (w :: ws).length = k + 1 + ws.length by rw [List.length_cons]; omega] at h
      exact h)⟩
section
variable {X : Cx} {K : PySem.W.Frag} {pos : Pos}
theorem lforR {ks : List Bool} {ti : TIr} {g : TGw} {tb : TSw} {D : Ends} {σ : SV} {H : Hp} (h : liftS X (wForR ks ti g tb) D σ H) : tFor (liftIr X.K ti) (liftG X.K g) (liftS X tb) D σ H := by
  obtain ⟨Z, σ', G, Dw, e, hr, t, k⟩ := h
  refine ⟨Z, σ', G, _, e, hr, t, fun Z1 G1 H1 ws I J x1 h1 ⟨Gd, Y, wk, hY⟩ t1 => ?_⟩
  refine for_it wk (fun i σ2 H2 => ∃ Z2 σ2' G2, Ext Z1 G1 H1 Z2 G2 H2 ∧ HRel X.K Z2 G2 H2 ∧ RwS X.K Z2 H2 σ2' σ2 ∧ forR I ks g tb (ws.drop i) Dw σ2' G2) ?_ ?_ ?_ ?_
  · exact ⟨Z1, _, G1, Ext.refl, h1, (e.ext hr x1).kill ks, t1⟩
  · rintro i σ2 H2 _ ⟨Z2, σ2', G2, x2, h2, _, t2⟩
    exact (hY Z2 G2 H2 x2 h2 (forR_at t2)).1
  · rintro i v σ2 H2 H3 hi ⟨Z2, σ2', G2, x2, h2, e2, t2⟩ y
    obtain ⟨w, ew, rw', x3, h3⟩ := (hY Z2 G2 H2 x2 h2 (forR_at t2)).2 i v H3 hi y
    have ed : ws.drop i = w :: ws.drop (i + 1) := by
      obtain ⟨hl, e⟩ := List.getElem?_eq_some_iff.mp ew
      rw [← e]; exact List.drop_eq_getElem_cons hl
    rw [ed] at t2
    refine ⟨Z2, σ2', G2, w, _, e2.ext h2 x3, h3, rw', t2.2, fun Z4 G4 H4 s4 t4 x4 h4 e4 q4 => ?_⟩
    have x24 := (x2.trans x3).trans x4
    have xx := x1.trans x24
    exact ⟨Z4, s4, G4, _, e4, h4, q4, ⟨fun Z5 G5 H5 s5 t5 x5 h5 e5 q5 => ⟨Z5, _, G5, x24.trans x5, h5, e5.kill ks, q5⟩, k.rt.mono xx, k.nx.mono xx, fun Z5 G5 H5 s5 t5 x5 h5 e5 q5 => ⟨Z5, _, G5, x24.trans x5, h5, e5.kill ks, q5⟩, k.ex.mono xx⟩⟩
  · rintro σ2 H2 ⟨Z2, σ2', G2, x2, h2, e2, t2⟩
    rw [List.drop_length] at t2
    exact k.nx Z2 G2 H2 _ _ (x1.trans x2) h2 e2 t2.2
theorem qforR {ks : List Bool} {tg iter : Expr} {body : List Stmt} {ti : TIr} {g : TGw} {tb : TSw} (hp : PassesOwn (model X.prog X.w) X.A X.env X.xe) (hc : X.calm = true) (hi : PIr X tg iter ti) (hg : PGw X tg g) (hb : PSsw X body tb)
    (hs : ∀ x, foldedSetIterable iter X.env x = pure x := by intro _; rfl) : PSw X (.For tg iter body [] pos) (wForR ks ti g tb) := PS.imp (ps_for hp hc hi hg hb hs) fun _ _ _ h => lforR h
end
/-- what a live list must keep: itself -/
def pinOf (w : W) (us : List W) : Gp → Prop := match w with
  | .ref p => fun G => G p = some (.lst us)
  | _ => fun _ => True
theorem pin_at {K : PySem.W.Frag} {Z : Zp} {G : Gp} {H : Hp} (h : HRel K Z G H) {w : W} {v : V} {us : List W} (r : Rw K Z H w v) (e : asL G w = some us) :
    ∃ a, v = .ref a ∧ (∃ vs, SqL K H a vs) ∧ ∀ Z' G' H', Ext Z G H Z' G' H' → HRel K Z' G' H' → pinOf w us G' → ∃ vs, SqL K H' a vs ∧ RwL K Z' H' us vs := by
  cases r with
  | @ref p =>
    have g : G p = some (.lst us) := by
      simp only [asL] at e
      cases q : G p with
      | none => rw [q] at e; cases e
      | some o =>
        rw [q] at e
        cases o with
        | lst ws => simp only [Option.some.injEq] at e; rw [e]
        | ins _ _ => cases e
        | dic _ => cases e
    obtain ⟨vs, s, r⟩ := h.lst g
    refine ⟨p, rfl, ⟨vs, SqL.of s⟩, fun Z' G' H' x h' g' => ?_⟩
    obtain ⟨vs', s', r'⟩ := h'.lst g'
    exact ⟨vs', SqL.of s', r'⟩
  | lst z s r =>
    injection e with e
    subst e
    refine ⟨_, rfl, ⟨_, SqL.of s⟩, fun Z' G' H' x h' _ => ⟨_, SqL.of (x.f _ _ s (h.z _ z).1).1, r.ext h x⟩⟩
  | scr s r =>
    injection e with e
    subst e
    exact ⟨_, rfl, ⟨_, s.sq⟩, fun Z' G' H' x h' _ => ⟨_, (s.ext h x).sq, r.ext h x⟩⟩
  | _ => cases e
def iSeqR (te : TEw) : TIr := fun σ G R => te σ G fun w G1 => isS (asL G1 w) fun us => R us (pinOf w us) G1
theorem qiseqR {X : Cx} {tg l : Expr} {te : TEw} (hl : PEw X l te) : PIr X tg l (iSeqR te) := PI.imp (pi_seq hl) fun σ H R h => by
  obtain ⟨Z, σ', G, Qw, e, hr, t, k⟩ := h
  refine ⟨Z, σ', G, _, e, hr, t, fun Z1 G1 H1 w v x1 h1 r1 t1 => ?_⟩
  obtain ⟨us, eu, t1⟩ := isS_ex t1
  obtain ⟨a, rfl, s, pin⟩ := pin_at h1 r1 eu
  refine .inl ⟨a, rfl, s, k Z1 G1 H1 us _ _ x1 h1 ⟨_, _, walk_live (K := X.K) (a := a) (n := us.length), fun Z' G' H' x h' i' => ?_⟩ t1⟩
  obtain ⟨vs, s', r'⟩ := pin Z' G' H' x h' i'
  refine ⟨⟨vs, s', r'.length.symm⟩, fun i v H'' hi y => ?_⟩
  obtain ⟨rfl, y⟩ := y
  obtain ⟨w, ew, rw'⟩ := r'.get' i (y vs s')
  exact ⟨w, ew, rw', Ext.refl, h'⟩
theorem walk_zip_live {K : PySem.W.Frag} {a b : Addr} {n m : Nat} : Walk (Itz K a b) (min n m) (fun H => (∃ xs, SqL K H a xs ∧ xs.length = n) ∧ ∃ ys, SqL K H b ys ∧ ys.length = m)
    (fun i H v H' => ∃ T x y, v = .ref T ∧ H T = none ∧ H' = upd H T (.tup [x, y]) ∧ (∀ xs, SqL K H a xs → xs[i]? = some x) ∧ ∀ ys, SqL K H b ys → ys[i]? = some y) := by
  refine ⟨fun i H hi q => ?_, fun H q => ?_, fun i H v H' hi q y => ?_⟩
  · obtain ⟨⟨xs, q1, l1⟩, ys, q2, l2⟩ := q
    have h1 : i < xs.length := by omega
    have h2 : i < ys.length := by omega
    exact ⟨xs, ys, _, _, q1, q2, List.getElem?_eq_getElem h1, List.getElem?_eq_getElem h2⟩
  · obtain ⟨⟨xs, q1, l1⟩, ys, q2, l2⟩ := q
    exact ⟨xs, ys, q1, q2, by omega⟩
  · obtain ⟨T, x, z, e1, e2, e3, f1, f2⟩ := y
    exact ⟨T, x, z, e1, e2, e3, f1, f2⟩
def zipR (ws : List W) (G : Gp) (R : List W → (Gp → Prop) → Gp → Prop) : Prop := match ws with
  | [a, b] => isS (asL G a) fun xs => isS (asL G b) fun ys => R (xs.zipWith tup2 ys) (fun G => pinOf a xs G ∧ pinOf b ys G) G
  | _ => False
def i_zip2R (ta : TAw) : TIr := fun σ G R => ta σ G fun ws G1 => zipR ws G1 R
theorem qizip2R {X : Cx} {ta : TAw} {p pos tpos : Pos} {elts : List Expr} {kk : Nat} {e e2 : Expr} (hg : Gl X "zip") (hm : X.mg "zip" = none) (ha : PAw X [e, e2] ta)
    (hs : starEach [e, e2] X.env = (false, eval e X.env) :: starEach [e2] X.env := by rfl) (hpl : (backTo pos (starEach [e2] X.env)).any (·.1) = false := by rfl) :
    PIr X (.Tuple elts kk tpos) (.Call (.Name "zip" p) [e, e2] [] pos) (i_zip2R ta) := PI.imp (pi_zipA hg hm ha hs hpl) fun σ H R h => by
  obtain ⟨Z, σ', G, Qw, ev, hr, t, k⟩ := h
  refine ⟨Z, σ', G, _, ev, hr, t, fun Z1 G1 H1 ws vs x1 h1 r1 t1 => ?_⟩
  cases r1 with
  | nil => exact False.elim t1
  | cons ra rr =>
    cases rr with
    | nil => exact False.elim t1
    | cons rb rr =>
      cases rr with
      | cons _ _ => exact False.elim t1
      | nil =>
        obtain ⟨xs, ex, t1⟩ := isS_ex t1
        obtain ⟨ys, ey, t1⟩ := isS_ex t1
        obtain ⟨a, rfl, ⟨_, sa⟩, pa⟩ := pin_at h1 ra ex
        obtain ⟨b, rfl, ⟨_, sb⟩, pb⟩ := pin_at h1 rb ey
        refine ⟨_, _, _, _, rfl, .inl ⟨sa, sb, k Z1 G1 H1 _ _ _ x1 h1 ⟨_, _, by rw [List.length_zipWith]; exact walk_zip_live (K := X.K) (a := a) (b := b), fun Z' G' H' x h' i' => ?_⟩ t1⟩⟩
        obtain ⟨va, sa', ra'⟩ := pa Z' G' H' x h' i'.1
        obtain ⟨vb, sb', rb'⟩ := pb Z' G' H' x h' i'.2
        refine ⟨⟨⟨va, sa', ra'.length.symm⟩, vb, sb', rb'.length.symm⟩, fun i v H'' hi y => ?_⟩
        obtain ⟨T, u1, u2, rfl, nT, rfl, f1, f2⟩ := y
        obtain ⟨w, ew, rw'⟩ := ra'.get' i (f1 va sa')
        obtain ⟨u, eu, ru⟩ := rb'.get' i (f2 vb sb')
        obtain ⟨h2, x2, r3⟩ := new_tup h' nT (.cons rw' (.cons ru .nil))
        exact ⟨tup2 w u, by rw [List.getElem?_zipWith, ew, eu], r3, x2, h2⟩
/-! ### a slot's list, from here on unchanged -/
def wFz (i : Nat) (t : TSw) : TSw := fun D σ G => isS (slot σ i) fun w => match w with
  | .ref p => isG (G p) fun ws => t D (sset σ i (.lst ws)) (gdel G p)
  | _ => t D σ G
theorem qfz {X : Cx} {st : Stmt} {t : TSw} (i : Nat) (h : PSw X st t) : PSw X st (wFz i t) := PS.imp h fun D σ H h => by
  obtain ⟨Z, σ', G, Dw, e, hr, t1, k⟩ := h
  obtain ⟨w, ew, t1⟩ := isS_ex t1
  cases w with
  | ref p =>
    obtain ⟨ws, g, t1⟩ := isG_ex t1
    obtain ⟨v, ev, rv⟩ := e.get i ew
    cases rv
    obtain ⟨vs, s, r⟩ := hr.lst g
    obtain ⟨h2, x2⟩ := hr.freeze (p := p) (by rw [g]; simp)
    have e2 := (e.ext hr x2).set (w := .lst ws) (v := .ref p) (.lst (.inr rfl) s (r.ext hr x2)) i
    have es : σ.set i (some (V.ref p)) = σ := by
      obtain ⟨hl, ee⟩ := List.getElem?_eq_some_iff.mp ev
      rw [← ee]
      exact List.set_getElem_self hl
    rw [es] at e2
    exact ⟨_, _, _, Dw, e2, h2, t1, k.mono x2⟩
  | _ => exact ⟨Z, σ', G, Dw, e, hr, t1, k⟩
/-- a list's own lists, from here on unchanged -/
def fzL : List W → Gp → (List W → Gp → Prop) → Prop
  | [], G, R => R [] G
  | .ref p :: ws, G, R => isG (G p) fun us => fzL ws (gdel G p) fun zs G' => R (.lst us :: zs) G'
  | w :: ws, G, R => fzL ws G fun zs G' => R (w :: zs) G'
theorem fzL_ex {K : PySem.W.Frag} : ∀ {ws : List W} {vs : List V} {Z : Zp} {G : Gp} {H : Hp} {R : List W → Gp → Prop}, HRel K Z G H → RwL K Z H ws vs → fzL ws G R →
    ∃ Z' G' zs, HRel K Z' G' H ∧ Ext Z G H Z' G' H ∧ RwL K Z' H zs vs ∧ R zs G'
  | [], _, Z, G, H, R, h, .nil, t => ⟨Z, G, [], h, Ext.refl, .nil, t⟩
  | w :: ws, _, Z, G, H, R, h, .cons r rr, t => by
    have gen : (fzL ws G fun zs G' => R (w :: zs) G') → ∃ Z' G' zs, HRel K Z' G' H ∧ Ext Z G H Z' G' H ∧ RwL K Z' H zs (_ :: _) ∧ R zs G' := fun t => by
      obtain ⟨Z', G', zs, h', x, r', t'⟩ := fzL_ex h rr t
      exact ⟨Z', G', w :: zs, h', x, .cons (r.ext h x) r', t'⟩
    cases r with
    | @ref p =>
      obtain ⟨us, g, t⟩ := isG_ex t
      obtain ⟨vs, s, rv⟩ := h.lst g
      obtain ⟨h2, x2⟩ := h.freeze (p := p) (by rw [g]; simp)
      obtain ⟨Z', G', zs, h', x, r', t'⟩ := fzL_ex h2 (rr.ext h x2) t
      exact ⟨Z', G', .lst us :: zs, h', x2.trans x, .cons ((Rw.lst (.inr rfl) s (rv.ext h x2)).ext h2 x) r', t'⟩
    | non => exact gen t
    | bl => exact gen t
    | int => exact gen t
    | str => exact gen t
    | tup s r => exact gen t
    | lst z e r => exact gen t
    | scr s r => exact gen t
    | ty => exact gen t
    | ins c z e r => exact gen t
    | dic z e r => exact gen t
    | exc0 => exact gen t
    | excF z e r => exact gen t
def wFzN (i : Nat) (t : TSw) : TSw := fun D σ G => isS (slot σ i) fun w => match w with
  | .lst ws => fzL ws G fun zs G' => t D (sset σ i (.lst zs)) G'
  | _ => t D σ G
theorem qfzN {X : Cx} {st : Stmt} {t : TSw} (i : Nat) (h : PSw X st t) : PSw X st (wFzN i t) := PS.imp h fun D σ H h => by
  obtain ⟨Z, σ', G, Dw, e, hr, t1, k⟩ := h
  obtain ⟨w, ew, t1⟩ := isS_ex t1
  cases w with
  | lst ws =>
    obtain ⟨v, ev, rv⟩ := e.get i ew
    cases rv with
    | @lst p _ vs z s r =>
      obtain ⟨Z', G', zs, h', x, r', t'⟩ := fzL_ex hr r t1
      have e2 := (e.ext hr x).set (w := .lst zs) (v := .ref p) (.lst (x.z p z) s r') i
      have es : σ.set i (some (V.ref p)) = σ := by
        obtain ⟨hl, ee⟩ := List.getElem?_eq_some_iff.mp ev
        rw [← ee]
        exact List.set_getElem_self hl
      rw [es] at e2
      exact ⟨_, _, _, Dw, e2, h', t', k.mono x⟩
  | _ => exact ⟨Z, σ', G, Dw, e, hr, t1, k⟩
/-! ### list(range(n)) -/
def rgO (w : W) (G : Gp) (Q : List W → Gp → Prop) : Prop := match w with
  | .int n => RgOk 0 n ∧ Q (rangeW 0 n.toNat) G
  | _ => False
theorem rgO_int {n : Int} {G : Gp} {Q : List W → Gp → Prop} : rgO (.int n) G Q = (RgOk 0 n ∧ Q (rangeW 0 n.toNat) G) := rfl
def wLstRg (te : TEw) : TEw := fun σ G Q => te σ G fun w G1 => rgO w G1 fun us G2 => Q (.lst us) G2
def wLstRgM (te : TEw) : TEw := fun σ G Q => te σ G fun w G1 => rgO w G1 fun us G2 => ∀ p, G2 p = none → Q (.ref p) (gup G2 p (.lst us))
theorem RwL.range {K : PySem.W.Frag} {Z : Zp} {H : Hp} {n : Int} : RwL K Z H (rangeW 0 n.toNat) (rgV 0 n) := by
  unfold rangeW rgV
  rw [Int.sub_zero]
  generalize List.range n.toNat = xs
  induction xs with
  | nil => exact .nil
  | cons x xs ih => exact .cons .int ih
section
variable {X : Cx} {K : PySem.W.Frag} {e : Expr} {te : TEw} {p p2 pos pos2 : Pos}
theorem qlstRg (hc : X.calm = true) (hg : Gl X "list") (hm : X.mg "list" = none) (hg2 : Gl X "range") (hm2 : X.mg "range" = none) (he : PEw X e te) (na : starEach [e] X.env = (false, eval e X.env) :: starEach [] X.env := by rfl)
    (nb : starEach [.Call (.Name "range" p2) [e] [] pos2] X.env = (false, eval (.Call (.Name "range" p2) [e] [] pos2) X.env) :: starEach [] X.env := by rfl) : PEw X (.Call (.Name "list" p) [.Call (.Name "range" p2) [e] [] pos2] [] pos) (wLstRg te) :=
  PE.imp (pe_listRg hc hg hm (prg_1 hg2 hm2 he na) nb) fun σ H Q h => by
    obtain ⟨Z, σ', G, Qw, ev, hr, t, k⟩ := h
    refine ⟨Z, σ', G, _, ev, hr, t, fun Z1 G1 H1 w v x1 h1 r1 t1 => ?_⟩
    cases r1 with
    | int =>
      refine ⟨_, rfl, t1.1, fun q n => ?_⟩
      obtain ⟨h2, x2, r2⟩ := new_frz h1 n RwL.range
      exact k _ _ _ _ _ (x1.trans x2) h2 r2 t1.2
    | _ => exact False.elim t1
theorem qlstRgM (hc : X.calm = true) (hg : Gl X "list") (hm : X.mg "list" = none) (hg2 : Gl X "range") (hm2 : X.mg "range" = none) (he : PEw X e te) (na : starEach [e] X.env = (false, eval e X.env) :: starEach [] X.env := by rfl)
    (nb : starEach [.Call (.Name "range" p2) [e] [] pos2] X.env = (false, eval (.Call (.Name "range" p2) [e] [] pos2) X.env) :: starEach [] X.env := by rfl) : PEw X (.Call (.Name "list" p) [.Call (.Name "range" p2) [e] [] pos2] [] pos) (wLstRgM te) :=
  PE.imp (pe_listRg hc hg hm (prg_1 hg2 hm2 he na) nb) fun σ H Q h => by
    obtain ⟨Z, σ', G, Qw, ev, hr, t, k⟩ := h
    refine ⟨Z, σ', G, _, ev, hr, t, fun Z1 G1 H1 w v x1 h1 r1 t1 => ?_⟩
    cases r1 with
    | int =>
      refine ⟨_, rfl, t1.1, fun q n => ?_⟩
      obtain ⟨g, h2, x2⟩ := new_lst h1 n RwL.range
      exact k _ _ _ _ _ (x1.trans x2) h2 .ref (t1.2 q g)
    | _ => exact False.elim t1
end
theorem wTuple_ref {p : Addr} {G : Gp} {Q : QW} : wTuple [.ref p] G Q = isS (asL G (.ref p)) fun us => Q (.tup us) G := rfl
/-! ### is True, reverse -/
def wIsB : RW2 := fun x y G Q => match x, y with
  | .bl a, .bl b => Q (.bl (decide (a = b))) G
  | _, _ => False
theorem wIsB_bl {a b : Bool} {G : Gp} {Q : QW} : wIsB (.bl a) (.bl b) G Q = Q (.bl (decide (a = b))) G := rfl
theorem sim_isB {K : PySem.W.Frag} : Sim2 K rIsB wIsB := by
  intro Z G H x y v u Qw Q h rx ry t k
  cases rx with
  | bl =>
    cases ry with
    | bl => exact ⟨_, _, rfl, rfl, k.at h .bl t⟩
    | _ => exact False.elim t
  | _ => cases ry <;> exact False.elim t
section
variable {X : Cx} {K : PySem.W.Frag} {a b o : Expr} {ta tb to : TEw} {pos apos cpos : Pos}
theorem qisB (ha : PEw X a ta) (hb : PEw X b tb) : PEw X (.Compare a [.Is] [b] pos) (wOp wIsB ta tb) := qcmp op_isBl sim_isB ha hb (nomark _)
theorem qtisB (ha : PEw X a ta) (hb : PEw X b tb) : PTw X (.Compare a [.Is] [b] pos) (wTest (wOp wIsB ta tb)) := qtcmp op_isBl sim_isB ha hb (nomark _)
def wReverse : RWM := fun o ws G Q => match o, ws with
  | .ref p, [] => isG (G p) fun us => Q .non (gup G p (.lst us.reverse))
  | _, _ => False
theorem wReverse_ref {p : Addr} {G : Gp} {Q : QW} : wReverse (.ref p) [] G Q = isG (G p) fun us => Q .non (gup G p (.lst us.reverse)) := rfl
abbrev wM_reverse := wReverse
theorem sim_reverse : SimM K rReverse wReverse := by
  intro Z G H x v ws vs Qw Q h rx rs t k
  cases rx with
  | @ref p =>
    cases rs with
    | cons _ _ => exact False.elim t
    | nil =>
      obtain ⟨us, g, q⟩ := isG_ex t
      obtain ⟨xs, s, r⟩ := h.lst g
      obtain ⟨h2, x2⟩ := chg_lst h g r.reverse
      exact ⟨p, xs, rfl, rfl, s, k _ _ _ _ _ x2 h2 .non q⟩
  | _ => exact False.elim t
theorem qm_reverse (ho : PEw X o to) (hbase : attributeBase o "reverse" X.env (eval o X.env) = eval o X.env := by rfl) (hline : (apos.endLine == cpos.line) = true := by rfl) : PEw X (.Call (.Attribute o "reverse" apos) [] [] cpos) (wBM0 wM_reverse to) :=
  qbm0 PySem.F.slot_list_reverse PySem.F.type_list_reverse mt_reverse sim_reverse ho hbase hline
end
/-! ### a comprehension over a list, still to be changed or not: it must stand at every turn -/
def lcP (I : Gp → Prop) (g : TGw) (tt : TTw) (te : TEw) (σ : SW) : List W → List W → Gp → (List W → Gp → Prop) → Prop
  | [], acc, G, Q => I G ∧ Q acc G
  | w :: ws, acc, G, Q => I G ∧ g w σ G fun σ1 G1 => tt σ1 G1 fun b G2 => if b = true then te σ1 G2 fun y G3 => lcP I g tt te σ ws (acc ++ [y]) G3 Q else lcP I g tt te σ ws acc G2 Q
def wLcP (vs : List Nat) (t0 : TEw) (g : TGw) (tt : TTw) (te : TEw) : TEw := fun σ G Q => t0 σ G fun w G1 => isS (asL G1 w) fun us => us.length ≤ sizeLine ∧ lcP (pinOf w us) g tt te (swipe σ vs) us [] G1 fun zs G2 => Q (.lst zs) G2
theorem lcP_at {I : Gp → Prop} {g : TGw} {tt : TTw} {te : TEw} {σ : SW} {ws acc : List W} {G : Gp} {Q : List W → Gp → Prop} (h : lcP I g tt te σ ws acc G Q) : I G := by
  cases ws with
  | nil => exact h.1
  | cons _ _ => exact h.1
section
variable {K : PySem.W.Frag}
theorem llcP {vs : List Nat} {t0 : TEw} {g : TG} {gw : TGw} {tt : TTw} {te : TEw} (sg : SimG K vs g gw) {σ : SV} {H : Hp} {Q : VK}
    (h : liftE K (wLcP vs t0 gw tt te) σ H Q) : tLc (iSeq K (liftE K t0)) g (liftT K tt) (liftE K te) vs σ H Q := by
  obtain ⟨Z, σ', G, Qw, e, hr, t, k⟩ := h
  refine ⟨Z, σ', G, _, e, hr, t, fun Z1 G1 H1 w v x1 h1 r1 t1 => ?_⟩
  obtain ⟨ws, ew0, hl, t1⟩ := isS_ex t1
  obtain ⟨p, rfl, s0, pin⟩ := pin_at h1 r1 ew0
  generalize pinOf w ws = I at t1 pin
  refine .inl ⟨p, rfl, s0, fun D hD => ?_⟩
  have x0 : Ext Z1 G1 H1 Z1 G1 (upd H1 D (.lst [])) := Ext.laid h1 hD
  have h0 := h1.laid (o := .lst []) hD
  refine lc_it (walk_live (K := K) (a := p) (n := ws.length)) (fun i H2 => ∃ Z2 G2 us xs, Ext Z1 G1 H1 Z2 G2 H2 ∧ HRel K Z2 G2 H2 ∧ H2 D = some (.lst xs) ∧ G2 D = none ∧ ¬ Z2 D ∧ RwL K Z2 H2 us xs ∧ us.length ≤ i ∧ lcP I gw tt te (swipe σ' vs) (ws.drop i) us G2 fun us G2 => Qw (.lst us) G2) ?_ ?_ ?_ ?_
  · exact ⟨Z1, G1, [], [], x0, h0, upd_same, h1.fresh hD, h1.freshZ hD, .nil, Nat.le_refl _, t1⟩
  · rintro i H2 _ ⟨Z2, G2, us, xs, x2, h2, _, _, _, _, _, t2⟩
    obtain ⟨vs2, s2, r2⟩ := pin Z2 G2 H2 x2 h2 (lcP_at t2)
    exact ⟨vs2, s2, r2.length.symm⟩
  · rintro i v H2 H3 hi ⟨Z2, G2, us, xs, x2, h2, eD, gD, zD, rus, lus, t2⟩ ⟨e3, y⟩
    subst e3
    obtain ⟨vs2, s2, r2⟩ := pin Z2 G2 H3 x2 h2 (lcP_at t2)
    have ed : ws.drop i = ws[i] :: ws.drop (i + 1) := List.drop_eq_getElem_cons hi
    rw [ed] at t2
    obtain ⟨g2, t2⟩ := t2
    obtain ⟨w, ew, rw'⟩ := r2.get' i (y _ s2)
    rw [List.getElem?_eq_getElem hi] at ew
    injection ew with ew
    have eσ : RwS K Z2 H3 (swipe σ' vs) (L2.wipe σ vs) := (e.ext hr (x1.trans x2)).wipe vs
    refine sg Z2 G2 H3 _ _ ws[i] v _ _ eσ h2 (by rw [ew]; exact rw') t2 fun τ' τ eτ sτ t3 => ⟨?_, ?_⟩
    · rw [sτ.wipe, wipe_wipe vs vs fun i hi => hi]
    refine ⟨Z2, τ', G2, _, eτ, h2, t3, fun Z4 G4 H4 b x4 h4 t4 => ?_⟩
    have eD4 := x4.f D _ eD gD
    have zD4 : ¬ Z4 D := fun z => zD (x4.n D (by rw [eD]; simp) gD z)
    have rus4 := rus.ext h2 x4
    cases b with
    | false => exact ⟨Z4, G4, us, xs, x2.trans x4, h4, eD4.1, eD4.2, zD4, rus4, by omega, t4⟩
    | true =>
      refine ⟨Z4, τ', G4, _, eτ.ext h2 x4, h4, t4, fun Z5 G5 H5 yw yv x5 h5 r5 t5 => ?_⟩
      have eD5 := x5.f D _ eD4.1 eD4.2
      have zD5 : ¬ Z5 D := fun z => zD4 (x5.n D (by rw [eD4.1]; simp) eD4.2 z)
      have rus5 := rus4.ext h4 x5
      have kp : Keep Z5 H5 Z5 (upd H5 D (.lst (xs ++ [yv]))) := Keep.hid eD5.1 zD5
      have xx := (x2.trans x4).trans x5
      refine ⟨xs, eD5.1, by rw [← rus.length]; omega, Z5, G5, us ++ [yw], xs ++ [yv], ⟨xx.z, fun p u e' g' => ?_, xx.n⟩, ⟨fun p z => ?_, fun p o g' => ?_⟩, upd_same, eD5.2, zD5, (rus5.append (.cons r5 .nil)).keep kp, by simp; omega, t5⟩
      · rw [upd_ne (ne_of_none e' hD)]; exact xx.f p u e' g'
      · have := h5.z p z
        rw [upd_ne (fun c => zD5 (by rw [← c]; exact z))]
        exact this
      · obtain ⟨u, e', r⟩ := h5.g p o g'
        have c : p ≠ D := fun c => by rw [c, eD5.2] at g'; cases g'
        exact ⟨u, by rw [upd_ne c]; exact e', r.keep kp⟩
  · rintro H2 ⟨Z2, G2, us, xs, x2, h2, eD, gD, zD, rus, lus, t2⟩
    rw [List.drop_length] at t2
    obtain ⟨_, t2⟩ := t2
    obtain ⟨Z3, G3, w, x3, h3, r3, q⟩ := lc_frz Z1 G1 H1 Z2 G2 H2 us xs D Qw hD x2 h2 rus eD gD zD t2
    exact k Z3 G3 H2 w _ (x1.trans x3) h3 r3 q
end
section
variable {X : Cx} {scope : Scope} {pos : Pos} {elt tg iter : Expr} {ifs : List Expr} {own : List (Str × Nat)} {t0 : TEw} {gw : TGw} {tt : TTw} {te : TEw}
theorem qlcP (hc : X.calm = true) (hN : X.N.Nodup) (hi : PEw X iter t0) (ok : BlkOk X.N X.env.scope scope own) (hg : TgW X (own.map (·.2)) tg scope gw)
    (ht : ∀ (s : Shared) (H : Hp) (C : Addr) (cl : List (Str × Addr)) (fp : List Addr), PTsw (X.blk s H scope (compEnvC scope cl C X.env) fp) ifs tt) (he : ∀ (s : Shared) (H : Hp) (C : Addr) (cl : List (Str × Addr)) (fp : List Addr), PEw (X.blk s H scope (compEnvC scope cl C X.env) fp) elt te)
    (hs : ∀ x, foldedSetIterable iter X.env x = pure x := by intro _; rfl) : PEw X (.ListComp elt [⟨tg, iter, ifs, 0⟩] scope pos) (wLcP (own.map (·.2)) t0 gw tt te) := by
  obtain ⟨g, pg, sg⟩ := hg.ex
  exact PE.imp (pe_lc (tt := liftT X.K tt) (te := liftE X.K te) hc hN (pi_seq hi) ok pg ht he hs) fun _ _ _ h => llcP sg h
end
/-! ### list + list, the caller's own -/
def wAddM : RW2 := fun x y G Q => match x, y with
  | .lst a, .lst b => a.length + b.length ≤ sizeLine ∧ ∀ p, G p = none → Q (.ref p) (gup G p (.lst (a ++ b)))
  | _, _ => False
theorem wAddM_lst {a b : List W} {G : Gp} {Q : QW} : wAddM (.lst a) (.lst b) G Q = (a.length + b.length ≤ sizeLine ∧ ∀ p, G p = none → Q (.ref p) (gup G p (.lst (a ++ b)))) := rfl
theorem sim_addM {K : PySem.W.Frag} : Sim2 K rCat wAddM := by
  intro Z G H x y v u Qw Q h rx ry t k
  cases rx with
  | @lst p a vs z1 s1 r1 =>
    cases ry with
    | @lst p2 b us z2 s2 r2 =>
      refine ⟨_, _, vs, us, rfl, rfl, s1, s2, by rw [← r1.length, ← r2.length]; exact t.1, fun q n => ?_⟩
      obtain ⟨g, h2, x2⟩ := new_lst h n (r1.append r2)
      exact k _ _ _ _ _ x2 h2 .ref (t.2 q g)
    | _ => exact False.elim t
  | _ => exact False.elim t
theorem qaddM {X : Cx} {a b : Expr} {ta tb : TEw} {pos : Pos} (ha : PEw X a ta) (hb : PEw X b tb) : PEw X (.BinOp a .Add b pos) (wOp wAddM ta tb) := qop op_cat sim_addM ha hb
end WL

/-! zip of two or three, enumerate: of tuples and lists in any mixture. -/
namespace WL
open PySem PySem.Spec PyProof.Rows L2
/-- a list (true) or a tuple (false) -/
def SqK (K : PySem.W.Frag) : Bool → Hp → Addr → List V → Prop
  | true => SqL K
  | false => SqT K
def ItK : Bool → Heap → Addr → Addr → Nat → Prop
  | true => fun h it a i => h.IsListIter it a i
  | false => fun h it a i => h.IsTupleIter it a i
def SeqK : Bool → Heap → Addr → Array Value → Prop
  | true => fun h a its => h.IsList a its
  | false => fun h a its => h.IsTuple a its
def oK : Bool → Addr → Obj
  | true => fun a => { cls := .type "list_iterator", data := .fields #[.ref a, .int 0 0] }
  | false => fun a => { cls := .type "tuple_iterator", data := .fields #[.ref a, .int 0 0] }
theorem drawsK {P : Program} {w : World} {A : Around} (hh : A.handled = none) (k : Bool) (it a : Addr) (hne : a ≠ it) (items : Array Value) :
    Draws P w A it [it, a] items.size (fun i v => items[i]? = some v) (fun i h => ItK k h it a i ∧ SeqK k h a items) := by
  cases k with
  | true => exact Draws.list hh it a hne items
  | false => exact Draws.tuple hh it a hne items
theorem beginsK (k : Bool) (a : Addr) (items : Array Value) : Begins (.ref a) (oK k a) (fun h => SeqK k h a items) := by
  cases k with
  | true => exact begins_list a items
  | false => exact begins_tuple a items
theorem itK_new {k : Bool} {h : Heap} {it a : Addr} (e : h.get? it = some (oK k a)) : ItK k h it a 0 := by
  cases k with
  | true => exact ⟨_, e, rfl, rfl⟩
  | false => exact ⟨_, e, rfl, rfl⟩
theorem itK_obj {k : Bool} {h : Heap} {it a : Addr} {i : Nat} (q : ItK k h it a i) : ∃ o, h.get? it = some o ∧ ∀ v, o.data ≠ .cell v := by
  cases k with
  | true => obtain ⟨o, e, _, d⟩ := q; exact ⟨o, e, fun v z => by rw [d] at z; cases z⟩
  | false => obtain ⟨o, e, _, d⟩ := q; exact ⟨o, e, fun v z => by rw [d] at z; cases z⟩
theorem itK_keep {k : Bool} {h h' : Heap} {it a : Addr} {i : Nat} (q : ItK k h it a i) (e : ∀ o, h.get? it = some o → h'.get? it = some o) : ItK k h' it a i := by
  cases k with
  | true => exact Heap.IsListIter.at q e
  | false => exact Heap.IsTupleIter.at q e
section
variable {X : Cx} {pins : List (Addr × Obj)} {σ : L2.St} {H : Hp} {s : Shared} {a : Addr} {xs ys : List V}
theorem Inv.sqk (I : Inv X pins σ H s) {k : Bool} (h : SqK X.K k H a xs) : ∃ its : List Value, Vals xs its ∧ SeqK k s.heap a its.toArray ∧ a < s.heap.objs.size := by
  cases k with
  | true =>
    obtain ⟨its, rv, p, _⟩ := I.list h
    exact ⟨its, rv, p.isList, p.lt⟩
  | false =>
    obtain ⟨its, rv, p, _⟩ := I.tuple h
    obtain ⟨o, ho, _⟩ := id p
    exact ⟨its, rv, p, Heap.lt_size ho⟩
theorem Inv.sqk_inj (I : Inv X pins σ H s) {k : Bool} (h : SqK X.K k H a xs) (h' : SqK X.K k H a ys) : xs = ys := by
  cases k with
  | true => exact I.list_inj h h'
  | false => exact I.tuple_inj h h'
end
/-! ### zip of two -/
def ItzG (K : PySem.W.Frag) (k1 k2 : Bool) (a b : Addr) : It :=
  ⟨fun i H => ∃ (xs ys : List V) (x y : V), SqK K k1 H a xs ∧ SqK K k2 H b ys ∧ xs[i]? = some x ∧ ys[i]? = some y,
    fun i H v H' => ∃ T x y, v = .ref T ∧ H T = none ∧ H' = upd H T (.tup [x, y]) ∧ (∀ xs, SqK K k1 H a xs → xs[i]? = some x) ∧ ∀ ys, SqK K k2 H b ys → ys[i]? = some y,
    fun i H => ∃ xs ys : List V, SqK K k1 H a xs ∧ SqK K k2 H b ys ∧ i ≤ xs.length ∧ i ≤ ys.length ∧ (i = xs.length ∨ i = ys.length)⟩
theorem turn_zipG {P : Program} {w : World} {K : PySem.W.Frag} {elts : List Expr} {kk : Nat} {tpos : Pos} {k1 k2 : Bool} {a b z TI TO i1 i2 : Addr} (D : ZipSep2 z TI TO i1 i2 [i1, a] [i2, b]) (n1 : a ≠ i1) (n2 : b ≠ i2) :
    Turn P w K (.Tuple elts kk tpos) (ItzG K k1 k2 a b) [z, TI, TO, i1, i2] z (fun i h => IsZip h z TI TO .none ∧ IsTupOf2 h TI (.ref i1) (.ref i2) ∧ (∃ x y, IsTupOf2 h TO x y) ∧ ItK k1 h i1 a i ∧ ItK k2 h i2 b i) where
  mem := by simp
  obj := fun i h st d hd => by
    obtain ⟨hz, hTI, ⟨x, y, hTO⟩, h1, h2⟩ := st
    have e' : d = z ∨ d = TI ∨ d = TO ∨ d = i1 ∨ d = i2 := by simpa using hd
    rcases e' with q | q | q | q | q
    · rw [q]; exact ⟨_, hz, fun v q => nomatch q⟩
    · rw [q]; exact ⟨_, hTI, fun v q => nomatch q⟩
    · rw [q]; exact ⟨_, hTO, fun v q => nomatch q⟩
    · rw [q]; exact itK_obj h1
    · rw [q]; exact itK_obj h2
  keep := fun i h h' st k => by
    obtain ⟨hz, hTI, ⟨x, y, hTO⟩, h1, h2⟩ := st
    exact ⟨k z (by simp) _ hz, k TI (by simp) _ hTI, ⟨x, y, k TO (by simp) _ hTO⟩, itK_keep h1 fun o q => k i1 (by simp) o q, itK_keep h2 fun o q => k i2 (by simp) o q⟩
  item := by
    intro X hP hw hK hc i pins s σ H E I hf st hg
    subst hP hw hK
    obtain ⟨hz, hTI, ⟨x0, y0, hTO⟩, h1, h2⟩ := st
    obtain ⟨xs, ys, x, y, q1, q2, g1, g2⟩ := hg
    obtain ⟨t1, rv1, p1, _⟩ := Inv.sqk I q1
    obtain ⟨t2, rv2, p2, _⟩ := Inv.sqk I q2
    obtain ⟨u1, hu1, ru1⟩ := rv1.get g1
    obtain ⟨u2, hu2, ru2⟩ := rv2.get g2
    have hzl : z < s.heap.objs.size := Heap.lt_size hz
    have hh := I.ok.hd hc
    have D1 := drawsK (P := X.prog) (w := X.w) (A := X.A.in1) hh k1 i1 a n1 t1.toArray
    have l1 : i < t1.toArray.size := by obtain ⟨z, _⟩ := List.getElem?_eq_some_iff.mp hu1; simpa using z
    have D2 := drawsK (P := X.prog) (w := X.w) (A := X.A.in1) hh k2 i2 b n2 t2.toArray
    have l2 : i < t2.toArray.size := by obtain ⟨z, _⟩ := List.getElem?_eq_some_iff.mp hu2; simpa using z
    refine wpAny_pyNext_zipD2_item D D1 D2 hz hTI hTO ⟨h1, p1⟩ ⟨h2, p2⟩ l1 l2 fun x1 x2 h' tk y1 y2 z' TO' s1 s2 hT hsz hk => ?_
    have e1 : x1 = u1 := by rw [show t1.toArray[i]? = t1[i]? by simp, hu1] at y1; injection y1 with y1; exact y1.symm
    have e2 : x2 = u2 := by rw [show t2.toArray[i]? = t2[i]? by simp, hu2] at y2; injection y2 with y2; exact y2.symm
    subst e1 e2
    refine ⟨_, rfl, wpAny_letOwnedTupleGo_zip (s := { s with heap := h', toks := tk }) z' fun h'' z'' sb => ?_⟩
    have hT2 : h''.get? s.heap.objs.size = some { cls := .type "tuple", data := .seq #[x1, x2] } := (sb.2 _ (Nat.ne_of_gt hzl)).trans hT
    have new : ObjOk X.prog X.w (upd H s.heap.objs.size (.tup [x, y])) h'' s.heap.objs.size (.tup [x, y]) :=
      ⟨by show 2 ≤ sizeLine; decide, [x1, x2], (.cons ru1 (.cons ru2 .nil)), ⟨_, hT2, rfl, _, rfl⟩⟩
    have I1 : Inv X pins σ (upd H s.heap.objs.size (.tup [x, y])) { s with heap := h'', toks := tk } :=
      I.turnedNew (ch := [z, TI, TO, i1, i2]) (fun c o hb q => (sb.2 c (fun q' => hb (by simp [q']))).trans (hk c o (fun q' => hb (by simp [q'])) (fun q' => hb (by simp [q'])) (fun q' => hb (by simp [q'])) (fun q' => hb (by simp [q'])) q)) hf (Nat.le_refl _) new
    refine ⟨.ref s.heap.objs.size, _, I1, rfl, ⟨_, x, y, rfl, I.hok.fresh (Nat.le_refl _), rfl, fun l hl => by rw [Inv.sqk_inj I hl q1]; exact g1, fun l hl => by rw [Inv.sqk_inj I hl q2]; exact g2⟩, ⟨z'', ?_, ⟨x1, x2, ?_⟩, ?_, ?_⟩, fun d hcm => ?_⟩
    · exact (sb.2 _ D.TIz).trans (hk _ _ D.TIz D.TITO D.TIi1 D.TIi2 hTI)
    · exact (sb.2 _ D.TOz).trans TO'
    · exact itK_keep s1.1 fun o q => (sb.2 _ (Ne.symm D.zi1)).trans q
    · exact itK_keep s2.1 fun o q => (sb.2 _ (Ne.symm D.zi2)).trans q
    · have hlt : d < s.heap.objs.size := by
        have e' : d = z ∨ d = TI ∨ d = TO ∨ d = i1 ∨ d = i2 := by simpa using hcm
        rcases e' with q | q | q | q | q
        · rw [q]; exact hzl
        · rw [q]; exact Heap.lt_size hTI
        · rw [q]; exact Heap.lt_size hTO
        · rw [q]; obtain ⟨_, e1, _⟩ := itK_obj h1; exact Heap.lt_size e1
        · rw [q]; obtain ⟨_, e1, _⟩ := itK_obj h2; exact Heap.lt_size e1
      rw [upd_ne (Nat.ne_of_lt hlt)]
      exact (hf d hcm).1
  done := by
    intro X hP hw hK hc i pins s σ H E I hf st hg
    subst hP hw hK
    obtain ⟨hz, hTI, ⟨x0, y0, hTO⟩, h1, h2⟩ := st
    obtain ⟨xs, ys, q1, q2, g1, g2, hend⟩ := hg
    obtain ⟨t1, rv1, p1, _⟩ := Inv.sqk I q1
    have e1 := rv1.length
    obtain ⟨t2, rv2, p2, _⟩ := Inv.sqk I q2
    have e2 := rv2.length
    have hh := I.ok.hd hc
    have D1 := drawsK (P := X.prog) (w := X.w) (A := X.A.in1) hh k1 i1 a n1 t1.toArray
    have D2 := drawsK (P := X.prog) (w := X.w) (A := X.A.in1) hh k2 i2 b n2 t2.toArray
    refine wpAny_pyNext_zipD2_end D D1 D2 hz hTI hTO ⟨h1, p1⟩ ⟨h2, p2⟩ (by simp only [List.size_toArray]; omega) (by simp only [List.size_toArray]; omega) (by simp only [List.size_toArray]; omega) fun h' tk hk => ⟨rfl, I.turnedL (ch := [z, TI, TO, i1, i2]) (fun c o hb q => hk c o (fun q' => hb (by simp [q'])) (fun q' => hb (by simp [q'])) (fun q' => hb (by simp [q'])) (fun q' => hb (by simp [q'])) q) hf⟩
  self := fun A i s Q E st h => wpAny_pyIter_zip st.1 h
def iZipG (K : PySem.W.Frag) (ta : TA) : TI := fun σ H R => ta σ H fun vs H1 => ∃ k1 k2 a b xs ys, vs = [.ref a, .ref b] ∧ SqK K k1 H1 a xs ∧ SqK K k2 H1 b ys ∧ R (ItzG K k1 k2 a b) H1
theorem pi_zipG {X : Cx} {e e2 : Expr} {ta : TA} {p pos tpos : Pos} {elts : List Expr} {kk : Nat} (hg : Gl X "zip") (hm : X.mg "zip" = none) (ha : PA X [e, e2] ta)
    (hs : starEach [e, e2] X.env = (false, eval e X.env) :: starEach [e2] X.env := by rfl) (hpl : (backTo pos (starEach [e2] X.env)).any (·.1) = false := by rfl) :
    PI X (.Tuple elts kk tpos) (.Call (.Name "zip" p) [e, e2] [] pos) (iZipG X.K ta) := by
  refine ⟨fun pins s σ H R I h => ?_⟩
  refine Call_ (ld_blt I hg hm PyProof.Rows.boot_zip (PyProof.Rows.callWith_type1 (thn (ha.run pos pins s σ H _ I h) fun us s1 ⟨vs, H1, I1, r1, q1⟩ => ?_) hs hpl))
  obtain ⟨k1, k2, a, b, xs, ys, ex, q1, q2, q⟩ := q1
  subst ex
  cases r1 with
  | cons r1' r1 =>
    cases r1 with
    | cons r2' r1 =>
      cases r1
      cases r1'
      cases r2'
      obtain ⟨t1, rv1, p1, lt1⟩ := Inv.sqk I1 q1
      obtain ⟨t2, rv2, p2, lt2⟩ := Inv.sqk I1 q2
      refine zip_begins2 (beginsK k1 a t1.toArray) (beginsK k2 b t2.toArray) p1 p2 fun h' hz hTI hTO b1 b2 hsz hk => wpAny_pyIter_zip hz ?_
      have I2 : Inv X pins σ H1 { s1 with heap := h' } := I1.kept (t' := s1.toks) hk
      refine ⟨s1.heap.objs.size + 4, [s1.heap.objs.size + 4, s1.heap.objs.size + 2, s1.heap.objs.size + 3, s1.heap.objs.size, s1.heap.objs.size + 1], _, _, H1, rfl, I2, turn_zipG (zip_sep2 (fun x hx => by rw [List.mem_singleton.mp hx]; exact lt1) (fun x hx => by rw [List.mem_singleton.mp hx]; exact lt2)) (Nat.ne_of_lt (Nat.lt_of_lt_of_le lt1 (Nat.le_refl _))) (Nat.ne_of_lt (Nat.lt_of_lt_of_le lt2 (Nat.le_add_right _ _))), ⟨hz, hTI, ⟨_, _, hTO⟩, itK_new b1, itK_new b2⟩, fun d hcm => ?_, q⟩
      have e' : d = s1.heap.objs.size + 4 ∨ d = s1.heap.objs.size + 2 ∨ d = s1.heap.objs.size + 3 ∨ d = s1.heap.objs.size ∨ d = s1.heap.objs.size + 1 := by simpa using hcm
      have hle : s1.heap.objs.size ≤ d := by
        rcases e' with z | z | z | z | z
        · rw [z]; exact Nat.le_add_right _ _
        · rw [z]; exact Nat.le_add_right _ _
        · rw [z]; exact Nat.le_add_right _ _
        · rw [z]; exact Nat.le_refl _
        · rw [z]; exact Nat.le_add_right _ _
      exact I1.fpOk hle (I1.hok.fresh hle)
/-! ### zip of three -/
def ItzG3 (K : PySem.W.Frag) (k1 k2 k3 : Bool) (a b c : Addr) : It :=
  ⟨fun i H => ∃ (xs ys us : List V) (x y t : V), SqK K k1 H a xs ∧ SqK K k2 H b ys ∧ SqK K k3 H c us ∧ xs[i]? = some x ∧ ys[i]? = some y ∧ us[i]? = some t,
    fun i H v H' => ∃ T x y t, v = .ref T ∧ H T = none ∧ H' = upd H T (.tup [x, y, t]) ∧ (∀ xs, SqK K k1 H a xs → xs[i]? = some x) ∧ (∀ ys, SqK K k2 H b ys → ys[i]? = some y) ∧ ∀ us, SqK K k3 H c us → us[i]? = some t,
    fun i H => ∃ xs ys us : List V, SqK K k1 H a xs ∧ SqK K k2 H b ys ∧ SqK K k3 H c us ∧ i ≤ xs.length ∧ i ≤ ys.length ∧ i ≤ us.length ∧ (i = xs.length ∨ i = ys.length ∨ i = us.length)⟩
theorem turn_zipG3 {P : Program} {w : World} {K : PySem.W.Frag} {elts : List Expr} {kk : Nat} {tpos : Pos} {k1 k2 k3 : Bool} {a b c z TI TO i1 i2 i3 : Addr} (D : ZipSep3 z TI TO i1 i2 i3 [i1, a] [i2, b] [i3, c]) (n1 : a ≠ i1) (n2 : b ≠ i2) (n3 : c ≠ i3) :
    Turn P w K (.Tuple elts kk tpos) (ItzG3 K k1 k2 k3 a b c) [z, TI, TO, i1, i2, i3] z (fun i h => IsZip h z TI TO .none ∧ IsTupOf3 h TI (.ref i1) (.ref i2) (.ref i3) ∧ (∃ x y t, IsTupOf3 h TO x y t) ∧ ItK k1 h i1 a i ∧ ItK k2 h i2 b i ∧ ItK k3 h i3 c i) where
  mem := by simp
  obj := fun i h st d hd => by
    obtain ⟨hz, hTI, ⟨x, y, t, hTO⟩, h1, h2, h3⟩ := st
    have e' : d = z ∨ d = TI ∨ d = TO ∨ d = i1 ∨ d = i2 ∨ d = i3 := by simpa using hd
    rcases e' with q | q | q | q | q | q
    · rw [q]; exact ⟨_, hz, fun v q => nomatch q⟩
    · rw [q]; exact ⟨_, hTI, fun v q => nomatch q⟩
    · rw [q]; exact ⟨_, hTO, fun v q => nomatch q⟩
    · rw [q]; exact itK_obj h1
    · rw [q]; exact itK_obj h2
    · rw [q]; exact itK_obj h3
  keep := fun i h h' st k => by
    obtain ⟨hz, hTI, ⟨x, y, t, hTO⟩, h1, h2, h3⟩ := st
    exact ⟨k z (by simp) _ hz, k TI (by simp) _ hTI, ⟨x, y, t, k TO (by simp) _ hTO⟩, itK_keep h1 fun o q => k i1 (by simp) o q, itK_keep h2 fun o q => k i2 (by simp) o q, itK_keep h3 fun o q => k i3 (by simp) o q⟩
  item := by
    intro X hP hw hK hc i pins s σ H E I hf st hg
    subst hP hw hK
    obtain ⟨hz, hTI, ⟨x0, y0, t0, hTO⟩, h1, h2, h3⟩ := st
    obtain ⟨xs, ys, us, x, y, t, q1, q2, q3, g1, g2, g3⟩ := hg
    obtain ⟨t1, rv1, p1, _⟩ := Inv.sqk I q1
    obtain ⟨t2, rv2, p2, _⟩ := Inv.sqk I q2
    obtain ⟨t3, rv3, p3, _⟩ := Inv.sqk I q3
    obtain ⟨u1, hu1, ru1⟩ := rv1.get g1
    obtain ⟨u2, hu2, ru2⟩ := rv2.get g2
    obtain ⟨u3, hu3, ru3⟩ := rv3.get g3
    have hzl : z < s.heap.objs.size := Heap.lt_size hz
    have hh := I.ok.hd hc
    have D1 := drawsK (P := X.prog) (w := X.w) (A := X.A.in1) hh k1 i1 a n1 t1.toArray
    have l1 : i < t1.toArray.size := by obtain ⟨z, _⟩ := List.getElem?_eq_some_iff.mp hu1; simpa using z
    have D2 := drawsK (P := X.prog) (w := X.w) (A := X.A.in1) hh k2 i2 b n2 t2.toArray
    have l2 : i < t2.toArray.size := by obtain ⟨z, _⟩ := List.getElem?_eq_some_iff.mp hu2; simpa using z
    have D3 := drawsK (P := X.prog) (w := X.w) (A := X.A.in1) hh k3 i3 c n3 t3.toArray
    have l3 : i < t3.toArray.size := by obtain ⟨z, _⟩ := List.getElem?_eq_some_iff.mp hu3; simpa using z
    refine wpAny_pyNext_zipD3_item D D1 D2 D3 hz hTI hTO ⟨h1, p1⟩ ⟨h2, p2⟩ ⟨h3, p3⟩ l1 l2 l3 fun x1 x2 x3 h' tk y1 y2 y3 z' TO' s1 s2 s3 hT hsz hk => ?_
    have e1 : x1 = u1 := by rw [show t1.toArray[i]? = t1[i]? by simp, hu1] at y1; injection y1 with y1; exact y1.symm
    have e2 : x2 = u2 := by rw [show t2.toArray[i]? = t2[i]? by simp, hu2] at y2; injection y2 with y2; exact y2.symm
    have e3 : x3 = u3 := by rw [show t3.toArray[i]? = t3[i]? by simp, hu3] at y3; injection y3 with y3; exact y3.symm
    subst e1 e2 e3
    refine ⟨_, rfl, wpAny_letOwnedTupleGo_zip (s := { s with heap := h', toks := tk }) z' fun h'' z'' sb => ?_⟩
    have hT2 : h''.get? s.heap.objs.size = some { cls := .type "tuple", data := .seq #[x1, x2, x3] } := (sb.2 _ (Nat.ne_of_gt hzl)).trans hT
    have new : ObjOk X.prog X.w (upd H s.heap.objs.size (.tup [x, y, t])) h'' s.heap.objs.size (.tup [x, y, t]) :=
      ⟨by show 3 ≤ sizeLine; decide, [x1, x2, x3], (.cons ru1 (.cons ru2 (.cons ru3 .nil))), ⟨_, hT2, rfl, _, rfl⟩⟩
    have I1 : Inv X pins σ (upd H s.heap.objs.size (.tup [x, y, t])) { s with heap := h'', toks := tk } :=
      I.turnedNew (ch := [z, TI, TO, i1, i2, i3]) (fun c o hb q => (sb.2 c (fun q' => hb (by simp [q']))).trans (hk c o (fun q' => hb (by simp [q'])) (fun q' => hb (by simp [q'])) (fun q' => hb (by simp [q'])) (fun q' => hb (by simp [q'])) (fun q' => hb (by simp [q'])) q)) hf (Nat.le_refl _) new
    refine ⟨.ref s.heap.objs.size, _, I1, rfl, ⟨_, x, y, t, rfl, I.hok.fresh (Nat.le_refl _), rfl, fun l hl => by rw [Inv.sqk_inj I hl q1]; exact g1, fun l hl => by rw [Inv.sqk_inj I hl q2]; exact g2, fun l hl => by rw [Inv.sqk_inj I hl q3]; exact g3⟩, ⟨z'', ?_, ⟨x1, x2, x3, ?_⟩, ?_, ?_, ?_⟩, fun d hcm => ?_⟩
    · exact (sb.2 _ D.TIz).trans (hk _ _ D.TIz D.TITO D.TIi1 D.TIi2 D.TIi3 hTI)
    · exact (sb.2 _ D.TOz).trans TO'
    · exact itK_keep s1.1 fun o q => (sb.2 _ (Ne.symm D.zi1)).trans q
    · exact itK_keep s2.1 fun o q => (sb.2 _ (Ne.symm D.zi2)).trans q
    · exact itK_keep s3.1 fun o q => (sb.2 _ (Ne.symm D.zi3)).trans q
    · have hlt : d < s.heap.objs.size := by
        have e' : d = z ∨ d = TI ∨ d = TO ∨ d = i1 ∨ d = i2 ∨ d = i3 := by simpa using hcm
        rcases e' with q | q | q | q | q | q
        · rw [q]; exact hzl
        · rw [q]; exact Heap.lt_size hTI
        · rw [q]; exact Heap.lt_size hTO
        · rw [q]; obtain ⟨_, e1, _⟩ := itK_obj h1; exact Heap.lt_size e1
        · rw [q]; obtain ⟨_, e1, _⟩ := itK_obj h2; exact Heap.lt_size e1
        · rw [q]; obtain ⟨_, e1, _⟩ := itK_obj h3; exact Heap.lt_size e1
      rw [upd_ne (Nat.ne_of_lt hlt)]
      exact (hf d hcm).1
  done := by
    intro X hP hw hK hc i pins s σ H E I hf st hg
    subst hP hw hK
    obtain ⟨hz, hTI, ⟨x0, y0, t0, hTO⟩, h1, h2, h3⟩ := st
    obtain ⟨xs, ys, us, q1, q2, q3, g1, g2, g3, hend⟩ := hg
    obtain ⟨t1, rv1, p1, _⟩ := Inv.sqk I q1
    have e1 := rv1.length
    obtain ⟨t2, rv2, p2, _⟩ := Inv.sqk I q2
    have e2 := rv2.length
    obtain ⟨t3, rv3, p3, _⟩ := Inv.sqk I q3
    have e3 := rv3.length
    have hh := I.ok.hd hc
    have D1 := drawsK (P := X.prog) (w := X.w) (A := X.A.in1) hh k1 i1 a n1 t1.toArray
    have D2 := drawsK (P := X.prog) (w := X.w) (A := X.A.in1) hh k2 i2 b n2 t2.toArray
    have D3 := drawsK (P := X.prog) (w := X.w) (A := X.A.in1) hh k3 i3 c n3 t3.toArray
    refine wpAny_pyNext_zipD3_end D D1 D2 D3 hz hTI hTO ⟨h1, p1⟩ ⟨h2, p2⟩ ⟨h3, p3⟩ (by simp only [List.size_toArray]; omega) (by simp only [List.size_toArray]; omega) (by simp only [List.size_toArray]; omega) (by simp only [List.size_toArray]; omega) fun h' tk hk => ⟨rfl, I.turnedL (ch := [z, TI, TO, i1, i2, i3]) (fun c o hb q => hk c o (fun q' => hb (by simp [q'])) (fun q' => hb (by simp [q'])) (fun q' => hb (by simp [q'])) (fun q' => hb (by simp [q'])) (fun q' => hb (by simp [q'])) q) hf⟩
  self := fun A i s Q E st h => wpAny_pyIter_zip st.1 h
def iZipG3 (K : PySem.W.Frag) (ta : TA) : TI := fun σ H R => ta σ H fun vs H1 => ∃ k1 k2 k3 a b c xs ys us, vs = [.ref a, .ref b, .ref c] ∧ SqK K k1 H1 a xs ∧ SqK K k2 H1 b ys ∧ SqK K k3 H1 c us ∧ R (ItzG3 K k1 k2 k3 a b c) H1
theorem pi_zipG3 {X : Cx} {e e2 e3 : Expr} {ta : TA} {p pos tpos : Pos} {elts : List Expr} {kk : Nat} (hg : Gl X "zip") (hm : X.mg "zip" = none) (ha : PA X [e, e2, e3] ta)
    (hs : starEach [e, e2, e3] X.env = (false, eval e X.env) :: starEach [e2, e3] X.env := by rfl) (hpl : (backTo pos (starEach [e2, e3] X.env)).any (·.1) = false := by rfl) :
    PI X (.Tuple elts kk tpos) (.Call (.Name "zip" p) [e, e2, e3] [] pos) (iZipG3 X.K ta) := by
  refine ⟨fun pins s σ H R I h => ?_⟩
  refine Call_ (ld_blt I hg hm PyProof.Rows.boot_zip (PyProof.Rows.callWith_type1 (thn (ha.run pos pins s σ H _ I h) fun us s1 ⟨vs, H1, I1, r1, q1⟩ => ?_) hs hpl))
  obtain ⟨k1, k2, k3, a, b, c, xs, ys, us, ex, q1, q2, q3, q⟩ := q1
  subst ex
  cases r1 with
  | cons r1' r1 =>
    cases r1 with
    | cons r2' r1 =>
      cases r1 with
      | cons r3' r1 =>
        cases r1
        cases r1'
        cases r2'
        cases r3'
        obtain ⟨t1, rv1, p1, lt1⟩ := Inv.sqk I1 q1
        obtain ⟨t2, rv2, p2, lt2⟩ := Inv.sqk I1 q2
        obtain ⟨t3, rv3, p3, lt3⟩ := Inv.sqk I1 q3
        refine zip_begins3 (beginsK k1 a t1.toArray) (beginsK k2 b t2.toArray) (beginsK k3 c t3.toArray) p1 p2 p3 fun h' hz hTI hTO b1 b2 b3 hsz hk => wpAny_pyIter_zip hz ?_
        have I2 : Inv X pins σ H1 { s1 with heap := h' } := I1.kept (t' := s1.toks) hk
        refine ⟨s1.heap.objs.size + 5, [s1.heap.objs.size + 5, s1.heap.objs.size + 3, s1.heap.objs.size + 4, s1.heap.objs.size, s1.heap.objs.size + 1, s1.heap.objs.size + 2], _, _, H1, rfl, I2, turn_zipG3 (zip_sep3 (fun x hx => by rw [List.mem_singleton.mp hx]; exact lt1) (fun x hx => by rw [List.mem_singleton.mp hx]; exact lt2) (fun x hx => by rw [List.mem_singleton.mp hx]; exact lt3)) (Nat.ne_of_lt (Nat.lt_of_lt_of_le lt1 (Nat.le_refl _))) (Nat.ne_of_lt (Nat.lt_of_lt_of_le lt2 (Nat.le_add_right _ _))) (Nat.ne_of_lt (Nat.lt_of_lt_of_le lt3 (Nat.le_add_right _ _))), ⟨hz, hTI, ⟨_, _, _, hTO⟩, itK_new b1, itK_new b2, itK_new b3⟩, fun d hcm => ?_, q⟩
        have e' : d = s1.heap.objs.size + 5 ∨ d = s1.heap.objs.size + 3 ∨ d = s1.heap.objs.size + 4 ∨ d = s1.heap.objs.size ∨ d = s1.heap.objs.size + 1 ∨ d = s1.heap.objs.size + 2 := by simpa using hcm
        have hle : s1.heap.objs.size ≤ d := by
          rcases e' with z | z | z | z | z | z
          · rw [z]; exact Nat.le_add_right _ _
          · rw [z]; exact Nat.le_add_right _ _
          · rw [z]; exact Nat.le_add_right _ _
          · rw [z]; exact Nat.le_refl _
          · rw [z]; exact Nat.le_add_right _ _
          · rw [z]; exact Nat.le_add_right _ _
        exact I1.fpOk hle (I1.hok.fresh hle)
/-! ### enumerate -/
set_option maxHeartbeats 4000000 in
theorem meets_enumerate_newB1 {v : Value} {o : Obj} {Hh : Heap → Prop} (B : Begins v o Hh) :
    Meets (Builtin.«enumerate.__new__» ⟨[.type "enumerate", v], []⟩) (fun _ R s => Hh s.heap ∧
      R (.ok (.ret (.ref (s.heap.push o).objs.size))) { s with heap := (s.heap.push o).push { cls := .type "enumerate", data := .fields #[.none, .bool false, .ref s.heap.objs.size, rawInt 0, .none, .none] } }) :=
  .of_wp fun prog w A R s h => by
    obtain ⟨hp, g, d, tk, os⟩ := s; obtain ⟨h1, h⟩ := h
    have hsub := sub_enumerate
    have q1 : ∀ {A' : Around} {E : Value → Shared → Prop} {Q : Value → Shared → Prop}, Q (.ref hp.objs.size) ⟨hp.push o, g, d, tk, os⟩ → wpAny (model prog w) A' (pyIter v) Q E ⟨hp, g, d, tk, os⟩ :=
      fun q => B.iter prog w _ _ ⟨hp, g, d, tk, os⟩ _ h1 q
    wp_walk using q1
    refine wpAny_stack_any fun st => wpAny_pure ?_
    split
    · rename_i c _ _ _ _ _
      cases (c == Value.type "enumerate")
      · wp_walk using q1
        exact ⟨_, rfl, h⟩
      · wp_walk using q1
        exact ⟨_, rfl, h⟩
    · wp_walk using q1
      exact ⟨_, rfl, h⟩
theorem call_enumG {prog : Program} {w : World} {A : Around} {E : Value → Shared → Prop} {s : Shared} {v : Value} {o : Obj} {Hh : Heap → Prop} {Q : Value → Shared → Prop} (B : Begins v o Hh) (h1 : Hh s.heap)
    (h : ∀ h', IsEnum h' (s.heap.objs.size + 1) s.heap.objs.size 0 .none → h'.get? s.heap.objs.size = some o → h'.objs.size = s.heap.objs.size + 2 →
      (∀ b o, s.heap.get? b = some o → h'.get? b = some o) → Q (.ref (s.heap.objs.size + 1)) { s with heap := h' }) :
    wpAny (model prog w) A (call (.type "enumerate") [v]) Q E s := by
  refine callType_new F.called_enumerate (by decide) (F.typeCall_enumerate_1 _) (F.newCall_enumerate_1 _) (fun obj => F.args_object_init_2 obj _) F.entry_enumerate_new
    (meets_enumerate_newB1 B) ⟨h1, ?_⟩
  have hz : (s.heap.push o).objs.size = s.heap.objs.size + 1 := Heap.size_push ..
  show _ ∧ _
  rw [hz]
  have he : IsEnum ((s.heap.push o).push { cls := .type "enumerate", data := .fields #[.none, .bool false, .ref s.heap.objs.size, rawInt 0, .none, .none] }) (s.heap.objs.size + 1) s.heap.objs.size 0 .none := by
    have := Heap.get?_push_size (s.heap.push o) (o := { cls := .type "enumerate", data := .fields #[.none, .bool false, .ref s.heap.objs.size, rawInt 0, .none, .none] }) rfl
    rw [hz] at this; exact this
  refine ⟨⟨_, he, rfl⟩, h _ he (Heap.get?_push_of_some _ (Heap.get?_push_size _ B.free)) (by rw [Heap.size_push, hz]) fun b o x => Heap.get?_push_of_some _ (Heap.get?_push_of_some _ x)⟩
def IteG (K : PySem.W.Frag) (k : Bool) (a : Addr) : It :=
  ⟨fun i H => ∃ (xs : List V) (x : V), SqK K k H a xs ∧ xs[i]? = some x, fun i H v H' => ∃ T x, v = .ref T ∧ H T = none ∧ H' = upd H T (.tup [.int (i : Nat), x]) ∧ ∀ xs, SqK K k H a xs → xs[i]? = some x, fun i H => ∃ xs : List V, SqK K k H a xs ∧ xs.length = i⟩
theorem turn_enumG {P : Program} {w : World} {K : PySem.W.Frag} {elts : List Expr} {kk : Nat} {tpos : Pos} (k : Bool) (a e it : Addr) (na : a ≠ it) (ea : e ≠ a) :
    Turn P w K (.Tuple elts kk tpos) (IteG K k a) [e, it] e (fun i h => (∃ old, IsEnum h e it ((i : Nat) : Int) old) ∧ ItK k h it a i ∧ e ≠ it) where
  mem := by simp
  obj := fun i h st b hb => by
    obtain ⟨⟨old, he⟩, hi, _⟩ := st
    have e' : b = e ∨ b = it := by simpa using hb
    rcases e' with z | z
    · rw [z]; exact ⟨_, he, fun v q => nomatch q⟩
    · rw [z]; exact itK_obj hi
  keep := fun i h h' st k => let ⟨⟨old, he⟩, hi, hne⟩ := st; ⟨⟨old, k e (by simp) _ he⟩, itK_keep hi fun o q => k it (by simp) o q, hne⟩
  item := by
    intro X hP hw hK hc i pins s σ H E I hf st hg
    subst hP hw hK
    obtain ⟨⟨old, he⟩, hit, hne⟩ := st
    obtain ⟨xs, x, hq, hx⟩ := hg
    obtain ⟨its, rv, p, _⟩ := Inv.sqk I hq
    obtain ⟨u, hu, ru⟩ := rv.get hx
    have hel : e < s.heap.objs.size := Heap.lt_size he
    have hil : it < s.heap.objs.size := by obtain ⟨_, q, _⟩ := itK_obj hit; exact Heap.lt_size q
    have D := drawsK (P := X.prog) (w := X.w) (A := X.A.in1) (I.ok.hd hc) k it a na its.toArray
    have lt : i < its.toArray.size := by obtain ⟨z, _⟩ := List.getElem?_eq_some_iff.mp hu; simpa using z
    refine wpAny_pyNext_enum_itemC D he ⟨hit, p⟩ lt hne (by simp [hne, ea]) fun y h' tk hy ho hst' hT hsz hk => ?_
    have ey : y = u := by rw [show its.toArray[i]? = its[i]? by simp, hu] at hy; injection hy with hy; exact hy.symm
    subst ey
    refine ⟨_, rfl, wpAny_letOwnedTupleGo_enum (s := { s with heap := h', toks := tk + 1 }) ho fun h'' he' sb => ?_⟩
    have hT2 : h''.get? s.heap.objs.size = some { cls := .type "tuple", data := .seq #[.int i tk, y] } := (sb.2 _ (Nat.ne_of_gt hel)).trans hT
    have new : ObjOk X.prog X.w (upd H s.heap.objs.size (.tup [.int (i : Nat), x])) h'' s.heap.objs.size (.tup [.int (i : Nat), x]) :=
      ⟨by show 2 ≤ sizeLine; decide, [.int i tk, y], .cons ⟨_, rfl⟩ (.cons ru .nil), ⟨_, hT2, rfl, _, rfl⟩⟩
    have I1 : Inv X pins σ (upd H s.heap.objs.size (.tup [.int (i : Nat), x])) { s with heap := h'', toks := tk + 1 } :=
      I.turnedNew (ch := [e, it]) (fun b ob hb q => (sb.2 b (fun z => hb (by simp [z]))).trans (hk b ob (fun z => hb (by simp [z])) (fun z => hb (by simp [z])) q)) hf (Nat.le_refl _) new
    refine ⟨.ref s.heap.objs.size, _, I1, rfl, ⟨_, x, rfl, I.hok.fresh (Nat.le_refl _), rfl, fun ys hy => by rw [Inv.sqk_inj I hy hq]; exact hx⟩, ⟨⟨y, ?_⟩, itK_keep hst'.1 fun o q => (sb.2 it (Ne.symm hne)).trans q, hne⟩, fun b hb => ?_⟩
    · have e1 : ((i + 1 : Nat) : Int) = (i : Int) + 1 := by omega
      rw [e1]; exact he'
    · have hb' : b < s.heap.objs.size := by
        have e' : b = e ∨ b = it := by simpa using hb
        rcases e' with z | z
        · rw [z]; exact hel
        · rw [z]; exact hil
      rw [upd_ne (Nat.ne_of_lt hb')]
      exact (hf b hb).1
  done := by
    intro X hP hw hK hc i pins s σ H E I hf st hg
    subst hP hw hK
    obtain ⟨⟨old, he⟩, hit, hne⟩ := st
    obtain ⟨xs, hq, hx⟩ := hg
    obtain ⟨its, rv, p, _⟩ := Inv.sqk I hq
    have hl := rv.length
    have D := drawsK (P := X.prog) (w := X.w) (A := X.A.in1) (I.ok.hd hc) k it a na its.toArray
    have en : i = its.toArray.size := by simp only [List.size_toArray]; omega
    subst en
    exact wpAny_pyNext_enum_endD D he ⟨hit, p⟩ fun h' eb => ⟨rfl, I.turnedL (t' := s.toks) (ch := [e, it]) (fun b o hb q => eb b o (fun z => hb (by simp [z])) q) hf⟩
  self := fun A i s Q E st h => let ⟨⟨_, he⟩, _⟩ := st; wpAny_pyIter_enum he h
def iEnumG (K : PySem.W.Frag) (ta : TA) : TI := fun σ H R => ta σ H fun vs H1 => ∃ k a xs, vs = [.ref a] ∧ SqK K k H1 a xs ∧ R (IteG K k a) H1
theorem pi_enumG {X : Cx} {e : Expr} {ta : TA} {p pos tpos : Pos} {elts : List Expr} {kk : Nat} (hg : Gl X "enumerate") (hm : X.mg "enumerate" = none) (ha : PA X [e] ta) (hs : starEach [e] X.env = [(false, eval e X.env)] := by rfl) :
    PI X (.Tuple elts kk tpos) (.Call (.Name "enumerate" p) [e] [] pos) (iEnumG X.K ta) := by
  refine ⟨fun pins s σ H R I h => ?_⟩
  refine Call_ (ld_blt I hg hm boot_enumerate (PyProof.Rows.callWith_type1 (thn (ha.run pos pins s σ H _ I h) fun us s1 ⟨vs, H1, I1, r1, q1⟩ => ?_) hs rfl))
  obtain ⟨k, a, xs, ex, hq, q⟩ := q1
  subst ex
  cases r1 with
  | cons r rr =>
    cases rr
    cases r
    obtain ⟨its, rv, p', lt⟩ := Inv.sqk I1 hq
    refine call_enumG (beginsK k a its.toArray) p' fun h' he hit hsz hk => wpAny_pyIter_enum he ?_
    have I2 : Inv X pins σ H1 { s1 with heap := h' } := I1.kept (t' := s1.toks) hk
    refine ⟨s1.heap.objs.size + 1, [s1.heap.objs.size + 1, s1.heap.objs.size], _, _, H1, rfl, I2, turn_enumG k a (s1.heap.objs.size + 1) s1.heap.objs.size (Nat.ne_of_lt lt) (Nat.ne_of_gt (Nat.lt_of_lt_of_le lt (Nat.le_add_right _ _))), ⟨⟨.none, he⟩, itK_new hit, Nat.succ_ne_self _⟩, fun b hb => ?_, q⟩
    have e' : b = s1.heap.objs.size + 1 ∨ b = s1.heap.objs.size := by simpa using hb
    have hle : s1.heap.objs.size ≤ b := by
      rcases e' with z | z
      · rw [z]; exact Nat.le_add_right _ _
      · rw [z]; exact Nat.le_refl _
    exact I1.fpOk hle (I1.hok.fresh hle)
/-! ### the readings -/
/-- a sequence that stays as it is from here on -/
theorem seqOf_ex {K : PySem.W.Frag} {Z : Zp} {G : Gp} {H : Hp} {w : W} {v : V} {R : List W → Gp → Prop} (h : HRel K Z G H) (r : Rw K Z H w v) (t : seqOf w G R) :
    ∃ k a ws vs Z' G', v = .ref a ∧ HRel K Z' G' H ∧ Ext Z G H Z' G' H ∧ RwL K Z' H ws vs ∧ (∀ Z2 G2 H2, Ext Z' G' H Z2 G2 H2 → SqK K k H2 a vs) ∧ R ws G' := by
  cases r with
  | tup s r => exact ⟨false, _, _, _, Z, G, rfl, h, Ext.refl, r, fun Z2 G2 H2 x => SqT.ext h x s, t⟩
  | lst z s r => exact ⟨true, _, _, _, Z, G, rfl, h, Ext.refl, r, fun Z2 G2 H2 x => SqL.of (x.f _ _ s (h.z _ z).1).1, t⟩
  | scr s r => exact ⟨true, _, _, _, Z, G, rfl, h, Ext.refl, r, fun Z2 G2 H2 x => (s.ext h x).sq, t⟩
  | @ref p =>
    obtain ⟨ws, g, q⟩ := isG_ex t
    obtain ⟨vs, s, r⟩ := h.lst g
    obtain ⟨h2, x2⟩ := h.freeze (p := p) (by rw [g]; simp)
    exact ⟨true, p, ws, vs, _, _, rfl, h2, x2, r.ext h x2, fun Z2 G2 H2 x => SqL.of (x.f _ _ s gdel_same).1, q⟩
  | _ => exact False.elim t
def tup3 (x y z : W) : W := .tup [x, y, z]
def zip3W : List W → List W → List W → List W
  | x :: xs, y :: ys, z :: zs => tup3 x y z :: zip3W xs ys zs
  | _, _, _ => []
theorem zip3_get : ∀ (xs ys zs : List W) (i : Nat) {x y z : W}, xs[i]? = some x → ys[i]? = some y → zs[i]? = some z → (zip3W xs ys zs)[i]? = some (tup3 x y z)
  | x :: xs, y :: ys, z :: zs, 0, _, _, _, e1, e2, e3 => by simp at e1 e2 e3; subst e1 e2 e3; rfl
  | x :: xs, y :: ys, z :: zs, i + 1, _, _, _, e1, e2, e3 => by
    simp at e1 e2 e3
    show (zip3W xs ys zs)[i]? = _
    exact zip3_get xs ys zs i e1 e2 e3
  | [], _, _, _, _, _, _, e1, _, _ => by simp at e1
  | _ :: _, [], _, _, _, _, _, _, e2, _ => by simp at e2
  | _ :: _, _ :: _, [], _, _, _, _, _, _, e3 => by simp at e3
theorem zip3_len : ∀ (xs ys zs : List W), (zip3W xs ys zs).length = min (min xs.length ys.length) zs.length
  | x :: xs, y :: ys, z :: zs => by
    show (zip3W xs ys zs).length + 1 = _
    rw [zip3_len xs ys zs]
    simp only [List.length_cons]; omega
  | [], _, _ => by simp [zip3W]
  | _ :: _, [], _ => by simp [zip3W]
  | _ :: _, _ :: _, [] => by simp [zip3W]
section
variable {K : PySem.W.Frag} {k k1 k2 k3 : Bool} {a b c : Addr} {Z : Zp} {G : Gp} {H : Hp} {ws us ts : List W} {vs xs ys : List V}
theorem walkZ2 (h : HRel K Z G H) (s1 : ∀ Z2 G2 H2, Ext Z G H Z2 G2 H2 → SqK K k1 H2 a vs) (s2 : ∀ Z2 G2 H2, Ext Z G H Z2 G2 H2 → SqK K k2 H2 b xs) (r1 : RwL K Z H ws vs) (r2 : RwL K Z H us xs) : WalkW K (ItzG K k1 k2 a b) Z G H (ws.zipWith tup2 us) := by
  refine ⟨fun H => SqK K k1 H a vs ∧ SqK K k2 H b xs, YPair (fun i => vs[i]?) (fun i => xs[i]?), ⟨fun i H hi q => ?_, fun H q => ⟨vs, xs, q.1, q.2, ?_, ?_, ?_⟩, fun i H v H' hi q y => ?_⟩, fun Z' G' H' x h' => ⟨⟨s1 _ _ _ x, s2 _ _ _ x⟩, fun i v H'' hi y => ?_⟩⟩
  · rw [List.length_zipWith, r1.length, r2.length] at hi
    exact ⟨vs, xs, _, _, q.1, q.2, List.getElem?_eq_getElem (by omega), List.getElem?_eq_getElem (by omega)⟩
  · rw [List.length_zipWith, r1.length, r2.length]; omega
  · rw [List.length_zipWith, r1.length, r2.length]; omega
  · rw [List.length_zipWith, r1.length, r2.length]; omega
  · obtain ⟨T, x, z, e1, e2, e3, f1, f2⟩ := y
    exact ⟨T, x, z, e1, e2, e3, f1 vs q.1, f2 xs q.2⟩
  · obtain ⟨T, p, q, rfl, nT, rfl, e1, e2⟩ := y
    obtain ⟨w, ew, rw'⟩ := (r1.ext h x).get' i e1
    obtain ⟨u, eu, ru⟩ := (r2.ext h x).get' i e2
    obtain ⟨h2, x2, r3⟩ := new_tup h' nT (.cons rw' (.cons ru .nil))
    exact ⟨tup2 w u, by rw [List.getElem?_zipWith, ew, eu], r3, x2, h2⟩
theorem walkZ3 (h : HRel K Z G H) (s1 : ∀ Z2 G2 H2, Ext Z G H Z2 G2 H2 → SqK K k1 H2 a vs) (s2 : ∀ Z2 G2 H2, Ext Z G H Z2 G2 H2 → SqK K k2 H2 b xs) (s3 : ∀ Z2 G2 H2, Ext Z G H Z2 G2 H2 → SqK K k3 H2 c ys) (r1 : RwL K Z H ws vs) (r2 : RwL K Z H us xs) (r3 : RwL K Z H ts ys) : WalkW K (ItzG3 K k1 k2 k3 a b c) Z G H (zip3W ws us ts) := by
  refine ⟨fun H => SqK K k1 H a vs ∧ SqK K k2 H b xs ∧ SqK K k3 H c ys, fun i H v H' => ∃ T x y z, v = .ref T ∧ H T = none ∧ H' = upd H T (.tup [x, y, z]) ∧ vs[i]? = some x ∧ xs[i]? = some y ∧ ys[i]? = some z, ⟨fun i H hi q => ?_, fun H q => ⟨vs, xs, ys, q.1, q.2.1, q.2.2, ?_, ?_, ?_, ?_⟩, fun i H v H' hi q y => ?_⟩, fun Z' G' H' x h' => ⟨⟨s1 _ _ _ x, s2 _ _ _ x, s3 _ _ _ x⟩, fun i v H'' hi y => ?_⟩⟩
  · rw [zip3_len, r1.length, r2.length, r3.length] at hi
    exact ⟨vs, xs, ys, _, _, _, q.1, q.2.1, q.2.2, List.getElem?_eq_getElem (by omega), List.getElem?_eq_getElem (by omega), List.getElem?_eq_getElem (by omega)⟩
  · rw [zip3_len, r1.length, r2.length, r3.length]; omega
  · rw [zip3_len, r1.length, r2.length, r3.length]; omega
  · rw [zip3_len, r1.length, r2.length, r3.length]; omega
  · rw [zip3_len, r1.length, r2.length, r3.length]; omega
  · obtain ⟨T, x, z, t, e1, e2, e3, f1, f2, f3⟩ := y
    exact ⟨T, x, z, t, e1, e2, e3, f1 vs q.1, f2 xs q.2.1, f3 ys q.2.2⟩
  · obtain ⟨T, p, q, r, rfl, nT, rfl, e1, e2, e3⟩ := y
    obtain ⟨w, ew, rw'⟩ := (r1.ext h x).get' i e1
    obtain ⟨u, eu, ru⟩ := (r2.ext h x).get' i e2
    obtain ⟨t, et, rt⟩ := (r3.ext h x).get' i e3
    obtain ⟨h2, x2, r3⟩ := new_tup h' nT (.cons rw' (.cons ru (.cons rt .nil)))
    exact ⟨tup3 w u t, zip3_get _ _ _ i ew eu et, r3, x2, h2⟩
theorem walkEG (h : HRel K Z G H) (s1 : ∀ Z2 G2 H2, Ext Z G H Z2 G2 H2 → SqK K k H2 a vs) (r : RwL K Z H ws vs) : WalkW K (IteG K k a) Z G H (enumFrom 0 ws) := by
  refine ⟨fun H => SqK K k H a vs, fun i H v H' => ∃ T x, v = .ref T ∧ H T = none ∧ H' = upd H T (.tup [.int (i : Nat), x]) ∧ vs[i]? = some x, ⟨fun i H hi q => ?_, fun H q => ⟨vs, q, ?_⟩, fun i H v H' hi q y => ?_⟩, fun Z' G' H' x h' => ⟨s1 _ _ _ x, fun i v H'' hi y => ?_⟩⟩
  · rw [enum_len, r.length] at hi
    exact ⟨vs, _, q, List.getElem?_eq_getElem hi⟩
  · rw [enum_len, r.length]
  · obtain ⟨T, x, e1, e2, e3, f1⟩ := y
    exact ⟨T, x, e1, e2, e3, f1 vs q⟩
  · obtain ⟨T, p, rfl, nT, rfl, e1⟩ := y
    obtain ⟨w, ew, rw'⟩ := (r.ext h x).get' i e1
    obtain ⟨h2, x2, r3⟩ := new_tup h' nT (.cons .int (.cons rw' .nil))
    exact ⟨tup2 (.int (i : Nat)) w, by rw [enum_get, ew]; simp, r3, x2, h2⟩
end
def zipG2 (ws : List W) (G : Gp) (R : List W → Gp → Prop) : Prop := match ws with
  | [a, b] => seqOf a G fun xs G1 => seqOf b G1 fun ys G2 => R (xs.zipWith tup2 ys) G2
  | _ => False
def zipG3 (ws : List W) (G : Gp) (R : List W → Gp → Prop) : Prop := match ws with
  | [a, b, c] => seqOf a G fun xs G1 => seqOf b G1 fun ys G2 => seqOf c G2 fun zs G3 => R (zip3W xs ys zs) G3
  | _ => False
def enumG (ws : List W) (G : Gp) (R : List W → Gp → Prop) : Prop := match ws with
  | [a] => seqOf a G fun xs G1 => R (enumFrom 0 xs) G1
  | _ => False
def i_zipG2 (ta : TAw) : TIw := fun σ G R => ta σ G fun ws G1 => zipG2 ws G1 R
def i_zipG3 (ta : TAw) : TIw := fun σ G R => ta σ G fun ws G1 => zipG3 ws G1 R
def i_enumG (ta : TAw) : TIw := fun σ G R => ta σ G fun ws G1 => enumG ws G1 R
theorem zipG2_eq {a b : W} {G : Gp} {R : List W → Gp → Prop} : zipG2 [a, b] G R = seqOf a G fun xs G1 => seqOf b G1 fun ys G2 => R (xs.zipWith tup2 ys) G2 := rfl
theorem zipG3_eq {a b c : W} {G : Gp} {R : List W → Gp → Prop} : zipG3 [a, b, c] G R = seqOf a G fun xs G1 => seqOf b G1 fun ys G2 => seqOf c G2 fun zs G3 => R (zip3W xs ys zs) G3 := rfl
theorem enumG_eq {a : W} {G : Gp} {R : List W → Gp → Prop} : enumG [a] G R = seqOf a G fun xs G1 => R (enumFrom 0 xs) G1 := rfl
section
variable {X : Cx} {K : PySem.W.Frag} {ta : TAw} {p pos tpos : Pos} {elts : List Expr} {kk : Nat}
theorem qizipG2 {e e2 : Expr} (hg : Gl X "zip") (hm : X.mg "zip" = none) (ha : PAw X [e, e2] ta)
    (hs : starEach [e, e2] X.env = (false, eval e X.env) :: starEach [e2] X.env := by rfl) (hpl : (backTo pos (starEach [e2] X.env)).any (·.1) = false := by rfl) :
    PIw X (.Tuple elts kk tpos) (.Call (.Name "zip" p) [e, e2] [] pos) (i_zipG2 ta) := PI.imp (pi_zipG hg hm ha hs hpl) fun σ H R h => by
  obtain ⟨Z, σ', G, Qw, ev, hr, t, k⟩ := h
  refine ⟨Z, σ', G, _, ev, hr, t, fun Z1 G1 H1 ws vs x1 h1 r1 t1 => ?_⟩
  cases r1 with
  | nil => exact False.elim t1
  | cons ra rr =>
    cases rr with
    | nil => exact False.elim t1
    | cons rb rr =>
      cases rr with
      | cons _ _ => exact False.elim t1
      | nil =>
        rw [zipG2_eq] at t1
        obtain ⟨k1, a, xs, vs, Z2, G2, rfl, h2, x2, q1, s1, t2⟩ := seqOf_ex h1 ra t1
        obtain ⟨k2, b, ys, us, Z3, G3, rfl, h3, x3, q2, s2, t3⟩ := seqOf_ex h2 (rb.ext h1 x2) t2
        have s1' : ∀ Z4 G4 H4, Ext Z3 G3 H1 Z4 G4 H4 → SqK X.K k1 H4 a vs := fun Z4 G4 H4 x => s1 _ _ _ (x3.trans x)
        exact ⟨k1, k2, a, b, _, _, rfl, s1' _ _ _ Ext.refl, s2 _ _ _ Ext.refl, k Z3 G3 H1 _ _ ((x1.trans x2).trans x3) h3 (walkZ2 h3 s1' s2 (q1.ext h2 x3) q2) t3⟩
theorem qizipG3 {e e2 e3 : Expr} (hg : Gl X "zip") (hm : X.mg "zip" = none) (ha : PAw X [e, e2, e3] ta)
    (hs : starEach [e, e2, e3] X.env = (false, eval e X.env) :: starEach [e2, e3] X.env := by rfl) (hpl : (backTo pos (starEach [e2, e3] X.env)).any (·.1) = false := by rfl) :
    PIw X (.Tuple elts kk tpos) (.Call (.Name "zip" p) [e, e2, e3] [] pos) (i_zipG3 ta) := PI.imp (pi_zipG3 hg hm ha hs hpl) fun σ H R h => by
  obtain ⟨Z, σ', G, Qw, ev, hr, t, k⟩ := h
  refine ⟨Z, σ', G, _, ev, hr, t, fun Z1 G1 H1 ws vs x1 h1 r1 t1 => ?_⟩
  cases r1 with
  | nil => exact False.elim t1
  | cons ra rr =>
    cases rr with
    | nil => exact False.elim t1
    | cons rb rr =>
      cases rr with
      | nil => exact False.elim t1
      | cons rc rr =>
        cases rr with
        | cons _ _ => exact False.elim t1
        | nil =>
          rw [zipG3_eq] at t1
          obtain ⟨k1, a, xs, vs, Z2, G2, rfl, h2, x2, q1, s1, t2⟩ := seqOf_ex h1 ra t1
          obtain ⟨k2, b, ys, us, Z3, G3, rfl, h3, x3, q2, s2, t3⟩ := seqOf_ex h2 (rb.ext h1 x2) t2
          obtain ⟨k3, c, zs, ts, Z4, G4, rfl, h4, x4, q3, s3, t4⟩ := seqOf_ex h3 ((rc.ext h1 x2).ext h2 x3) t3
          have s1' : ∀ Z5 G5 H5, Ext Z4 G4 H1 Z5 G5 H5 → SqK X.K k1 H5 a vs := fun Z5 G5 H5 x => s1 _ _ _ ((x3.trans x4).trans x)
          have s2' : ∀ Z5 G5 H5, Ext Z4 G4 H1 Z5 G5 H5 → SqK X.K k2 H5 b us := fun Z5 G5 H5 x => s2 _ _ _ (x4.trans x)
          exact ⟨k1, k2, k3, a, b, c, _, _, _, rfl, s1' _ _ _ Ext.refl, s2' _ _ _ Ext.refl, s3 _ _ _ Ext.refl, k Z4 G4 H1 _ _ (((x1.trans x2).trans x3).trans x4) h4 (walkZ3 h4 s1' s2' s3 ((q1.ext h2 x3).ext h3 x4) (q2.ext h3 x4) q3) t4⟩
theorem qienumG {e : Expr} (hg : Gl X "enumerate") (hm : X.mg "enumerate" = none) (ha : PAw X [e] ta) (hs : starEach [e] X.env = [(false, eval e X.env)] := by rfl) :
    PIw X (.Tuple elts kk tpos) (.Call (.Name "enumerate" p) [e] [] pos) (i_enumG ta) := PI.imp (pi_enumG hg hm ha hs) fun σ H R h => by
  obtain ⟨Z, σ', G, Qw, ev, hr, t, k⟩ := h
  refine ⟨Z, σ', G, _, ev, hr, t, fun Z1 G1 H1 ws vs x1 h1 r1 t1 => ?_⟩
  cases r1 with
  | nil => exact False.elim t1
  | cons ra rr =>
    cases rr with
    | cons _ _ => exact False.elim t1
    | nil =>
      rw [enumG_eq] at t1
      obtain ⟨k1, a, xs, vs, Z2, G2, rfl, h2, x2, q1, s1, t2⟩ := seqOf_ex h1 ra t1
      exact ⟨k1, a, _, rfl, s1 _ _ _ Ext.refl, k Z2 G2 H1 _ _ (x1.trans x2) h2 (walkEG h2 s1 q1) t2⟩
end
end WL

/-! sorted and < of data. -/
namespace WL
open PySem PySem.Spec PyProof.Rows L2
/-- the order of data -/
def leW (a b : W) : Bool := !PySem.W.dataLt (wdat b) (wdat a)
section
variable {X : Cx} {K : PySem.W.Frag}
theorem readsEach {X : Cx} {pins : List (Addr × Obj)} {σ : L2.St} {H : Hp} {s : Shared} (I : Inv X pins σ H s) : ∀ {xs : List V} {ds : List PyData} {its : List Value}, DpAll X.K H xs ds → Vals xs its → PySem.W.EachIs (fun v d => ∃ as, Reads s.heap v d as) its ds
  | _, _, _, .nil, .nil => .nil
  | _, _, _, .cons d dd, .cons r rr => .cons (Dp.reads I _ _ _ d r) (readsEach I dd rr)
def rSortedD (K : PySem.W.Frag) : List V → Hp → VK → Prop := fun vs H Q => ∃ (a : Addr) (xs : List V) (ds : List PyData), vs = [V.ref a] ∧ SqL K H a xs ∧ DpAll K H xs ds ∧ PySem.W.AllAlike ds ∧ PySem.W.Sortable ds ∧ (∀ d ∈ ds, d.depth ≤ 60) ∧
  ∀ p, H p = none → Q (.ref p) (upd H p (.lst (((xs.zip ds).mergeSort fun a b => !PySem.W.dataLt b.2 a.2).map Prod.fst)))
theorem vals_fst {R : V × PyData → Prop} : ∀ {vs : List Value} {bs : List (V × PyData)}, PySem.W.EachIs (fun v (b : V × PyData) => RelV b.1 v) vs bs → Vals (bs.map Prod.fst) vs
  | _, _, .nil => .nil
  | _, _, .cons r t => .cons r (vals_fst (R := R) t)
theorem each_zip : ∀ {xs : List V} {ds : List PyData} {vs : List Value}, Vals xs vs → xs.length = ds.length → PySem.W.EachIs (fun v (b : V × PyData) => RelV b.1 v) vs (xs.zip ds)
  | [], [], _, .nil, _ => .nil
  | _ :: _, d :: ds, _, .cons r t, e => .cons r (each_zip t (by simpa using e))
  | _ :: _, [], _, .cons _ _, e => by simp at e
theorem each_key {h : Heap} {ds0 : List PyData} (hal : PySem.W.AllAlike ds0) : ∀ {xs : List V} {ds : List PyData} {vs : List Value}, PySem.W.EachIs (fun v d => ∃ as, Reads h v d as) vs ds → xs.length = ds.length → (∀ d ∈ ds, d ∈ ds0) → PySem.W.EachIs (fun v (b : V × PyData) => (PySem.W.dataKind h ds0).keyOf v = some (PySem.W.keyToks b.2)) vs (xs.zip ds)
  | [], _, _, .nil, _, _ => .nil
  | _ :: _, _, _, .nil, e, _ => by simp at e
  | _ :: xs, _, _, .cons ⟨as, r⟩ t, e, hm => .cons (PySem.W.dataKind_some hal (hm _ (.head _)) r) (each_key hal t (by simpa using e) fun d hd => hm d (.tail _ hd))
  | [], _, _, .cons _ _, e, _ => by simp at e
theorem dp_len {H : Hp} : ∀ {xs : List V} {ds : List PyData}, DpAll K H xs ds → xs.length = ds.length
  | _, _, .nil => rfl
  | _, _, .cons _ t => by rw [List.length_cons, List.length_cons, dp_len t]
theorem cr_sortedD (hu : X.A.units + 64 < cLine) : CallR X (.builtin "sorted") (rSortedD X.K) := by
  intro pins s σ H vs us Q I r h
  obtain ⟨a, xs, ds, rfl, hs, dd, hal, hso, hd, q⟩ := h
  obtain ⟨its, rv, hl, hz⟩ := I.list hs
  rw [Vals.ref1 r]
  have ll := dp_len dd
  have lv := rv.length
  have re := readsEach I dd rv
  have re' : PySem.W.EachIs (fun v d => ∃ as, Reads (PySem.W.sortingHeap (PySem.W.copyHeap s.heap its) (s.heap.objs.size + 1) its) v d as) its ds := re.mono fun v d ⟨as, r⟩ => ⟨as, Reads.keeps (fun b o e => PySem.W.sorting_copy_old e) r⟩
  have SA := PySem.W.SortsAt.data (prog := X.prog) (w := X.w) (A := X.A.in1.in1) (s := { s with heap := PySem.W.sortingHeap (PySem.W.copyHeap s.heap its) (s.heap.objs.size + 1) its }) re' hal hso fun d hm => by
    have := hd d hm
    show X.A.units + 2 + d.depth < cLine
    omega
  refine PySem.W.sorted_vals hl.isList SA (by rw [← lv]; exact hz) ?_
  have ev := PySem.W.sortVals_each (κ := PySem.W.dataKind (PySem.W.sortingHeap (PySem.W.copyHeap s.heap its) (s.heap.objs.size + 1) its) ds) (rev := false) (k := fun b : V × PyData => PySem.W.keyToks b.2) (each_zip (ds := ds) rv ll) (each_key (xs := xs) hal re' ll fun d hd => hd)
  have vv := vals_fst (R := fun _ => True) ev
  obtain ⟨ep, he'⟩ := PyProof.Rows.sortedAll_at s.heap its (PySem.W.sortVals (PySem.W.dataKind (PySem.W.sortingHeap (PySem.W.copyHeap s.heap its) (s.heap.objs.size + 1) its) ds) false its its).toArray
  have hlen : (((xs.zip ds).mergeSort fun a b => !PySem.W.dataLt b.2 a.2).map Prod.fst).length ≤ sizeLine := by
    rw [List.length_map, List.length_mergeSort, List.length_zip]
    omega
  refine ⟨.ref _, upd H (s.heap.objs.size + 1) (.lst (((xs.zip ds).mergeSort fun a b => !PySem.W.dataLt b.2 a.2).map Prod.fst)), I.laid (t' := s.toks) (fun _ _ => PyProof.Rows.sortedAll_old) (Nat.le_succ _) ⟨hlen, _, ep, ?_, he'⟩, rfl, q _ (I.hok.fresh (Nat.le_succ _))⟩
  exact vv
end
/-! ### sorted -/
def wSortO (x : W) (G : Gp) (R : List W → Prop) : Prop := isS (asL G x) fun us => wpures us = true ∧ PySem.W.AllAlike (wdats us) ∧ PySem.W.Sortable (wdats us) ∧ (∀ d ∈ wdats us, d.depth ≤ 60) ∧ R (us.mergeSort leW)
def wSorted : List W → Gp → QW → Prop := fun ws G Q => match ws with
  | [x] => wSortO x G fun us => Q (.lst us) G
  | _ => False
def wSortedM : List W → Gp → QW → Prop := fun ws G Q => match ws with
  | [x] => wSortO x G fun us => ∀ p, G p = none → Q (.ref p) (gup G p (.lst us))
  | _ => False
theorem wSorted_eq {x : W} {G : Gp} {Q : QW} : wSorted [x] G Q = wSortO x G fun us => Q (.lst us) G := rfl
theorem wSortedM_eq {x : W} {G : Gp} {Q : QW} : wSortedM [x] G Q = wSortO x G fun us => ∀ p, G p = none → Q (.ref p) (gup G p (.lst us)) := rfl
section
variable {K : PySem.W.Frag} {Z : Zp} {G : Gp} {H : Hp}
theorem each_W : ∀ {us : List W} {xs : List V}, RwL K Z H us xs → PySem.W.EachIs (fun w (b : V × PyData) => Rw K Z H w b.1 ∧ b.2 = wdat w) us (xs.zip (wdats us))
  | _, _, .nil => .nil
  | _, _, .cons r t => .cons ⟨r, rfl⟩ (each_W t)
theorem each_RwL : ∀ {us : List W} {bs : List (V × PyData)}, PySem.W.EachIs (fun w (b : V × PyData) => Rw K Z H w b.1 ∧ b.2 = wdat w) us bs → RwL K Z H us (bs.map Prod.fst)
  | _, _, .nil => .nil
  | _, _, .cons r t => .cons r.1 (each_RwL t)
theorem sort_RwL {us : List W} {xs : List V} (r : RwL K Z H us xs) : RwL K Z H (us.mergeSort leW) (((xs.zip (wdats us)).mergeSort fun a b => !PySem.W.dataLt b.2 a.2).map Prod.fst) := by
  have e := each_W r
  refine each_RwL (PySem.W.sort_each e fun p hp q hq => ?_)
  have h1 := (e.zip p hp).2
  have h2 := (e.zip q hq).2
  unfold leW
  rw [h1, h2]
theorem sim_sorted : SimN K (rSortedD K) wSorted := by
  intro Z G H ws vs Qw Q h r t k
  cases r with
  | nil => exact False.elim t
  | cons rx rr =>
    cases rr with
    | cons _ _ => exact False.elim t
    | nil =>
      obtain ⟨us, e, h1, h2, h3, h4, q⟩ := isS_ex t
      obtain ⟨p, vs, rfl, s, r⟩ := asL_sq h rx e
      refine ⟨p, vs, wdats us, rfl, s, r.dp h1, h2, h3, h4, fun l n => ?_⟩
      obtain ⟨h5, x5, r5⟩ := new_frz h n (sort_RwL r)
      exact k _ _ _ _ _ x5 h5 r5 q
theorem sim_sortedM : SimN K (rSortedD K) wSortedM := by
  intro Z G H ws vs Qw Q h r t k
  cases r with
  | nil => exact False.elim t
  | cons rx rr =>
    cases rr with
    | cons _ _ => exact False.elim t
    | nil =>
      obtain ⟨us, e, h1, h2, h3, h4, q⟩ := isS_ex t
      obtain ⟨p, vs, rfl, s, r⟩ := asL_sq h rx e
      refine ⟨p, vs, wdats us, rfl, s, r.dp h1, h2, h3, h4, fun l n => ?_⟩
      obtain ⟨g5, h5, x5⟩ := new_lst h n (sort_RwL r)
      exact k _ _ _ _ _ x5 h5 .ref (q l g5)
variable {X : Cx} {e : Expr} {es : List Expr} {t : TAw} {p pos : Pos}
theorem qsorted {k : Nat} (hr : Room k X.A) (hg : Gl X "sorted") (hm : X.mg "sorted" = none) (ha : PAw X (e :: es) t) (he : starEach (e :: es) X.env = (false, eval e X.env) :: starEach es X.env := by rfl) (hpl : (backTo pos (starEach es X.env)).any (·.1) = false := by rfl) :
    PEw X (.Call (.Name "sorted" p) (e :: es) [] pos) (wCB wSorted t) := PE.imp (pe_callB (cr_sortedD (hu64 hr)) hg hm (by decide +kernel) ha (by decide) (by decide) he hpl) fun _ _ _ h => liftN sim_sorted h
theorem qsortedM {k : Nat} (hr : Room k X.A) (hg : Gl X "sorted") (hm : X.mg "sorted" = none) (ha : PAw X (e :: es) t) (he : starEach (e :: es) X.env = (false, eval e X.env) :: starEach es X.env := by rfl) (hpl : (backTo pos (starEach es X.env)).any (·.1) = false := by rfl) :
    PEw X (.Call (.Name "sorted" p) (e :: es) [] pos) (wCB wSortedM t) := PE.imp (pe_callB (cr_sortedD (hu64 hr)) hg hm (by decide +kernel) ha (by decide) (by decide) he hpl) fun _ _ _ h => liftN sim_sortedM h
end
/-! ### < of data (of tuples) -/
def rLtD (K : PySem.W.Frag) : R2 := fun x y H Q => ∃ d e, Dp K H x d ∧ Dp K H y e ∧ PySem.W.alike d e = true ∧ d ≠ .none ∧ d.depth ≤ 60 ∧ Q (.bl (PySem.W.dataLt d e)) H
theorem op_ltD {X : Cx} (hu : X.A.units + 64 < cLine) : OpR X (compareOp .Lt) (rLtD X.K) := by
  intro pins s σ H x y v u Q I rx ry h
  obtain ⟨d, e, hd, he, ha, hn, hp, q⟩ := h
  obtain ⟨as, r1⟩ := Dp.reads I d x v hd rx
  obtain ⟨bs, r2⟩ := Dp.reads I e y u he ry
  exact PySem.W.lt_data r1 r2 ha hn (by omega) ⟨.bl _, H, I, rfl, q⟩
def wLtD : RW2 := fun x y G Q => wpure x = true ∧ wpure y = true ∧ PySem.W.alike (wdat x) (wdat y) = true ∧ wdat x ≠ .none ∧ (wdat x).depth ≤ 60 ∧ Q (.bl (PySem.W.dataLt (wdat x) (wdat y))) G
theorem sim_ltD {K : PySem.W.Frag} : Sim2 K (rLtD K) wLtD := by
  intro Z G H x y v u Qw Q h rx ry t k
  obtain ⟨h1, h2, h3, h4, h5, q⟩ := t
  exact ⟨_, _, rx.dp h1, ry.dp h2, h3, h4, h5, k.at h .bl q⟩
section
variable {X : Cx} {a b : Expr} {ta tb : TEw} {pos : Pos}
theorem qltD {k : Nat} (hr : Room k X.A) (ha : PEw X a ta) (hb : PEw X b tb) : PEw X (.Compare a [.Lt] [b] pos) (wOp wLtD ta tb) := qcmp (op_ltD (hu64 hr)) sim_ltD ha hb (nomark _)
theorem qtltD {k : Nat} (hr : Room k X.A) (ha : PEw X a ta) (hb : PEw X b tb) : PTw X (.Compare a [.Lt] [b] pos) (wTest (wOp wLtD ta tb)) := qtcmp (op_ltD (hu64 hr)) sim_ltD ha hb (nomark _)
end
/-! ### defs as values -/
theorem qfn {X : Cx} {x : Str} {f : Addr} {pos : Pos} (hg : Gl X x) (m : X.mg x = some (.ref f)) (hd : (x == ("__debug__" : Str)) = false := by decide) : PEw X (.Name x pos) (wC (.ref f)) :=
  PE.imp (pe_glob (v := .ref f) hg m rfl hd) fun _ _ _ h => lC (fun _ _ => .ref) h
/-- a call of a name that holds one of some defs -/
def wCallV (i : Nat) (fs : List (Addr × Spw)) (t : TAw) : TEw := fun σ G Q => isS (slot σ i) fun w => ∃ p ∈ fs, w = .ref p.1 ∧ t σ G fun ws G1 => p.2 ws G1 Q E0w
def CalF (X : Cx) (p : Addr × Spw) : Prop := ∃ k fd ps, FnOk X.prog X.w X.K X.mg X.base CX0 k p.1 fd ps (liftSp X.K p.2) ∧ Room k X.A ∧ PySem.W.keepIn X.K (.ref p.1) = true ∧ Binds X.K fd ps []
theorem qcallV {X : Cx} {i : Nat} {x : Str} {p pos : Pos} {e : Expr} {es : List Expr} {t : TAw} {fs : List (Addr × Spw)} (hf : ∀ p ∈ fs, CalF X p) (ha : PAw X (e :: es) t) (hN : X.N[i]? = some x := by rfl) (hv : Vis X.env.scope x := by first | exact Or.inl rfl | exact Or.inr (Or.inl rfl) | exact Or.inr (Or.inr rfl))
    (hdb : (x == ("__debug__" : Str)) = false := by decide) (hcd : (x == ("__classdict__" : Str)) = false := by decide)
    (he : starEach (e :: es) X.env = (false, eval e X.env) :: starEach es X.env := by rfl) (hpl : (backTo pos (starEach es X.env)).any (·.1) = false := by rfl) : PEw X (.Call (.Name x p) (e :: es) [] pos) (wCallV i fs t) := by
  refine ⟨fun pins s σ H Q I h => ?_⟩
  obtain ⟨Z, σ', G, Qw, ev, hr, t1, k⟩ := h
  obtain ⟨w, ew, q, hq, rfl, t1⟩ := isS_ex t1
  obtain ⟨kk, fd, ps, F, room, kp, b⟩ := hf q hq
  obtain ⟨v, e1, rv⟩ := ev.get i ew
  cases rv
  refine (pe_callL F room hN hv kp b .nil pass0 ha hdb hcd he hpl).run pins s σ H Q I ⟨e1, ?_⟩
  exact lcall ⟨Z, σ', G, Qw, ev, hr, t1, k⟩
/-! ### xs.clear() -/
def wClear : RWM := fun o ws G Q => match o, ws with
  | .ref p, [] => isG (G p) fun _ => Q .non (gup G p (.lst []))
  | _, _ => False
theorem wClear_ref {p : Addr} {G : Gp} {Q : QW} : wClear (.ref p) [] G Q = isG (G p) fun _ => Q .non (gup G p (.lst [])) := rfl
abbrev wM_clear := wClear
theorem sim_clear {K : PySem.W.Frag} : SimM K rClear wClear := by
  intro Z G H x v ws vs Qw Q h rx rs t k
  cases rx with
  | @ref p =>
    cases rs with
    | cons _ _ => exact False.elim t
    | nil =>
      obtain ⟨us, g, q⟩ := isG_ex t
      obtain ⟨xs, s, r⟩ := h.lst g
      obtain ⟨h2, x2⟩ := chg_lst h g (.nil : RwL K Z H [] [])
      exact ⟨p, xs, rfl, rfl, s, k _ _ _ _ _ x2 h2 .non q⟩
  | _ => exact False.elim t
theorem qm_clear {X : Cx} {o : Expr} {to : TEw} {cpos apos : Pos} (ho : PEw X o to) (hbase : attributeBase o "clear" X.env (eval o X.env) = eval o X.env := by rfl) (hline : (apos.endLine == cpos.line) = true := by rfl) : PEw X (.Call (.Attribute o "clear" apos) [] [] cpos) (wBM0 wM_clear to) :=
  qbm0 PySem.F.slot_list_clear PySem.F.type_list_clear mt_clear sim_clear ho hbase hline
/-! ### is not of bools; bits -/
def wNotB : RW2 := fun x y G Q => match x, y with
  | .bl a, .bl b => Q (.bl (!decide (a = b))) G
  | _, _ => False
theorem wNotB_bl {a b : Bool} {G : Gp} {Q : QW} : wNotB (.bl a) (.bl b) G Q = Q (.bl (!decide (a = b))) G := rfl
theorem sim_notB {K : PySem.W.Frag} : Sim2 K rNotB wNotB := by
  intro Z G H x y v u Qw Q h rx ry t k
  cases rx with
  | bl =>
    cases ry with
    | bl => exact ⟨_, _, rfl, rfl, k.at h .bl t⟩
    | _ => exact False.elim t
  | _ => cases ry <;> exact False.elim t
abbrev wShl : RW2 := wI2 CPow fun i j => .int (i * 2 ^ j.toNat)
abbrev wShr : RW2 := wI2 (fun _ j => 0 ≤ j) fun i j => .int (i / 2 ^ j.toNat)
abbrev wBand : RW2 := wII fun i j => .int (PySem.Builtin.bitAnd i j)
section
variable {X : Cx} {K : PySem.W.Frag} {a b o : Expr} {ta tb to : TEw} {pos apos cpos : Pos}
theorem qnotB (ha : PEw X a ta) (hb : PEw X b tb) : PEw X (.Compare a [.IsNot] [b] pos) (wOp wNotB ta tb) := qcmp op_notBl sim_notB ha hb (nomark _)
theorem qtnotB (ha : PEw X a ta) (hb : PEw X b tb) : PTw X (.Compare a [.IsNot] [b] pos) (wTest (wOp wNotB ta tb)) := qtcmp op_notBl sim_notB ha hb (nomark _)
theorem qshl (ha : PEw X a ta) (hb : PEw X b tb) : PEw X (.BinOp a .LShift b pos) (wOp wShl ta tb) := qop op_shl (sim_I fun _ _ _ _ => .int) ha hb
theorem qshr (ha : PEw X a ta) (hb : PEw X b tb) : PEw X (.BinOp a .RShift b pos) (wOp wShr ta tb) := qop op_shr (sim_I fun _ _ _ _ => .int) ha hb
theorem qband (ha : PEw X a ta) (hb : PEw X b tb) : PEw X (.BinOp a .BitAnd b pos) (wOp wBand ta tb) := qop op_and (sim_II fun _ _ _ _ => .int) ha hb
end
/-! ### in, of data of any depth -/
def wInD (neg : Bool) : RW2 := fun x y G Q => match y with
  | .lst ws => wOk x ∧ wOk (.lst ws) ∧ Q (.bl (if neg then !((wdats ws).any fun z => PyData.eqv z (wdat x)) else (wdats ws).any fun z => PyData.eqv z (wdat x))) G
  | _ => False
theorem wInD_lst {neg : Bool} {x : W} {ws : List W} {G : Gp} {Q : QW} : wInD neg x (.lst ws) G Q = (wOk x ∧ wOk (.lst ws) ∧ Q (.bl (if neg then !((wdats ws).any fun z => PyData.eqv z (wdat x)) else (wdats ws).any fun z => PyData.eqv z (wdat x))) G) := rfl
theorem sim_inD {K : PySem.W.Frag} : Sim2 K (rInD K) (wInD false) := by
  intro Z G H x y v u Qw Q h rx ry t k
  cases y with
  | lst ws =>
    obtain ⟨t1, t2, q⟩ := t
    exact ⟨_, _, rx.dp t1.1, ry.dp t2.1, t1.2, t2.2, k.at h .bl q⟩
  | _ => exact False.elim t
theorem sim_ninD {K : PySem.W.Frag} : Sim2 K (rNotInD K) (wInD true) := by
  intro Z G H x y v u Qw Q h rx ry t k
  cases y with
  | lst ws =>
    obtain ⟨t1, t2, q⟩ := t
    exact ⟨_, _, rx.dp t1.1, ry.dp t2.1, t1.2, t2.2, k.at h .bl q⟩
  | _ => exact False.elim t
theorem hu65 {A : Around} {k : Nat} (hr : Room k A) : A.units + 65 < cLine := by have := hr.un; omega
section
variable {X : Cx} {K : PySem.W.Frag} {a b o : Expr} {ta tb to : TEw} {pos apos cpos : Pos}
theorem qinD {k : Nat} (hr : Room k X.A) (ha : PEw X a ta) (hb : PEw X b tb) (hm : behindInMarks .In b = false := by rfl) : PEw X (.Compare a [.In] [b] pos) (wOp (wInD false) ta tb) := qcmp (op_inD (hu65 hr)) sim_inD ha hb hm
theorem qninD {k : Nat} (hr : Room k X.A) (ha : PEw X a ta) (hb : PEw X b tb) (hm : behindInMarks .NotIn b = false := by rfl) : PEw X (.Compare a [.NotIn] [b] pos) (wOp (wInD true) ta tb) := qcmp (op_notInD (hu65 hr)) sim_ninD ha hb hm
theorem qtinD {k : Nat} (hr : Room k X.A) (ha : PEw X a ta) (hb : PEw X b tb) (hm : behindInMarks .In b = false := by rfl) : PTw X (.Compare a [.In] [b] pos) (wTest (wOp (wInD false) ta tb)) := qtcmp (op_inD (hu65 hr)) sim_inD ha hb hm
theorem qtninD {k : Nat} (hr : Room k X.A) (ha : PEw X a ta) (hb : PEw X b tb) (hm : behindInMarks .NotIn b = false := by rfl) : PTw X (.Compare a [.NotIn] [b] pos) (wTest (wOp (wInD true) ta tb)) := qtcmp (op_notInD (hu65 hr)) sim_ninD ha hb hm
end
end WL

/-! tuple * a whole number from 0 on, of tuples of any length. -/
namespace WL
open PySem PySem.Spec PyProof.Rows L2
theorem tuple_mulSame (l : Addr) (items : Array Value) (n : Nat) (dd : Option Addr) (sl : Array (Option Value)) (x : Int) (u : Tok) (c0 : (decide (x < -(2 ^ 63)) || decide (x ≥ 2 ^ 63)) = false) (c1 : (items.isEmpty || x == 1) = true) :
    Meets (Builtin.«tuple.__mul__» ⟨[.ref l, .int x u], []⟩) (fun _ R s => s.heap.get? l = some { cls := .type "tuple", dict := dd, data := .seq items n, slots := sl } ∧
      R (.ok (.ret (Value.ref l))) s) :=
  .of_wp fun prog w A R s h => by
    obtain ⟨hp, g, d, tk, os⟩ := s
    obtain ⟨hl, h⟩ := h
    have f1 := AutoSeq1.idx_int
    wp_walk using wpAny_loadPart' hl
    repeat (first
      | (refine wpAny_ite_false (decide_eq_false (by rw [c0]; exact Bool.false_ne_true)) ?_; wp_walk using wpAny_loadPart' hl)
      | (refine wpAny_ite_true (decide_eq_true (by rw [c1])) ?_; wp_walk using wpAny_loadPart' hl))
    exact ⟨_, rfl, h⟩
theorem tuple_mulNone (l : Addr) (items : Array Value) (n : Nat) (dd : Option Addr) (sl : Array (Option Value)) (x : Int) (u : Tok) (c0 : (decide (x < -(2 ^ 63)) || decide (x ≥ 2 ^ 63)) = false) (c1 : (items.isEmpty || x == 1) = false) (c2 : (decide (x ≤ 0) || items.isEmpty) = true) :
    Meets (Builtin.«tuple.__mul__» ⟨[.ref l, .int x u], []⟩) (fun _ R s => s.heap.get? l = some { cls := .type "tuple", dict := dd, data := .seq items n, slots := sl } ∧
      R (.ok (.ret (Value.ref s.heap.objs.size))) { s with heap := s.heap.push { cls := Value.type "tuple", data := Data.seq #[] }, toks := s.toks }) :=
  .of_wp fun prog w A R s h => by
    obtain ⟨hp, g, d, tk, os⟩ := s
    obtain ⟨hl, h⟩ := h
    have f1 := AutoSeq1.idx_int
    wp_walk using wpAny_loadPart' hl
    repeat (first
      | (refine wpAny_ite_false (decide_eq_false (by rw [c0]; exact Bool.false_ne_true)) ?_; wp_walk using wpAny_loadPart' hl)
      | (refine wpAny_ite_false (decide_eq_false (by rw [c1]; exact Bool.false_ne_true)) ?_; wp_walk using wpAny_loadPart' hl)
      | (refine wpAny_ite_true (decide_eq_true (by rw [c2])) ?_; wp_walk using wpAny_loadPart' hl))
    exact ⟨_, rfl, h⟩
def rRepTA (K : PySem.W.Frag) : R2 := fun x y H Q => ∃ l k xs, x = .ref l ∧ y = .int k ∧ SqT K H l xs ∧ 0 ≤ k ∧ k ≤ 1000 ∧ xs.length ≤ 1000 ∧ ((xs = [] ∨ k = 1) → Q (.ref l) H) ∧ (¬ (xs = [] ∨ k = 1) → ∀ p, H p = none → Q (.ref p) (upd H p (.tup (List.replicate k.toNat xs).flatten)))
section
variable {X : Cx}
theorem op_repTA : OpR X (binaryOp .Mult) (rRepTA X.K) := by
  intro pins s σ H x y v u Q I rx ry h
  obtain ⟨l, k, xs, rfl, rfl, hT, h1, h2, hz, qa, qb⟩ := h
  by_cases cA : xs = [] ∨ k = 1
  · cases rx
    obtain ⟨t, rfl⟩ := ry
    obtain ⟨its, r, ⟨⟨cls, dd, data, sl⟩, ho, hc, n, hd⟩, hs⟩ := I.tuple hT
    simp only at hc hd
    subst hc hd
    have hle : its.length = xs.length := r.length.symm
    have c0 : (decide (k < -(2 ^ 63)) || decide (k ≥ 2 ^ 63)) = false := by
      rw [decide_eq_false (by omega), decide_eq_false (by omega)] <;> rfl
    have c1 : (its.toArray.isEmpty || k == 1) = true := by
      rcases cA with e | e
      · rw [e] at hle
        rw [List.eq_nil_of_length_eq_zero hle]
        rfl
      · rw [e]; simp
    refine wpAny_binaryOp_repeat_ref (T := "tuple") (U := "int") (by decide) ⟨_, ho, rfl⟩ (fun s' => typeIs_int s' k t) noFill_tuple_mul F.fills_int_mul F.slot_int_rmul repeat_tuple F.slot_int_index.lookup
      (call_meets F.slot_int_rmul (typeIs_int s k t) F.entry_int_rmul (F.args_int_rmul_2 _ _) (int_rmul_tuple k t l its.toArray n dd sl)
        ⟨ho, rfl, ⟨_, ho, rfl⟩, call_meets F.slot_tuple_mul ⟨_, ho, rfl⟩ F.entry_tuple_mul (F.args_tuple_mul_2 _ _) (tuple_mulSame l its.toArray n dd sl k t c0 c1) ⟨ho, ?_⟩⟩)
    exact ⟨.ref l, H, I, rfl, qa cA⟩
  · by_cases cB : k = 0
    · cases rx
      obtain ⟨t, rfl⟩ := ry
      obtain ⟨its, r, ⟨⟨cls, dd, data, sl⟩, ho, hc, n, hd⟩, hs⟩ := I.tuple hT
      simp only at hc hd
      subst hc hd
      have hle : its.length = xs.length := r.length.symm
      have hn : its ≠ [] := fun e => cA (.inl (by
        rw [e] at hle
        exact List.eq_nil_of_length_eq_zero hle.symm))
      have hi : its.toArray.isEmpty = false := by
        cases its with
        | nil => exact absurd rfl hn
        | cons a b => rfl
      have c0 : (decide (k < -(2 ^ 63)) || decide (k ≥ 2 ^ 63)) = false := by
        rw [decide_eq_false (by omega), decide_eq_false (by omega)] <;> rfl
      have c1 : (its.toArray.isEmpty || k == 1) = false := by
        rw [hi, Bool.false_or]
        exact beq_eq_false_iff_ne.mpr (by omega)
      have c2 : (decide (k ≤ 0) || its.toArray.isEmpty) = true := by
        rw [decide_eq_true (by omega)]; rfl
      refine wpAny_binaryOp_repeat_ref (T := "tuple") (U := "int") (by decide) ⟨_, ho, rfl⟩ (fun s' => typeIs_int s' k t) noFill_tuple_mul F.fills_int_mul F.slot_int_rmul repeat_tuple F.slot_int_index.lookup
        (call_meets F.slot_int_rmul (typeIs_int s k t) F.entry_int_rmul (F.args_int_rmul_2 _ _) (int_rmul_tuple k t l its.toArray n dd sl)
          ⟨ho, rfl, ⟨_, ho, rfl⟩, call_meets F.slot_tuple_mul ⟨_, ho, rfl⟩ F.entry_tuple_mul (F.args_tuple_mul_2 _ _) (tuple_mulNone l its.toArray n dd sl k t c0 c1 c2) ⟨ho, ?_⟩⟩)
      have e0 : (List.replicate k.toNat xs).flatten = [] := by rw [cB]; rfl
      refine ⟨.ref s.heap.objs.size, _, I.laid (t' := s.toks) (o := .tup (List.replicate k.toNat xs).flatten) (fun b ob q => Heap.get?_push_of_some _ q) (Nat.le_refl _) ?_, rfl, qb cA _ (I.hok.fresh (Nat.le_refl _))⟩
      rw [e0]
      exact ⟨by decide, [], .nil, IsTup.new _ _⟩
    · exact op_repT pins s σ H _ _ v u Q I rx ry ⟨l, k, xs, rfl, rfl, hT, fun e => cA (.inl e), by omega, h2, hz, qb cA⟩
end
/-! ### by value -/
def wRepT : RW2 := fun x y G Q => match x, y with
  | .tup ws, .int k => 0 ≤ k ∧ k ≤ 1000 ∧ ws.length ≤ 1000 ∧ Q (.tup (repW k ws)) G
  | _, _ => False
theorem wRepT_tup {ws : List W} {k : Int} {G : Gp} {Q : QW} : wRepT (.tup ws) (.int k) G Q = (0 ≤ k ∧ k ≤ 1000 ∧ ws.length ≤ 1000 ∧ Q (.tup (repW k ws)) G) := rfl
theorem sim_repT {K : PySem.W.Frag} : Sim2 K (rRepTA K) wRepT := by
  intro Z G H x y v u Qw Q h rx ry t k
  cases rx with
  | @tup p ws vs s r =>
    cases ry with
    | @int i =>
      obtain ⟨t1, t2, t3, q⟩ := t
      refine ⟨p, i, vs, rfl, rfl, s, t1, t2, by rw [← r.length]; exact t3, fun c => ?_, fun _ a n => ?_⟩
      · have e : repW i ws = ws := by
          rcases c with c | c
          · subst c
            cases r
            unfold repW
            simp
          · subst c
            unfold repW
            show (List.replicate 1 ws).flatten = ws
            simp
        rw [e] at q
        exact k.at h (.tup s r) q
      · obtain ⟨h2, x2, r'⟩ := new_tup h n (r.rep i.toNat)
        exact k Z G _ _ _ x2 h2 r' q
    | _ => exact False.elim t
  | _ => cases ry <;> exact False.elim t
section
variable {X : Cx} {a b : Expr} {ta tb : TEw} {pos : Pos}
theorem qrepT (ha : PEw X a ta) (hb : PEw X b tb) : PEw X (.BinOp a .Mult b pos) (wOp wRepT ta tb) := qop op_repTA sim_repT ha hb
end
end WL

/-! Instances of own classes; dicts with whole numbers and texts as keys; defs that may raise. -/
namespace WL
open PySem PySem.Spec PyProof.Rows L2
/-! ### attributes -/
structure FldOk (K : PySem.W.Frag) (nm f : Str) : Prop where
  ok : ∀ C, ClsA K nm C → Cls K C ∧ NoAttr K C f
def insOf (G : Gp) : W → Option (Str × List (Str × W))
  | .ins n fs => some (n, fs)
  | .ref p => match G p with
    | some (.ins n fs) => some (n, fs)
    | _ => none
  | _ => none
theorem insOf_gup {G : Gp} {p : Addr} {n : Str} {fs : List (Str × W)} : insOf (gup G p (.ins n fs)) (.ref p) = some (n, fs) := by simp only [insOf, gup_same]
section
variable {K : PySem.W.Frag} {Z : Zp} {G : Gp} {H : Hp}
theorem insOf_at (h : HRel K Z G H) {w : W} {v : V} {n : Str} {fs : List (Str × W)} (r : Rw K Z H w v) (e : insOf G w = some (n, fs)) : ∃ p C dx gs, v = .ref p ∧ ClsA K n C ∧ H p = some (.ins C dx gs) ∧ RwF K Z H fs gs := by
  cases r with
  | ins c z s r => simp only [insOf, Option.some.injEq, Prod.mk.injEq] at e; obtain ⟨rfl, rfl⟩ := e; exact ⟨_, _, _, _, rfl, c, s, r⟩
  | @ref p =>
    simp only [insOf] at e
    cases q : G p with
    | none => rw [q] at e; cases e
    | some o =>
      rw [q] at e
      cases o with
      | ins n' fs' =>
        simp only [Option.some.injEq, Prod.mk.injEq] at e
        obtain ⟨rfl, rfl⟩ := e
        obtain ⟨u, eu, ru⟩ := h.g p _ q
        cases ru with
        | ins c r => exact ⟨p, _, _, _, rfl, c, eu, r⟩
      | lst _ => cases e
      | dic _ => cases e
  | _ => cases e
end
def wFld (nm f : Str) : W → Gp → QW → Prop := fun x G Q => isS (insOf G x) fun o => o.1 = nm ∧ isS (o.2.lookup f) fun w => Q w G
def rFld (K : PySem.W.Frag) (f : Str) : V → Hp → VK → Prop := fun x H Q => ∃ a C dx fs v, x = .ref a ∧ H a = some (.ins C dx fs) ∧ Cls K C ∧ NoAttr K C f ∧ fs.lookup f = some v ∧ Q v H
theorem sim_fld {K : PySem.W.Frag} {nm f : Str} (ok : FldOk K nm f) : Sim1 K (rFld K f) (wFld nm f) := by
  intro Z G H x v Qw Q h rx t k
  obtain ⟨⟨n, fs⟩, e, en, t5⟩ := isS_ex t
  have en : n = nm := en
  obtain ⟨w, el, q⟩ := isS_ex t5
  clear t5 t
  subst en
  obtain ⟨p, C, dx, gs, rfl, c, s, r⟩ := insOf_at h rx e
  obtain ⟨c1, c2⟩ := ok.ok C c
  obtain ⟨u, eu, ru⟩ := r.get el
  exact ⟨p, C, dx, gs, u, rfl, s, c1, c2, eu, k.at h ru q⟩
theorem qfld {X : Cx} {nm f : Str} {e : Expr} {te : TEw} {pos : Pos} (ok : FldOk X.K nm f) (he : PEw X e te) (hb : attributeBase e f X.env (eval e X.env) = eval e X.env := by rfl) : PEw X (.Attribute e f pos) (wUn (wFld nm f) te) :=
  PE.imp (pe_fld he hb) fun σ H Q h => lift1 (r := rFld X.K f) (sim_fld ok) h
def putW (f : Str) (v : W) : List (Str × W) → List (Str × W)
  | [] => [(f, v)]
  | (g, x) :: r => if g = f then (g, v) :: r else (g, x) :: putW f v r
theorem RwF.put {K : PySem.W.Frag} {Z : Zp} {H : Hp} {f : Str} {w : W} {v : V} (rw' : Rw K Z H w v) : ∀ {ws : List (Str × W)} {vs : List (Str × V)}, RwF K Z H ws vs → RwF K Z H (putW f w ws) (putF f v vs)
  | _, _, .nil => .cons rw' .nil
  | _, _, .cons (f := g) r t => by
    simp only [putW, putF]
    split
    · exact .cons rw' t
    · exact .cons r (RwF.put rw' t)
/-- an instance that stands in the small heap is changed -/
theorem chg_ins {K : PySem.W.Frag} {Z : Zp} {G : Gp} {H : Hp} (h : HRel K Z G H) {p : Addr} {n : Str} {fs fs' : List (Str × W)} {C dx : Addr} {gs' : List (Str × V)} (e : G p = some (.ins n fs)) (c : ClsA K n C) (r : RwF K Z H fs' gs') :
    HRel K Z (gup G p (.ins n fs')) (upd H p (.ins C dx gs')) ∧ Ext Z G H Z (gup G p (.ins n fs')) (upd H p (.ins C dx gs')) := by
  have x : Ext Z G H Z (gup G p (.ins n fs')) (upd H p (.ins C dx gs')) := ⟨fun _ z => z, fun q u e' g => by
    have c : q ≠ p := fun c => by rw [c, e] at g; cases g
    exact ⟨by rw [upd_ne c]; exact e', by rw [gup_ne c]; exact g⟩, fun _ _ _ z => z⟩
  refine ⟨⟨fun q z => ?_, fun q g e' => ?_⟩, x⟩
  · have c : q ≠ p := fun c => by
      have := (h.z q z).1
      rw [c, e] at this; cases this
    exact ⟨by rw [gup_ne c]; exact (h.z q z).1, by rw [upd_ne c]; exact (h.z q z).2⟩
  · by_cases d : q = p
    · rw [d, gup_same] at e'; cases e'
      exact ⟨_, by rw [d]; exact upd_same, .ins c (r.ext h x)⟩
    · rw [gup_ne d] at e'
      obtain ⟨u, e2, r2⟩ := h.g q g e'
      exact ⟨u, by rw [upd_ne d]; exact e2, r2.ext h x⟩
/-- an instance of the small heap -/
def isI (o : Option GO) (nm : Str) (P : List (Str × W) → Prop) : Prop := match o with
  | some (.ins n fs) => n = nm ∧ P fs
  | _ => False
theorem isI_ins {nm : Str} {fs : List (Str × W)} {P : List (Str × W) → Prop} : isI (some (.ins nm fs)) nm P = P fs := by
  unfold isI
  simp
theorem isI_ex {o : Option GO} {nm : Str} {P : List (Str × W) → Prop} (h : isI o nm P) : ∃ fs, o = some (.ins nm fs) ∧ P fs := by
  cases o with
  | none => exact h.elim
  | some g =>
    cases g with
    | lst ws => exact h.elim
    | dic _ => exact h.elim
    | ins n fs =>
      obtain ⟨rfl, h⟩ := h
      exact ⟨fs, rfl, h⟩
def setF (nm f : Str) (y x : W) (G : Gp) (P : Gp → Prop) : Prop := match x with
  | .ref p => isI (G p) nm fun fs => fs.length < 1000 ∧ P (gup G p (.ins nm (putW f y fs)))
  | _ => False
theorem setF_ref {nm f : Str} {y : W} {p : Addr} {G : Gp} {P : Gp → Prop} : setF nm f y (.ref p) G P = isI (G p) nm fun fs => fs.length < 1000 ∧ P (gup G p (.ins nm (putW f y fs))) := rfl
def wSetF (nm f : Str) (te to : TEw) : TSw := fun D σ G => te σ G fun y G1 => to σ G1 fun x G2 => setF nm f y x G2 fun G3 => D.nx σ G3
theorem qsetF {X : Cx} {nm f : Str} {o e : Expr} {te to : TEw} {pos pos' : Pos} (ok : FldOk X.K nm f) (ho : PEw X o to) (he : PEw X e te) (hs : swapsWith e (some (.Attribute o f pos')) pos.line X.env = pure false := by rfl) : PSw X (.Assign [.Attribute o f pos'] e pos) (wSetF nm f te to) :=
  PS.imp (ps_fld ho he hs) fun D σ H h => by
    obtain ⟨Z, σ', G, Dw, ev, hr, t, k⟩ := h
    refine ⟨Z, σ', G, _, ev, hr, t, fun Z1 G1 H1 yw yv x1 h1 r1 t1 => ⟨Z1, σ', G1, _, ev.ext hr x1, h1, t1, fun Z2 G2 H2 xw xv x2 h2 r2 t2 => ?_⟩⟩
    cases r2 with
    | @ref p =>
      obtain ⟨fs, g, l, q⟩ := isI_ex t2
      obtain ⟨u, eu, ru⟩ := h2.g p _ g
      cases ru with
      | ins c r =>
        obtain ⟨c1, c2⟩ := ok.ok _ c
        obtain ⟨h3, x3⟩ := chg_ins (fs' := putW f yw fs) h2 g c (RwF.put (r1.ext h1 x2) r)
        refine ⟨p, _, _, _, rfl, eu, c1, c2, by rw [← r.length]; exact l, ?_⟩
        have xx := (x1.trans x2).trans x3
        exact k.nx _ _ _ _ _ xx h3 (ev.ext hr xx) q
    | _ => exact False.elim t2
/-! ### calls of methods, new instances -/
structure CalM (P : Program) (w : World) (K : PySem.W.Frag) (mg : Str → Option Value) (base : Heap) (CX : CXT) (k : Nat) (nm m : Str) (sp : Spw) : Prop where
  ex : ∃ C f fd ps, ClsA K nm C ∧ Cls K C ∧ Meth K C m f ∧ FnOk P w K mg base CX k f fd ps (liftSp K sp) ∧ Binds K fd ps []
structure CalC (P : Program) (w : World) (K : PySem.W.Frag) (mg : Str → Option Value) (base : Heap) (CX : CXT) (k : Nat) (nm : Str) (sp : Spw) : Prop where
  ex : ∃ C f fd ps, ClsA K nm C ∧ Mk K C f ∧ mg nm = some (.ref C) ∧ FnOk P w K mg base CX k f fd ps (liftSp K sp) ∧ Binds K fd ps []
def wMeth (nm m : Str) (sp : Spw) (to : TEw) (t : TAw) : TEw := fun σ G Q => to σ G fun x G1 => isS (insOf G1 x) fun o => o.1 = nm ∧ o.2.lookup m = none ∧ t σ G1 fun ws G2 => sp (x :: ws) G2 Q E0w
def wMake (nm : Str) (sp : Spw) (t : TAw) : TEw := fun σ G Q => t σ G fun ws G1 => ∀ p, G1 p = none → sp (.ref p :: ws) (gup G1 p (.ins nm [])) (fun w G2 => w = .non ∧ Q (.ref p) G2) E0w
/-- a new instance that is never changed -/
def wMakeZ (nm : Str) (sp : Spw) (t : TAw) : TEw := fun σ G Q => t σ G fun ws G1 => ∀ p, G1 p = none → sp (.ref p :: ws) (gup G1 p (.ins nm [])) (fun w G2 => w = .non ∧ isI (G2 p) nm fun fs => Q (.ins nm fs) (gdel G2 p)) E0w
section
variable {X : Cx} {K : PySem.W.Frag} {o e : Expr} {es : List Expr} {to : TEw} {t : TAw} {sp : Spw} {nm m : Str} {k : Nat} {p pos apos : Pos}
theorem lmeth {C : Addr} (c : ClsA K nm C) {σ : SV} {H : Hp} {Q : VK} (h : liftE K (wMeth nm m sp to t) σ H Q) : tMeth C m (liftSp K sp) [] E0 (liftE K to) (liftA K t) σ H Q := by
  obtain ⟨Z, σ', G, Qw, ev, hr, t, k⟩ := h
  refine ⟨Z, σ', G, _, ev, hr, t, fun Z1 G1 H1 w v x1 h1 r1 t1 => ?_⟩
  obtain ⟨⟨n, fs⟩, e, en, el, t5⟩ := isS_ex t1
  have en : n = nm := en
  clear t1
  subst en
  obtain ⟨p, C', dx, gs, rfl, c', s, r⟩ := insOf_at h1 r1 e
  cases c.one c'
  refine ⟨p, dx, gs, rfl, s, r.none el, Z1, σ', G1, _, ev.ext hr x1, h1, t5, fun Z2 G2 H2 ws vs x2 h2 r2 t2 => ?_⟩
  show liftSp K sp (.ref p :: (vs ++ [])) H2 Q E0
  rw [List.append_nil]
  exact ⟨Z2, w :: ws, G2, Qw, E0w, .cons (r1.ext h1 x2) r2, h2, t2, k.mono (x1.trans x2), fun _ _ _ _ _ _ _ _ _ _ _ z => z.elim⟩
theorem qmeth (c : CalM X.prog X.w X.K X.mg X.base CX0 k nm m sp) (hr : Room k X.A) (ho : PEw X o to) (ha : PAw X (e :: es) t) {pl : Sem Bool} (hst : starEach (e :: es) X.env = (false, eval e X.env) :: starEach es X.env := by rfl) (hpl : (backTo pos (starEach es X.env)).any (·.1) = false := by rfl)
    (ht : eval (.Call (.Attribute o m apos) (e :: es) [] pos) X.env = (do
      let ov ← eval o X.env
      standAt apos.atName
      let (f, first) ← holding [ov] (getMethod ov m pl)
      callWith pos f first (backTo pos (starEach (e :: es) X.env)) (backToKw pos (keywordEach [] X.env))) := by rfl) : PEw X (.Call (.Attribute o m apos) (e :: es) [] pos) (wMeth nm m sp to t) := by
  obtain ⟨C, f, fd, ps, ca, cl, hm, F, b⟩ := c.ex
  exact PE.imp (pe_meth ho cl hm F hr b .nil pass0 ha hst hpl ht) fun _ _ _ h => lmeth ca h
theorem qmeth0 (c : CalM X.prog X.w X.K X.mg X.base CX0 k nm m sp) (hr : Room k X.A) (ho : PEw X o to) {pl : Sem Bool}
    (ht : eval (.Call (.Attribute o m apos) [] [] pos) X.env = (do
      let ov ← eval o X.env
      standAt apos.atName
      let (f, first) ← holding [ov] (getMethod ov m pl)
      callWith pos f first (backTo pos (starEach [] X.env)) (backToKw pos (keywordEach [] X.env))) := by rfl) : PEw X (.Call (.Attribute o m apos) [] [] pos) (wMeth nm m sp to wNil) := by
  obtain ⟨C, f, fd, ps, ca, cl, hm, F, b⟩ := c.ex
  exact PE.imp (pe_meth0 ho cl hm F hr b .nil pass0 ht) fun σ H Q h => by
    obtain ⟨Z, σ', G, Qw, ev, hr, t, k⟩ := h
    refine ⟨Z, σ', G, _, ev, hr, t, fun Z1 G1 H1 w v x1 h1 r1 t1 => ?_⟩
    obtain ⟨⟨n, fs⟩, e, en, el, t5⟩ := isS_ex t1
    have en : n = nm := en
    clear t1
    subst en
    obtain ⟨p, C', dx, gs, rfl, c', s, r⟩ := insOf_at h1 r1 e
    cases ca.one c'
    exact ⟨p, dx, gs, rfl, s, r.none el, Z1, [w], G1, Qw, E0w, .cons r1 .nil, h1, t5, k.mono x1, fun _ _ _ _ _ _ _ _ _ _ _ z => z.elim⟩
theorem new_ins {Z : Zp} {G : Gp} {H : Hp} (h : HRel K Z G H) {nm : Str} {C x dx : Addr} (c : ClsA K nm C) (hx : H x = none) (hdx : H dx = none) (ne : dx ≠ x) :
    G x = none ∧ HRel K Z (gup G x (.ins nm [])) (upd (upd H dx (.own x)) x (.ins C dx [])) ∧ Ext Z G H Z (gup G x (.ins nm [])) (upd (upd H dx (.own x)) x (.ins C dx [])) := by
  have h1 := h.laid (o := .own x) hdx
  have x1 := Ext.laid (o := .own x) h hdx
  have hx1 : upd H dx (.own x) x = none := by rw [upd_ne (Ne.symm ne)]; exact hx
  have x2 : Ext Z G (upd H dx (.own x)) Z G (upd (upd H dx (.own x)) x (.ins C dx [])) := Ext.laid h1 hx1
  refine ⟨h.fresh hx, (h1.laid hx1).track upd_same (h1.freshZ hx1) (.ins c .nil), x1.trans ⟨fun _ z => z, fun q u e g => ?_, fun _ _ _ z => z⟩⟩
  have c : q ≠ x := ne_of_none e hx1
  exact ⟨by rw [upd_ne c]; exact e, by rw [gup_ne c]; exact g⟩
theorem lmake {C : Addr} (c : ClsA K nm C) {σ : SV} {H : Hp} {Q : VK} (h : liftE K (wMake nm sp t) σ H Q) : tMake C (liftSp K sp) [] E0 (liftA K t) σ H Q := by
  obtain ⟨Z, σ', G, Qw, ev, hr, t, k⟩ := h
  refine ⟨Z, σ', G, _, ev, hr, t, fun Z1 G1 H1 ws vs x1 h1 r1 t1 x dx hx hdx ne => ?_⟩
  obtain ⟨g, h2, x2⟩ := new_ins h1 c hx hdx ne
  show liftSp K sp (.ref x :: (vs ++ [])) _ _ E0
  rw [List.append_nil]
  refine ⟨Z1, .ref x :: ws, _, _, E0w, .cons .ref (r1.ext h1 x2), h2, t1 x g, fun Z3 G3 H3 w v x3 h3 r3 q => ?_, fun _ _ _ _ _ _ _ _ _ _ _ z => z.elim⟩
  obtain ⟨rfl, q⟩ := q
  cases r3
  exact ⟨rfl, k Z3 G3 H3 _ _ ((x1.trans x2).trans x3) h3 .ref q⟩
theorem lmakeZ {C : Addr} (c : ClsA K nm C) {σ : SV} {H : Hp} {Q : VK} (h : liftE K (wMakeZ nm sp t) σ H Q) : tMake C (liftSp K sp) [] E0 (liftA K t) σ H Q := by
  obtain ⟨Z, σ', G, Qw, ev, hr, t, k⟩ := h
  refine ⟨Z, σ', G, _, ev, hr, t, fun Z1 G1 H1 ws vs x1 h1 r1 t1 x dx hx hdx ne => ?_⟩
  obtain ⟨g, h2, x2⟩ := new_ins h1 c hx hdx ne
  show liftSp K sp (.ref x :: (vs ++ [])) _ _ E0
  rw [List.append_nil]
  refine ⟨Z1, .ref x :: ws, _, _, E0w, .cons .ref (r1.ext h1 x2), h2, t1 x g, fun Z3 G3 H3 w v x3 h3 r3 q => ?_, fun _ _ _ _ _ _ _ _ _ _ _ z => z.elim⟩
  obtain ⟨rfl, q⟩ := q
  cases r3
  obtain ⟨fs, g3, q⟩ := isI_ex q
  obtain ⟨u, eu, ru⟩ := h3.g x _ g3
  cases ru with
  | ins c3 rf =>
    obtain ⟨h4, x4⟩ := h3.freeze (p := x) (by rw [g3]; simp)
    exact ⟨rfl, k _ _ H3 _ _ (((x1.trans x2).trans x3).trans x4) h4 (.ins c3 (.inr rfl) eu (rf.ext h3 x4)) q⟩
theorem qmake (c : CalC X.prog X.w X.K X.mg X.base CX0 k nm sp) (hr : Room (k + 1) X.A) (hg : Gl X nm) (ha : PAw X (e :: es) t) (hdb : (nm == ("__debug__" : Str)) = false := by decide) (he : starEach (e :: es) X.env = (false, eval e X.env) :: starEach es X.env := by rfl) (hpl : (backTo pos (starEach es X.env)).any (·.1) = false := by rfl) :
    PEw X (.Call (.Name nm p) (e :: es) [] pos) (wMake nm sp t) := by
  obtain ⟨C, f, fd, ps, ca, M, hm, F, b⟩ := c.ex
  exact PE.imp (pe_make M F hr hg hm b .nil pass0 ha hdb he hpl) fun _ _ _ h => lmake ca h
theorem qmakeZ (c : CalC X.prog X.w X.K X.mg X.base CX0 k nm sp) (hr : Room (k + 1) X.A) (hg : Gl X nm) (ha : PAw X (e :: es) t) (hdb : (nm == ("__debug__" : Str)) = false := by decide) (he : starEach (e :: es) X.env = (false, eval e X.env) :: starEach es X.env := by rfl) (hpl : (backTo pos (starEach es X.env)).any (·.1) = false := by rfl) :
    PEw X (.Call (.Name nm p) (e :: es) [] pos) (wMakeZ nm sp t) := by
  obtain ⟨C, f, fd, ps, ca, M, hm, F, b⟩ := c.ex
  exact PE.imp (pe_make M F hr hg hm b .nil pass0 ha hdb he hpl) fun _ _ _ h => lmakeZ ca h
end
end WL

/-! Dicts whose keys are whole numbers and texts. -/
namespace WL
open PySem PySem.Spec PyProof.Rows L2
def keyOf : W → Option Key
  | .int i => some (.inl i)
  | .str s => some (.inr s)
  | _ => none
def valW (kvs : List (NestedKey × W)) (k : NestedKey) : Option W := (kvs.find? fun kv => decide (kv.1 = k)).map (·.2)
def putD (kvs : List (NestedKey × W)) (k : NestedKey) (v : W) : List (NestedKey × W) := if (kvs.any fun kv => decide (kv.1 = k)) then kvs.map fun kv => if kv.1 = k then (kv.1, v) else kv else kvs ++ [(k, v)]
def dicOf (G : Gp) : W → Option (List (NestedKey × W))
  | .dic kvs => some kvs
  | .ref p => match G p with
    | some (.dic kvs) => some kvs
    | _ => none
  | _ => none
theorem dicOf_gup {G : Gp} {p : Addr} {kvs : List (NestedKey × W)} : dicOf (gup G p (.dic kvs)) (.ref p) = some kvs := by simp only [dicOf, gup_same]
/-- a dict of the small heap -/
def isD (o : Option GO) (P : List (NestedKey × W) → Prop) : Prop := match o with
  | some (.dic kvs) => P kvs
  | _ => False
theorem isD_dic {kvs : List (NestedKey × W)} {P : List (NestedKey × W) → Prop} : isD (some (.dic kvs)) P = P kvs := rfl
theorem isD_ex {o : Option GO} {P : List (NestedKey × W) → Prop} (h : isD o P) : ∃ kvs, o = some (.dic kvs) ∧ P kvs := by
  cases o with
  | none => exact h.elim
  | some g =>
    cases g with
    | lst ws => exact h.elim
    | ins _ _ => exact h.elim
    | dic kvs => exact ⟨kvs, rfl, h⟩
section
variable {K : PySem.W.Frag} {Z Z' : Zp} {G G' : Gp} {H H' : Hp}
theorem Rw.key {w : W} {v : V} {k : Key} (r : Rw K Z H w v) (e : keyOf w = some k) : v = kV k := by
  cases r <;> simp only [keyOf, Option.some.injEq, reduceCtorEq] at e <;> subst e <;> rfl
theorem nk_dec {a b : Key} : decide (nk a = nk b) = decide (a = b) := by
  by_cases c : a = b
  · subst c; simp
  · rw [decide_eq_false c, decide_eq_false fun h => c (nk_inj h)]
theorem RwD.length : ∀ {ws : List (NestedKey × W)} {vs : List (Key × V)}, RwD K Z H ws vs → ws.length = vs.length
  | _, _, .nil => rfl
  | _, _, .cons _ t => by rw [List.length_cons, List.length_cons, RwD.length t]
theorem RwD.val {k : Key} : ∀ {ws : List (NestedKey × W)} {vs : List (Key × V)} {w : W}, RwD K Z H ws vs → valW ws (nk k) = some w → ∃ v, valV vs k = some v ∧ Rw K Z H w v
  | _, _, _, .nil, e => by simp [valW] at e
  | _, _, w, .cons (k := k2) r t, e => by
    by_cases c : k2 = k
    · subst c
      have e2 : ∀ (x : W) (ws : List (NestedKey × W)), valW ((nk k2, x) :: ws) (nk k2) = some x := fun x ws => by simp [valW, List.find?_cons]
      rw [e2] at e
      cases e
      exact ⟨_, valV_pos rfl, r⟩
    · have c2 : ¬ nk k2 = nk k := fun h => c (nk_inj h)
      have e2 : ∀ (x : W) (ws : List (NestedKey × W)), valW ((nk k2, x) :: ws) (nk k) = valW ws (nk k) := fun x ws => by simp [valW, List.find?_cons, c2]
      rw [e2] at e
      obtain ⟨v, h1, h2⟩ := RwD.val t e
      exact ⟨v, by rw [valV_neg c]; exact h1, h2⟩
theorem RwD.some_ {k : Key} : ∀ {ws : List (NestedKey × W)} {vs : List (Key × V)}, RwD K Z H ws vs → (valV vs k).isSome = (valW ws (nk k)).isSome
  | _, _, .nil => rfl
  | _, _, .cons (k := k2) r t => by
    by_cases c : k2 = k
    · subst c
      rw [valV_pos rfl]
      simp [valW, List.find?_cons]
    · have c2 : ¬ nk k2 = nk k := fun h => c (nk_inj h)
      rw [valV_neg c, RwD.some_ t]
      simp [valW, List.find?_cons, c2]
theorem RwD.repl {k : Key} {w : W} {v : V} (r : Rw K Z H w v) : ∀ {ws : List (NestedKey × W)} {vs : List (Key × V)}, RwD K Z H ws vs → RwD K Z H (ws.map fun kv => if kv.1 = nk k then (kv.1, w) else kv) (vs.map fun kv => if kv.1 = k then (kv.1, v) else kv)
  | _, _, .nil => .nil
  | _, _, .cons (k := k2) r2 t => by
    rw [List.map_cons, List.map_cons]
    by_cases c : k2 = k
    · subst c
      simp only [if_true]
      exact .cons r (RwD.repl r t)
    · have c2 : ¬ nk k2 = nk k := fun h => c (nk_inj h)
      simp only [if_neg c, if_neg c2]
      exact .cons r2 (RwD.repl r t)
theorem RwD.snoc {k : Key} {w : W} {v : V} (r : Rw K Z H w v) : ∀ {ws : List (NestedKey × W)} {vs : List (Key × V)}, RwD K Z H ws vs → RwD K Z H (ws ++ [(nk k, w)]) (vs ++ [(k, v)])
  | _, _, .nil => .cons r .nil
  | _, _, .cons r2 t => .cons r2 (RwD.snoc r t)
theorem RwD.any {k : Key} : ∀ {ws : List (NestedKey × W)} {vs : List (Key × V)}, RwD K Z H ws vs → (ws.any fun kv => decide (kv.1 = nk k)) = vs.any fun kv => decide (kv.1 = k)
  | _, _, .nil => rfl
  | _, _, .cons r2 t => by rw [List.any_cons, List.any_cons, RwD.any t, nk_dec]
theorem RwD.put {k : Key} {w : W} {v : V} (r : Rw K Z H w v) {ws : List (NestedKey × W)} {vs : List (Key × V)} (t : RwD K Z H ws vs) : RwD K Z H (putD ws (nk k) w) (putK vs k v) := by
  unfold putD putK
  rw [t.any]
  split
  · exact t.repl r
  · exact t.snoc r
theorem dicOf_at (h : HRel K Z G H) {w : W} {v : V} {kvs : List (NestedKey × W)} (r : Rw K Z H w v) (e : dicOf G w = some kvs) : ∃ p us, v = .ref p ∧ H p = some (.dK us) ∧ RwD K Z H kvs us := by
  cases r with
  | dic z s r => simp only [dicOf, Option.some.injEq] at e; subst e; exact ⟨_, _, rfl, s, r⟩
  | @ref p =>
    simp only [dicOf] at e
    cases q : G p with
    | none => rw [q] at e; cases e
    | some o =>
      rw [q] at e
      cases o with
      | dic kvs' =>
        simp only [Option.some.injEq] at e
        subst e
        obtain ⟨u, eu, ru⟩ := h.g p _ q
        cases ru with
        | dic r => exact ⟨p, _, rfl, eu, r⟩
      | lst _ => cases e
      | ins _ _ => cases e
  | _ => cases e
theorem new_dic (h : HRel K Z G H) {p : Addr} (n : H p = none) : G p = none ∧ HRel K Z (gup G p (.dic [])) (upd H p (.dK [])) ∧ Ext Z G H Z (gup G p (.dic [])) (upd H p (.dK [])) := by
  have x : Ext Z G H Z G (upd H p (.dK [])) := Ext.laid h n
  refine ⟨h.fresh n, (h.laid n).track upd_same (h.freshZ n) (.dic .nil), ⟨fun _ z => z, fun q u e g => ?_, fun _ _ _ z => z⟩⟩
  have c : q ≠ p := ne_of_none e n
  exact ⟨by rw [upd_ne c]; exact e, by rw [gup_ne c]; exact g⟩
theorem chg_dic (h : HRel K Z G H) {p : Addr} {kvs kvs' : List (NestedKey × W)} {us' : List (Key × V)} (e : G p = some (.dic kvs)) (r : RwD K Z H kvs' us') :
    HRel K Z (gup G p (.dic kvs')) (upd H p (.dK us')) ∧ Ext Z G H Z (gup G p (.dic kvs')) (upd H p (.dK us')) := by
  have x : Ext Z G H Z (gup G p (.dic kvs')) (upd H p (.dK us')) := ⟨fun _ z => z, fun q u e' g => by
    have c : q ≠ p := fun c => by rw [c, e] at g; cases g
    exact ⟨by rw [upd_ne c]; exact e', by rw [gup_ne c]; exact g⟩, fun _ _ _ z => z⟩
  refine ⟨⟨fun q z => ?_, fun q g e' => ?_⟩, x⟩
  · have c : q ≠ p := fun c => by
      have := (h.z q z).1
      rw [c, e] at this; cases this
    exact ⟨by rw [gup_ne c]; exact (h.z q z).1, by rw [upd_ne c]; exact (h.z q z).2⟩
  · by_cases d : q = p
    · rw [d, gup_same] at e'; cases e'
      exact ⟨_, by rw [d]; exact upd_same, .dic (r.keep (x.keep h))⟩
    · rw [gup_ne d] at e'
      obtain ⟨u, e2, r2⟩ := h.g q g e'
      exact ⟨u, by rw [upd_ne d]; exact e2, r2.ext h x⟩
end
/-! ### rules -/
def wDGet : RW2 := fun x y G Q => isS (dicOf G x) fun kvs => isS (keyOf y) fun k => isS (valW kvs (nk k)) fun w => Q w G
def wDIn (neg : Bool) : RW2 := fun y x G Q => isS (dicOf G x) fun kvs => isS (keyOf y) fun k => Q (.bl (if neg then !(valW kvs (nk k)).isSome else (valW kvs (nk k)).isSome)) G
def rDGet : R2 := fun x y H Q => ∃ a v, x = .ref a ∧ DGet H a y (some v) ∧ Q v H
def rDIn (neg : Bool) : R2 := fun y x H Q => ∃ a o, x = .ref a ∧ DGet H a y o ∧ Q (.bl (if neg then !o.isSome else o.isSome)) H
theorem sim_dget {K : PySem.W.Frag} : Sim2 K rDGet wDGet := by
  intro Z G H x y v u Qw Q h rx ry t k
  obtain ⟨kvs, e, t1⟩ := isS_ex t
  obtain ⟨kk, ek, t2⟩ := isS_ex t1
  obtain ⟨w, ew, q⟩ := isS_ex t2
  obtain ⟨p, us, rfl, s, r⟩ := dicOf_at h rx e
  obtain ⟨z, ez, rz⟩ := r.val ew
  rw [ry.key ek]
  exact ⟨p, z, rfl, by rw [← ez]; exact DGet.k s, k.at h rz q⟩
theorem sim_din {K : PySem.W.Frag} {neg : Bool} : Sim2 K (rDIn neg) (wDIn neg) := by
  intro Z G H y x u v Qw Q h ry rx t k
  obtain ⟨kvs, e, t1⟩ := isS_ex t
  obtain ⟨kk, ek, q⟩ := isS_ex t1
  obtain ⟨p, us, rfl, s, r⟩ := dicOf_at h rx e
  rw [ry.key ek]
  refine ⟨p, _, rfl, DGet.k s, ?_⟩
  rw [r.some_]
  exact k.at h .bl q
def wDNew : TEw := fun _ G Q => ∀ p, G p = none → Q (.ref p) (gup G p (.dic []))
def dPut (x y v : W) (G : Gp) (P : Gp → Prop) : Prop := match x with
  | .ref p => isD (G p) fun kvs => kvs.length < sizeLine ∧ isS (keyOf y) fun k => P (gup G p (.dic (putD kvs (nk k) v)))
  | _ => False
theorem dPut_ref {p : Addr} {y v : W} {G : Gp} {P : Gp → Prop} : dPut (.ref p) y v G P = isD (G p) fun kvs => kvs.length < sizeLine ∧ isS (keyOf y) fun k => P (gup G p (.dic (putD kvs (nk k) v))) := rfl
def wDPut (td ty tv : TEw) : TSw := fun D σ G => tv σ G fun v G1 => td σ G1 fun x G2 => ty σ G2 fun y G3 => dPut x y v G3 fun G4 => D.nx σ G4
def wLenD : List W → Gp → QW → Prop := fun ws G Q => match ws with
  | [x] => isS (dicOf G x) fun kvs => Q (.int kvs.length) G
  | _ => False
/-- {a: b} -/
def wDOne (tk tv : TEw) : TEw := fun σ G Q => ∀ p, G p = none → tk σ (gup G p (.dic [])) fun x G1 => tv σ G1 fun y G2 => G2 p = some (.dic []) ∧ isS (keyOf x) fun k => Q (.ref p) (gup G2 p (.dic [(nk k, y)]))
section
variable {X : Cx} {K : PySem.W.Frag} {a b o i e : Expr} {ta tb td ty tv : TEw} {pos pos' tpos : Pos} {k : Nat}
theorem hu1 {A : Around} {k : Nat} (hr : Room k A) : A.units + 1 < cLine := by have := hr.un; omega
theorem qdget (hr : Room k X.A) (ha : PEw X a ta) (hb : PEw X b tb) (hs : NoSl b := by intro _ _; rfl) : PEw X (.Subscript a b pos) (wOp wDGet ta tb) :=
  PE.imp (pe_dget (hu1 hr) ha hb hs) fun _ _ _ h => lift2 sim_dget h
theorem qdin (hr : Room k X.A) (ha : PEw X a ta) (hb : PEw X b tb) (hm : behindInMarks .In b = false := by rfl) : PEw X (.Compare a [.In] [b] pos) (wOp (wDIn false) ta tb) :=
  PE.imp (pe_cmp (pc_din (hu1 hr) ha hb) hm) fun _ _ _ h => lift2 (sim_din (neg := false)) h
theorem qdnin (hr : Room k X.A) (ha : PEw X a ta) (hb : PEw X b tb) (hm : behindInMarks .NotIn b = false := by rfl) : PEw X (.Compare a [.NotIn] [b] pos) (wOp (wDIn true) ta tb) :=
  PE.imp (pe_cmp (pc_dnotin (hu1 hr) ha hb) hm) fun _ _ _ h => lift2 (sim_din (neg := true)) h
theorem qtdin (hr : Room k X.A) (ha : PEw X a ta) (hb : PEw X b tb) (hm : behindInMarks .In b = false := by rfl) : PTw X (.Compare a [.In] [b] pos) (wTest (wOp (wDIn false) ta tb)) :=
  PT.imp (pt_cmp (pc_din (hu1 hr) ha hb) hm) fun _ _ _ h => ltest (fun _ _ _ => lift2 (sim_din (neg := false))) h
theorem qtdnin (hr : Room k X.A) (ha : PEw X a ta) (hb : PEw X b tb) (hm : behindInMarks .NotIn b = false := by rfl) : PTw X (.Compare a [.NotIn] [b] pos) (wTest (wOp (wDIn true) ta tb)) :=
  PT.imp (pt_cmp (pc_dnotin (hu1 hr) ha hb) hm) fun _ _ _ h => ltest (fun _ _ _ => lift2 (sim_din (neg := true))) h
theorem qdnew : PEw X (.Dict [] [] pos) wDNew := PE.imp pe_dnewK fun σ H Q h => by
  obtain ⟨Z, σ', G, Qw, ev, hr, t, k⟩ := h
  intro p n
  obtain ⟨g, h2, x2⟩ := new_dic hr n
  exact k _ _ _ _ _ x2 h2 .ref (t p g)
theorem qdone (ha : PEw X a ta) (hb : PEw X b tb) : PEw X (.Dict [some a] [b] pos) (wDOne ta tb) := PE.imp (pe_disp (pps_cons ha hb pps_nil) rfl rfl (by simp) (by simp)) fun σ H Q h => by
  obtain ⟨Z, σ', G, Qw, ev, hr, t, k⟩ := h
  intro p n
  obtain ⟨g, h1, x1⟩ := new_dic hr n
  refine ⟨Z, σ', _, _, ev.ext hr x1, h1, t p g, fun Z2 G2 H2 x v x2 h2 r2 t2 => ⟨Z2, σ', G2, _, (ev.ext hr x1).ext h1 x2, h2, t2, fun Z3 G3 H3 y u x3 h3 r3 t3 => ?_⟩⟩
  obtain ⟨g3, t4⟩ := t3
  obtain ⟨kk, ek, q⟩ := isS_ex t4
  obtain ⟨us, eu, ru⟩ := h3.g p _ g3
  cases ru with
  | dic r =>
    cases r
    refine ⟨eu, [(kk, u)], ?_, by simp, ?_⟩
    · rw [(r2.ext h2 x3).key ek]; rfl
    · obtain ⟨h4, x4⟩ := chg_dic (kvs' := [(nk kk, y)]) (us' := [(kk, u)]) h3 g3 (.cons r3 .nil)
      exact k _ _ _ _ _ (((x1.trans x2).trans x3).trans x4) h4 .ref q
theorem qdput (hr : Room k X.A) (hd : PEw X o td) (hi : PEw X i ty) (hv : PEw X e tv) (hs : swapsWith e (some (.Subscript o i pos')) pos.line X.env = pure false := by rfl) : PSw X (.Assign [.Subscript o i pos'] e pos) (wDPut td ty tv) :=
  PS.imp (ps_dput (hu1 hr) hd hi hv hs) fun D σ H h => by
    obtain ⟨Z, σ', G, Dw, ev, hh, t, k⟩ := h
    refine ⟨Z, σ', G, _, ev, hh, t, fun Z1 G1 H1 vw vv x1 h1 r1 t1 => ⟨Z1, σ', G1, _, ev.ext hh x1, h1, t1, fun Z2 G2 H2 xw xv x2 h2 r2 t2 => ⟨Z2, σ', G2, _, (ev.ext hh x1).ext h1 x2, h2, t2, fun Z3 G3 H3 yw yv x3 h3 r3 t3 => ?_⟩⟩⟩
    have r2' := r2.ext h2 x3
    cases r2' with
    | @ref p =>
      obtain ⟨kvs, g, l, t4⟩ := isD_ex t3
      obtain ⟨kk, ek, q⟩ := isS_ex t4
      obtain ⟨us, eu, ru⟩ := h3.g p _ g
      cases ru with
      | dic r =>
        obtain ⟨h4, x4⟩ := chg_dic h3 g (r.put (k := kk) ((r1.ext h1 x2).ext h2 x3))
        have xx := ((x1.trans x2).trans x3).trans x4
        rw [r3.key ek]
        exact ⟨p, _, rfl, DPut.k eu (by rw [← r.length]; exact l), k.nx _ _ _ _ _ xx h4 (ev.ext hh xx) q⟩
    | _ => exact False.elim t3
theorem sim_lenD {K : PySem.W.Frag} : SimN K (fun xs H Q => ∃ a kvs, xs = [V.ref a] ∧ H a = some (.dK kvs) ∧ Q (.int kvs.length) H) wLenD := by
  intro Z G H ws vs Qw Q h r t k
  cases r with
  | nil => exact False.elim t
  | cons rx rr =>
    cases rr with
    | cons _ _ => exact False.elim t
    | nil =>
      obtain ⟨kvs, e, q⟩ := isS_ex t
      obtain ⟨p, us, rfl, s, r⟩ := dicOf_at h rx e
      exact ⟨p, us, rfl, s, by rw [← r.length]; exact k.at h .int q⟩
theorem qlenD {es : List Expr} {t : TAw} {p : Pos} (hg : Gl X "len") (hm : X.mg "len" = none) (ha : PAw X (e :: es) t) (he : starEach (e :: es) X.env = (false, eval e X.env) :: starEach es X.env := by rfl) (hpl : (backTo pos (starEach es X.env)).any (·.1) = false := by rfl) :
    PEw X (.Call (.Name "len" p) (e :: es) [] pos) (wCB wLenD t) := PE.imp (pe_callB call_lenD hg hm (by decide +kernel) ha (by decide) (by decide) he hpl) fun _ _ _ h => liftN sim_lenD h
end
end WL

namespace WL
open PySem PySem.Spec PyProof.Rows L2
/-! ### zip of three lists that are still to be changed; a list of one's own by a list that is still to be changed -/
def zip3R (ws : List W) (G : Gp) (R : List W → (Gp → Prop) → Gp → Prop) : Prop := match ws with
  | [a, b, c] => isS (asL G a) fun xs => isS (asL G b) fun ys => isS (asL G c) fun zs => R (zip3W xs ys zs) (fun G => pinOf a xs G ∧ pinOf b ys G ∧ pinOf c zs G) G
  | _ => False
theorem zip3R_eq {a b c : W} {G : Gp} {R : List W → (Gp → Prop) → Gp → Prop} : zip3R [a, b, c] G R = isS (asL G a) fun xs => isS (asL G b) fun ys => isS (asL G c) fun zs => R (zip3W xs ys zs) (fun G => pinOf a xs G ∧ pinOf b ys G ∧ pinOf c zs G) G := rfl
def i_zip3R (ta : TAw) : TIr := fun σ G R => ta σ G fun ws G1 => zip3R ws G1 R
theorem a0_zip3R {ta : TAw} {σ : SW} {G : Gp} {P : List W → (Gp → Prop) → Gp → Prop} : i_zip3R ta σ G P = ta σ G fun ws G1 => zip3R ws G1 P := rfl
theorem qizip3R {X : Cx} {ta : TAw} {p pos tpos : Pos} {elts : List Expr} {kk : Nat} {e e2 e3 : Expr} (hg : Gl X "zip") (hm : X.mg "zip" = none) (ha : PAw X [e, e2, e3] ta)
    (hs : starEach [e, e2, e3] X.env = (false, eval e X.env) :: starEach [e2, e3] X.env := by rfl) (hpl : (backTo pos (starEach [e2, e3] X.env)).any (·.1) = false := by rfl) :
    PIr X (.Tuple elts kk tpos) (.Call (.Name "zip" p) [e, e2, e3] [] pos) (i_zip3R ta) := PI.imp (pi_zipG3 hg hm ha hs hpl) fun σ H R h => by
  obtain ⟨Z, σ', G, Qw, ev, hr, t, k⟩ := h
  refine ⟨Z, σ', G, _, ev, hr, t, fun Z1 G1 H1 ws vs x1 h1 r1 t1 => ?_⟩
  cases r1 with
  | nil => exact False.elim t1
  | cons ra rr =>
    cases rr with
    | nil => exact False.elim t1
    | cons rb rr =>
      cases rr with
      | nil => exact False.elim t1
      | cons rc rr =>
        cases rr with
        | cons _ _ => exact False.elim t1
        | nil =>
          rw [zip3R_eq] at t1
          obtain ⟨xs, ex, t1⟩ := isS_ex t1
          obtain ⟨ys, ey, t1⟩ := isS_ex t1
          obtain ⟨zs, ez, t1⟩ := isS_ex t1
          obtain ⟨a, rfl, ⟨va, sa⟩, pa⟩ := pin_at h1 ra ex
          obtain ⟨b, rfl, ⟨vb, sb⟩, pb⟩ := pin_at h1 rb ey
          obtain ⟨c, rfl, ⟨vc, sc⟩, pc⟩ := pin_at h1 rc ez
          refine ⟨true, true, true, a, b, c, _, _, _, rfl, sa, sb, sc, k Z1 G1 H1 _ _ _ x1 h1 ⟨fun H => (∃ xs', SqL X.K H a xs' ∧ xs'.length = xs.length) ∧ (∃ ys', SqL X.K H b ys' ∧ ys'.length = ys.length) ∧ ∃ zs', SqL X.K H c zs' ∧ zs'.length = zs.length,
            fun i H v H' => ∃ T x y z, v = .ref T ∧ H T = none ∧ H' = upd H T (.tup [x, y, z]) ∧ (∀ xs', SqL X.K H a xs' → xs'[i]? = some x) ∧ (∀ ys', SqL X.K H b ys' → ys'[i]? = some y) ∧ ∀ zs', SqL X.K H c zs' → zs'[i]? = some z, ⟨fun i H hi q => ?_, fun H q => ?_, fun i H v H' hi q y => ?_⟩, fun Z' G' H' x h' i' => ?_⟩ t1⟩
          · rw [zip3_len] at hi
            obtain ⟨⟨v1, q1, l1⟩, ⟨v2, q2, l2⟩, v3, q3, l3⟩ := q
            exact ⟨v1, v2, v3, _, _, _, q1, q2, q3, List.getElem?_eq_getElem (by omega), List.getElem?_eq_getElem (by omega), List.getElem?_eq_getElem (by omega)⟩
          · obtain ⟨⟨v1, q1, l1⟩, ⟨v2, q2, l2⟩, v3, q3, l3⟩ := q
            exact ⟨v1, v2, v3, q1, q2, q3, by rw [zip3_len]; omega, by rw [zip3_len]; omega, by rw [zip3_len]; omega, by rw [zip3_len]; omega⟩
          · obtain ⟨T, x, z, t, e1, e2, e3, f1, f2, f3⟩ := y
            exact ⟨T, x, z, t, e1, e2, e3, f1, f2, f3⟩
          · obtain ⟨va, sa', ra'⟩ := pa Z' G' H' x h' i'.1
            obtain ⟨vb, sb', rb'⟩ := pb Z' G' H' x h' i'.2.1
            obtain ⟨vc, sc', rc'⟩ := pc Z' G' H' x h' i'.2.2
            refine ⟨⟨⟨va, sa', ra'.length.symm⟩, ⟨vb, sb', rb'.length.symm⟩, vc, sc', rc'.length.symm⟩, fun i v H'' hi y => ?_⟩
            obtain ⟨T, u1, u2, u3, rfl, nT, rfl, f1, f2, f3⟩ := y
            obtain ⟨w, ew, rw'⟩ := ra'.get' i (f1 va sa')
            obtain ⟨u, eu, ru⟩ := rb'.get' i (f2 vb sb')
            obtain ⟨t, et, rt⟩ := rc'.get' i (f3 vc sc')
            obtain ⟨h2, x2, r3⟩ := new_tup h' nT (.cons rw' (.cons ru (.cons rt .nil)))
            exact ⟨tup3 w u t, zip3_get _ _ _ i ew eu et, r3, x2, h2⟩
def wLcPM (vs : List Nat) (t0 : TEw) (g : TGw) (tt : TTw) (te : TEw) : TEw := fun σ G Q => t0 σ G fun w G1 => isS (asL G1 w) fun us => us.length ≤ sizeLine ∧ lcP (pinOf w us) g tt te (swipe σ vs) us [] G1 fun zs G2 => ∀ p, G2 p = none → Q (.ref p) (gup G2 p (.lst zs))
theorem a0_lcPM {vs : List Nat} {t0 : TEw} {g : TGw} {tt : TTw} {te : TEw} {σ : SW} {G : Gp} {Q : QW} : wLcPM vs t0 g tt te σ G Q = t0 σ G fun w G1 => isS (asL G1 w) fun us => us.length ≤ sizeLine ∧ lcP (pinOf w us) g tt te (swipe σ vs) us [] G1 fun zs G2 => ∀ p, G2 p = none → Q (.ref p) (gup G2 p (.lst zs)) := rfl
section
variable {K : PySem.W.Frag}
theorem llcPM {vs : List Nat} {t0 : TEw} {g : TG} {gw : TGw} {tt : TTw} {te : TEw} (sg : SimG K vs g gw) {σ : SV} {H : Hp} {Q : VK}
    (h : liftE K (wLcPM vs t0 gw tt te) σ H Q) : tLc (iSeq K (liftE K t0)) g (liftT K tt) (liftE K te) vs σ H Q := by
  obtain ⟨Z, σ', G, Qw, e, hr, t, k⟩ := h
  refine ⟨Z, σ', G, _, e, hr, t, fun Z1 G1 H1 w v x1 h1 r1 t1 => ?_⟩
  obtain ⟨ws, ew0, hl, t1⟩ := isS_ex t1
  obtain ⟨p, rfl, s0, pin⟩ := pin_at h1 r1 ew0
  generalize pinOf w ws = I at t1 pin
  refine .inl ⟨p, rfl, s0, fun D hD => ?_⟩
  have x0 : Ext Z1 G1 H1 Z1 G1 (upd H1 D (.lst [])) := Ext.laid h1 hD
  have h0 := h1.laid (o := .lst []) hD
  refine lc_it (walk_live (K := K) (a := p) (n := ws.length)) (fun i H2 => ∃ Z2 G2 us xs, Ext Z1 G1 H1 Z2 G2 H2 ∧ HRel K Z2 G2 H2 ∧ H2 D = some (.lst xs) ∧ G2 D = none ∧ ¬ Z2 D ∧ RwL K Z2 H2 us xs ∧ us.length ≤ i ∧ lcP I gw tt te (swipe σ' vs) (ws.drop i) us G2 fun us G2 => ∀ p, G2 p = none → Qw (.ref p) (gup G2 p (.lst us))) ?_ ?_ ?_ ?_
  · exact ⟨Z1, G1, [], [], x0, h0, upd_same, h1.fresh hD, h1.freshZ hD, .nil, Nat.le_refl _, t1⟩
  · rintro i H2 _ ⟨Z2, G2, us, xs, x2, h2, _, _, _, _, _, t2⟩
    obtain ⟨vs2, s2, r2⟩ := pin Z2 G2 H2 x2 h2 (lcP_at t2)
    exact ⟨vs2, s2, r2.length.symm⟩
  · rintro i v H2 H3 hi ⟨Z2, G2, us, xs, x2, h2, eD, gD, zD, rus, lus, t2⟩ ⟨e3, y⟩
    subst e3
    obtain ⟨vs2, s2, r2⟩ := pin Z2 G2 H3 x2 h2 (lcP_at t2)
    have ed : ws.drop i = ws[i] :: ws.drop (i + 1) := List.drop_eq_getElem_cons hi
    rw [ed] at t2
    obtain ⟨g2, t2⟩ := t2
    obtain ⟨w, ew, rw'⟩ := r2.get' i (y _ s2)
    rw [List.getElem?_eq_getElem hi] at ew
    injection ew with ew
    have eσ : RwS K Z2 H3 (swipe σ' vs) (L2.wipe σ vs) := (e.ext hr (x1.trans x2)).wipe vs
    refine sg Z2 G2 H3 _ _ ws[i] v _ _ eσ h2 (by rw [ew]; exact rw') t2 fun τ' τ eτ sτ t3 => ⟨?_, ?_⟩
    · rw [sτ.wipe, wipe_wipe vs vs fun i hi => hi]
    refine ⟨Z2, τ', G2, _, eτ, h2, t3, fun Z4 G4 H4 b x4 h4 t4 => ?_⟩
    have eD4 := x4.f D _ eD gD
    have zD4 : ¬ Z4 D := fun z => zD (x4.n D (by rw [eD]; simp) gD z)
    have rus4 := rus.ext h2 x4
    cases b with
    | false => exact ⟨Z4, G4, us, xs, x2.trans x4, h4, eD4.1, eD4.2, zD4, rus4, by omega, t4⟩
    | true =>
      refine ⟨Z4, τ', G4, _, eτ.ext h2 x4, h4, t4, fun Z5 G5 H5 yw yv x5 h5 r5 t5 => ?_⟩
      have eD5 := x5.f D _ eD4.1 eD4.2
      have zD5 : ¬ Z5 D := fun z => zD4 (x5.n D (by rw [eD4.1]; simp) eD4.2 z)
      have rus5 := rus4.ext h4 x5
      have kp : Keep Z5 H5 Z5 (upd H5 D (.lst (xs ++ [yv]))) := Keep.hid eD5.1 zD5
      have xx := (x2.trans x4).trans x5
      refine ⟨xs, eD5.1, by rw [← rus.length]; omega, Z5, G5, us ++ [yw], xs ++ [yv], ⟨xx.z, fun p u e' g' => ?_, xx.n⟩, ⟨fun p z => ?_, fun p o g' => ?_⟩, upd_same, eD5.2, zD5, (rus5.append (.cons r5 .nil)).keep kp, by simp; omega, t5⟩
      · rw [upd_ne (ne_of_none e' hD)]; exact xx.f p u e' g'
      · have := h5.z p z
        rw [upd_ne (fun c => zD5 (by rw [← c]; exact z))]
        exact this
      · obtain ⟨u, e', r⟩ := h5.g p o g'
        have c : p ≠ D := fun c => by rw [c, eD5.2] at g'; cases g'
        exact ⟨u, by rw [upd_ne c]; exact e', r.keep kp⟩
  · rintro H2 ⟨Z2, G2, us, xs, x2, h2, eD, gD, zD, rus, lus, t2⟩
    rw [List.drop_length] at t2
    obtain ⟨_, t2⟩ := t2
    obtain ⟨Z3, G3, w, x3, h3, r3, q⟩ := lc_mut Z1 G1 H1 Z2 G2 H2 us xs D Qw hD x2 h2 rus eD gD zD t2
    exact k Z3 G3 H2 w _ (x1.trans x3) h3 r3 q
end
section
variable {X : Cx} {scope : Scope} {pos : Pos} {elt tg iter : Expr} {ifs : List Expr} {own : List (Str × Nat)} {t0 : TEw} {gw : TGw} {tt : TTw} {te : TEw}
theorem qlcPM (hc : X.calm = true) (hN : X.N.Nodup) (hi : PEw X iter t0) (ok : BlkOk X.N X.env.scope scope own) (hg : TgW X (own.map (·.2)) tg scope gw)
    (ht : ∀ (s : Shared) (H : Hp) (C : Addr) (cl : List (Str × Addr)) (fp : List Addr), PTsw (X.blk s H scope (compEnvC scope cl C X.env) fp) ifs tt) (he : ∀ (s : Shared) (H : Hp) (C : Addr) (cl : List (Str × Addr)) (fp : List Addr), PEw (X.blk s H scope (compEnvC scope cl C X.env) fp) elt te)
    (hs : ∀ x, foldedSetIterable iter X.env x = pure x := by intro _; rfl) : PEw X (.ListComp elt [⟨tg, iter, ifs, 0⟩] scope pos) (wLcPM (own.map (·.2)) t0 gw tt te) := by
  obtain ⟨g, pg, sg⟩ := hg.ex
  exact PE.imp (pe_lc (tt := liftT X.K tt) (te := liftE X.K te) hc hN (pi_seq hi) ok pg ht he hs) fun _ _ _ h => llcPM sg h
end
/-! ### a <= b < c; len(set(xs)), xs tuples of whole numbers, each once -/
theorem qlelt {X : Cx} {a b c : Expr} {ta tb tc : TEw} {pos : Pos} (ha : PEw X a ta) (hb : PEw X b tb) (hc : PEw X c tc) (hm : lastMarks [.LtE, .Lt] [b, c] = false := by with_unfolding_all rfl) : PEw X (.Compare a [.LtE, .Lt] [b, c] pos) (wChain wLe wLt ta tb tc) :=
  qchain op_le op_lt (sim_II fun _ _ _ _ => .bl) (sim_II fun _ _ _ _ => .bl) ha hb hc hm
theorem qtlelt {X : Cx} {a b c : Expr} {ta tb tc : TEw} {pos : Pos} (ha : PEw X a ta) (hb : PEw X b tb) (hc : PEw X c tc) (hm : lastMarks [.LtE, .Lt] [b, c] = false := by with_unfolding_all rfl) : PTw X (.Compare a [.LtE, .Lt] [b, c] pos) (wTest (wChain wLe wLt ta tb tc)) :=
  qtchain op_le op_lt (sim_II fun _ _ _ _ => .bl) (sim_II fun _ _ _ _ => .bl) ha hb hc hm
abbrev tupI (ns : List Int) : W := .tup (ns.map W.int)
theorem RwL.tupIs {K : PySem.W.Frag} {Z : Zp} {H : Hp} : ∀ {nss : List (List Int)} {vs : List V}, RwL K Z H (nss.map tupI) vs → ∃ ks : List (Addr × List Int), vs = ks.map (fun p => V.ref p.1) ∧ nss = ks.map (·.2) ∧ ∀ p ∈ ks, SqT K H p.1 (p.2.map V.int)
  | [], _, .nil => ⟨[], rfl, rfl, fun p hp => by cases hp⟩
  | ns :: nss, _, .cons r t => by
    obtain ⟨ks, rfl, rfl, hk⟩ := RwL.tupIs t
    cases r with
    | @tup p ws vs s r =>
      have hin : ∀ {ns : List Int} {vs : List V}, RwL K Z H (ns.map W.int) vs → vs = ns.map V.int := fun {ns} => by
        induction ns with
        | nil => intro vs h; cases h; rfl
        | cons n ns ih => intro vs h; cases h with | cons r t => cases r; rw [ih t]; rfl
      refine ⟨(p, ns) :: ks, rfl, rfl, fun q hq => ?_⟩
      rcases List.mem_cons.mp hq with rfl | hq
      · rw [← hin r]; exact s
      · exact hk q hq
def tLenSetT (K : PySem.W.Frag) (ta : TE) : TE := fun σ H Q => ta σ H fun x H1 => ∃ (l : Addr) (ks : List (Addr × List Int)), x = V.ref l ∧ SqL K H1 l (ks.map fun p => V.ref p.1) ∧ (∀ p ∈ ks, SqT K H1 p.1 (p.2.map V.int)) ∧ ks.length < 64 ∧ (ks.map (·.2)).Nodup ∧ Q (.int ks.length) H1
theorem pe_lenSetT {X : Cx} {a : Expr} {ta : TE} {p p2 q pos : Pos} (hc : X.calm = true) (hu : X.A.units + 64 < cLine) (hg : Gl X "len") (hm : X.mg "len" = none) (hg2 : Gl X "set") (hm2 : X.mg "set" = none) (ha : PE X a ta)
    (na : starEach [a] X.env = (false, eval a X.env) :: starEach [] X.env := by rfl) : PE X (.Call (.Name "len" p) [.Call (.Name "set" p2) [a] [] q] [] pos) (tLenSetT X.K ta) := by
  refine ⟨fun pins s σ H Q I h => ?_⟩
  refine Call_ (ld_blt I hg hm PySem.boot_len ?_)
  refine PyProof.Rows.callWith_builtin1 (PyProof.Rows.args_cons ?_ rfl) rfl rfl
  refine Call_ (ld_blt I hg2 hm2 PyProof.Rows.boot_set ?_)
  refine PyProof.Rows.callWith_type1 (PyProof.Rows.args_cons (thn (ha.run pins s σ H _ I h) fun v s1 ⟨x, H1, I1, r1, q1⟩ => PyProof.Rows.args_nil ?_) na) na rfl
  obtain ⟨l, ks, rfl, hl, hk, hf, hnd, q1⟩ := q1
  cases r1
  obtain ⟨its, rv, pl, hz⟩ := I1.list hl
  refine call_set_tups (P := X.prog) (w := X.w) ks (I1.ok.hd hc) pl.isList (by simpa using refs_of_vals rv) (fun p hp => I1.isT (hk p hp)) hf (by have : X.A.units + 64 < cLine := hu; exact Nat.lt_of_le_of_lt (Nat.add_le_add_left (by decide : 3 ≤ 64) _) this) fun h' tk L es ep t R g k => ?_
  have hlen : L.length = ks.length := by
    have pm : (L.map (·.2)).Perm (ks.map (·.2)) := (List.perm_ext_iff_of_nodup R.nd hnd).mpr fun x => ⟨fun hx => ?_, fun hx => ?_⟩
    · have := pm.length_eq
      rwa [List.length_map, List.length_map] at this
    · obtain ⟨p, hp, rfl⟩ := List.mem_map.mp hx
      exact List.mem_map.mpr ⟨p, List.mem_of_mem_take (g.sub p hp), rfl⟩
    · obtain ⟨p, hp, rfl⟩ := List.mem_map.mp hx
      exact g.all p (by rw [List.take_length]; exact hp)
  obtain ⟨o, ho, hex, hd⟩ := R.ob
  refine PyProof.Rows.args_nil ?_
  have I2 : Inv X pins σ H1 { s1 with heap := h', toks := tk } := I1.kept fun b o e => k b o e
  have hsz : es.size = ks.length := (SetTR.size (s := { s1 with heap := h', toks := tk }) R).trans hlen
  refine call_len_set (s := { s1 with heap := h', toks := tk }) ho hex hd (SetTR.fits (s := { s1 with heap := h', toks := tk }) R) (by rw [hsz]; omega) ⟨.int ks.length, H1, I2.tok _, ⟨_, by rw [hsz]⟩, q1⟩
def wLenSetT (ta : TEw) : TEw := fun σ G Q => ta σ G fun x G1 => isS (asL G1 x) fun ws => ∃ nss : List (List Int), ws = nss.map tupI ∧ nss.length < 64 ∧ nss.Nodup ∧ Q (.int nss.length) G1
theorem qlenSetT {X : Cx} {k : Nat} {a : Expr} {ta : TEw} {p p2 q pos : Pos} (hc : X.calm = true) (hr : Room k X.A) (hg : Gl X "len") (hm : X.mg "len" = none) (hg2 : Gl X "set") (hm2 : X.mg "set" = none) (ha : PEw X a ta)
    (na : starEach [a] X.env = (false, eval a X.env) :: starEach [] X.env := by rfl) : PEw X (.Call (.Name "len" p) [.Call (.Name "set" p2) [a] [] q] [] pos) (wLenSetT ta) :=
  PE.imp (pe_lenSetT hc (hu64 hr) hg hm hg2 hm2 ha na) fun σ H Q h => by
    obtain ⟨Z, σ', G, Qw, ev, hh, t, k⟩ := h
    refine ⟨Z, σ', G, _, ev, hh, t, fun Z1 G1 H1 x v x1 h1 r1 t1 => ?_⟩
    obtain ⟨ws, e, nss, rfl, l, nd, q⟩ := isS_ex t1
    obtain ⟨a, vs, rfl, s, r⟩ := asL_sq h1 r1 e
    obtain ⟨ks, rfl, rfl, hk⟩ := r.tupIs
    rw [List.length_map] at l q
    exact ⟨a, ks, rfl, s, hk, l, nd, k Z1 G1 H1 _ _ x1 h1 .int q⟩
end WL

namespace WL
open PySem PySem.Spec PyProof.Rows L2
/-! ### zip of what does not change and a list that is still to be changed -/
def zipTR (ws : List W) (G : Gp) (R : List W → (Gp → Prop) → Gp → Prop) : Prop := match ws with
  | [a, b] => seqOf a G fun xs G2 => isS (asL G2 b) fun ys => R (xs.zipWith tup2 ys) (fun G => pinOf b ys G) G2
  | _ => False
theorem zipTR_eq {a b : W} {G : Gp} {R : List W → (Gp → Prop) → Gp → Prop} : zipTR [a, b] G R = seqOf a G fun xs G2 => isS (asL G2 b) fun ys => R (xs.zipWith tup2 ys) (fun G => pinOf b ys G) G2 := rfl
def i_zipTR (ta : TAw) : TIr := fun σ G R => ta σ G fun ws G1 => zipTR ws G1 R
theorem a0_zipTR {ta : TAw} {σ : SW} {G : Gp} {P : List W → (Gp → Prop) → Gp → Prop} : i_zipTR ta σ G P = ta σ G fun ws G1 => zipTR ws G1 P := rfl
theorem qizipTR {X : Cx} {ta : TAw} {p pos tpos : Pos} {elts : List Expr} {kk : Nat} {e e2 : Expr} (hg : Gl X "zip") (hm : X.mg "zip" = none) (ha : PAw X [e, e2] ta)
    (hs : starEach [e, e2] X.env = (false, eval e X.env) :: starEach [e2] X.env := by rfl) (hpl : (backTo pos (starEach [e2] X.env)).any (·.1) = false := by rfl) :
    PIr X (.Tuple elts kk tpos) (.Call (.Name "zip" p) [e, e2] [] pos) (i_zipTR ta) := PI.imp (pi_zipG hg hm ha hs hpl) fun σ H R h => by
  obtain ⟨Z, σ', G, Qw, ev, hr, t, k⟩ := h
  refine ⟨Z, σ', G, _, ev, hr, t, fun Z1 G1 H1 ws vs x1 h1 r1 t1 => ?_⟩
  cases r1 with
  | nil => exact False.elim t1
  | cons ra rr =>
    cases rr with
    | nil => exact False.elim t1
    | cons rb rr =>
      cases rr with
      | cons _ _ => exact False.elim t1
      | nil =>
        rw [zipTR_eq] at t1
        obtain ⟨k1, a, xs, vs, Z2, G2, rfl, h2, x2, q1, s1, t2⟩ := seqOf_ex h1 ra t1
        obtain ⟨ys, ey, t2⟩ := isS_ex t2
        obtain ⟨b, rfl, ⟨vb, sb⟩, pb⟩ := pin_at h2 (rb.ext h1 x2) ey
        refine ⟨k1, true, a, b, _, _, rfl, s1 _ _ _ Ext.refl, sb, k Z2 G2 H1 _ _ _ (x1.trans x2) h2 ⟨fun H => SqK X.K k1 H a vs ∧ ∃ ys', SqL X.K H b ys' ∧ ys'.length = ys.length,
          fun i H v H' => ∃ T x y, v = .ref T ∧ H T = none ∧ H' = upd H T (.tup [x, y]) ∧ (∀ xs', SqK X.K k1 H a xs' → xs'[i]? = some x) ∧ ∀ ys', SqL X.K H b ys' → ys'[i]? = some y, ⟨fun i H hi q => ?_, fun H q => ?_, fun i H v H' hi q y => ?_⟩, fun Z' G' H' x h' i' => ?_⟩ t2⟩
        · rw [List.length_zipWith] at hi
          obtain ⟨q0, v2, q2, l2⟩ := q
          have := q1.length
          exact ⟨vs, v2, _, _, q0, q2, List.getElem?_eq_getElem (by omega), List.getElem?_eq_getElem (by omega)⟩
        · obtain ⟨q0, v2, q2, l2⟩ := q
          have := q1.length
          exact ⟨vs, v2, q0, q2, by rw [List.length_zipWith]; omega⟩
        · obtain ⟨T, x, z, e1, e2, e3, f1, f2⟩ := y
          exact ⟨T, x, z, e1, e2, e3, f1, f2⟩
        · obtain ⟨vb, sb', rb'⟩ := pb Z' G' H' x h' i'
          refine ⟨⟨s1 _ _ _ x, vb, sb', rb'.length.symm⟩, fun i v H'' hi y => ?_⟩
          obtain ⟨T, u1, u2, rfl, nT, rfl, f1, f2⟩ := y
          obtain ⟨w, ew, rw'⟩ := (q1.ext h2 x).get' i (f1 vs (s1 _ _ _ x))
          obtain ⟨u, eu, ru⟩ := rb'.get' i (f2 vb sb')
          obtain ⟨h2', x2', r3⟩ := new_tup h' nT (.cons rw' (.cons ru .nil))
          exact ⟨tup2 w u, by rw [List.getElem?_zipWith, ew, eu], r3, x2', h2'⟩
end WL

/-! Raising: raise, calls that may raise, try .. except X as e, what a suite asks of the caught one, defs called in a suite. -/
namespace WL
open PySem PySem.Spec PyProof.Rows L2
/-! ### classes of exceptions -/
/-- every refusal stands straight under the base, which stands under ValueError -/
def subE (nm T : Str) : Bool := decide (nm = T) || (decide (T = "MainsError") || decide (T = "ValueError"))
/-- a class without own __init__ whose instances are raised -/
structure Err (K : PySem.W.Frag) (mg : Str → Option Value) (nm : Str) : Prop where
  ex : ∃ C, mg nm = some (.ref C) ∧ ClsA K nm C ∧ PySem.W.keepIn K (.ref C) = true ∧ PySem.W.excIn K C [.type "ValueError", .type "Exception", .type "BaseException", .type "object"] "ValueError.__new__" = true ∧
    PySem.W.subIn K (.ref C) (.type "BaseException") = some true ∧ PySem.W.typeIn K (.ref C) = some (.type "type")
/-- isinstance(e, T) for e of these classes; except T -/
def ErrT (K : PySem.W.Frag) (ES : List Str) (T : Str) (c : Value) : Prop := ∀ nm ∈ ES, ∀ C, ClsA K nm C → PySem.W.kitOne K (.ref C) c = some (subE nm T)
def ErrM (K : PySem.W.Frag) (ES : List Str) (T : Str) (c : Value) : Prop := ∀ nm ∈ ES, ∀ C, ClsA K nm C → PySem.W.exmOne K (.ref C) c = some (subE nm T)
def ErrC (K : PySem.W.Frag) (ES : List Str) : Prop := ∀ nm ∈ ES, ∀ C, ClsA K nm C → ExcC K C
def FldX (K : PySem.W.Frag) (ES : List Str) (f : Str) : Prop := ∀ nm ∈ ES, ∀ C, ClsA K nm C → PySem.W.findIn K (.ref C) f = some none
/-! ### raise -/
def wRaise (nm : Str) : TSw := fun D σ G => D.ex nm [] σ G
section
variable {X : Cx} {nm x m : Str} {j : Nat} {p p2 pos pos' apos : Pos} {e : Expr} {es : List Expr}
theorem qraise (E : Err X.K X.mg nm) (hc : X.calm = true) (hg : Gl X nm) (hdb : (nm == ("__debug__" : Str)) = false := by decide) : PSw X (.Raise (some (.Call (.Name nm p) [.Constant (.str m) j p2] [] pos)) none pos') (wRaise nm) := by
  obtain ⟨C, gC, cA, kC, xC, bC, tC⟩ := E.ex
  refine PS.imp (L2N.ps_raise (W := wishOf X) hc takes_wish (L2N.pmk_own F.excBase_ValueError xC gC kC (raises_own bC tC) hg hdb)) fun D σ H h => ?_
  obtain ⟨Z, σ', G, Dw, e, hr, t, k⟩ := h
  exact k.ex Z G H σ' σ nm C [] none Ext.refl hr e cA (.inl ⟨rfl, rfl⟩) t
/-! ### expressions that may raise -/
abbrev EXs := Str → List (Str × W) → SW → Gp → Prop
def liftX (X : Cx) (Ex : EXs) (t : TEw) : TE := fun σ H Q => ∃ Z σ' G Qw, RwS X.K Z H σ' σ ∧ HRel X.K Z G H ∧ t σ' G Qw ∧ KE X.K Z G H Qw Q ∧ KX X Z G H Ex
def PExw (X : Cx) (e : Expr) (te : EXs → TEw) : Prop := ∀ Ex, PE X e (liftX X Ex (te Ex))
def wCallX (sp : Spw) (t : TAw) : EXs → TEw := fun Ex σ G Q => t σ G fun ws G1 => sp ws G1 Q fun nm fs G2 => Ex nm fs σ G2
theorem qcallX {k : Nat} {sp : Spw} {t : TAw} (c : Cal X.prog X.w X.K X.mg X.base (L2N.CX X.prog X.w) k x sp) (hr : Room k X.A) (hg : Gl X x) (ha : PAw X (e :: es) t) (hdb : (x == ("__debug__" : Str)) = false := by decide)
    (he : starEach (e :: es) X.env = (false, eval e X.env) :: starEach es X.env := by rfl) (hpl : (backTo pos (starEach es X.env)).any (·.1) = false := by rfl) : PExw X (.Call (.Name x p) (e :: es) [] pos) (wCallX sp t) := fun Ex => by
  obtain ⟨f, fd, ps, F, m, kp, b⟩ := c.ex
  refine PE.imp (pe_callS F hr hg m kp b (fun σ => L2N.passAt (W := wishOf X) takes_wish σ) ha hdb he hpl) fun σ H Q h => ?_
  obtain ⟨Z, σ', G, Qw, e, hh, t, k, kx⟩ := h
  exact ⟨Z, σ', G, _, e, hh, t, fun Z1 G1 H1 ws vs x1 h1 r1 t1 => ⟨Z1, ws, G1, Qw, _, r1, h1, t1, k.mono x1, fun Z2 G2 H2 nm C fs d x2 h2 c f q => kx Z2 G2 H2 σ' σ nm C fs d (x1.trans x2) h2 (e.ext hh (x1.trans x2)) c f q⟩⟩
/-! ### statements -/
def wRetX (te : EXs → TEw) : TSw := fun D σ G => te D.ex σ G D.rt
def wDropX (te : EXs → TEw) : TSw := fun D σ G => te D.ex σ G fun _ G1 => D.nx σ G1
def wAsgX (te : EXs → TEw) (g : TGw) : TSw := fun D σ G => te D.ex σ G fun w G1 => g w σ G1 D.nx
variable {te : EXs → TEw}
theorem qretX (he : PExw X e te) : PSw X (.Return (some e) pos) (wRetX te) := ⟨fun pins s σ H D I h => by
  obtain ⟨Z, σ', G, Dw, ev, hr, t, k⟩ := h
  exact (ps_ret (he Dw.ex)).run pins s σ H D I ⟨Z, σ', G, _, ev, hr, t, k.rt, k.ex⟩⟩
theorem qexprX (he : PExw X e te) (hs : swapsWith e none pos.line X.env = pure false := by rfl) : PSw X (.Expr e pos) (wDropX te) := ⟨fun pins s σ H D I h => by
  obtain ⟨Z, σ', G, Dw, ev, hr, t, k⟩ := h
  exact (ps_expr (he Dw.ex) hs).run pins s σ H D I ⟨Z, σ', G, _, ev, hr, t, fun Z1 G1 H1 w v x1 h1 r1 q => k.nx Z1 G1 H1 σ' σ x1 h1 (ev.ext hr x1) q, k.ex⟩⟩
theorem qasgX {tg : Expr} {g : TGw} (he : PExw X e te) (hg : PGw X tg g) (hs : swapsWithSole [tg] e pos.line X.env = pure false := by rfl) (hw : swappedStores [tg] e X.env = pure none := by rfl)
    (h1 : (assignEach [tg] X.env).map (·.2) = [assign tg X.env] := by rfl) : PSw X (.Assign [tg] e pos) (wAsgX te g) := ⟨fun pins s σ H D I h => by
  obtain ⟨Z, σ', G, Dw, ev, hr, t, k⟩ := h
  exact (ps_asg (he Dw.ex) hg hs hw h1).run pins s σ H D I ⟨Z, σ', G, _, ev, hr, t, fun Z1 G1 H1 w v x1 h1 r1 q => ⟨Z1, σ', G1, w, _, ev.ext hr x1, h1, r1, q, k.nx.mono x1⟩, k.ex⟩⟩
theorem qsetX {i : Nat} {x : Str} {pos' : Pos} (hN : X.N.Nodup) (hi : X.N[i]? = some x) (hx : Loc X.env.scope x := by first | exact Or.inl rfl | exact Or.inr rfl) (he : PExw X e te) (hs : swapsWith e (some (.Name x pos')) pos.line X.env = pure false := by rfl) (hf : X.fn x = true ∨ X.env.scope.names.lookup x = some .local := by first | exact .inl rfl | exact .inr rfl | assumption) :
    PSw X (.Assign [.Name x pos'] e pos) (wAsgX te (gN i)) := ⟨fun pins s σ H D I h => by
  obtain ⟨Z, σ', G, Dw, ev, hr, t, k⟩ := h
  exact (ps_set hN hi hx (he Dw.ex) hs hf).run pins s σ H D I ⟨Z, σ', G, _, ev, hr, t, fun Z1 G1 H1 w v x1 h1 r1 q => lgN ⟨Z1, σ', G1, w, _, ev.ext hr x1, h1, r1, q, k.nx.mono x1⟩, k.ex⟩⟩
end
/-! ### try .. except X as n -/
def sdel : SW → Nat → SW
  | [], _ => []
  | _ :: l, 0 => none :: l
  | a :: l, i + 1 => a :: sdel l i
section
variable {K : PySem.W.Frag} {Z : Zp} {G : Gp} {H : Hp}
theorem RwS.del : ∀ {ws : SW} {vs : SV} (i : Nat), RwS K Z H ws vs → RwS K Z H (sdel ws i) (vs.set i none)
  | _, _, _, .nil => .nil
  | _, _, 0, .skip t => .skip t
  | _, _, 0, .cons _ t => .skip t
  | _, _, i + 1, .skip t => .skip (RwS.del i t)
  | _, _, i + 1, .cons r t => .cons r (RwS.del i t)
theorem ExF.exc {nm : Str} {a : Addr} {fs : List (Str × W)} {d : Option Addr} (f : ExF K Z H fs d) : Rw K Z H (.exc a d nm fs) (.ref a) := by
  rcases f with ⟨rfl, rfl⟩ | ⟨dd, gs, rfl, z, e, r⟩
  · exact .exc0
  · exact .excF z e r
end
def wTryAs (i : Nat) (c : Str) (ES : List Str) (t : TSw) (ts : Addr → Option Addr → Str → List (Str × W) → TSw) : TSw := fun D σ G =>
  t { D with ex := fun nm fs σ1 G1 => nm ∈ ES ∧ (subE nm c = true → ∀ a d, G1 a = none → ts a d nm fs { nx := fun σ2 G2 => D.nx (sdel σ2 i) G2, rt := D.rt, bk := fun σ2 G2 => D.bk (sdel σ2 i) G2, ct := fun σ2 G2 => D.ct (sdel σ2 i) G2 } (sset σ1 i (.exc a d nm fs)) G1) ∧ (subE nm c = false → D.ex nm fs σ1 G1) } σ G
def liftW (K : PySem.W.Frag) (V : WX) (t : TSw) : TS := fun D σ H => ∃ Z σ' G Dw, RwS K Z H σ' σ ∧ HRel K Z G H ∧ t Dw σ' G ∧ KS K Z G H Dw.nx D.nx ∧ KE K Z G H Dw.rt D.rt ∧ KS K Z G H Dw.bk D.bk ∧ KS K Z G H Dw.ct D.ct ∧
  ∀ Z' G' H' σ1' σ1 nm C fs d, Ext Z G H Z' G' H' → HRel K Z' G' H' → RwS K Z' H' σ1' σ1 → ClsA K nm C → ExF K Z' H' fs d → Dw.ex nm fs σ1' G' → V (.ref C) d σ1 H'
def lift0 (K : PySem.W.Frag) (t : TSw) : TS := fun D σ H => ∃ Z σ' G Dw, RwS K Z H σ' σ ∧ HRel K Z G H ∧ t Dw σ' G ∧ KS K Z G H Dw.nx D.nx ∧ KE K Z G H Dw.rt D.rt ∧ KS K Z G H Dw.bk D.bk ∧ KS K Z G H Dw.ct D.ct ∧ Dw.ex = fun _ _ _ _ => False
theorem qtryAs {X : Cx} {c n : Str} {cv : Value} {i : Nat} {ES : List Str} {body suite : List Stmt} {b₀ : Stmt} {np pos pos' : Pos} {t : TSw} {ts : Addr → Option Addr → Str → List (Str × W) → TSw} (hs : X.stack = X.env :: X.outer) (hf : X.env.frame = some X.env.locals) (hN : X.N.Nodup) (hi : X.N[i]? = some n) (hln : X.env.kindOf n = some .local)
    (hc : Names X c cv) (hM : ErrM X.K ES c cv) (hb : ∀ (pn : List (Addr × Obj)) (xe : Value → Shared → Prop), PassesOwn (model X.prog X.w) X.A X.env xe → PSsw (X.tr pn xe) body t)
    (hsu : ∀ (a : Addr) (oe : Obj) (C : Addr) (d : Option Addr) (pn : List (Addr × Obj)) (nm : Str) (fs : List (Str × W)), ClsA X.K nm C → nm ∈ ES → L2N.Zn (.ref C) d oe → (∃ vs, oe.data = .fields vs) → PSsw (X.suite a ((a, oe) :: pn)) (b₀ :: suite) (ts a d nm fs)) :
    PSw X (.Try body [.ExceptHandler (some (.Name c np)) (some n) (b₀ :: suite) pos'] [] [] pos) (wTryAs i c ES t ts) := by
  refine PS.imp (L2N.ps_try_as (i := i) (c := cv) (tb := fun V => liftW X.K V t) (ts := fun a cls d D σ H => ∃ nm C fs, cls = .ref C ∧ ClsA X.K nm C ∧ nm ∈ ES ∧ lift0 X.K (ts a d nm fs) D σ H) (Wout := wishOf X) hs hf hN hi hln hc takes_wish
    (fun V pn xe tk pa => PSs.imp (hb pn xe pa) fun D σ H h => ?_) (fun a oe cls d pn hz hfl => ⟨fun pins s σ H D I h => ?_⟩)) fun D σ H h => ?_
  · obtain ⟨Z, σ', G, Dw, ev, hr, t, k1, k2, k3, k4, kx⟩ := h
    exact ⟨Z, σ', G, Dw, ev, hr, t, ⟨k1, k2, k3, k4, fun Z1 G1 H1 s1' s1 nm C fs d x1 h1 r1 c1 f1 q => wish_of tk (kx Z1 G1 H1 s1' s1 nm C fs d x1 h1 r1 c1 f1 q)⟩⟩
  · obtain ⟨nm, C, fs, rfl, cA, hm, Z, σ', G, Dw, ev, hr, t, k1, k2, k3, k4, k5⟩ := h
    exact (hsu a oe C d pn nm fs cA hm hz hfl).run pins s σ H D I ⟨Z, σ', G, Dw, ev, hr, t, ⟨k1, k2, k3, k4, fun _ _ _ _ _ _ _ _ _ _ _ _ _ _ z => by rw [k5] at z; exact z.elim⟩⟩
  · obtain ⟨Z, σ', G, Dw, ev, hr, t, k⟩ := h
    refine ⟨Z, σ', G, _, ev, hr, t, k.nx, k.rt, k.bk, k.ct, fun Z1 G1 H1 s1' s1 nm C fs d x1 h1 r1 c1 f1 q => ?_⟩
    obtain ⟨q1, q2, q3⟩ := q
    refine ⟨subE nm c, hM nm q1 C c1, fun e a na => ⟨nm, C, fs, rfl, c1, q1, Z1, _, G1, _, r1.set f1.exc i, h1, q2 e a d (h1.fresh na), fun Z2 G2 H2 s2' s2 x2 h2 r2 q => k.nx Z2 G2 H2 _ _ (x1.trans x2) h2 (r2.del i) q, k.rt.mono x1,
      fun Z2 G2 H2 s2' s2 x2 h2 r2 q => k.bk Z2 G2 H2 _ _ (x1.trans x2) h2 (r2.del i) q, fun Z2 G2 H2 s2' s2 x2 h2 r2 q => k.ct Z2 G2 H2 _ _ (x1.trans x2) h2 (r2.del i) q, rfl⟩, fun e => k.ex Z1 G1 H1 s1' s1 nm C fs d x1 h1 r1 c1 f1 (q3 e)⟩
/-! ### what a suite asks of the caught one -/
/-- the exception that is handled here: at a, its class's name, its dict -/
structure HotE (X : Cx) (a : Addr) (d : Option Addr) (nm : Str) : Prop where
  ex : ∃ oe C, L2H.Hot1 X.A (a, oe) ∧ (a, oe) ∈ X.pn ∧ ClsA X.K nm C ∧ L2N.Zn (.ref C) d oe
theorem hotE_suite {X : Cx} {a C : Addr} {oe : Obj} {d : Option Addr} {nm : Str} {pn : List (Addr × Obj)} (c : ClsA X.K nm C) (hz : L2N.Zn (.ref C) d oe) (hf : ∃ vs, oe.data = .fields vs) : HotE (X.suite a ((a, oe) :: pn)) a d nm :=
  ⟨oe, C, ⟨rfl, by obtain ⟨vs, e⟩ := hf; exact ⟨vs, e, hz.2.2 vs e⟩⟩, List.mem_cons_self, c, hz⟩
inductive ClsW : W → V → Value → Prop
  | own {D} : ClsW (.ref D) (.ref D) (.ref D)
  | ty {n} : ClsW (.ty n) (.ty n) (.type n)
/-- where the caught one's dict is told -/
def DAt (d : Option Addr) (H : Hp) : Prop := d = none ∨ ∃ dd gs, d = some dd ∧ H dd = some (.xd gs)
theorem inst_at {X : Cx} {a C : Addr} {oe : Obj} {d : Option Addr} {pins : List (Addr × Obj)} {σ : SV} {H : Hp} {s : Shared} (I : Inv X pins σ H s) (hm : (a, oe) ∈ X.pn) (hz : L2N.Zn (.ref C) d oe) (hf : ∃ vs, oe.data = .fields vs) (hd : DAt d H) : ∃ od, PySem.W.InstAt s.heap a oe C od := by
  obtain ⟨hget, _⟩ := I.pin (a, oe) (List.mem_append_left _ hm)
  obtain ⟨vs, hv⟩ := hf
  obtain ⟨h1, h2, _⟩ := hz
  rcases hd with rfl | ⟨dd, gs, rfl, e⟩
  · exact ⟨none, hget, h1, by unfold PySem.W.notCls; rw [hv] <;> rfl, by rw [h2]; trivial⟩
  · have hx : ObjOk X.prog X.w H s.heap dd (.xd gs) := I.hok dd _ e
    obtain ⟨mA, hns, hr⟩ := hx
    obtain ⟨od, ho, hl⟩ := lookIn_ns hns
    exact ⟨some od, hget, h1, by unfold PySem.W.notCls; rw [hv] <;> rfl, by rw [h2]; exact ho⟩
theorem kit_at {K : PySem.W.Frag} {C a : Addr} {oe : Obj} {od : Option Obj} (T : ExcC K C) : PySem.W.KitX K (.ref a) (.ref C) (fun h => PySem.W.InstAt h a oe C od) :=
  PySem.W.kitx_exc (by obtain ⟨cd, e, _⟩ := PySem.W.any_some T.hd; rw [e]; rfl) T.hg T.hk T.hs T.ha T.hn T.ht T.hm
def rIsX (K : PySem.W.Frag) (C a : Addr) (d : Option Addr) : List V → Hp → VK → Prop := fun xs H Q => ∃ c cv b, xs = [.ref a, c] ∧ (∀ u, RelV c u → u = cv) ∧ DAt d H ∧ PySem.W.kitOne K (.ref C) cv = some b ∧ Q (.bl b) H
def rIsXT (K : PySem.W.Frag) (C a : Addr) (d : Option Addr) : List V → Hp → VK → Prop := fun xs H Q => ∃ tp cs cvs b, xs = [.ref a, .ref tp] ∧ SqT K H tp cs ∧ (∀ us, Vals cs us → us = cvs) ∧ DAt d H ∧ PySem.W.kitAny K (.ref C) cvs = some b ∧ Q (.bl b) H
section
variable {X : Cx} {a C : Addr} {d : Option Addr} {oe : Obj}
theorem call_isX (T : ExcC X.K C) (hm : (a, oe) ∈ X.pn) (hz : L2N.Zn (.ref C) d oe) (hf : ∃ vs, oe.data = .fields vs) : CallR X (.builtin "isinstance") (rIsX X.K C a d) := by
  intro pins s σ H xs us Q I r h
  obtain ⟨c, cv, b, rfl, hcv, hd, e, q⟩ := h
  cases r with
  | cons rx rr =>
    cases rr with
    | cons rt rr =>
      cases rr
      cases rx
      have ec := hcv _ rt
      subst ec
      obtain ⟨od, J⟩ := inst_at I hm hz hf hd
      exact PySem.W.kia_one (kit_at T) I.kIn J e (fun z => nomatch z) fun tk => ⟨.bl b, H, I.kept (t' := tk) fun _ _ z => z, rfl, q⟩
theorem call_isXT (T : ExcC X.K C) (hm : (a, oe) ∈ X.pn) (hz : L2N.Zn (.ref C) d oe) (hf : ∃ vs, oe.data = .fields vs) : CallR X (.builtin "isinstance") (rIsXT X.K C a d) := by
  intro pins s σ H xs us Q I r h
  obtain ⟨tp, cs, cvs, b, rfl, ht, hcv, hd, e, q⟩ := h
  cases r with
  | cons rx rr =>
    cases rr with
    | cons rt rr =>
      cases rr
      cases rx
      cases rt
      obtain ⟨its, rv, ⟨o, h1, h2, n, h3⟩, _⟩ := I.tuple ht
      have e3 := hcv _ rv
      subst e3
      obtain ⟨oc, od, dt, sl⟩ := o
      simp only at h2 h3
      subst h2 h3
      obtain ⟨od, J⟩ := inst_at I hm hz hf hd
      exact PySem.W.kia_tup (kit_at T) I.kIn J h1 e (fun z => nomatch z) fun tk => ⟨.bl b, H, I.kept (t' := tk) fun _ _ z => z, rfl, q⟩
end
theorem Rw.dat {K : PySem.W.Frag} {Z : Zp} {H : Hp} {a : Addr} {d : Option Addr} {nm : Str} {fs : List (Str × W)} {v : V} (r : Rw K Z H (.exc a d nm fs) v) : v = .ref a ∧ DAt d H := by
  cases r with
  | exc0 => exact ⟨rfl, .inl rfl⟩
  | excF z e r => exact ⟨rfl, .inr ⟨_, _, rfl, e⟩⟩
def wIsE (a : Addr) (d : Option Addr) (nm : Str) (T : Str) (te : TEw) : TEw := fun σ G Q => te σ G fun x G1 => ∃ fs, x = .exc a d nm fs ∧ Q (.bl (subE nm T)) G1
def wIsET (a : Addr) (d : Option Addr) (nm : Str) (Ts : List Str) (te : TEw) : TEw := fun σ G Q => te σ G fun x G1 => ∃ fs, x = .exc a d nm fs ∧ Q (.bl (Ts.any (subE nm))) G1
/-- the field of a caught one -/
def wXf (a : Addr) (d : Option Addr) (nm : Str) (f : Str) (te : TEw) : TEw := fun σ G Q => te σ G fun x G1 => ∃ fs, x = .exc a d nm fs ∧ isS (fs.lookup f) fun w => Q w G1
/-- the classes named in a tuple -/
inductive ClsWs (K : PySem.W.Frag) (ES : List Str) : List Str → List W → List V → List Value → Prop
  | nil : ClsWs K ES [] [] [] []
  | cons {T cw cv c Ts cws cvs cs} : ErrT K ES T c → ClsW cw cv c → ClsWs K ES Ts cws cvs cs → ClsWs K ES (T :: Ts) (cw :: cws) (cv :: cvs) (c :: cs)
theorem ClsW.rel {K : PySem.W.Frag} {Z : Zp} {H : Hp} {cw : W} {cv v : V} {c : Value} (hw : ClsW cw cv c) (r : Rw K Z H cw v) : v = cv := by
  cases hw <;> cases r <;> rfl
theorem ClsW.val {cw : W} {cv : V} {c u : Value} (hw : ClsW cw cv c) (r : RelV cv u) : u = c := by
  cases hw <;> exact r
theorem ClsWs.rel {K : PySem.W.Frag} {ES : List Str} {Z : Zp} {H : Hp} : ∀ {Ts cws cvs cs vs}, ClsWs K ES Ts cws cvs cs → RwL K Z H cws vs → vs = cvs
  | _, _, _, _, _, .nil, r => by cases r; rfl
  | _, _, _, _, _, .cons _ hw t, r => by
    cases r with
    | cons ra rb => rw [hw.rel ra, ClsWs.rel t rb]
theorem ClsWs.val {K : PySem.W.Frag} {ES : List Str} : ∀ {Ts cws cvs cs us}, ClsWs K ES Ts cws cvs cs → Vals cvs us → us = cs
  | _, _, _, _, _, .nil, r => by cases r; rfl
  | _, _, _, _, _, .cons _ hw t, r => by
    cases r with
    | cons ra rb => rw [hw.val ra, ClsWs.val t rb]
theorem ClsWs.kit {K : PySem.W.Frag} {ES : List Str} {nm : Str} {C : Addr} (hm : nm ∈ ES) (cA : ClsA K nm C) : ∀ {Ts cws cvs cs}, ClsWs K ES Ts cws cvs cs → PySem.W.kitAny K (.ref C) cs = some (Ts.any (subE nm))
  | _, _, _, _, .nil => rfl
  | _, _, _, _, .cons (T := T) e _ t => by
    have ih := ClsWs.kit hm cA t
    unfold PySem.W.kitAny
    rw [e nm hm C cA, List.any_cons]
    cases subE nm T with
    | true => simp
    | false => simpa using ih
section
variable {X : Cx} {a : Addr} {d : Option Addr} {nm T f : Str} {ES Ts : List Str} {c : Value} {cw : W} {cv : V} {cws : List W} {cvs : List V} {cs : List Value} {e : Expr} {es : List Expr} {te : TEw} {p p2 pos : Pos}
theorem qclsv {D : Addr} (hg : Gl X T) (hm : X.mg T = some (.ref D)) (hdb : (T == ("__debug__" : Str)) = false := by decide) : PEw X (.Name T p) (wC (.ref D)) := PE.imp (pe_glob (v := .ref D) hg hm rfl hdb) fun _ _ _ h => lC (fun _ _ => .ref) h
theorem qclsT {n : String} (hg : Gl X T) (hm : X.mg T = none) (hb : bootBuiltins T = some (.type n)) (hn : T ≠ "__name__" := by decide) (hd : (T == ("__debug__" : Str)) = false := by decide) : PEw X (.Name T p) (wC (.ty n)) := PE.imp (pe_bltn hg hm hb (show RelV (.ty n) (.type n) from rfl) hn hd) fun _ _ _ h => lC (fun _ _ => .ty) h
theorem qisE (hot : HotE X a d nm) (hn : nm ∈ ES) (hT : ErrT X.K ES T c) (hC : ErrC X.K ES) (hw : ClsW cw cv c) (hg : Gl X "isinstance") (hm : X.mg "isinstance" = none) (he : PEw X e te) (ht : PEw X (.Name T p2) (wC cw))
    (h1 : starEach [e, .Name T p2] X.env = (false, eval e X.env) :: starEach [.Name T p2] X.env := by rfl) (h2 : (backTo pos (starEach [.Name T p2] X.env)).any (·.1) = false := by rfl) (h3 : starEach [.Name T p2] X.env = (false, eval (.Name T p2) X.env) :: starEach [] X.env := by rfl) :
    PEw X (.Call (.Name "isinstance" p) [e, .Name T p2] [] pos) (wIsE a d nm T te) := by
  obtain ⟨oe, C, ⟨hh, vs, hd, _⟩, hp, cA, hz⟩ := hot.ex
  refine PE.imp (pe_callB (call_isX (hC nm hn C cA) hp hz ⟨vs, hd⟩) hg hm (by decide +kernel) (qa_cons he (qa_cons ht qa_nil h3) h1) (by decide) (by decide) h1 h2) fun σ H Q h => ?_
  obtain ⟨Z, σ', G, Qw, ev, hr, t, kk⟩ := h
  refine ⟨Z, σ', G, fun ws G1 => ∃ fs, ws = [.exc a d nm fs, cw] ∧ Qw (.bl (subE nm T)) G1, ev, hr, ?_, fun Z1 G1 H1 ws vs x1 h1 r1 t1 => ?_⟩
  · have t' : te σ' G fun x G1 => ∃ fs, x = .exc a d nm fs ∧ Qw (.bl (subE nm T)) G1 := t
    show te σ' G fun x G1 => ∃ fs, [x, cw] = [.exc a d nm fs, cw] ∧ Qw (.bl (subE nm T)) G1
    have e2 : (fun x G1 => ∃ fs, [x, cw] = [W.exc a d nm fs, cw] ∧ Qw (.bl (subE nm T)) G1) = fun (x : W) (G1 : Gp) => ∃ fs, x = .exc a d nm fs ∧ Qw (.bl (subE nm T)) G1 := by
      funext x G1; simp
    rw [e2]; exact t'
  · obtain ⟨fs, rfl, q⟩ := t1
    cases r1 with
    | cons ra r1 =>
      cases r1 with
      | cons rb r1 =>
        cases r1
        obtain ⟨rfl, da⟩ := ra.dat
        obtain rfl := hw.rel rb
        exact ⟨_, c, _, rfl, fun u r => hw.val r, da, hT nm hn C cA, kk Z1 G1 H1 _ _ x1 h1 .bl q⟩
theorem qisET {kk : Nat} (hot : HotE X a d nm) (hn : nm ∈ ES) (hC : ErrC X.K ES) (hw : ClsWs X.K ES Ts cws cvs cs) (hg : Gl X "isinstance") (hm : X.mg "isinstance" = none) (he : PEw X e te) (ht : PAw X es fun _ G Q => Q cws G) (hz : cws.length ≤ sizeLine)
    (h1 : starEach [e, .Tuple es kk p2] X.env = (false, eval e X.env) :: starEach [.Tuple es kk p2] X.env := by rfl) (h2 : (backTo pos (starEach [.Tuple es kk p2] X.env)).any (·.1) = false := by rfl) (h3 : starEach [.Tuple es kk p2] X.env = (false, eval (.Tuple es kk p2) X.env) :: starEach [] X.env := by rfl) :
    PEw X (.Call (.Name "isinstance" p) [e, .Tuple es kk p2] [] pos) (wIsET a d nm Ts te) := by
  obtain ⟨oe, C, ⟨hh, vs, hd, _⟩, hp, cA, hzn⟩ := hot.ex
  refine PE.imp (pe_callB (call_isXT (hC nm hn C cA) hp hzn ⟨vs, hd⟩) hg hm (by decide +kernel) (qa_cons he (qa_cons (qtup ht) qa_nil h3) h1) (by decide) (by decide) h1 h2) fun σ H Q h => ?_
  obtain ⟨Z, σ', G, Qw, ev, hr, t, k⟩ := h
  refine ⟨Z, σ', G, fun ws G1 => ∃ fs, ws = [.exc a d nm fs, .tup cws] ∧ Qw (.bl (Ts.any (subE nm))) G1, ev, hr, ?_, fun Z1 G1 H1 ws vs x1 h1 r1 t1 => ?_⟩
  · have t' : te σ' G fun x G1 => ∃ fs, x = .exc a d nm fs ∧ Qw (.bl (Ts.any (subE nm))) G1 := t
    show te σ' G fun x G1 => cws.length ≤ sizeLine ∧ ∃ fs, [x, .tup cws] = [.exc a d nm fs, .tup cws] ∧ Qw (.bl (Ts.any (subE nm))) G1
    have e2 : (fun x G1 => cws.length ≤ sizeLine ∧ ∃ fs, [x, W.tup cws] = [W.exc a d nm fs, .tup cws] ∧ Qw (.bl (Ts.any (subE nm))) G1) = fun (x : W) (G1 : Gp) => ∃ fs, x = .exc a d nm fs ∧ Qw (.bl (Ts.any (subE nm))) G1 := by
      funext x G1; simp [hz]
    rw [e2]; exact t'
  · obtain ⟨fs, rfl, q⟩ := t1
    cases r1 with
    | cons ra r1 =>
      cases r1 with
      | cons rb r1 =>
        cases r1
        obtain ⟨rfl, da⟩ := ra.dat
        cases rb with
        | tup st rt =>
          obtain rfl := hw.rel rt
          exact ⟨_, _, cs, _, rfl, st, fun us r => hw.val r, da, hw.kit hn cA, k Z1 G1 H1 _ _ x1 h1 .bl q⟩
theorem qxf (hot : HotE X a d nm) (hn : nm ∈ ES) (hC : ErrC X.K ES) (hF : FldX X.K ES f) (he : PEw X e te) (hb : attributeBase e f X.env (eval e X.env) = eval e X.env := by rfl) : PEw X (.Attribute e f pos) (wXf a d nm f te) := by
  obtain ⟨oe, C, ⟨hh, vs, hd, _⟩, hp, cA, hz⟩ := hot.ex
  have T := hC nm hn C cA
  have hno := hF nm hn C cA
  refine ⟨fun pins s σ H Q I h => ?_⟩
  obtain ⟨Z, σ', G, Qw, ev, hr, t, k⟩ := h
  refine attr_of hb (thn (he.run pins s σ H (fun v H1 => ∃ dd gs u, v = .ref a ∧ d = some dd ∧ H1 dd = some (.xd gs) ∧ gs.lookup f = some u ∧ Q u H1) I ⟨Z, σ', G, _, ev, hr, t, fun Z1 G1 H1 x v x1 h1 r1 t1 => ?_⟩) fun u s1 hh => ?_)
  · obtain ⟨fs, rfl, t1⟩ := t1
    obtain ⟨w, el, q⟩ := isS_ex t1
    cases r1 with
    | exc0 => simp [List.lookup] at el
    | excF z e r =>
      obtain ⟨u, eu, ru⟩ := r.get el
      exact ⟨_, _, u, rfl, rfl, e, eu, k Z1 G1 H1 _ _ x1 h1 ru q⟩
  · obtain ⟨x, H1, I1, rx, dd, gs, v, rfl, rfl, ea, l, q⟩ := hh
    obtain rfl : u = Value.ref a := rx
    obtain ⟨ha, _⟩ := I1.pin (a, oe) (List.mem_append_left _ hp)
    have hx : ObjOk X.prog X.w H1 s1.heap dd (.xd gs) := I1.hok dd _ ea
    obtain ⟨mA, hns, hr⟩ := hx
    obtain ⟨od, ho, hl⟩ := lookIn_ns hns
    obtain ⟨u, hu, ru⟩ := RelO.some_of (v := v) (o := mA f) (by rw [← l]; exact hr f)
    have J : PySem.W.InstAt s1.heap a oe C (some od) := ⟨ha, hz.1, by unfold PySem.W.notCls; rw [hd] <;> rfl, by rw [hz.2.1]; exact ho⟩
    exact HandSPX.exc_get I1.kIn J T.hg T.hk T.hs (PySem.W.findObj_own T.hd hno rfl (by rw [hl, hu])) (handed_of ru) ⟨v, H1, I1.tok _, ru, q⟩
end
/-! ### defs called in a suite -/
/-- the promise of such a def: the handled exception's place, dict, class's name, the arguments, the small heap, the wanted end -/
abbrev SpE := Addr → Option Addr → Str → List W → Gp → QW → Prop
def liftSpE (K : PySem.W.Frag) (sp : SpE) (a : Addr) (d : Option Addr) (nm : Str) (vs : List V) (H : Hp) (Q : VK) : Prop := ∃ Z ws G Qw, RwL K Z H ws vs ∧ HRel K Z G H ∧ sp a d nm ws G Qw ∧ KE K Z G H Qw Q
structure FnE (P : Program) (w : World) (K : PySem.W.Frag) (mg : Str → Option Value) (base : Heap) (ES : List Str) (k : Nat) (f : Addr) (fd : FuncData) (ps : List Str) (sp : SpE) : Prop where
  len : ∀ a d nm ws G Q, sp a d nm ws G Q → ws.length = ps.length
  run : ∀ (A : Around) (outer : List Env) (s : Shared) (H : Hp) (args : Args) (us : List Value) (vs : List V) (Q : VK) (p : Addr × Obj) (C : Addr) (d : Option Addr) (nm : Str), L2H.RoomH k A → L2H.Hot1 A p → ClsA K nm C → nm ∈ ES → L2N.Zn (.ref C) d p.2 → L2H.PinOk outer H s p → Env0 P w K mg base A outer s H → BindsTo s fd args (ps.zip us) → Vals vs us → liftSpE K sp p.1 d nm vs H Q →
    codeAny (model P w) A (.call (.ref f) args) (CR CX0 outer P w H s Q L2.E0) s
structure CalE (P : Program) (w : World) (K : PySem.W.Frag) (mg : Str → Option Value) (base : Heap) (ES : List Str) (k : Nat) (x : Str) (sp : SpE) : Prop where
  ex : ∃ f fd ps, FnE P w K mg base ES k f fd ps sp ∧ mg x = some (.ref f) ∧ PySem.W.keepIn K (.ref f) = true ∧ Binds K fd ps []
/-- room in a suite -/
theorem hu64H {A : Around} {k : Nat} (hr : L2H.RoomH k A) : A.units + 64 < cLine := by have := hr.un; omega
theorem okE {P : Program} {w : World} {K : PySem.W.Frag} {mg : Str → Option Value} {base : Heap} {ES : List Str} {x qual : Str} {st : Stmt} {f : Addr} {fd : FuncData} {N ps : List Str} {k : Nat} {sp : SpE} (F : Fun K x qual st f fd) (S : FnScope N ps (defScope st)) (len : ∀ a d nm ws G Q, sp a d nm ws G Q → ws.length = ps.length)
    (hbody : ∀ (cdv : Value) (A : Around) (outer : List Env) (s : Shared) (H : Hp) (p : Addr × Obj) (d : Option Addr) (nm : Str), nm ∈ ES → L2H.RoomH k (A.deeper (envOfC qual (defScope st) s.heap.objs.size f cdv)) → HotE (L2H.cxH CX0 P w K mg base N qual (defScope st) f cdv A outer s H L2.E0 p) p.1 d nm →
      ∃ t, PSsw (L2H.cxH CX0 P w K mg base N qual (defScope st) f cdv A outer s H L2.E0 p) (defBody st) t ∧ ∀ ws G Q, sp p.1 d nm ws G Q → t { nx := fun _ G' => Q .non G', rt := Cl Q } (startW N ws) G) :
    FnE P w K mg base ES (k + 1) f fd ps sp := by
  obtain ⟨oc, od, kV, doc, pm, an, cdv, ct, osl, rfl, lk, hcd⟩ := F.ex
  refine ⟨len, fun A outer s H args us vs Q p C d nm hr hot cA hn hz hpin e0 hb r hsp => ?_⟩
  obtain ⟨Z, ws, G, Qw, rr, hh, s1, kq⟩ := hsp
  have hl : vs.length = ps.length := by rw [← rr.length]; exact len _ _ _ _ _ _ s1
  have KX : K.In s.heap := e0.mod.kin.keeps fun b o e => (e0.bs b o e).1
  have lim : s.heap.NoLimit := e0.mod.nolimit.keeps fun b o e => (e0.bs b o e).1
  have hkind : ∀ y ∈ ps.zip us, (defScope st).names.lookup y.1 = some .local ∨ ((defScope st).names.lookup y.1 = some .cell ∧ ((cellsFrom (s.heap.objs.size + 1) (defScope st).names []).lookup y.1).isSome = true) := fun ⟨n, v⟩ hy => by
    rcases S.par n (List.of_mem_zip hy).1 with q | q
    · exact .inl q
    · exact .inr ⟨q, PySem.W.cellsFrom_some _ _ _ (.inl q)⟩
  refine codeAny_call_function hr.depth (KX _ _ lk) rfl S.co S.gen rfl (PySem.W.codeRec_of KX hcd) (hb _ _ _ _ ?_)
  refine wpAny_newFunctionEnv_cells S.kind hkind fun env he s1' x => ?_
  subst he
  refine ⟨lim.keeps x.toInCall.keep, codeAny_func ?_⟩
  obtain ⟨t, ht, hq⟩ := hbody cdv A outer s H p d nm hn (hr.deeper _) ⟨p.2, C, hot, List.mem_cons_self, cA, hz⟩
  have I : Inv (L2H.cxH CX0 P w K mg base N qual (defScope st) f cdv A outer s H L2.E0 p) [] (L2.start N vs) H s1' := L2H.inv_startH S hpin e0 hl r x
  refine wpAny_mono (ht.run [] s1' (L2.start N vs) H { nx := fun _ H' => Q .non H', rt := Q } I ⟨Z, _, G, _, RwS.start rr, hh, hq ws G Qw s1, ⟨fun Z1 G1 H1 _ _ x1 h1 _ q1 => kq Z1 G1 H1 _ _ x1 h1 .non q1, kq.cl, fun _ _ _ _ _ _ _ _ z => z.elim, fun _ _ _ _ _ _ _ _ z => z.elim, fun _ _ _ _ _ _ _ _ _ _ _ _ _ _ z => z.elim⟩⟩) (fun fl s' hs => ?_) fun e s' hs => hs
  have fin : ∀ {σ' : SV} {H' : Hp} {v : V} {u : Value}, Inv (L2H.cxH CX0 P w K mg base N qual (defScope st) f cdv A outer s H L2.E0 p) [] σ' H' s' → RelV v u → Q v H' → CE outer P w H s Q u s' :=
    fun {σ' H' v u} J rv q => ⟨v, H', J.os, J.bare, J.base, J.hok, rv, q⟩
  cases fl with
  | ret u =>
    obtain ⟨v, σ', H', J, rv, q⟩ := hs
    exact fin J rv q
  | next =>
    obtain ⟨σ', H', J, q⟩ := hs
    exact fin (v := V.non) (u := Value.none) J rfl q
  | brk =>
    obtain ⟨_, _, _, q⟩ := hs
    exact False.elim q
  | cont =>
    obtain ⟨_, _, _, q⟩ := hs
    exact False.elim q
def wCallE (sp : SpE) (a : Addr) (d : Option Addr) (nm : Str) (t : TAw) : TEw := fun σ G Q => t σ G fun ws G1 => sp a d nm ws G1 Q
section
variable {X : Cx} {a : Addr} {d : Option Addr} {nm x : Str} {ES : List Str} {k : Nat} {sp : SpE} {t : TAw} {e : Expr} {es : List Expr} {p pos : Pos}
theorem qcallE (c : CalE X.prog X.w X.K X.mg X.base ES k x sp) (hot : HotE X a d nm) (hn : nm ∈ ES) (hr : L2H.RoomH k X.A) (hg : Gl X x) (ha : PAw X (e :: es) t) (hdb : (x == ("__debug__" : Str)) = false := by decide)
    (he : starEach (e :: es) X.env = (false, eval e X.env) :: starEach es X.env := by rfl) (hpl : (backTo pos (starEach es X.env)).any (·.1) = false := by rfl) : PEw X (.Call (.Name x p) (e :: es) [] pos) (wCallE sp a d nm t) := by
  obtain ⟨f, fd, ps, F, m, kp, b⟩ := c.ex
  obtain ⟨oe, C, hh, hp, cA, hz⟩ := hot.ex
  refine ⟨fun pins s σ H Q I h => ?_⟩
  obtain ⟨Z, σ', G, Qw, ev, hrl, t, kk⟩ := h
  refine wpAny_Call_Name_kw (ld_glob I hg m ?_ hdb)
  refine PySem.W.callWith_K (h₀ := X.base) I.ok.mod.kin kp (thn (ha.run pos pins s σ H (fun vs H1 => liftSpE X.K sp a d nm vs H1 Q) I ⟨Z, σ', G, _, ev, hrl, t, fun Z1 G1 H1 ws vs x1 h1 r1 t1 => ⟨Z1, ws, G1, Qw, r1, h1, t1, kk.mono x1⟩⟩) fun us s1 ⟨vs, H1, I1, r, q⟩ => ⟨I1.kIn, ?_⟩) he hpl
  have hl : us.length = ps.length := by
    obtain ⟨Z1, ws, G1, Qw1, r1, _, s1, _⟩ := q
    rw [← r.length, ← r1.length]; exact F.len _ _ _ _ _ _ s1
  have b := b s1 us I1.kIn (by rw [List.append_nil]; exact hl)
  rw [List.append_nil] at b
  have P1 := I1.pin (a, oe) (List.mem_append_left _ hp)
  have hpin : L2H.PinOk X.stack H1 s1 (a, oe) := ⟨P1.1, P1.2.1, fun hm => (List.mem_cons.mp (I1.stkSub a hm)).elim P1.2.2.1 P1.2.2.2.1, P1.2.2.2.2⟩
  refine wpAny_call (codeAny_mono (F.run X.A X.stack s1 H1 ⟨us, []⟩ us vs Q (a, oe) C d nm hr hh cA hn hz hpin I1.env0 b r q) fun r s' hq => ?_)
  cases r with
  | error e => exact hq.elim
  | ok fl =>
    cases fl with
    | ret u => exact I1.after hq
    | next => exact False.elim hq
    | brk => exact False.elim hq
    | cont => exact False.elim hq
end
/-! ### without calm -/
section
variable {X : Cx} {a b : Expr} {ta tb : TEw} {pos : Pos} {k : Nat}
theorem qeqH (hr : L2H.RoomH k X.A) (ha : PEw X a ta) (hb : PEw X b tb) : PEw X (.Compare a [.Eq] [b] pos) (wOp wEq ta tb) := qcmp (OpR.or op_eq (op_eqD (hu64H hr))) sim_eq ha hb (nomark _)
theorem qneH (hr : L2H.RoomH k X.A) (ha : PEw X a ta) (hb : PEw X b tb) : PEw X (.Compare a [.NotEq] [b] pos) (wOp wNe ta tb) := qcmp (OpR.or op_ne (op_neD (hu64H hr))) sim_ne ha hb (nomark _)
theorem qteqH (hr : L2H.RoomH k X.A) (ha : PEw X a ta) (hb : PEw X b tb) : PTw X (.Compare a [.Eq] [b] pos) (wTest (wOp wEq ta tb)) := qtcmp (OpR.or op_eq (op_eqD (hu64H hr))) sim_eq ha hb (nomark _)
theorem qtneH (hr : L2H.RoomH k X.A) (ha : PEw X a ta) (hb : PEw X b tb) : PTw X (.Compare a [.NotEq] [b] pos) (wTest (wOp wNe ta tb)) := qtcmp (OpR.or op_ne (op_neD (hu64H hr))) sim_ne ha hb (nomark _)
end
theorem roomH_mark {k : Nat} {A : Around} {a_e : Addr} (hr : Room k A) : L2H.RoomH k (A.mark (some (.ref a_e))) := ⟨hr.dp, hr.un⟩
def isExc (a : Addr) (d : Option Addr) (nm : Str) (x : W) (P : List (Str × W) → Prop) : Prop := ∃ fs, x = .exc a d nm fs ∧ P fs
theorem isExc_exc {a : Addr} {d : Option Addr} {nm : Str} {fs : List (Str × W)} {P : List (Str × W) → Prop} : isExc a d nm (.exc a d nm fs) P = P fs := by
  unfold isExc
  exact propext ⟨fun ⟨gs, e, h⟩ => (by injection e with _ _ _ e; subst e; exact h), fun h => ⟨fs, rfl, h⟩⟩
/-- isinstance between own classes, by what stands of them -/
theorem kit_ref {K : PySem.W.Frag} {C D : Addr} {b : Bool} (h1 : PySem.W.isClsIn K D = true) (h2 : PySem.W.typeIn K (.ref D) = some (.type "type")) (h3 : PySem.W.subIn K (.ref C) (.ref D) = some b) (h0 : PySem.W.subIn K (.ref C) (.ref C) = some true) : PySem.W.kitOne K (.ref C) (.ref D) = some b := by
  unfold PySem.W.kitOne
  split
  · rename_i e
    have e : C = D := Value.ref.inj (beq_iff_eq.mp e)
    subst e
    exact h0.symm.trans h3
  · have h1 : (PySem.W.clsIn K D).isSome = true := h1
    show (if ((PySem.W.clsIn K D).isSome && PySem.W.typeIn K (.ref D) == some (.type "type")) = true then PySem.W.subIn K (.ref C) (.ref D) else none) = some b
    rw [if_pos (by rw [h1, h2]; rfl)]
    exact h3
theorem kit_typ {K : PySem.W.Frag} {C : Addr} {n : String} {b : Bool} (h1 : PySem.W.kitMeta n = true) (h3 : PySem.W.subIn K (.ref C) (.type n) = some b) : PySem.W.kitOne K (.ref C) (.type n) = some b := by
  unfold PySem.W.kitOne
  rw [if_neg (show ¬ ((Value.ref C == Value.type n) = true) from Bool.false_ne_true)]
  show (if PySem.W.kitMeta n = true then PySem.W.subIn K (.ref C) (.type n) else none) = some b
  rw [if_pos h1]
  exact h3
theorem qcls_nil {X : Cx} : PAw X [] fun _ G Q => Q [] G := qa_nil
theorem qcls_cons {X : Cx} {e : Expr} {es : List Expr} {cw : W} {cws : List W} (h : PEw X e (wC cw)) (t : PAw X es fun _ G Q => Q cws G) (hst : starEach (e :: es) X.env = (false, eval e X.env) :: starEach es X.env := by rfl) : PAw X (e :: es) fun _ G Q => Q (cw :: cws) G := qa_cons h t hst
end WL

/-! A list comprehension over a list, in a suite (or a def called there): the end of a walk is an exception of its own, hung behind the handled one. -/
namespace WL
open PySem PySem.Spec PyProof.Rows L2
/-! ### the end of a walk -/
section
variable {prog : Program} {w : World} {A : Around} {E : Value → Shared → Prop} {s : Shared}
/-- StopIteration raised while x1 is handled -/
theorem stop_hot {α : Type} {x1 : Addr} {Q : α → Shared → Prop} (hot : HotX.HotAt A x1 s.heap) (h : ∀ a h', (∀ b o, s.heap.get? b = some o → h'.get? b = some o) → (∃ o, h'.get? a = some o ∧ o.cls = .type "StopIteration") → E (.ref a) { s with heap := h' }) :
    wpAny (model prog w) A (newExc (.type "StopIteration") [] >>= fun e => (raiseNew e : Sem α)) Q E s := by
  obtain ⟨hh, o1, vs1, h1, d1, c1⟩ := hot
  simp only [newExc, newTuple]
  refine wpAny_bind (wpAny_bind (wpAny_newObj_type (wpAny_bind (m := firstArgMember _ _) (wpAny_of_eq (a := Value.none) (by first | rfl | (simp only [firstArgMember]; rfl)) (wpAny_newObj_type ?_ (by size_fits)))) (by size_fits)))
  refine HotX.raiseNew_hot ⟨hh, o1, vs1, Heap.get?_push_of_some _ (Heap.get?_push_of_some _ h1), d1, c1⟩ (Nat.ne_of_lt (Heap.lt_size (Heap.get?_push_of_some _ h1))) (Heap.get?_push_size _ rfl) rfl (by first | (simp; done) | (simp; omega) | (simp only [Array.size_append]; simp; omega)) ?_
  refine h _ _ (fun b o e => ?_) ⟨_, Heap.get?_update_self _ (Heap.get?_push_size _ rfl) rfl, rfl⟩
  rw [Heap.get?_update_other _ _ (Nat.ne_of_gt (Heap.lt_size (Heap.get?_push_of_some _ e)))]
  exact Heap.get?_push_of_some _ (Heap.get?_push_of_some _ e)
theorem next_list_end {it l x1 : Addr} {i : Nat} {items : Array Value} {Q : Option Value → Shared → Prop} (hot : HotX.HotAt A x1 s.heap) (nx : x1 ≠ it) (hit : s.heap.IsListIter it l i) (hl : s.heap.IsList l items) (hx : items[i]? = none)
    (hQ : ∀ h', (∀ b o, b ≠ it → s.heap.get? b = some o → h'.get? b = some o) → Q none { s with heap := h' }) : wpAny (model prog w) A (pyNext (.ref it)) Q E s := by
  obtain ⟨oi, gi, ci, di⟩ := id hit
  obtain ⟨ol, gl, _, nl, dl⟩ := hl
  obtain ⟨hh, o1, vs1, h1, d1, c1⟩ := hot
  unfold pyNext
  refine wpAny_bind (wpAny_attempt (wpAny_callSpecial?_slot hit.typeIs slot_listiter_next (wpAny_call_entry slot_listiter_next hit.typeIs entry_listiter_next ?_ (args_listiter_next _))))
  refine (show wpAny _ _ (field (.ref it) 0 >>= _) _ _ s from wpAny_bind (wpAny_field gi di (x := .ref l) rfl ?_))
  refine (show wpAny _ _ (if (Value.ref l == Value.none) = true then _ else _) _ _ s from ?_)
  rw [if_neg (show ¬ ((Value.ref l == Value.none) = true) from Bool.false_ne_true)]
  refine (show wpAny _ _ (field (.ref it) 1 >>= _) _ _ s from wpAny_bind (wpAny_field gi di (x := .int i 0) rfl ?_))
  refine (show wpAny _ _ (seqItems? (.ref l) >>= _) _ _ s from wpAny_bind (wpAny_seqItems gl dl ?_))
  simp only [Int.toNat_natCast, hx]
  refine wpAny_bind (wpAny_rule (wpAny_bind (wpAny_setField gi di (by simp) ?_)))
  refine stop_hot (x1 := x1) ⟨hh, o1, vs1, by rw [Heap.get?_update_other _ _ (Ne.symm nx)]; exact h1, d1, c1⟩ fun a h' k ho => wpAny_bind (wpAny_isInstance (T := "StopIteration") (b := true) ho isSubtype_stop (wpAny_pure (hQ _ fun b o hb e => k b o ?_)))
  rw [Heap.get?_update_other _ _ (Ne.symm hb)]; exact e
theorem next_tuple_end {it t x1 : Addr} {i : Nat} {items : Array Value} {Q : Option Value → Shared → Prop} (hot : HotX.HotAt A x1 s.heap) (nx : x1 ≠ it) (hit : s.heap.IsTupleIter it t i) (ht : s.heap.IsTuple t items) (hx : items[i]? = none)
    (hQ : ∀ h', (∀ b o, b ≠ it → s.heap.get? b = some o → h'.get? b = some o) → Q none { s with heap := h' }) : wpAny (model prog w) A (pyNext (.ref it)) Q E s := by
  obtain ⟨oi, gi, ci, di⟩ := id hit
  obtain ⟨ol, gl, _, nl, dl⟩ := ht
  obtain ⟨hh, o1, vs1, h1, d1, c1⟩ := hot
  unfold pyNext
  refine wpAny_bind (wpAny_attempt (wpAny_callSpecial?_slot hit.typeIs F.slot_tuple_iterator_next (wpAny_call_entry F.slot_tuple_iterator_next hit.typeIs F.entry_tuple_iterator_next ?_ (F.args_tuple_iterator_next_1 _))))
  refine (show wpAny _ _ (field (.ref it) 0 >>= _) _ _ s from wpAny_bind (wpAny_field gi di (x := .ref t) rfl ?_))
  refine (show wpAny _ _ (if (Value.ref t == Value.none) = true then _ else _) _ _ s from ?_)
  rw [if_neg (show ¬ ((Value.ref t == Value.none) = true) from Bool.false_ne_true)]
  refine (show wpAny _ _ (field (.ref it) 1 >>= _) _ _ s from wpAny_bind (wpAny_field gi di (x := .int i 0) rfl ?_))
  refine (show wpAny _ _ (seqItems? (.ref t) >>= _) _ _ s from wpAny_bind (wpAny_seqItems gl dl ?_))
  simp only [Int.toNat_natCast, hx]
  refine wpAny_bind (wpAny_rule (wpAny_bind (wpAny_setField gi di (by simp) ?_)))
  refine stop_hot (x1 := x1) ⟨hh, o1, vs1, by rw [Heap.get?_update_other _ _ (Ne.symm nx)]; exact h1, d1, c1⟩ fun a h' k ho => wpAny_bind (wpAny_isInstance (T := "StopIteration") (b := true) ho isSubtype_stop (wpAny_pure (hQ _ fun b o hb e => k b o ?_)))
  rw [Heap.get?_update_other _ _ (Ne.symm hb)]; exact e
/-- a tuple taken apart -/
theorem apart_hot {env : Env} {elts : List Expr} {k} {pos : Pos} {t x1 : Addr} {items : Array Value} {Q : Unit → Shared → Prop} (hot : HotX.HotAt A x1 s.heap) (ht : s.heap.IsTuple t items) (hn : (assignEach elts env).length = items.size) (hstar : (assignEach elts env).findIdx? (·.1) = none)
    (h : ∀ h', (∀ b o, s.heap.get? b = some o → h'.get? b = some o) → wpAny (model prog w) A (assignInOrder ((assignEach elts env).map (·.2)) items.toList) Q E { s with heap := h' }) : wpAny (model prog w) A (assign (.Tuple elts k pos) env (.ref t)) Q E s := by
  have tl : t < s.heap.objs.size := by obtain ⟨o, e, _⟩ := ht; exact Heap.lt_size e
  obtain ⟨hh, o1, vs1, h1, d1, c1⟩ := hot
  have xl : x1 < s.heap.objs.size := Heap.lt_size h1
  rw [arm_assign_Tuple]
  refine wpAny_bind (wpAny_standAt ?_)
  unfold unpack
  rw [hn, hstar]
  refine wpAny_bind (wpAny_holding ?_)
  unfold unpackItems notIterableAtAll
  refine wpAny_bind (wpAny_bind (wpAny_specialOf ht.typeIs F.slot_tuple_iter.lookup (wpAny_pure ?_)))
  simp only [Bool.false_eq_true, if_false]
  refine wpAny_bind (wpAny_holding (wpAny_pyIter_tuple ht (wpAny_bind (wpAny_holding (wpAny_draw_tuple (Nat.ne_of_lt tl) items.size 0 _ _ ⟨_, Heap.get?_push_size _ rfl, rfl, rfl⟩ (ht.push _) (by omega) fun hA itA sA => ?_)))))
  have whole : (items.toList.drop 0).take items.size = items.toList := by rw [List.drop_zero, List.take_of_length_le (by simp)]
  rw [whole, if_neg (by simp)]
  refine wpAny_bind (wpAny_holding (next_tuple_end (x1 := x1) ⟨hh, o1, vs1, (sA.2 x1 (Nat.ne_of_lt xl)).trans (Heap.get?_push_of_some _ h1), d1, c1⟩ (Nat.ne_of_lt xl) itA ((ht.push _).extBut sA.extBut (Nat.ne_of_lt tl)) (by simp) fun hB kB => ?_))
  simp only [Option.isSome_none, Bool.false_eq_true, if_false]
  exact wpAny_pure (h hB fun b o e => kB b o (Nat.ne_of_lt (Heap.lt_size e)) ((sA.2 b (Nat.ne_of_lt (Heap.lt_size e))).trans (Heap.get?_push_of_some _ e)))
end
theorem pg_tupH {X : Cx} {pos : Pos} {es : List Expr} {k : Nat} {t : TGs} {n : Nat} (hc : L2H.HotC X) (h : PGs X es t) (hn : (assignEach es X.env).length = n := by rfl) (hst : (assignEach es X.env).findIdx? (·.1) = none := by rfl) : PG X (.Tuple es k pos) (gTup X.K n t) :=
  ⟨fun pins s σ H v u Q I r ⟨a, xs, e1, hq, hl, hw⟩ => by
    subst e1
    cases r
    obtain ⟨its, rv, ht, _⟩ := I.tuple hq
    obtain ⟨x1, hot⟩ := hc.at I
    exact apart_hot hot ht (by simp [hn, ← hl, rv.length]) hst fun h' kp => h.run pins _ σ H xs _ Q (I.kept (t' := s.toks) kp) (by simpa using rv) hw⟩
/-! ### the comprehension -/
/-- the block: the handled exception stays in sight -/
abbrev blkH (X : Cx) (s : Shared) (H : Hp) (scope : Scope) (cenv : Env) (fp : List Addr) : Cx := { X.blk s H scope cenv fp with pn := X.pn }
/-- what a comprehension over a list does: P by the number of items that are through -/
def tLcL (K : PySem.W.Frag) (tl : TE) (g : TG) (tt : TT) (te : TE) (vs : List Nat) : TE := fun σ H Q => tl σ H fun x H1 => ∃ a xs, x = .ref a ∧ SqL K H1 a xs ∧ ∀ D, H1 D = none → ∃ P : Nat → Hp → Prop, P 0 (upd H1 D (.lst [])) ∧ (∀ i H', P i H' → SqL K H' a xs) ∧ (∀ H', P xs.length H' → Q (.ref D) H') ∧
  ∀ i y H', xs[i]? = some y → P i H' → g y (wipe σ vs) H' fun σ2 H2 => wipe σ2 vs = wipe σ vs ∧ tt σ2 H2 fun b H3 => if b = true then te σ2 H3 fun z H4 => ∃ acc, H4 D = some (.lst acc) ∧ acc.length < sizeLine ∧ P (i + 1) (upd H4 D (.lst (acc ++ [z]))) else P (i + 1) H3
section
variable {X : Cx} {elt tg iter : Expr} {ifs : List Expr} {scope : Scope} {own : List (Str × Nat)} {pos : Pos} {g : TG} {tt : TT} {te tl : TE}
theorem lcL_core {pins : List (Addr × Obj)} {s : Shared} {σ : SV} {H : Hp} {Q : VK} {use : Option (Value → Sem Unit)} {Qf : Value → Shared → Prop} {pos' : Pos} (I : Inv X pins σ H s) (hc : L2H.HotC X) (hN : X.N.Nodup) (hl : PE X iter tl) (ok : BlkOk X.N X.env.scope scope own)
    (hg : ∀ (s : Shared) (H : Hp) (C : Addr) (cl : List (Str × Addr)) (fp : List Addr), PG (blkH X s H scope (compEnvC scope cl C X.env) fp) tg g) (ht : ∀ (s : Shared) (H : Hp) (C : Addr) (cl : List (Str × Addr)) (fp : List Addr), PTs (blkH X s H scope (compEnvC scope cl C X.env) fp) ifs tt)
    (he : ∀ (s : Shared) (H : Hp) (C : Addr) (cl : List (Str × Addr)) (fp : List Addr), PE (blkH X s H scope (compEnvC scope cl C X.env) fp) elt te) (hs : ∀ x, foldedSetIterable iter X.env x = pure x) (h : tLcL X.K tl g tt te (own.map (·.2)) σ H Q)
    (told : ∀ D C s' m H', Inv X pins σ H' s' → Q (.ref D) H' → s'.heap.Ns C m → FpOk X pins H' C → compPost (model X.prog X.w) X.A X.xe use Qf (.ref D) C (.ok .next) s') :
    wpAny (model X.prog X.w) X.A (comprehension (.ListComp elt [⟨tg, iter, ifs, 0⟩] scope pos) scope X.env pos' (newList []) false (eval iter X.env) use) Qf X.xe s := by
  have cells : ∀ y ∈ scope.names, y.2 = .free → ∃ c, X.env.cells.lookup y.1 = some c := fun y hy e => I.ok.has _ (ok.free y hy e)
  refine wpAny_comprehension_free (use := use) rfl hs (closure_ok cells) ok.kind (fun y hy e => (ok.uniq y hy).trans (congrArg some e)) (thn (hl.run pins s σ H _ I h) fun u s1 ⟨x, H1, I1, r1, a, xs, ex, hq, q⟩ => ?_)
  subst ex
  obtain rfl : u = Value.ref a := r1
  obtain ⟨its, rv, pl, _⟩ := I1.list hq
  refine wpAny_pyIter_list pl.isList ?_
  -- the iterator at it, the new list at it + 1
  generalize hit : s1.heap.objs.size = it
  have I2 : Inv X pins σ H1 { s1 with heap := s1.heap.push { cls := .type "list_iterator", data := .fields #[.ref a, .int 0 0] } } := I1.kept (t' := s1.toks) fun b o e => Heap.get?_push_of_some _ e
  have li : Heap.IsListIter (s1.heap.push { cls := .type "list_iterator", data := .fields #[.ref a, .int 0 0] }) it a 0 := by rw [← hit]; exact ⟨_, Heap.get?_push_size _ rfl, rfl, rfl⟩
  have fi : FpOk X pins H1 it := by rw [← hit]; exact I1.fpOk (Nat.le_refl _) (I1.hok.fresh (Nat.le_refl _))
  generalize hs2 : ({ s1 with heap := s1.heap.push { cls := .type "list_iterator", data := .fields #[.ref a, .int 0 0] } } : Shared) = s2 at I2 ⊢
  have li2 : s2.heap.IsListIter it a 0 := by rw [← hs2]; exact li
  refine wpAny_newObj_type (newEnv_comp ?_) (by show 0 ≤ sizeLine; decide)
  generalize hD : s2.heap.objs.size = D
  have nD : H1 D = none := I2.hok.fresh (Nat.le_of_eq hD)
  obtain ⟨P, p0, pS, pE, turn⟩ := q D nD
  generalize hs3 : ({ s2 with heap := s2.heap.push { cls := .type "list", data := .seq ([] : List Value).toArray } } : Shared) = s3
  have s3h : s3.heap = s2.heap.push { cls := .type "list", data := .seq ([] : List Value).toArray } := by rw [← hs3]
  have I3 : Inv X pins σ (upd H1 D (.lst [])) s3 := by
    rw [← hs3]
    exact I2.laid (t' := s2.toks) (fun b o e => Heap.get?_push_of_some _ e) (Nat.le_of_eq hD) ⟨Nat.zero_le _, [], 0, .nil, by rw [← hD]; exact Heap.get?_push_size _ rfl⟩
  have itD : it < D := by rw [← hD]; obtain ⟨o, e, _⟩ := li2; exact Heap.lt_size e
  have li3 : s3.heap.IsListIter it a 0 := by rw [s3h]; exact li2.at fun o e => Heap.get?_push_of_some _ e
  have f3 : FpOk X pins (upd H1 D (.lst [])) it := ⟨by rw [upd_ne (Nat.ne_of_lt itD)]; exact fi.1, fi.2⟩
  have it3 : it < s3.heap.objs.size := by obtain ⟨o, e, _⟩ := li3; exact Heap.lt_size e
  have st := block_start (fp := [it]) I3 ok hN fun b hb => by rw [List.mem_singleton.mp hb]; exact ⟨f3, it3⟩
  have pg := hg s3 (upd H1 D (.lst [])) s3.heap.objs.size (cellsFrom (s3.heap.objs.size + 1) scope.names (cloFrom X.env.cells scope.names [])) [it]
  have pt := ht s3 (upd H1 D (.lst [])) s3.heap.objs.size (cellsFrom (s3.heap.objs.size + 1) scope.names (cloFrom X.env.cells scope.names [])) [it]
  have pe := he s3 (upd H1 D (.lst [])) s3.heap.objs.size (cellsFrom (s3.heap.objs.size + 1) scope.names (cloFrom X.env.cells scope.names [])) [it]
  refine (show codeAny _ _ (.compStart (.ListComp elt [⟨tg, iter, ifs, 0⟩] scope pos) 0 (.ref it) (.ref D) (compEnvC scope (cellsFrom (s3.heap.objs.size + 1) scope.names (cloFrom X.env.cells scope.names [])) s3.heap.objs.size X.env)) (compPost (model X.prog X.w) X.A X.xe use Qf (.ref D) s3.heap.objs.size) { s3 with heap := pushCells (s3.heap.push { cls := .type "dict", data := .dict #[] }) scope.names } from ?_)
  generalize hce : compEnvC scope (cellsFrom (s3.heap.objs.size + 1) scope.names (cloFrom X.env.cells scope.names [])) s3.heap.objs.size X.env = ce at st pg pt pe ⊢
  have cL : ce.locals = s3.heap.objs.size := by rw [← hce]; rfl
  have up : ∀ b o, s3.heap.get? b = some o → (pushCells (s3.heap.push { cls := .type "dict", data := .dict #[] }) scope.names).get? b = some o := fun b o e => pushCells_keeps _ _ _ _ (Heap.get?_push_of_some _ e)
  generalize hH3 : upd H1 D (.lst []) = H3 at I3 p0 f3 st pg pt pe
  -- the handled one is pinned in the block
  have okB : (blkH X s3 H3 scope ce [it]).Ok := ⟨st.ok.mod, st.ok.kind, st.ok.glob, st.ok.blt, st.ok.above, st.ok.inj, st.ok.has, st.ok.cab, st.ok.hd, st.ok.frames, st.ok.stk, st.ok.exf, st.ok.bs, st.ok.bsz, st.ok.noex, st.ok.exfs, st.ok.funs, st.ok.frf⟩
  have I4 : Inv (blkH X s3 H3 scope ce [it]) [] (wipe σ (own.map (·.2))) H3 { s3 with heap := pushCells (s3.heap.push { cls := .type "dict", data := .dict #[] }) scope.names } :=
    ⟨okB, st.os, st.bare, st.base, st.loc, st.cell, st.free, st.freeC, fun p hp => by
      have hp : p ∈ X.pn := by simpa using (show p ∈ X.pn ++ [] from hp)
      have z := I3.pin p (List.mem_append_left _ hp)
      exact ⟨up _ _ z.1, z.2.1, by show p.1 ≠ ce.locals; rw [cL]; exact Nat.ne_of_lt (Heap.lt_size z.1), fun hm => (List.mem_cons.mp (I3.stkSub p.1 hm)).elim z.2.2.1 z.2.2.2.1, z.2.2.2.2⟩, st.hok, st.len⟩
  generalize hs4 : ({ s3 with heap := pushCells (s3.heap.push { cls := .type "dict", data := .dict #[] }) scope.names } : Shared) = s4 at I4 ⊢
  have li4 : s4.heap.IsListIter it a 0 := by rw [← hs4]; exact li3.at fun o e => up _ _ e
  have pn3 : ∀ p ∈ X.pn, p.1 ≠ it := fun p hp => f3.2.2.2.2.2 p (List.mem_append_left _ hp)
  -- what holds of the iterator's place in the block
  have fpB : ∀ {σ' : SV} {H' : Hp} {s' : Shared}, Inv (blkH X s3 H3 scope ce [it]) [] σ' H' s' → H' it = none → FpOk (blkH X s3 H3 scope ce [it]) [] H' it := fun I' n =>
    ⟨n, (I'.ok.exf it (List.mem_singleton.mpr rfl)).1, I'.ok.exfs it (List.mem_singleton.mpr rfl), .inl (List.mem_singleton.mpr rfl), fun x c e => (I'.ok.exf it (List.mem_singleton.mpr rfl)).2 x c e, fun p hp => pn3 p (by simpa using (show p ∈ X.pn ++ [] from hp))⟩
  have loop : codeAny (model X.prog X.w) X.A (.compLoop (.ListComp elt [⟨tg, iter, ifs, 0⟩] scope pos) 0 (.ref it) (.ref D) ce) (compPost (model X.prog X.w) X.A X.xe use Qf (.ref D) s3.heap.objs.size) s4 := by
    refine compLoop_any (fun n s' => ∃ i H', n = xs.length - i ∧ i ≤ xs.length ∧ Inv (blkH X s3 H3 scope ce [it]) [] (wipe σ (own.map (·.2))) H' s' ∧ s'.heap.IsListIter it a i ∧ H' it = none ∧ P i H') ?_ xs.length ⟨0, H3, by omega, Nat.zero_le _, I4, li4, f3.1, p0⟩
    rintro n s5 ⟨i, H5, hn, hi, I5, li5, n5, p5⟩
    obtain ⟨its5, rv5, pl5, _⟩ := I5.list (pS i H5 p5)
    obtain ⟨f0, f1, f2, f3', f4, f5⟩ := fpB I5 n5
    have len5 := rv5.length
    by_cases c : i = xs.length
    · subst c
      obtain ⟨q1, ⟨hh, v1, e1, c1⟩, hq1⟩ := hc
      have z := I5.pin q1 (List.mem_append_left _ hq1)
      refine next_list_end (x1 := q1.1) ⟨hh, q1.2, v1, z.1, e1, c1⟩ (pn3 q1 hq1) li5 pl5.isList (by simp; omega) fun h' kp => ?_
      have I6 : Inv (blkH X s3 H3 scope ce [it]) [] (wipe σ (own.map (·.2))) H5 { s5 with heap := h' } := I5.turned (t' := s5.toks) kp f0 f1 f3' f4 f5
      have I7 : Inv X pins σ H5 { s5 with heap := h' } := I3.call' (ch := [it]) I6.os I6.base I6.hok I6.bare fun b hb => by rw [List.mem_singleton.mp hb]; exact ⟨f3.2.2.2.1, f3.2.1, f3.2.2.2.2.1, f3.2.2.2.2.2⟩
      obtain ⟨m, ns, _⟩ := I6.loc
      have nC : H5 s3.heap.objs.size = none := by rw [← cL]; exact I6.free
      exact told D s3.heap.objs.size _ m H5 I7 (pE H5 p5) (by rw [← cL]; exact ns) (I3.fpOk (Nat.le_refl _) nC)
    · have hlt : i < xs.length := by omega
      obtain ⟨u, hu, ru⟩ := rv5.get (List.getElem?_eq_getElem hlt)
      refine wpAny_pyNext_list_item li5 pl5.isList (x := u) (by simpa using hu) fun h' li6 sb => ?_
      have I6 : Inv (blkH X s3 H3 scope ce [it]) [] (wipe σ (own.map (·.2))) H5 { s5 with heap := h' } := I5.turned (t' := s5.toks) (fun b o hb e => (sb.2 b hb).trans e) f0 f1 f3' f4 f5
      obtain ⟨oi, gi, ci, di⟩ := id li6
      refine go_of (s := { s5 with heap := h' }) gi ci di (by decide) ?_
      have I6' := I6.pinned (fp := [it]) (fun b hb => by rw [List.mem_singleton.mp hb]; exact fpB I6 n5) fun b hb => by rw [List.mem_singleton.mp hb]; exact ⟨oi, gi, fun v z => by rw [di] at z; cases z⟩
      -- behind a turn
      have fin : ∀ {s' : Shared} {H' : Hp} {σ8 : SV}, wipe σ8 (own.map (·.2)) = wipe σ (own.map (·.2)) → Inv (blkH X s3 H3 scope ce [it]) ([] ++ pinsAt [it] h') σ8 H' s' → P (i + 1) H' → ∃ m, m < n ∧ ∃ i H', m = xs.length - i ∧ i ≤ xs.length ∧ Inv (blkH X s3 H3 scope ce [it]) [] (wipe σ (own.map (·.2))) H' s' ∧ s'.heap.IsListIter it a i ∧ H' it = none ∧ P i H' := fun {s' H' σ8} hw I' p' => by
        have z := I'.pin (it, oi) (List.mem_append_right _ (List.mem_append_right _ (mem_pinsAt (List.mem_singleton.mpr rfl) gi)))
        refine ⟨xs.length - (i + 1), by omega, i + 1, H', rfl, by omega, (I'.unpinned (pins := [])).weak (by rw [← hw, wipe_length]) (fun j v e => ?_), li6.at fun o e => by rw [gi] at e; cases e; exact z.1, z.2.1, p'⟩
        rw [← hw] at e
        exact (wipe_some e).1
      refine thnF (pg.run _ _ _ H5 xs[i] u _ I6' ru (turn i xs[i] H5 (List.getElem?_eq_getElem hlt) p5)) fun _ s8 ⟨σ8, H8, I8, hw8, q8⟩ => thnF (pt.run _ s8 σ8 H8 _ I8 q8) fun b s9 ⟨H9, I9, q9⟩ => ?_
      cases b with
      | false => exact fin hw8 I9 q9
      | true =>
        refine thnF (pe.run _ s9 σ8 H9 _ I9 q9) fun z s10 ⟨yv, H10, I10, r10, acc, gD, lz, p'⟩ => ?_
        exact app_ok (X := blkH X s3 H3 scope ce [it]) I10 gD lz r10 fun s11 I11 => fin hw8 I11 p'
  exact codeAny_compStart_list loop (wpAny_pyIter_listiter li4 loop)
theorem pe_lcL (hc : L2H.HotC X) (hN : X.N.Nodup) (hl : PE X iter tl) (ok : BlkOk X.N X.env.scope scope own)
    (hg : ∀ (s : Shared) (H : Hp) (C : Addr) (cl : List (Str × Addr)) (fp : List Addr), PG (blkH X s H scope (compEnvC scope cl C X.env) fp) tg g) (ht : ∀ (s : Shared) (H : Hp) (C : Addr) (cl : List (Str × Addr)) (fp : List Addr), PTs (blkH X s H scope (compEnvC scope cl C X.env) fp) ifs tt)
    (he : ∀ (s : Shared) (H : Hp) (C : Addr) (cl : List (Str × Addr)) (fp : List Addr), PE (blkH X s H scope (compEnvC scope cl C X.env) fp) elt te) (hs : ∀ x, foldedSetIterable iter X.env x = pure x := by intro _; rfl) :
    PE X (.ListComp elt [⟨tg, iter, ifs, 0⟩] scope pos) (tLcL X.K tl g tt te (own.map (·.2))) := by
  refine ⟨fun pins s σ H Q I h => ?_⟩
  rw [eval_ListComp]
  exact lcL_core (use := none) I hc hN hl ok hg ht he hs h fun D C s' m H' I' q hn f => ⟨m, hn, fun h2 sb => ⟨.ref D, H', I'.turned (t' := s'.toks) (fun b o hb e => (sb.2 b hb).trans e) f.1 f.2.1 f.2.2.2.1 f.2.2.2.2.1 f.2.2.2.2.2, rfl, q⟩⟩
/-- name = [..] on one line -/
theorem ps_setLcL {i : Nat} {y : Str} {py spos : Pos} (hy : X.N[i]? = some y) (hyl : X.env.scope.names.lookup y = some .local) (hsw : swapsWith (.ListComp elt [⟨tg, iter, ifs, 0⟩] scope pos) (some (.Name y py)) spos.line X.env = pure true) (hc : L2H.HotC X) (hN : X.N.Nodup) (hl : PE X iter tl) (ok : BlkOk X.N X.env.scope scope own)
    (hg : ∀ (s : Shared) (H : Hp) (C : Addr) (cl : List (Str × Addr)) (fp : List Addr), PG (blkH X s H scope (compEnvC scope cl C X.env) fp) tg g) (ht : ∀ (s : Shared) (H : Hp) (C : Addr) (cl : List (Str × Addr)) (fp : List Addr), PTs (blkH X s H scope (compEnvC scope cl C X.env) fp) ifs tt)
    (he : ∀ (s : Shared) (H : Hp) (C : Addr) (cl : List (Str × Addr)) (fp : List Addr), PE (blkH X s H scope (compEnvC scope cl C X.env) fp) elt te) (hs : ∀ x, foldedSetIterable iter X.env x = pure x := by intro _; rfl) :
    PS X (.Assign [.Name y py] (.ListComp elt [⟨tg, iter, ifs, 0⟩] scope pos) spos) (tAsg (tLcL X.K tl g tt te (own.map (·.2))) (gName i)) := by
  refine ⟨fun pins s σ H D I h => ?_⟩
  rw [exec_Assign_Name_used _ _ _ _ hsw]
  have h : tLcL X.K tl g tt te (own.map (·.2)) σ H (fun x H1 => gName i x σ H1 D.nx) := h
  refine wpAny_bind (wpAny_standAt (wpAny_bind ?_))
  refine (show wpAny _ X.A (do let _ ← comprehension (.ListComp elt [⟨tg, iter, ifs, 0⟩] scope pos) scope X.env (firstIterPos [⟨tg, iter, ifs, 0⟩] pos) (newList []) false (eval iter X.env) (some (assign (.Name y py) X.env))) _ _ s from wpAny_bind (thn (lcL_core (Qf := fun _ s' => SP X pins D .next s') I hc hN hl ok hg ht he hs h fun L C s' m H' I' q hn f => ?_) fun _ s' hq => wpAny_pure (wpAny_pure hq)))
  refine (show wpAny _ _ (assign (.Name y py) X.env (.ref L)) _ _ _ from wpAny_assign_Name (store_ok2 (v := V.ref L) I' hN hy (.inl hyl) rfl (fun s2 I2 ⟨a, sb, ha⟩ => ?_) (.inr hyl)))
  have hC : C ≠ a := ha.elim (fun z => z ▸ f.2.1) fun z e => f.2.2.2.2.1 y a z e.symm
  exact ⟨m, hn.sameBut sb hC, fun h3 sb3 => ⟨_, H', I2.turned (t' := s2.toks) (fun b o hb e => (sb3.2 b hb).trans e) f.1 f.2.1 f.2.2.2.1 f.2.2.2.2.1 f.2.2.2.2.2, q⟩⟩
end
/-! ### over the small world -/
/-- a frozen list, walked in a suite -/
def iLstW (te : TEw) : TIw := fun σ G R => te σ G fun w G1 => match w with
  | .lst ws => R ws G1
  | _ => False
theorem llcL {K : PySem.W.Frag} {vs : List Nat} {te0 : TEw} {g : TG} {gw : TGw} {tt : TTw} {te : TEw} (sg : SimG K vs g gw) {σ : SV} {H : Hp} {Q : VK} (h : liftE K (wLc vs (iLstW te0) gw tt te) σ H Q) : tLcL K (liftE K te0) g (liftT K tt) (liftE K te) vs σ H Q := by
  obtain ⟨Z, σ', G, Qw, e, hr, t, k⟩ := h
  refine ⟨Z, σ', G, _, e, hr, t, fun Z1 G1 H1 w v x1 h1 r1 t1 => ?_⟩
  cases r1 with
  | @lst p ws xs z1 s1 rl =>
    obtain ⟨hl, t1⟩ := t1
    refine ⟨p, xs, rfl, SqL.of s1, fun D hD => ?_⟩
    have x0 : Ext Z1 G1 H1 Z1 G1 (upd H1 D (.lst [])) := Ext.laid h1 hD
    have h0 := h1.laid (o := .lst []) hD
    have still : ∀ {Z2 G2 H2}, Ext Z1 G1 H1 Z2 G2 H2 → SqL K H2 p xs ∧ RwL K Z2 H2 ws xs := fun x2 => ⟨SqL.of (x2.f p _ s1 (h1.z p z1).1).1, rl.ext h1 x2⟩
    refine ⟨fun i H2 => ∃ Z2 G2 us ys, Ext Z1 G1 H1 Z2 G2 H2 ∧ HRel K Z2 G2 H2 ∧ H2 D = some (.lst ys) ∧ G2 D = none ∧ ¬ Z2 D ∧ RwL K Z2 H2 us ys ∧ us.length ≤ i ∧ lcW gw tt te (swipe σ' vs) (ws.drop i) us G2 fun us G2 => Qw (.lst us) G2, ?_, ?_, ?_, ?_⟩
    · exact ⟨Z1, G1, [], [], x0, h0, upd_same, h1.fresh hD, h1.freshZ hD, .nil, Nat.le_refl _, t1⟩
    · rintro i H2 ⟨Z2, G2, us, ys, x2, _⟩
      exact (still x2).1
    · rintro H2 ⟨Z2, G2, us, ys, x2, h2, eD, gD, zD, rus, lus, t2⟩
      rw [← rl.length, List.drop_length] at t2
      obtain ⟨Z3, G3, w, x3, h3, r3, q⟩ := lc_frz Z1 G1 H1 Z2 G2 H2 us ys D Qw hD x2 h2 rus eD gD zD t2
      exact k Z3 G3 H2 w _ (x1.trans x3) h3 r3 q
    · rintro i v H2 hi ⟨Z2, G2, us, ys, x2, h2, eD, gD, zD, rus, lus, t2⟩
      obtain ⟨w, ew, rw'⟩ := (still x2).2.get' i hi
      have ed : ws.drop i = w :: ws.drop (i + 1) := by
        obtain ⟨hl, e⟩ := List.getElem?_eq_some_iff.mp ew
        rw [← e]; exact List.drop_eq_getElem_cons hl
      have hi2 : i < ws.length := (List.getElem?_eq_some_iff.mp ew).1
      rw [ed] at t2
      have eσ : RwS K Z2 H2 (swipe σ' vs) (L2.wipe σ vs) := (e.ext hr (x1.trans x2)).wipe vs
      refine sg Z2 G2 H2 _ _ w v _ _ eσ h2 rw' t2 fun τ' τ eτ sτ t3 => ⟨?_, ?_⟩
      · rw [sτ.wipe, wipe_wipe vs vs fun i hi => hi]
      refine ⟨Z2, τ', G2, _, eτ, h2, t3, fun Z4 G4 H4 b x4 h4 t4 => ?_⟩
      have eD4 := x4.f D _ eD gD
      have zD4 : ¬ Z4 D := fun z => zD (x4.n D (by rw [eD]; simp) gD z)
      have rus4 := rus.ext h2 x4
      cases b with
      | false => exact ⟨Z4, G4, us, ys, x2.trans x4, h4, eD4.1, eD4.2, zD4, rus4, by omega, t4⟩
      | true =>
        refine ⟨Z4, τ', G4, _, eτ.ext h2 x4, h4, t4, fun Z5 G5 H5 yw yv x5 h5 r5 t5 => ?_⟩
        have eD5 := x5.f D _ eD4.1 eD4.2
        have zD5 : ¬ Z5 D := fun z => zD4 (x5.n D (by rw [eD4.1]; simp) eD4.2 z)
        have rus5 := rus4.ext h4 x5
        have kp : Keep Z5 H5 Z5 (upd H5 D (.lst (ys ++ [yv]))) := Keep.hid eD5.1 zD5
        have xx := (x2.trans x4).trans x5
        refine ⟨ys, eD5.1, by rw [← rus.length]; omega, Z5, G5, us ++ [yw], ys ++ [yv], ⟨xx.z, fun p u e' g' => ?_, xx.n⟩, ⟨fun p z => ?_, fun p o g' => ?_⟩, upd_same, eD5.2, zD5, (rus5.append (.cons r5 .nil)).keep kp, by simp; omega, t5⟩
        · rw [upd_ne (ne_of_none e' hD)]; exact xx.f p u e' g'
        · have := h5.z p z
          rw [upd_ne (fun c => zD5 (by rw [← c]; exact z))]
          exact this
        · obtain ⟨u, e', r⟩ := h5.g p o g'
          have c : p ≠ D := fun c => by rw [c, eD5.2] at g'; cases g'
          exact ⟨u, by rw [upd_ne c]; exact e', r.keep kp⟩
  | _ => exact False.elim t1
structure TgHW (X : Cx) (vs : List Nat) (tg : Expr) (scope : Scope) (gw : TGw) : Prop where
  ex : ∃ g, (∀ (s : Shared) (H : Hp) (C : Addr) (cl : List (Str × Addr)) (fp : List Addr), PG (blkH X s H scope (compEnvC scope cl C X.env) fp) tg g) ∧ SimG X.K vs g gw
/-- a tuple alone is taken apart -/
def gT' (n : Nat) (t : TGsw) : TGw := fun w σ G Q => match w with
  | .tup ws => ws.length = n ∧ t ws σ G Q
  | _ => False
section
variable {X : Cx} {vs : List Nat} {scope : Scope} {pos : Pos}
theorem simg_tupH {K : PySem.W.Frag} {vs : List Nat} {n : Nat} {g : TGs} {gw : TGsw} (hg : SimGs K vs g gw) : SimG K vs (gTup K n g) (gT' n gw) := fun Z G H σ' σ w v Qw Q e h r t k => by
  cases r with
  | tup s r => exact ⟨_, _, rfl, s, by rw [← r.length]; exact t.1, hg Z G H _ _ _ _ Qw Q e h r t.2 k⟩
  | _ => exact False.elim t
/-- two names -/
theorem gcT2H {i j : Nat} {x y : Str} {k : Nat} {px py : Pos} (hc : L2H.HotC X) (hN : X.N.Nodup) (hi : X.N[i]? = some x) (hj : X.N[j]? = some y) (hvi : i ∈ vs := by decide) (hvj : j ∈ vs := by decide)
    (hx : ∀ (cl : List (Str × Addr)) (C : Addr), L2.Loc (compEnvC scope cl C X.env).scope x := by intro _ _; first | exact Or.inl rfl | exact Or.inr rfl) (hf : ∀ (cl : List (Str × Addr)) (C : Addr), (scope.names.lookup x == some .cell) = true ∨ (compEnvC scope cl C X.env).scope.names.lookup x = some .local := by intro _ _; first | exact .inl rfl | exact .inr rfl)
    (hy : ∀ (cl : List (Str × Addr)) (C : Addr), L2.Loc (compEnvC scope cl C X.env).scope y := by intro _ _; first | exact Or.inl rfl | exact Or.inr rfl) (hg : ∀ (cl : List (Str × Addr)) (C : Addr), (scope.names.lookup y == some .cell) = true ∨ (compEnvC scope cl C X.env).scope.names.lookup y = some .local := by intro _ _; first | exact .inl rfl | exact .inr rfl) :
    TgHW X vs (.Tuple [.Name x px, .Name y py] k pos) scope (gT' 2 (gsC (gN i) (gsC (gN j) gsN))) :=
  ⟨_, fun s H C cl fp => pg_tupH (X := blkH X s H scope (compEnvC scope cl C X.env) fp) hc (pgs_cons (pg_name hN hi (hx cl C) (hf cl C)) (pgs_cons (pg_name hN hj (hy cl C) (hg cl C)) pgs_nil rfl) rfl) rfl rfl, simg_tupH (simgs_cons hvi (simgs_cons hvj simgs_nil))⟩
variable {elt tg iter : Expr} {ifs : List Expr} {own : List (Str × Nat)} {gw : TGw} {tt : TTw} {te te0 : TEw}
theorem qlcH (hc : L2H.HotC X) (hN : X.N.Nodup) (hi : PEw X iter te0) (ok : BlkOk X.N X.env.scope scope own) (hg : TgHW X (own.map (·.2)) tg scope gw)
    (ht : ∀ (s : Shared) (H : Hp) (C : Addr) (cl : List (Str × Addr)) (fp : List Addr), PTsw (blkH X s H scope (compEnvC scope cl C X.env) fp) ifs tt) (he : ∀ (s : Shared) (H : Hp) (C : Addr) (cl : List (Str × Addr)) (fp : List Addr), PEw (blkH X s H scope (compEnvC scope cl C X.env) fp) elt te)
    (hs : ∀ x, foldedSetIterable iter X.env x = pure x := by intro _; rfl) : PEw X (.ListComp elt [⟨tg, iter, ifs, 0⟩] scope pos) (wLc (own.map (·.2)) (iLstW te0) gw tt te) := by
  obtain ⟨g, pg, sg⟩ := hg.ex
  exact PE.imp (pe_lcL (tt := liftT X.K tt) (te := liftE X.K te) hc hN hi ok pg ht he hs) fun _ _ _ h => llcL sg h
theorem qsetLcH {j : Nat} {y : Str} {py spos : Pos} (hc : L2H.HotC X) (hN : X.N.Nodup) (hy : X.N[j]? = some y) (hyl : X.env.scope.names.lookup y = some .local) (hsw : swapsWith (.ListComp elt [⟨tg, iter, ifs, 0⟩] scope pos) (some (.Name y py)) spos.line X.env = pure true) (hi : PEw X iter te0) (ok : BlkOk X.N X.env.scope scope own) (hg : TgHW X (own.map (·.2)) tg scope gw)
    (ht : ∀ (s : Shared) (H : Hp) (C : Addr) (cl : List (Str × Addr)) (fp : List Addr), PTsw (blkH X s H scope (compEnvC scope cl C X.env) fp) ifs tt) (he : ∀ (s : Shared) (H : Hp) (C : Addr) (cl : List (Str × Addr)) (fp : List Addr), PEw (blkH X s H scope (compEnvC scope cl C X.env) fp) elt te)
    (hs : ∀ x, foldedSetIterable iter X.env x = pure x := by intro _; rfl) : PSw X (.Assign [.Name y py] (.ListComp elt [⟨tg, iter, ifs, 0⟩] scope pos) spos) (wAsg (wLc (own.map (·.2)) (iLstW te0) gw tt te) (gN j)) := by
  obtain ⟨g, pg, sg⟩ := hg.ex
  refine PS.imp (ps_setLcL (tt := liftT X.K tt) (te := liftE X.K te) hy hyl hsw hc hN hi ok pg ht he hs) fun D σ H h => ?_
  obtain ⟨Z, σ', G, Dw, e, hr, t, k⟩ := h
  exact llcL sg ⟨Z, σ', G, _, e, hr, t, fun Z1 G1 H1 w v x1 h1 r1 q => lgN ⟨Z1, σ', G1, w, _, e.ext hr x1, h1, r1, q, k.nx.mono x1⟩⟩
end
/-- the handled one, in sight -/
theorem HotE.hotC {X : Cx} {a : Addr} {d : Option Addr} {nm : Str} (h : HotE X a d nm) : L2H.HotC X := by
  obtain ⟨oe, C, hh, hp, _⟩ := h.ex
  exact ⟨_, hh, hp⟩
def lstOf (w : W) (G : Gp) (P : List W → Gp → Prop) : Prop := match w with
  | .lst ws => P ws G
  | _ => False
theorem lstOf_lst {ws : List W} {G : Gp} {P : List W → Gp → Prop} : lstOf (.lst ws) G P = P ws G := rfl
theorem gT'_tup {n : Nat} {t : TGsw} {ws : List W} {σ : SW} {G : Gp} {P : SW → Gp → Prop} : gT' n t (.tup ws) σ G P = (ws.length = n ∧ t ws σ G P) := rfl
end WL

namespace WL
open PySem PySem.Spec PyProof.Rows L2
/-! ### the law's call, the base free of what looks on: then // is plain at any size -/
theorem seer_hid {h : Heap} {H : Hp} (S : h.NoSeer) (hd : ∀ b o es ep, h.get? b = some o → o.data = .dict es ep → H b = none) (hm : ∀ b o d, h.get? b = some o → o.dict = some d → o.cls = .type "module" → H b = none) : (hidT h H).NoSeer := by
  have ns : ∀ {b : Addr} {m : Str → Option Value}, h.Ns b m → (hidT h H).Ns b m := by
    rintro b m ⟨o, es, ep, e, d, r⟩
    exact ⟨o, es, ep, hidT_get e (hd b o es ep e d), d, r⟩
  obtain ⟨⟨c, c1, c2, c3⟩, ⟨m, m1, m2⟩, ⟨i, i1, i2⟩, ⟨g, bm, ob, g1, g2, g3, g4, g5⟩⟩ := S
  exact ⟨⟨c, ns c1, c2, c3⟩, ⟨m, ns m1, m2⟩, ⟨i, ns i1, i2⟩, ⟨g, bm, ob, ns g1, g2, hidT_get g3 (hm bm ob _ g3 g5 g4), g4, g5⟩⟩
/-- the heap that knows the script alone -/
def scrH (K : PySem.W.Frag) (a : Addr) (ob : Obj) (xs : List V) : Hp := fun b => if b = a ∧ (K.lookup a).isSome = false then some (.frz ob (.lst xs)) else none
section
variable {P : Program} {w : World} {K : PySem.W.Frag} {mg mb : Str → Option Value} {k : Nat} {fa a : Addr} {fd : FuncData} {x : Str} {sp : Sp} {s1 : Shared} {vs : List Value} {ns : List Int}
theorem law_run (KX : K.In s1.heap) (gl : s1.heap.Ns mainGlobals mg) (bl : s1.heap.Ns builtinsNs mb) (bb : ∀ x : Str, x ≠ "__name__" → mb x = bootBuiltins x) (lim : s1.heap.NoLimit) (seer : s1.heap.NoSeer) (gens : s1.gens = #[])
    (obj : s1.heap.get? a = some { cls := .type "list", data := .seq vs.toArray }) (iar : IntsAre vs ns) (len : ns.length ≤ sizeLine) (hr : Room k callerA)
    (F : ∀ base : Heap, K.In base → base.Ns mainGlobals mg → base.NoSeer → FnOk P w K mg base CX0 k fa fd [x] sp) (bind : ∀ (s : Shared) (u : Value), BindsTo s fd ⟨[u], []⟩ [(x, u)])
    (want : ∀ H : Hp, Only H → SqL K H a (ns.map V.int) → sp [.ref a] H (fun v _ => v = .bl true) fun _ _ _ => False) :
    codeAny (model P w) callerA (.call (.ref fa) ⟨[.ref a], []⟩) (fun r s' => r = .ok (.ret (.bool true)) ∧ OldK s1.heap s'.heap ∧ s'.os = s1.os ∧ AllBare s'.gens) s1 := by
  let ob : Obj := { cls := .type "list", data := .seq vs.toArray }
  let H : Hp := scrH K a ob (ns.map V.int)
  have rel : Vals (ns.map V.int) vs := vals_ints iar
  have only : Only H := fun b => by
    by_cases c : b = a ∧ (K.lookup a).isSome = false
    · exact .inr ⟨ob, _, if_pos c⟩
    · exact .inl (if_neg c)
  have at_ : ∀ b, H b ≠ none → b = a ∧ (K.lookup a).isSome = false := fun b z => by
    by_cases c : b = a ∧ (K.lookup a).isSome = false
    · exact c
    · exact absurd (if_neg c) z
  have isz : vs.length = ns.length := by
    have e := rel.length
    rw [List.length_map] at e
    exact e.symm
  have sq : SqL K H a (ns.map V.int) := by
    cases q : K.lookup a with
    | none => exact .inl (.inr ⟨ob, if_pos ⟨rfl, by rw [q]; rfl⟩⟩)
    | some o =>
      have e := KX a o q
      rw [obj] at e
      injection e with e
      subst e
      exact .inr ⟨_, vs.toArray, _, q, rfl, rfl, rfl, by rw [List.size_toArray, isz]; exact len, by simpa using rel⟩
  have hok : HOk P w H s1.heap := fun b u z => by
    have ne : H b ≠ none := by rw [z]; simp
    obtain ⟨rfl, q⟩ := at_ b ne
    have z' : some (HO.frz ob (.lst (ns.map V.int))) = some u := (show H b = some (HO.frz ob (.lst (ns.map V.int))) from if_pos ⟨rfl, q⟩).symm.trans z
    injection z' with z'
    subst z'
    exact ⟨obj, by rw [List.length_map]; exact len, vs, _, rel, obj⟩
  have noD : ∀ b o es ep, s1.heap.get? b = some o → o.data = .dict es ep → H b = none := fun b o es ep e d => by
    cases q : H b with
    | none => rfl
    | some u =>
      obtain ⟨rfl, _⟩ := at_ b (by rw [q]; simp)
      rw [obj] at e
      injection e with e
      subst e
      cases d
  have noM : ∀ b o d, s1.heap.get? b = some o → o.dict = some d → o.cls = .type "module" → H b = none := fun b o d e hd _ => by
    cases q : H b with
    | none => rfl
    | some u =>
      obtain ⟨rfl, _⟩ := at_ b (by rw [q]; simp)
      rw [obj] at e
      injection e with e
      subst e
      cases hd
  have ns' : ∀ {b : Addr} {m : Str → Option Value}, s1.heap.Ns b m → (hidT s1.heap H).Ns b m := by
    rintro b m ⟨o, es, ep, e, d, r⟩
    exact ⟨o, es, ep, hidT_get e (noD b o es ep e d), d, r⟩
  have kb : K.In (hidT s1.heap H) := fun b o e => hidT_get (KX b o e) (by
    cases q : H b with
    | none => rfl
    | some u =>
      obtain ⟨rfl, z⟩ := at_ b (by rw [q]; simp)
      rw [e] at z
      cases z)
  have md : Mod K mg (hidT s1.heap H) := by
    obtain ⟨mc, l1, l2⟩ := lim
    exact ⟨kb, ns' gl, ⟨mb, ns' bl, bb⟩, mc, ns' l1, l2⟩
  have e0 : Env0 P w K mg (hidT s1.heap H) callerA [] s1 H := ⟨rfl, md, fun b o e => of_hidT e, Nat.le_of_eq (hidT_size _ _), trivial, fun b hb => (by cases hb), hok, .of_eq gens⟩
  have run := (F _ kb (ns' gl) (seer_hid seer noD noM)).run callerA [] s1 H ⟨[.ref a], []⟩ [.ref a] [.ref a] _ _ hr e0 (bind s1 (.ref a)) (.cons rfl .nil) (want H only sq)
  refine codeAny_mono run fun r s' h => ?_
  match r, h with
  | .ok (.ret u), h =>
    obtain ⟨v, H', os, bare, un, hok', rv, q⟩ := h
    cases (show v = .bl true from q)
    cases (show u = Value.bool true from rv)
    refine ⟨rfl, OldK.of_keep fun b o e => ?_, os, bare⟩
    rcases only b with z | ⟨oz, xz, z⟩
    · exact un.keep b o e z (fun m => (by cases m)) (fun m => (by cases m))
    · obtain ⟨e1, _⟩ := hok b _ z
      obtain ⟨e2, _⟩ := hok' b _ (un.frzs b oz _ z)
      rw [e1] at e
      rw [← e]
      exact e2
/-- the goal that the head leaves -/
theorem walk_deep {l : PySem.W.OpenLaw} {n k : Nat} {q : Program} {loose : List Str} {XP : (Str → Option Value) → Heap → Prop} {YP : World → Heap → Prop} {d : DefRec} {Kf : Params → PySem.W.Frag} {sp : World → Sp} {x : Str}
    (most : l.most = some n) (small : n ≤ sizeLine) (nodef : d.params.defaults = []) (hr : Room k callerA) (noimp : importsNone q = true) (hY : ∀ (w : World) (h : Heap), YP w h → (Kf w.params).In h)
    (F : ∀ (w : World) (mg : Str → Option Value) (fa : Addr) (h : Heap), (Kf w.params).In h → h.Ns mainGlobals mg → mg d.name = some (.ref fa) →
      ∃ fd : FuncData, (∀ (s : Shared) (u : Value), BindsTo s fd ⟨[u], []⟩ [(x, u)]) ∧ ∀ base : Heap, (Kf w.params).In base → base.Ns mainGlobals mg → base.NoSeer → FnOk l.prog w (Kf w.params) mg base CX0 k fa fd [x] (sp w))
    (want : ∀ (w : World) (H : Hp) (a : Addr) (ns : List Int), ns.length ≤ n → Only H → SqL (Kf w.params) H a (ns.map V.int) → sp w [.ref a] H (fun v _ => v = .bl true) fun _ _ _ => False) :
    PySem.W.WalkO q loose XP YP l.row.toRowW d [] (fun f vs => PySem.call f vs) :=
  Att.attach_call most nodef fun w s0 s1 mg mb fa o pm cd doc a vs ns G Y ho hd hcd hmg obj iar len gens => by
    obtain ⟨fd, bind, FF⟩ := F w mg fa _ (hY w _ Y) G.T.g hmg
    exact law_run (hY w _ Y) G.T.g G.T.b G.T.builtins G.T.nolimit (G.T.seer noimp) gens obj iar (Nat.le_trans len small) hr FF bind fun H h1 h2 => want w H a ns len h1 h2
end
/-! ### loops by the turn's number -/
theorem forW_ix {ks : List Bool} {g : TGw} {tb : TSw} {D : EndsW} (P : Nat → SW → Gp → Prop) : ∀ (items : List W) (k : Nat) (σ : SW) (G : Gp), P k σ G →
    (∀ i w, items[i]? = some w → ∀ σ G (N : SW → Gp → Prop), P (k + i) σ G → (∀ σ' G', P (k + i + 1) (skill σ' ks) G' → N σ' G') → g w σ G fun σ1 G1 => tb { nx := N, ct := N, bk := D.nx, rt := D.rt, ex := D.ex } σ1 G1) →
    (∀ σ G, P (k + items.length) σ G → D.nx σ G) → forW ks g tb items D σ G
  | [], k, σ, G, p, _, hd => hd σ G p
  | w :: ws, k, σ, G, p, hs, hd => hs 0 w rfl σ G _ p fun σ' G' p' => forW_ix P ws (k + 1) _ G' p' (fun i w' hw => by
      have h := hs (i + 1) w' hw
      rw [show k + (i + 1) = k + 1 + i by omega] at h
      exact h) (by
      have h := hd
      rw [show k + (w :: ws).length = k + 1 + ws.length by rw [List.length_cons]; omega] at h
      exact h)
theorem rangeW_get {lo : Int} {n i : Nat} {w : W} (h : (rangeW lo n)[i]? = some w) : i < n ∧ w = .int (lo + i) := by
  unfold rangeW at h
  rw [List.getElem?_map] at h
  by_cases c : i < n
  · rw [List.getElem?_range c] at h
    exact ⟨c, (Option.some.inj h).symm⟩
  · rw [List.getElem?_eq_none (by rw [List.length_range]; omega)] at h
    cases h
theorem rangeW_length {lo : Int} {n : Nat} : (rangeW lo n).length = n := by unfold rangeW; rw [List.length_map, List.length_range]
theorem forW_range {ks : List Bool} {g : TGw} {tb : TSw} {D : EndsW} {lo : Int} {n : Nat} {σ : SW} {G : Gp} (P : Nat → SW → Gp → Prop) (h0 : P 0 σ G)
    (hs : ∀ i, i < n → ∀ σ G (N : SW → Gp → Prop), P i σ G → (∀ σ' G', P (i + 1) (skill σ' ks) G' → N σ' G') → g (.int (lo + i)) σ G fun σ1 G1 => tb { nx := N, ct := N, bk := D.nx, rt := D.rt, ex := D.ex } σ1 G1)
    (hd : ∀ σ G, P n σ G → D.nx σ G) : forW ks g tb (rangeW lo n) D σ G := by
  refine forW_ix P (rangeW lo n) 0 σ G h0 (fun i w hw => ?_) (by rw [rangeW_length, Nat.zero_add]; exact hd)
  obtain ⟨hi, rfl⟩ := rangeW_get hw
  rw [Nat.zero_add]
  exact hs i hi
/-! ### == of truths, of None -/
theorem wOk_bl {a : Bool} : wOk (.bl a) := ⟨rfl, by simp [wdat, SeqAt.shaped, PyData.canLay0, PyData.depth]⟩
theorem weqb_bl {a b : Bool} : weqb (.bl a) (.bl b) = (a == b) := by simp [weqb, wdat, PyData.eqv]
theorem wEq_bl {a b : Bool} {G : Gp} {Q : QW} : wEq (.bl a) (.bl b) G Q = Q (.bl (a == b)) G := by
  have e : wEq (.bl a) (.bl b) G Q = (wOk (.bl a) ∧ wOk (.bl b) ∧ Q (.bl (weqb (.bl a) (.bl b))) G) := rfl
  rw [e, weqb_bl]
  exact propext ⟨fun h => h.2.2, fun h => ⟨wOk_bl, wOk_bl, h⟩⟩
theorem wNe_bl {a b : Bool} {G : Gp} {Q : QW} : wNe (.bl a) (.bl b) G Q = Q (.bl (!(a == b))) G := by
  have e : wNe (.bl a) (.bl b) G Q = (wOk (.bl a) ∧ wOk (.bl b) ∧ Q (.bl (!weqb (.bl a) (.bl b))) G) := rfl
  rw [e, weqb_bl]
  exact propext ⟨fun h => h.2.2, fun h => ⟨wOk_bl, wOk_bl, h⟩⟩
/-! ### the readings, fully applied: for simp, from the head on -/
def truO (x : W) (G : Gp) (P : Bool → Gp → Prop) : Prop := ∃ k, x = .bl k ∧ P k G
theorem truO_bl {b : Bool} {G : Gp} {P : Bool → Gp → Prop} : truO (.bl b) G P = P b G := by
  unfold truO
  exact propext ⟨fun ⟨k, e, h⟩ => (by injection e with e; subst e; exact h), fun h => ⟨b, rfl, h⟩⟩
def intO (x : W) (G : Gp) (P : Option Int → Gp → Prop) : Prop := match x with
  | .int i => P (some i) G
  | _ => False
theorem intO_int {i : Int} {G : Gp} {P : Option Int → Gp → Prop} : intO (.int i) G P = P (some i) G := rfl
theorem a_seq {t u : TSw} {D : EndsW} {σ : SW} {G : Gp} : wSeq t u D σ G = t { D with nx := u D } σ G := rfl
theorem a_asg {te : TEw} {g : TGw} {D : EndsW} {σ : SW} {G : Gp} : wAsg te g D σ G = te σ G fun w G1 => g w σ G1 D.nx := rfl
theorem a_ifS {c : TTw} {t u : TSw} {D : EndsW} {σ : SW} {G : Gp} : wIfS c t u D σ G = c σ G fun b G1 => if b = true then t D σ G1 else u D σ G1 := rfl
theorem a_ret {te : TEw} {D : EndsW} {σ : SW} {G : Gp} : wRet te D σ G = te σ G D.rt := rfl
theorem a_retN {D : EndsW} {σ : SW} {G : Gp} : wRetN D σ G = D.rt .non G := rfl
theorem a_next {D : EndsW} {σ : SW} {G : Gp} : wNext D σ G = D.nx σ G := rfl
theorem a_break {D : EndsW} {σ : SW} {G : Gp} : wBreak D σ G = D.bk σ G := rfl
theorem a_cont {D : EndsW} {σ : SW} {G : Gp} : wCont D σ G = D.ct σ G := rfl
theorem a_drop {te : TEw} {D : EndsW} {σ : SW} {G : Gp} : wDrop te D σ G = te σ G fun _ G1 => D.nx σ G1 := rfl
theorem a_for {ks : List Bool} {ti : TIw} {g : TGw} {tb : TSw} {D : EndsW} {σ : SW} {G : Gp} : wFor ks ti g tb D σ G = ti σ G fun ws G1 => forW ks g tb ws D (skill σ ks) G1 := rfl
theorem a_C {w : W} {σ : SW} {G : Gp} {Q : QW} : wC w σ G Q = Q w G := rfl
theorem a_op {wr : RW2} {ta tb : TEw} {σ : SW} {G : Gp} {Q : QW} : wOp wr ta tb σ G Q = ta σ G fun x G1 => tb σ G1 fun y G2 => wr x y G2 Q := rfl
theorem a_un {wr : W → Gp → QW → Prop} {ta : TEw} {σ : SW} {G : Gp} {Q : QW} : wUn wr ta σ G Q = ta σ G fun x G1 => wr x G1 Q := rfl
theorem a_neg {ta : TEw} {σ : SW} {G : Gp} {Q : QW} : wNeg ta σ G Q = ta σ G fun x G1 => wI1 (fun i => .int (-i)) x G1 Q := rfl
theorem a_CB {wr : List W → Gp → QW → Prop} {t : TAw} {σ : SW} {G : Gp} {Q : QW} : wCB wr t σ G Q = t σ G fun ws G1 => wr ws G1 Q := rfl
theorem a_call {sp : Spw} {t : TAw} {σ : SW} {G : Gp} {Q : QW} : wCall sp t σ G Q = t σ G fun ws G1 => sp ws G1 Q E0w := rfl
theorem a_nil {σ : SW} {G : Gp} {P : List W → Gp → Prop} : wNil σ G P = P [] G := rfl
theorem a_cons {ta : TEw} {t : TAw} {σ : SW} {G : Gp} {P : List W → Gp → Prop} : wCons ta t σ G P = ta σ G fun x G1 => t σ G1 fun xs G2 => P (x :: xs) G2 := rfl
theorem a_tup {t : TAw} {σ : SW} {G : Gp} {Q : QW} : wTup t σ G Q = t σ G fun ws G1 => ws.length ≤ sizeLine ∧ Q (.tup ws) G1 := rfl
theorem a_lst {t : TAw} {σ : SW} {G : Gp} {Q : QW} : wLst t σ G Q = t σ G fun ws G1 => ws.length ≤ sizeLine ∧ Q (.lst ws) G1 := rfl
theorem a_lstM {t : TAw} {σ : SW} {G : Gp} {Q : QW} : wLstM t σ G Q = t σ G fun ws G1 => ws.length ≤ sizeLine ∧ ∀ p, G1 p = none → Q (.ref p) (gup G1 p (.lst ws)) := rfl
theorem a_test {t : TEw} {σ : SW} {G : Gp} {P : Bool → Gp → Prop} : wTest t σ G P = t σ G fun x G1 => truO x G1 P := rfl
theorem a_and {t u : TTw} {σ : SW} {G : Gp} {P : Bool → Gp → Prop} : wAnd t u σ G P = t σ G fun c G1 => if c = true then u σ G1 P else P false G1 := rfl
theorem a_or {t u : TTw} {σ : SW} {G : Gp} {P : Bool → Gp → Prop} : wOr t u σ G P = t σ G fun c G1 => if c = true then P true G1 else u σ G1 P := rfl
theorem a_not {t : TTw} {σ : SW} {G : Gp} {P : Bool → Gp → Prop} : wNot t σ G P = t σ G fun c G1 => P (!c) G1 := rfl
theorem a_yes {σ : SW} {G : Gp} {P : Bool → Gp → Prop} : wYes σ G P = P true G := rfl
theorem a_andV {ta tb : TEw} {σ : SW} {G : Gp} {Q : QW} : wAndV ta tb σ G Q = ta σ G fun x G1 => truO x G1 fun c G1 => if c = true then tb σ G1 Q else Q (.bl false) G1 := rfl
theorem a_orV {ta tb : TEw} {σ : SW} {G : Gp} {Q : QW} : wOrV ta tb σ G Q = ta σ G fun x G1 => truO x G1 fun c G1 => if c = true then Q (.bl true) G1 else tb σ G1 Q := rfl
theorem a_notV {ta : TEw} {σ : SW} {G : Gp} {Q : QW} : wNotV ta σ G Q = ta σ G fun x G1 => truO x G1 fun c G1 => Q (.bl (!c)) G1 := rfl
theorem a_if {t : TTw} {ta tb : TEw} {σ : SW} {G : Gp} {Q : QW} : wIf t ta tb σ G Q = t σ G fun c G1 => if c = true then ta σ G1 Q else tb σ G1 Q := rfl
theorem a_isN {ta : TEw} {σ : SW} {G : Gp} {Q : QW} : wIsN ta σ G Q = ta σ G fun x G1 => Q (.bl (isNon x)) G1 := rfl
theorem a_notN {ta : TEw} {σ : SW} {G : Gp} {Q : QW} : wNotN ta σ G Q = ta σ G fun x G1 => Q (.bl (!isNon x)) G1 := rfl
theorem a_chain {r r' : RW2} {ta tb tc : TEw} {σ : SW} {G : Gp} {Q : QW} : wChain r r' ta tb tc σ G Q = ta σ G fun x G1 => tb σ G1 fun y G2 => r x y G2 fun z G3 => truO z G3 fun k G3 => if k = true then tc σ G3 fun w G4 => r' y w G4 Q else Q (.bl false) G3 := rfl
theorem a_BM {wr : RWM} {to : TEw} {t : TAw} {σ : SW} {G : Gp} {Q : QW} : wBM wr to t σ G Q = to σ G fun o G1 => (asL G1 o).isSome = true ∧ t σ G1 fun ws G2 => wr o ws G2 Q := rfl
theorem a_BM0 {wr : RWM} {to : TEw} {σ : SW} {G : Gp} {Q : QW} : wBM0 wr to σ G Q = to σ G fun o G1 => (asL G1 o).isSome = true ∧ wr o [] G1 Q := rfl
theorem a_seqI {te : TEw} {σ : SW} {G : Gp} {P : List W → Gp → Prop} : iSeqW te σ G P = te σ G fun w G1 => seqOf w G1 P := rfl
theorem a_R1 {ta : TAw} {σ : SW} {G : Gp} {P : List W → Gp → Prop} : iR1 ta σ G P = ta σ G fun ws G1 => rng1 ws G1 P := rfl
theorem a_R2 {ta : TAw} {σ : SW} {G : Gp} {P : List W → Gp → Prop} : iR2 ta σ G P = ta σ G fun ws G1 => rng2 ws G1 P := rfl
theorem a_zip2 {ta : TAw} {σ : SW} {G : Gp} {P : List W → Gp → Prop} : i_zip2 ta σ G P = ta σ G fun ws G1 => zipOf ws G1 P := rfl
theorem a_zipG2 {ta : TAw} {σ : SW} {G : Gp} {P : List W → Gp → Prop} : i_zipG2 ta σ G P = ta σ G fun ws G1 => zipG2 ws G1 P := rfl
theorem a_zipG3 {ta : TAw} {σ : SW} {G : Gp} {P : List W → Gp → Prop} : i_zipG3 ta σ G P = ta σ G fun ws G1 => zipG3 ws G1 P := rfl
theorem a_enumG {ta : TAw} {σ : SW} {G : Gp} {P : List W → Gp → Prop} : i_enumG ta σ G P = ta σ G fun ws G1 => enumG ws G1 P := rfl
theorem a_enum {ta : TAw} {σ : SW} {G : Gp} {P : List W → Gp → Prop} : i_enum ta σ G P = ta σ G fun ws G1 => enumOf ws G1 P := rfl
theorem a_lc {vs : List Nat} {ti : TIw} {g : TGw} {tt : TTw} {te : TEw} {σ : SW} {G : Gp} {Q : QW} : wLc vs ti g tt te σ G Q = ti σ G fun ws G1 => ws.length ≤ sizeLine ∧ lcW g tt te (swipe σ vs) ws [] G1 fun us G2 => Q (.lst us) G2 := rfl
theorem a_lcM {vs : List Nat} {ti : TIw} {g : TGw} {tt : TTw} {te : TEw} {σ : SW} {G : Gp} {Q : QW} : wLcM vs ti g tt te σ G Q = ti σ G fun ws G1 => ws.length ≤ sizeLine ∧ lcW g tt te (swipe σ vs) ws [] G1 fun us G2 => ∀ p, G2 p = none → Q (.ref p) (gup G2 p (.lst us)) := rfl
theorem a_lcR {vs : List Nat} {t0 : TEw} {g : TGw} {tt : TTw} {te : TEw} {σ : SW} {G : Gp} {Q : QW} : wLcR vs t0 g tt te σ G Q = t0 σ G fun w G1 => refR w G1 fun p us G1 => us.length ≤ sizeLine ∧ lcR p us g tt te (swipe σ vs) us [] G1 fun zs G2 => Q (.lst zs) G2 := rfl
theorem a_forR {ks : List Bool} {ti : TIr} {g : TGw} {tb : TSw} {D : EndsW} {σ : SW} {G : Gp} : wForR ks ti g tb D σ G = ti σ G fun ws I G1 => forR I ks g tb ws D (skill σ ks) G1 := rfl
theorem a_seqR {te : TEw} {σ : SW} {G : Gp} {P : List W → (Gp → Prop) → Gp → Prop} : iSeqR te σ G P = te σ G fun w G1 => isS (asL G1 w) fun us => P us (pinOf w us) G1 := rfl
theorem a_zip2R {ta : TAw} {σ : SW} {G : Gp} {P : List W → (Gp → Prop) → Gp → Prop} : i_zip2R ta σ G P = ta σ G fun ws G1 => zipR ws G1 P := rfl
theorem a_zipR {a b : W} {G : Gp} {P : List W → (Gp → Prop) → Gp → Prop} : zipR [a, b] G P = isS (asL G a) fun xs => isS (asL G b) fun ys => P (xs.zipWith tup2 ys) (fun G => pinOf a xs G ∧ pinOf b ys G) G := rfl
theorem a_lstRg {te : TEw} {σ : SW} {G : Gp} {Q : QW} : wLstRg te σ G Q = te σ G fun w G1 => rgO w G1 fun us G2 => Q (.lst us) G2 := rfl
theorem a_lstRgM {te : TEw} {σ : SW} {G : Gp} {Q : QW} : wLstRgM te σ G Q = te σ G fun w G1 => rgO w G1 fun us G2 => ∀ p, G2 p = none → Q (.ref p) (gup G2 p (.lst us)) := rfl
theorem a_lcP {vs : List Nat} {t0 : TEw} {g : TGw} {tt : TTw} {te : TEw} {σ : SW} {G : Gp} {Q : QW} : wLcP vs t0 g tt te σ G Q = t0 σ G fun w G1 => isS (asL G1 w) fun us => us.length ≤ sizeLine ∧ lcP (pinOf w us) g tt te (swipe σ vs) us [] G1 fun zs G2 => Q (.lst zs) G2 := rfl
theorem a_lcPM {vs : List Nat} {t0 : TEw} {g : TGw} {tt : TTw} {te : TEw} {σ : SW} {G : Gp} {Q : QW} : wLcPM vs t0 g tt te σ G Q = t0 σ G fun w G1 => isS (asL G1 w) fun us => us.length ≤ sizeLine ∧ lcP (pinOf w us) g tt te (swipe σ vs) us [] G1 fun zs G2 => ∀ p, G2 p = none → Q (.ref p) (gup G2 p (.lst zs)) := rfl
theorem a_zipTR {ta : TAw} {σ : SW} {G : Gp} {P : List W → (Gp → Prop) → Gp → Prop} : i_zipTR ta σ G P = ta σ G fun ws G1 => zipTR ws G1 P := rfl
theorem a_zipTQ {a b : W} {G : Gp} {P : List W → (Gp → Prop) → Gp → Prop} : zipTR [a, b] G P = seqOf a G fun xs G2 => isS (asL G2 b) fun ys => P (xs.zipWith tup2 ys) (fun G => pinOf b ys G) G2 := rfl
theorem a_zip3R {ta : TAw} {σ : SW} {G : Gp} {P : List W → (Gp → Prop) → Gp → Prop} : i_zip3R ta σ G P = ta σ G fun ws G1 => zip3R ws G1 P := rfl
theorem a_zip3Q {a b c : W} {G : Gp} {P : List W → (Gp → Prop) → Gp → Prop} : zip3R [a, b, c] G P = isS (asL G a) fun xs => isS (asL G b) fun ys => isS (asL G c) fun zs => P (zip3W xs ys zs) (fun G => pinOf a xs G ∧ pinOf b ys G ∧ pinOf c zs G) G := rfl
theorem a_lenSetT {t : TEw} {σ : SW} {G : Gp} {Q : QW} : wLenSetT t σ G Q = t σ G fun x G1 => isS (asL G1 x) fun ws => ∃ nss : List (List Int), ws = nss.map tupI ∧ nss.length < 64 ∧ nss.Nodup ∧ Q (.int nss.length) G1 := rfl
theorem a_slice {t : TEw} {lo hi : TOw} {σ : SW} {G : Gp} {Q : QW} : wSlice t lo hi σ G Q = t σ G fun x G1 => lo σ G1 fun l G2 => hi σ G2 fun h G3 => wCut x l h G3 Q := rfl
theorem a_sliceM {t : TEw} {lo hi : TOw} {σ : SW} {G : Gp} {Q : QW} : wSliceM t lo hi σ G Q = t σ G fun x G1 => lo σ G1 fun l G2 => hi σ G2 fun h G3 => wCutM x l h G3 Q := rfl
theorem a_pN {σ : SW} {G : Gp} {P : Option Int → Gp → Prop} : wpNone σ G P = P none G := rfl
theorem a_pS {t : TEw} {σ : SW} {G : Gp} {P : Option Int → Gp → Prop} : wpSome t σ G P = t σ G fun w G1 => intO w G1 P := rfl
theorem a_augIx {to ti te : TEw} {r : RW2} {D : EndsW} {σ : SW} {G : Gp} : wAugIx to ti te r D σ G = to σ G fun o G1 => ti σ G1 fun i G2 => wGet o i G2 fun x G3 => te σ G3 fun y G4 => r x y G4 fun z G5 => setIx o i z G5 fun G6 => D.nx σ G6 := rfl
theorem a_gIx {to ti : TEw} {w : W} {σ : SW} {G : Gp} {P : SW → Gp → Prop} : gIx to ti w σ G P = to σ G fun o G1 => ti σ G1 fun i G2 => setIx o i w G2 (P σ) := rfl
theorem a_par {i j : Nat} {ta tb : TEw} {D : EndsW} {σ : SW} {G : Gp} : wPar i j (wCons ta (wCons tb wNil)) D σ G = ta σ G fun a G1 => tb σ G1 fun b G2 => D.nx (sset (sset σ i a) j b) G2 := rfl
theorem a_setF {nm f : Str} {te to : TEw} {D : EndsW} {σ : SW} {G : Gp} : wSetF nm f te to D σ G = te σ G fun y G1 => to σ G1 fun x G2 => setF nm f y x G2 fun G3 => D.nx σ G3 := rfl
theorem a_meth {nm m : Str} {sp : Spw} {to : TEw} {t : TAw} {σ : SW} {G : Gp} {Q : QW} : wMeth nm m sp to t σ G Q = to σ G fun x G1 => isS (insOf G1 x) fun o => o.1 = nm ∧ o.2.lookup m = none ∧ t σ G1 fun ws G2 => sp (x :: ws) G2 Q E0w := rfl
theorem a_make {nm : Str} {sp : Spw} {t : TAw} {σ : SW} {G : Gp} {Q : QW} : wMake nm sp t σ G Q = t σ G fun ws G1 => ∀ p, G1 p = none → sp (.ref p :: ws) (gup G1 p (.ins nm [])) (fun w G2 => w = .non ∧ Q (.ref p) G2) E0w := rfl
theorem a_makeZ {nm : Str} {sp : Spw} {t : TAw} {σ : SW} {G : Gp} {Q : QW} : wMakeZ nm sp t σ G Q = t σ G fun ws G1 => ∀ p, G1 p = none → sp (.ref p :: ws) (gup G1 p (.ins nm [])) (fun w G2 => w = .non ∧ isI (G2 p) nm fun fs => Q (.ins nm fs) (gdel G2 p)) E0w := rfl
theorem a_dnew {σ : SW} {G : Gp} {Q : QW} : wDNew σ G Q = ∀ p, G p = none → Q (.ref p) (gup G p (.dic [])) := rfl
theorem a_done {tk tv : TEw} {σ : SW} {G : Gp} {Q : QW} : wDOne tk tv σ G Q = ∀ p, G p = none → tk σ (gup G p (.dic [])) fun x G1 => tv σ G1 fun y G2 => G2 p = some (.dic []) ∧ isS (keyOf x) fun k => Q (.ref p) (gup G2 p (.dic [(nk k, y)])) := rfl
theorem a_dput {td ty tv : TEw} {D : EndsW} {σ : SW} {G : Gp} : wDPut td ty tv D σ G = tv σ G fun v G1 => td σ G1 fun x G2 => ty σ G2 fun y G3 => dPut x y v G3 fun G4 => D.nx σ G4 := rfl
theorem a_dget {x y : W} {G : Gp} {Q : QW} : wDGet x y G Q = isS (dicOf G x) fun kvs => isS (keyOf y) fun k => isS (valW kvs (nk k)) fun w => Q w G := rfl
theorem a_din {neg : Bool} {x y : W} {G : Gp} {Q : QW} : wDIn neg y x G Q = isS (dicOf G x) fun kvs => isS (keyOf y) fun k => Q (.bl (if neg then !(valW kvs (nk k)).isSome else (valW kvs (nk k)).isSome)) G := rfl
theorem a_lenD {x : W} {G : Gp} {Q : QW} : wLenD [x] G Q = isS (dicOf G x) fun kvs => Q (.int kvs.length) G := rfl
theorem a_raise {nm : Str} {D : EndsW} {σ : SW} {G : Gp} : wRaise nm D σ G = D.ex nm [] σ G := rfl
theorem a_callX {sp : Spw} {t : TAw} {Ex : EXs} {σ : SW} {G : Gp} {Q : QW} : wCallX sp t Ex σ G Q = t σ G fun ws G1 => sp ws G1 Q fun nm fs G2 => Ex nm fs σ G2 := rfl
theorem a_retX {te : EXs → TEw} {D : EndsW} {σ : SW} {G : Gp} : wRetX te D σ G = te D.ex σ G D.rt := rfl
theorem a_dropX {te : EXs → TEw} {D : EndsW} {σ : SW} {G : Gp} : wDropX te D σ G = te D.ex σ G fun _ G1 => D.nx σ G1 := rfl
theorem a_asgX {te : EXs → TEw} {g : TGw} {D : EndsW} {σ : SW} {G : Gp} : wAsgX te g D σ G = te D.ex σ G fun w G1 => g w σ G1 D.nx := rfl
theorem a_tryAs {i : Nat} {c : Str} {ES : List Str} {t : TSw} {ts : Addr → Option Addr → Str → List (Str × W) → TSw} {D : EndsW} {σ : SW} {G : Gp} : wTryAs i c ES t ts D σ G = t { D with ex := fun nm fs σ1 G1 => nm ∈ ES ∧ (subE nm c = true → ∀ a d, G1 a = none → ts a d nm fs { nx := fun σ2 G2 => D.nx (sdel σ2 i) G2, rt := D.rt, bk := fun σ2 G2 => D.bk (sdel σ2 i) G2, ct := fun σ2 G2 => D.ct (sdel σ2 i) G2 } (sset σ1 i (.exc a d nm fs)) G1) ∧ (subE nm c = false → D.ex nm fs σ1 G1) } σ G := rfl
theorem a_isE {a : Addr} {d : Option Addr} {nm : Str} {T : Str} {te : TEw} {σ : SW} {G : Gp} {Q : QW} : wIsE a d nm T te σ G Q = te σ G fun x G1 => isExc a d nm x fun _ => Q (.bl (subE nm T)) G1 := rfl
theorem a_isET {a : Addr} {d : Option Addr} {nm : Str} {Ts : List Str} {te : TEw} {σ : SW} {G : Gp} {Q : QW} : wIsET a d nm Ts te σ G Q = te σ G fun x G1 => isExc a d nm x fun _ => Q (.bl (Ts.any (subE nm))) G1 := rfl
theorem a_xf {a : Addr} {d : Option Addr} {nm : Str} {f : Str} {te : TEw} {σ : SW} {G : Gp} {Q : QW} : wXf a d nm f te σ G Q = te σ G fun x G1 => isExc a d nm x fun fs => isS (fs.lookup f) fun w => Q w G1 := rfl
theorem a_callE {a : Addr} {d : Option Addr} {nm : Str} {sp : SpE} {t : TAw} {σ : SW} {G : Gp} {Q : QW} : wCallE sp a d nm t σ G Q = t σ G fun ws G1 => sp a d nm ws G1 Q := rfl
theorem a_lstI {te : TEw} {σ : SW} {G : Gp} {P : List W → Gp → Prop} : iLstW te σ G P = te σ G fun w G1 => lstOf w G1 P := rfl
theorem v_0 {w : W} {G : Gp} {Q : QW} {σ : SW} : wVar 0 (some w :: σ) G Q = Q w G := rfl
theorem g_0 {w : W} {o : Option W} {G : Gp} {P : SW → Gp → Prop} {σ : SW} : gN 0 w (o :: σ) G P = P (some w :: σ) G := rfl
theorem u_0 {te : TEw} {r : RW2} {w : W} {D : EndsW} {G : Gp} {σ : SW} : wAug 0 te r D (some w :: σ) G = te (some w :: σ) G fun y G1 => r w y G1 fun z G2 => D.nx (some z :: σ) G2 := rfl
theorem v_1 {w : W} {G : Gp} {Q : QW} {σ : SW} {a0 : Option W} : wVar 1 (a0 :: some w :: σ) G Q = Q w G := rfl
theorem g_1 {w : W} {o : Option W} {G : Gp} {P : SW → Gp → Prop} {σ : SW} {a0 : Option W} : gN 1 w (a0 :: o :: σ) G P = P (a0 :: some w :: σ) G := rfl
theorem u_1 {te : TEw} {r : RW2} {w : W} {D : EndsW} {G : Gp} {σ : SW} {a0 : Option W} : wAug 1 te r D (a0 :: some w :: σ) G = te (a0 :: some w :: σ) G fun y G1 => r w y G1 fun z G2 => D.nx (a0 :: some z :: σ) G2 := rfl
theorem v_2 {w : W} {G : Gp} {Q : QW} {σ : SW} {a0 a1 : Option W} : wVar 2 (a0 :: a1 :: some w :: σ) G Q = Q w G := rfl
theorem g_2 {w : W} {o : Option W} {G : Gp} {P : SW → Gp → Prop} {σ : SW} {a0 a1 : Option W} : gN 2 w (a0 :: a1 :: o :: σ) G P = P (a0 :: a1 :: some w :: σ) G := rfl
theorem u_2 {te : TEw} {r : RW2} {w : W} {D : EndsW} {G : Gp} {σ : SW} {a0 a1 : Option W} : wAug 2 te r D (a0 :: a1 :: some w :: σ) G = te (a0 :: a1 :: some w :: σ) G fun y G1 => r w y G1 fun z G2 => D.nx (a0 :: a1 :: some z :: σ) G2 := rfl
theorem v_3 {w : W} {G : Gp} {Q : QW} {σ : SW} {a0 a1 a2 : Option W} : wVar 3 (a0 :: a1 :: a2 :: some w :: σ) G Q = Q w G := rfl
theorem g_3 {w : W} {o : Option W} {G : Gp} {P : SW → Gp → Prop} {σ : SW} {a0 a1 a2 : Option W} : gN 3 w (a0 :: a1 :: a2 :: o :: σ) G P = P (a0 :: a1 :: a2 :: some w :: σ) G := rfl
theorem u_3 {te : TEw} {r : RW2} {w : W} {D : EndsW} {G : Gp} {σ : SW} {a0 a1 a2 : Option W} : wAug 3 te r D (a0 :: a1 :: a2 :: some w :: σ) G = te (a0 :: a1 :: a2 :: some w :: σ) G fun y G1 => r w y G1 fun z G2 => D.nx (a0 :: a1 :: a2 :: some z :: σ) G2 := rfl
theorem v_4 {w : W} {G : Gp} {Q : QW} {σ : SW} {a0 a1 a2 a3 : Option W} : wVar 4 (a0 :: a1 :: a2 :: a3 :: some w :: σ) G Q = Q w G := rfl
theorem g_4 {w : W} {o : Option W} {G : Gp} {P : SW → Gp → Prop} {σ : SW} {a0 a1 a2 a3 : Option W} : gN 4 w (a0 :: a1 :: a2 :: a3 :: o :: σ) G P = P (a0 :: a1 :: a2 :: a3 :: some w :: σ) G := rfl
theorem u_4 {te : TEw} {r : RW2} {w : W} {D : EndsW} {G : Gp} {σ : SW} {a0 a1 a2 a3 : Option W} : wAug 4 te r D (a0 :: a1 :: a2 :: a3 :: some w :: σ) G = te (a0 :: a1 :: a2 :: a3 :: some w :: σ) G fun y G1 => r w y G1 fun z G2 => D.nx (a0 :: a1 :: a2 :: a3 :: some z :: σ) G2 := rfl
theorem v_5 {w : W} {G : Gp} {Q : QW} {σ : SW} {a0 a1 a2 a3 a4 : Option W} : wVar 5 (a0 :: a1 :: a2 :: a3 :: a4 :: some w :: σ) G Q = Q w G := rfl
theorem g_5 {w : W} {o : Option W} {G : Gp} {P : SW → Gp → Prop} {σ : SW} {a0 a1 a2 a3 a4 : Option W} : gN 5 w (a0 :: a1 :: a2 :: a3 :: a4 :: o :: σ) G P = P (a0 :: a1 :: a2 :: a3 :: a4 :: some w :: σ) G := rfl
theorem u_5 {te : TEw} {r : RW2} {w : W} {D : EndsW} {G : Gp} {σ : SW} {a0 a1 a2 a3 a4 : Option W} : wAug 5 te r D (a0 :: a1 :: a2 :: a3 :: a4 :: some w :: σ) G = te (a0 :: a1 :: a2 :: a3 :: a4 :: some w :: σ) G fun y G1 => r w y G1 fun z G2 => D.nx (a0 :: a1 :: a2 :: a3 :: a4 :: some z :: σ) G2 := rfl
theorem v_6 {w : W} {G : Gp} {Q : QW} {σ : SW} {a0 a1 a2 a3 a4 a5 : Option W} : wVar 6 (a0 :: a1 :: a2 :: a3 :: a4 :: a5 :: some w :: σ) G Q = Q w G := rfl
theorem g_6 {w : W} {o : Option W} {G : Gp} {P : SW → Gp → Prop} {σ : SW} {a0 a1 a2 a3 a4 a5 : Option W} : gN 6 w (a0 :: a1 :: a2 :: a3 :: a4 :: a5 :: o :: σ) G P = P (a0 :: a1 :: a2 :: a3 :: a4 :: a5 :: some w :: σ) G := rfl
theorem u_6 {te : TEw} {r : RW2} {w : W} {D : EndsW} {G : Gp} {σ : SW} {a0 a1 a2 a3 a4 a5 : Option W} : wAug 6 te r D (a0 :: a1 :: a2 :: a3 :: a4 :: a5 :: some w :: σ) G = te (a0 :: a1 :: a2 :: a3 :: a4 :: a5 :: some w :: σ) G fun y G1 => r w y G1 fun z G2 => D.nx (a0 :: a1 :: a2 :: a3 :: a4 :: a5 :: some z :: σ) G2 := rfl
theorem v_7 {w : W} {G : Gp} {Q : QW} {σ : SW} {a0 a1 a2 a3 a4 a5 a6 : Option W} : wVar 7 (a0 :: a1 :: a2 :: a3 :: a4 :: a5 :: a6 :: some w :: σ) G Q = Q w G := rfl
theorem g_7 {w : W} {o : Option W} {G : Gp} {P : SW → Gp → Prop} {σ : SW} {a0 a1 a2 a3 a4 a5 a6 : Option W} : gN 7 w (a0 :: a1 :: a2 :: a3 :: a4 :: a5 :: a6 :: o :: σ) G P = P (a0 :: a1 :: a2 :: a3 :: a4 :: a5 :: a6 :: some w :: σ) G := rfl
theorem u_7 {te : TEw} {r : RW2} {w : W} {D : EndsW} {G : Gp} {σ : SW} {a0 a1 a2 a3 a4 a5 a6 : Option W} : wAug 7 te r D (a0 :: a1 :: a2 :: a3 :: a4 :: a5 :: a6 :: some w :: σ) G = te (a0 :: a1 :: a2 :: a3 :: a4 :: a5 :: a6 :: some w :: σ) G fun y G1 => r w y G1 fun z G2 => D.nx (a0 :: a1 :: a2 :: a3 :: a4 :: a5 :: a6 :: some z :: σ) G2 := rfl
theorem v_8 {w : W} {G : Gp} {Q : QW} {σ : SW} {a0 a1 a2 a3 a4 a5 a6 a7 : Option W} : wVar 8 (a0 :: a1 :: a2 :: a3 :: a4 :: a5 :: a6 :: a7 :: some w :: σ) G Q = Q w G := rfl
theorem g_8 {w : W} {o : Option W} {G : Gp} {P : SW → Gp → Prop} {σ : SW} {a0 a1 a2 a3 a4 a5 a6 a7 : Option W} : gN 8 w (a0 :: a1 :: a2 :: a3 :: a4 :: a5 :: a6 :: a7 :: o :: σ) G P = P (a0 :: a1 :: a2 :: a3 :: a4 :: a5 :: a6 :: a7 :: some w :: σ) G := rfl
theorem u_8 {te : TEw} {r : RW2} {w : W} {D : EndsW} {G : Gp} {σ : SW} {a0 a1 a2 a3 a4 a5 a6 a7 : Option W} : wAug 8 te r D (a0 :: a1 :: a2 :: a3 :: a4 :: a5 :: a6 :: a7 :: some w :: σ) G = te (a0 :: a1 :: a2 :: a3 :: a4 :: a5 :: a6 :: a7 :: some w :: σ) G fun y G1 => r w y G1 fun z G2 => D.nx (a0 :: a1 :: a2 :: a3 :: a4 :: a5 :: a6 :: a7 :: some z :: σ) G2 := rfl
theorem v_9 {w : W} {G : Gp} {Q : QW} {σ : SW} {a0 a1 a2 a3 a4 a5 a6 a7 a8 : Option W} : wVar 9 (a0 :: a1 :: a2 :: a3 :: a4 :: a5 :: a6 :: a7 :: a8 :: some w :: σ) G Q = Q w G := rfl
theorem g_9 {w : W} {o : Option W} {G : Gp} {P : SW → Gp → Prop} {σ : SW} {a0 a1 a2 a3 a4 a5 a6 a7 a8 : Option W} : gN 9 w (a0 :: a1 :: a2 :: a3 :: a4 :: a5 :: a6 :: a7 :: a8 :: o :: σ) G P = P (a0 :: a1 :: a2 :: a3 :: a4 :: a5 :: a6 :: a7 :: a8 :: some w :: σ) G := rfl
theorem u_9 {te : TEw} {r : RW2} {w : W} {D : EndsW} {G : Gp} {σ : SW} {a0 a1 a2 a3 a4 a5 a6 a7 a8 : Option W} : wAug 9 te r D (a0 :: a1 :: a2 :: a3 :: a4 :: a5 :: a6 :: a7 :: a8 :: some w :: σ) G = te (a0 :: a1 :: a2 :: a3 :: a4 :: a5 :: a6 :: a7 :: a8 :: some w :: σ) G fun y G1 => r w y G1 fun z G2 => D.nx (a0 :: a1 :: a2 :: a3 :: a4 :: a5 :: a6 :: a7 :: a8 :: some z :: σ) G2 := rfl
theorem v_10 {w : W} {G : Gp} {Q : QW} {σ : SW} {a0 a1 a2 a3 a4 a5 a6 a7 a8 a9 : Option W} : wVar 10 (a0 :: a1 :: a2 :: a3 :: a4 :: a5 :: a6 :: a7 :: a8 :: a9 :: some w :: σ) G Q = Q w G := rfl
theorem g_10 {w : W} {o : Option W} {G : Gp} {P : SW → Gp → Prop} {σ : SW} {a0 a1 a2 a3 a4 a5 a6 a7 a8 a9 : Option W} : gN 10 w (a0 :: a1 :: a2 :: a3 :: a4 :: a5 :: a6 :: a7 :: a8 :: a9 :: o :: σ) G P = P (a0 :: a1 :: a2 :: a3 :: a4 :: a5 :: a6 :: a7 :: a8 :: a9 :: some w :: σ) G := rfl
theorem u_10 {te : TEw} {r : RW2} {w : W} {D : EndsW} {G : Gp} {σ : SW} {a0 a1 a2 a3 a4 a5 a6 a7 a8 a9 : Option W} : wAug 10 te r D (a0 :: a1 :: a2 :: a3 :: a4 :: a5 :: a6 :: a7 :: a8 :: a9 :: some w :: σ) G = te (a0 :: a1 :: a2 :: a3 :: a4 :: a5 :: a6 :: a7 :: a8 :: a9 :: some w :: σ) G fun y G1 => r w y G1 fun z G2 => D.nx (a0 :: a1 :: a2 :: a3 :: a4 :: a5 :: a6 :: a7 :: a8 :: a9 :: some z :: σ) G2 := rfl
theorem v_11 {w : W} {G : Gp} {Q : QW} {σ : SW} {a0 a1 a2 a3 a4 a5 a6 a7 a8 a9 a10 : Option W} : wVar 11 (a0 :: a1 :: a2 :: a3 :: a4 :: a5 :: a6 :: a7 :: a8 :: a9 :: a10 :: some w :: σ) G Q = Q w G := rfl
theorem g_11 {w : W} {o : Option W} {G : Gp} {P : SW → Gp → Prop} {σ : SW} {a0 a1 a2 a3 a4 a5 a6 a7 a8 a9 a10 : Option W} : gN 11 w (a0 :: a1 :: a2 :: a3 :: a4 :: a5 :: a6 :: a7 :: a8 :: a9 :: a10 :: o :: σ) G P = P (a0 :: a1 :: a2 :: a3 :: a4 :: a5 :: a6 :: a7 :: a8 :: a9 :: a10 :: some w :: σ) G := rfl
theorem u_11 {te : TEw} {r : RW2} {w : W} {D : EndsW} {G : Gp} {σ : SW} {a0 a1 a2 a3 a4 a5 a6 a7 a8 a9 a10 : Option W} : wAug 11 te r D (a0 :: a1 :: a2 :: a3 :: a4 :: a5 :: a6 :: a7 :: a8 :: a9 :: a10 :: some w :: σ) G = te (a0 :: a1 :: a2 :: a3 :: a4 :: a5 :: a6 :: a7 :: a8 :: a9 :: a10 :: some w :: σ) G fun y G1 => r w y G1 fun z G2 => D.nx (a0 :: a1 :: a2 :: a3 :: a4 :: a5 :: a6 :: a7 :: a8 :: a9 :: a10 :: some z :: σ) G2 := rfl
theorem v_12 {w : W} {G : Gp} {Q : QW} {σ : SW} {a0 a1 a2 a3 a4 a5 a6 a7 a8 a9 a10 a11 : Option W} : wVar 12 (a0 :: a1 :: a2 :: a3 :: a4 :: a5 :: a6 :: a7 :: a8 :: a9 :: a10 :: a11 :: some w :: σ) G Q = Q w G := rfl
theorem g_12 {w : W} {o : Option W} {G : Gp} {P : SW → Gp → Prop} {σ : SW} {a0 a1 a2 a3 a4 a5 a6 a7 a8 a9 a10 a11 : Option W} : gN 12 w (a0 :: a1 :: a2 :: a3 :: a4 :: a5 :: a6 :: a7 :: a8 :: a9 :: a10 :: a11 :: o :: σ) G P = P (a0 :: a1 :: a2 :: a3 :: a4 :: a5 :: a6 :: a7 :: a8 :: a9 :: a10 :: a11 :: some w :: σ) G := rfl
theorem u_12 {te : TEw} {r : RW2} {w : W} {D : EndsW} {G : Gp} {σ : SW} {a0 a1 a2 a3 a4 a5 a6 a7 a8 a9 a10 a11 : Option W} : wAug 12 te r D (a0 :: a1 :: a2 :: a3 :: a4 :: a5 :: a6 :: a7 :: a8 :: a9 :: a10 :: a11 :: some w :: σ) G = te (a0 :: a1 :: a2 :: a3 :: a4 :: a5 :: a6 :: a7 :: a8 :: a9 :: a10 :: a11 :: some w :: σ) G fun y G1 => r w y G1 fun z G2 => D.nx (a0 :: a1 :: a2 :: a3 :: a4 :: a5 :: a6 :: a7 :: a8 :: a9 :: a10 :: a11 :: some z :: σ) G2 := rfl
theorem v_13 {w : W} {G : Gp} {Q : QW} {σ : SW} {a0 a1 a2 a3 a4 a5 a6 a7 a8 a9 a10 a11 a12 : Option W} : wVar 13 (a0 :: a1 :: a2 :: a3 :: a4 :: a5 :: a6 :: a7 :: a8 :: a9 :: a10 :: a11 :: a12 :: some w :: σ) G Q = Q w G := rfl
theorem g_13 {w : W} {o : Option W} {G : Gp} {P : SW → Gp → Prop} {σ : SW} {a0 a1 a2 a3 a4 a5 a6 a7 a8 a9 a10 a11 a12 : Option W} : gN 13 w (a0 :: a1 :: a2 :: a3 :: a4 :: a5 :: a6 :: a7 :: a8 :: a9 :: a10 :: a11 :: a12 :: o :: σ) G P = P (a0 :: a1 :: a2 :: a3 :: a4 :: a5 :: a6 :: a7 :: a8 :: a9 :: a10 :: a11 :: a12 :: some w :: σ) G := rfl
theorem u_13 {te : TEw} {r : RW2} {w : W} {D : EndsW} {G : Gp} {σ : SW} {a0 a1 a2 a3 a4 a5 a6 a7 a8 a9 a10 a11 a12 : Option W} : wAug 13 te r D (a0 :: a1 :: a2 :: a3 :: a4 :: a5 :: a6 :: a7 :: a8 :: a9 :: a10 :: a11 :: a12 :: some w :: σ) G = te (a0 :: a1 :: a2 :: a3 :: a4 :: a5 :: a6 :: a7 :: a8 :: a9 :: a10 :: a11 :: a12 :: some w :: σ) G fun y G1 => r w y G1 fun z G2 => D.nx (a0 :: a1 :: a2 :: a3 :: a4 :: a5 :: a6 :: a7 :: a8 :: a9 :: a10 :: a11 :: a12 :: some z :: σ) G2 := rfl
theorem v_14 {w : W} {G : Gp} {Q : QW} {σ : SW} {a0 a1 a2 a3 a4 a5 a6 a7 a8 a9 a10 a11 a12 a13 : Option W} : wVar 14 (a0 :: a1 :: a2 :: a3 :: a4 :: a5 :: a6 :: a7 :: a8 :: a9 :: a10 :: a11 :: a12 :: a13 :: some w :: σ) G Q = Q w G := rfl
theorem g_14 {w : W} {o : Option W} {G : Gp} {P : SW → Gp → Prop} {σ : SW} {a0 a1 a2 a3 a4 a5 a6 a7 a8 a9 a10 a11 a12 a13 : Option W} : gN 14 w (a0 :: a1 :: a2 :: a3 :: a4 :: a5 :: a6 :: a7 :: a8 :: a9 :: a10 :: a11 :: a12 :: a13 :: o :: σ) G P = P (a0 :: a1 :: a2 :: a3 :: a4 :: a5 :: a6 :: a7 :: a8 :: a9 :: a10 :: a11 :: a12 :: a13 :: some w :: σ) G := rfl
theorem u_14 {te : TEw} {r : RW2} {w : W} {D : EndsW} {G : Gp} {σ : SW} {a0 a1 a2 a3 a4 a5 a6 a7 a8 a9 a10 a11 a12 a13 : Option W} : wAug 14 te r D (a0 :: a1 :: a2 :: a3 :: a4 :: a5 :: a6 :: a7 :: a8 :: a9 :: a10 :: a11 :: a12 :: a13 :: some w :: σ) G = te (a0 :: a1 :: a2 :: a3 :: a4 :: a5 :: a6 :: a7 :: a8 :: a9 :: a10 :: a11 :: a12 :: a13 :: some w :: σ) G fun y G1 => r w y G1 fun z G2 => D.nx (a0 :: a1 :: a2 :: a3 :: a4 :: a5 :: a6 :: a7 :: a8 :: a9 :: a10 :: a11 :: a12 :: a13 :: some z :: σ) G2 := rfl
theorem v_15 {w : W} {G : Gp} {Q : QW} {σ : SW} {a0 a1 a2 a3 a4 a5 a6 a7 a8 a9 a10 a11 a12 a13 a14 : Option W} : wVar 15 (a0 :: a1 :: a2 :: a3 :: a4 :: a5 :: a6 :: a7 :: a8 :: a9 :: a10 :: a11 :: a12 :: a13 :: a14 :: some w :: σ) G Q = Q w G := rfl
theorem g_15 {w : W} {o : Option W} {G : Gp} {P : SW → Gp → Prop} {σ : SW} {a0 a1 a2 a3 a4 a5 a6 a7 a8 a9 a10 a11 a12 a13 a14 : Option W} : gN 15 w (a0 :: a1 :: a2 :: a3 :: a4 :: a5 :: a6 :: a7 :: a8 :: a9 :: a10 :: a11 :: a12 :: a13 :: a14 :: o :: σ) G P = P (a0 :: a1 :: a2 :: a3 :: a4 :: a5 :: a6 :: a7 :: a8 :: a9 :: a10 :: a11 :: a12 :: a13 :: a14 :: some w :: σ) G := rfl
theorem u_15 {te : TEw} {r : RW2} {w : W} {D : EndsW} {G : Gp} {σ : SW} {a0 a1 a2 a3 a4 a5 a6 a7 a8 a9 a10 a11 a12 a13 a14 : Option W} : wAug 15 te r D (a0 :: a1 :: a2 :: a3 :: a4 :: a5 :: a6 :: a7 :: a8 :: a9 :: a10 :: a11 :: a12 :: a13 :: a14 :: some w :: σ) G = te (a0 :: a1 :: a2 :: a3 :: a4 :: a5 :: a6 :: a7 :: a8 :: a9 :: a10 :: a11 :: a12 :: a13 :: a14 :: some w :: σ) G fun y G1 => r w y G1 fun z G2 => D.nx (a0 :: a1 :: a2 :: a3 :: a4 :: a5 :: a6 :: a7 :: a8 :: a9 :: a10 :: a11 :: a12 :: a13 :: a14 :: some z :: σ) G2 := rfl
theorem v_16 {w : W} {G : Gp} {Q : QW} {σ : SW} {a0 a1 a2 a3 a4 a5 a6 a7 a8 a9 a10 a11 a12 a13 a14 a15 : Option W} : wVar 16 (a0 :: a1 :: a2 :: a3 :: a4 :: a5 :: a6 :: a7 :: a8 :: a9 :: a10 :: a11 :: a12 :: a13 :: a14 :: a15 :: some w :: σ) G Q = Q w G := rfl
theorem g_16 {w : W} {o : Option W} {G : Gp} {P : SW → Gp → Prop} {σ : SW} {a0 a1 a2 a3 a4 a5 a6 a7 a8 a9 a10 a11 a12 a13 a14 a15 : Option W} : gN 16 w (a0 :: a1 :: a2 :: a3 :: a4 :: a5 :: a6 :: a7 :: a8 :: a9 :: a10 :: a11 :: a12 :: a13 :: a14 :: a15 :: o :: σ) G P = P (a0 :: a1 :: a2 :: a3 :: a4 :: a5 :: a6 :: a7 :: a8 :: a9 :: a10 :: a11 :: a12 :: a13 :: a14 :: a15 :: some w :: σ) G := rfl
theorem u_16 {te : TEw} {r : RW2} {w : W} {D : EndsW} {G : Gp} {σ : SW} {a0 a1 a2 a3 a4 a5 a6 a7 a8 a9 a10 a11 a12 a13 a14 a15 : Option W} : wAug 16 te r D (a0 :: a1 :: a2 :: a3 :: a4 :: a5 :: a6 :: a7 :: a8 :: a9 :: a10 :: a11 :: a12 :: a13 :: a14 :: a15 :: some w :: σ) G = te (a0 :: a1 :: a2 :: a3 :: a4 :: a5 :: a6 :: a7 :: a8 :: a9 :: a10 :: a11 :: a12 :: a13 :: a14 :: a15 :: some w :: σ) G fun y G1 => r w y G1 fun z G2 => D.nx (a0 :: a1 :: a2 :: a3 :: a4 :: a5 :: a6 :: a7 :: a8 :: a9 :: a10 :: a11 :: a12 :: a13 :: a14 :: a15 :: some z :: σ) G2 := rfl
theorem v_17 {w : W} {G : Gp} {Q : QW} {σ : SW} {a0 a1 a2 a3 a4 a5 a6 a7 a8 a9 a10 a11 a12 a13 a14 a15 a16 : Option W} : wVar 17 (a0 :: a1 :: a2 :: a3 :: a4 :: a5 :: a6 :: a7 :: a8 :: a9 :: a10 :: a11 :: a12 :: a13 :: a14 :: a15 :: a16 :: some w :: σ) G Q = Q w G := rfl
theorem g_17 {w : W} {o : Option W} {G : Gp} {P : SW → Gp → Prop} {σ : SW} {a0 a1 a2 a3 a4 a5 a6 a7 a8 a9 a10 a11 a12 a13 a14 a15 a16 : Option W} : gN 17 w (a0 :: a1 :: a2 :: a3 :: a4 :: a5 :: a6 :: a7 :: a8 :: a9 :: a10 :: a11 :: a12 :: a13 :: a14 :: a15 :: a16 :: o :: σ) G P = P (a0 :: a1 :: a2 :: a3 :: a4 :: a5 :: a6 :: a7 :: a8 :: a9 :: a10 :: a11 :: a12 :: a13 :: a14 :: a15 :: a16 :: some w :: σ) G := rfl
theorem u_17 {te : TEw} {r : RW2} {w : W} {D : EndsW} {G : Gp} {σ : SW} {a0 a1 a2 a3 a4 a5 a6 a7 a8 a9 a10 a11 a12 a13 a14 a15 a16 : Option W} : wAug 17 te r D (a0 :: a1 :: a2 :: a3 :: a4 :: a5 :: a6 :: a7 :: a8 :: a9 :: a10 :: a11 :: a12 :: a13 :: a14 :: a15 :: a16 :: some w :: σ) G = te (a0 :: a1 :: a2 :: a3 :: a4 :: a5 :: a6 :: a7 :: a8 :: a9 :: a10 :: a11 :: a12 :: a13 :: a14 :: a15 :: a16 :: some w :: σ) G fun y G1 => r w y G1 fun z G2 => D.nx (a0 :: a1 :: a2 :: a3 :: a4 :: a5 :: a6 :: a7 :: a8 :: a9 :: a10 :: a11 :: a12 :: a13 :: a14 :: a15 :: a16 :: some z :: σ) G2 := rfl
theorem v_18 {w : W} {G : Gp} {Q : QW} {σ : SW} {a0 a1 a2 a3 a4 a5 a6 a7 a8 a9 a10 a11 a12 a13 a14 a15 a16 a17 : Option W} : wVar 18 (a0 :: a1 :: a2 :: a3 :: a4 :: a5 :: a6 :: a7 :: a8 :: a9 :: a10 :: a11 :: a12 :: a13 :: a14 :: a15 :: a16 :: a17 :: some w :: σ) G Q = Q w G := rfl
theorem g_18 {w : W} {o : Option W} {G : Gp} {P : SW → Gp → Prop} {σ : SW} {a0 a1 a2 a3 a4 a5 a6 a7 a8 a9 a10 a11 a12 a13 a14 a15 a16 a17 : Option W} : gN 18 w (a0 :: a1 :: a2 :: a3 :: a4 :: a5 :: a6 :: a7 :: a8 :: a9 :: a10 :: a11 :: a12 :: a13 :: a14 :: a15 :: a16 :: a17 :: o :: σ) G P = P (a0 :: a1 :: a2 :: a3 :: a4 :: a5 :: a6 :: a7 :: a8 :: a9 :: a10 :: a11 :: a12 :: a13 :: a14 :: a15 :: a16 :: a17 :: some w :: σ) G := rfl
theorem u_18 {te : TEw} {r : RW2} {w : W} {D : EndsW} {G : Gp} {σ : SW} {a0 a1 a2 a3 a4 a5 a6 a7 a8 a9 a10 a11 a12 a13 a14 a15 a16 a17 : Option W} : wAug 18 te r D (a0 :: a1 :: a2 :: a3 :: a4 :: a5 :: a6 :: a7 :: a8 :: a9 :: a10 :: a11 :: a12 :: a13 :: a14 :: a15 :: a16 :: a17 :: some w :: σ) G = te (a0 :: a1 :: a2 :: a3 :: a4 :: a5 :: a6 :: a7 :: a8 :: a9 :: a10 :: a11 :: a12 :: a13 :: a14 :: a15 :: a16 :: a17 :: some w :: σ) G fun y G1 => r w y G1 fun z G2 => D.nx (a0 :: a1 :: a2 :: a3 :: a4 :: a5 :: a6 :: a7 :: a8 :: a9 :: a10 :: a11 :: a12 :: a13 :: a14 :: a15 :: a16 :: a17 :: some z :: σ) G2 := rfl
theorem v_19 {w : W} {G : Gp} {Q : QW} {σ : SW} {a0 a1 a2 a3 a4 a5 a6 a7 a8 a9 a10 a11 a12 a13 a14 a15 a16 a17 a18 : Option W} : wVar 19 (a0 :: a1 :: a2 :: a3 :: a4 :: a5 :: a6 :: a7 :: a8 :: a9 :: a10 :: a11 :: a12 :: a13 :: a14 :: a15 :: a16 :: a17 :: a18 :: some w :: σ) G Q = Q w G := rfl
theorem g_19 {w : W} {o : Option W} {G : Gp} {P : SW → Gp → Prop} {σ : SW} {a0 a1 a2 a3 a4 a5 a6 a7 a8 a9 a10 a11 a12 a13 a14 a15 a16 a17 a18 : Option W} : gN 19 w (a0 :: a1 :: a2 :: a3 :: a4 :: a5 :: a6 :: a7 :: a8 :: a9 :: a10 :: a11 :: a12 :: a13 :: a14 :: a15 :: a16 :: a17 :: a18 :: o :: σ) G P = P (a0 :: a1 :: a2 :: a3 :: a4 :: a5 :: a6 :: a7 :: a8 :: a9 :: a10 :: a11 :: a12 :: a13 :: a14 :: a15 :: a16 :: a17 :: a18 :: some w :: σ) G := rfl
theorem u_19 {te : TEw} {r : RW2} {w : W} {D : EndsW} {G : Gp} {σ : SW} {a0 a1 a2 a3 a4 a5 a6 a7 a8 a9 a10 a11 a12 a13 a14 a15 a16 a17 a18 : Option W} : wAug 19 te r D (a0 :: a1 :: a2 :: a3 :: a4 :: a5 :: a6 :: a7 :: a8 :: a9 :: a10 :: a11 :: a12 :: a13 :: a14 :: a15 :: a16 :: a17 :: a18 :: some w :: σ) G = te (a0 :: a1 :: a2 :: a3 :: a4 :: a5 :: a6 :: a7 :: a8 :: a9 :: a10 :: a11 :: a12 :: a13 :: a14 :: a15 :: a16 :: a17 :: a18 :: some w :: σ) G fun y G1 => r w y G1 fun z G2 => D.nx (a0 :: a1 :: a2 :: a3 :: a4 :: a5 :: a6 :: a7 :: a8 :: a9 :: a10 :: a11 :: a12 :: a13 :: a14 :: a15 :: a16 :: a17 :: a18 :: some z :: σ) G2 := rfl
theorem v_20 {w : W} {G : Gp} {Q : QW} {σ : SW} {a0 a1 a2 a3 a4 a5 a6 a7 a8 a9 a10 a11 a12 a13 a14 a15 a16 a17 a18 a19 : Option W} : wVar 20 (a0 :: a1 :: a2 :: a3 :: a4 :: a5 :: a6 :: a7 :: a8 :: a9 :: a10 :: a11 :: a12 :: a13 :: a14 :: a15 :: a16 :: a17 :: a18 :: a19 :: some w :: σ) G Q = Q w G := rfl
theorem g_20 {w : W} {o : Option W} {G : Gp} {P : SW → Gp → Prop} {σ : SW} {a0 a1 a2 a3 a4 a5 a6 a7 a8 a9 a10 a11 a12 a13 a14 a15 a16 a17 a18 a19 : Option W} : gN 20 w (a0 :: a1 :: a2 :: a3 :: a4 :: a5 :: a6 :: a7 :: a8 :: a9 :: a10 :: a11 :: a12 :: a13 :: a14 :: a15 :: a16 :: a17 :: a18 :: a19 :: o :: σ) G P = P (a0 :: a1 :: a2 :: a3 :: a4 :: a5 :: a6 :: a7 :: a8 :: a9 :: a10 :: a11 :: a12 :: a13 :: a14 :: a15 :: a16 :: a17 :: a18 :: a19 :: some w :: σ) G := rfl
theorem u_20 {te : TEw} {r : RW2} {w : W} {D : EndsW} {G : Gp} {σ : SW} {a0 a1 a2 a3 a4 a5 a6 a7 a8 a9 a10 a11 a12 a13 a14 a15 a16 a17 a18 a19 : Option W} : wAug 20 te r D (a0 :: a1 :: a2 :: a3 :: a4 :: a5 :: a6 :: a7 :: a8 :: a9 :: a10 :: a11 :: a12 :: a13 :: a14 :: a15 :: a16 :: a17 :: a18 :: a19 :: some w :: σ) G = te (a0 :: a1 :: a2 :: a3 :: a4 :: a5 :: a6 :: a7 :: a8 :: a9 :: a10 :: a11 :: a12 :: a13 :: a14 :: a15 :: a16 :: a17 :: a18 :: a19 :: some w :: σ) G fun y G1 => r w y G1 fun z G2 => D.nx (a0 :: a1 :: a2 :: a3 :: a4 :: a5 :: a6 :: a7 :: a8 :: a9 :: a10 :: a11 :: a12 :: a13 :: a14 :: a15 :: a16 :: a17 :: a18 :: a19 :: some z :: σ) G2 := rfl
theorem v_21 {w : W} {G : Gp} {Q : QW} {σ : SW} {a0 a1 a2 a3 a4 a5 a6 a7 a8 a9 a10 a11 a12 a13 a14 a15 a16 a17 a18 a19 a20 : Option W} : wVar 21 (a0 :: a1 :: a2 :: a3 :: a4 :: a5 :: a6 :: a7 :: a8 :: a9 :: a10 :: a11 :: a12 :: a13 :: a14 :: a15 :: a16 :: a17 :: a18 :: a19 :: a20 :: some w :: σ) G Q = Q w G := rfl
theorem g_21 {w : W} {o : Option W} {G : Gp} {P : SW → Gp → Prop} {σ : SW} {a0 a1 a2 a3 a4 a5 a6 a7 a8 a9 a10 a11 a12 a13 a14 a15 a16 a17 a18 a19 a20 : Option W} : gN 21 w (a0 :: a1 :: a2 :: a3 :: a4 :: a5 :: a6 :: a7 :: a8 :: a9 :: a10 :: a11 :: a12 :: a13 :: a14 :: a15 :: a16 :: a17 :: a18 :: a19 :: a20 :: o :: σ) G P = P (a0 :: a1 :: a2 :: a3 :: a4 :: a5 :: a6 :: a7 :: a8 :: a9 :: a10 :: a11 :: a12 :: a13 :: a14 :: a15 :: a16 :: a17 :: a18 :: a19 :: a20 :: some w :: σ) G := rfl
theorem u_21 {te : TEw} {r : RW2} {w : W} {D : EndsW} {G : Gp} {σ : SW} {a0 a1 a2 a3 a4 a5 a6 a7 a8 a9 a10 a11 a12 a13 a14 a15 a16 a17 a18 a19 a20 : Option W} : wAug 21 te r D (a0 :: a1 :: a2 :: a3 :: a4 :: a5 :: a6 :: a7 :: a8 :: a9 :: a10 :: a11 :: a12 :: a13 :: a14 :: a15 :: a16 :: a17 :: a18 :: a19 :: a20 :: some w :: σ) G = te (a0 :: a1 :: a2 :: a3 :: a4 :: a5 :: a6 :: a7 :: a8 :: a9 :: a10 :: a11 :: a12 :: a13 :: a14 :: a15 :: a16 :: a17 :: a18 :: a19 :: a20 :: some w :: σ) G fun y G1 => r w y G1 fun z G2 => D.nx (a0 :: a1 :: a2 :: a3 :: a4 :: a5 :: a6 :: a7 :: a8 :: a9 :: a10 :: a11 :: a12 :: a13 :: a14 :: a15 :: a16 :: a17 :: a18 :: a19 :: a20 :: some z :: σ) G2 := rfl
theorem v_22 {w : W} {G : Gp} {Q : QW} {σ : SW} {a0 a1 a2 a3 a4 a5 a6 a7 a8 a9 a10 a11 a12 a13 a14 a15 a16 a17 a18 a19 a20 a21 : Option W} : wVar 22 (a0 :: a1 :: a2 :: a3 :: a4 :: a5 :: a6 :: a7 :: a8 :: a9 :: a10 :: a11 :: a12 :: a13 :: a14 :: a15 :: a16 :: a17 :: a18 :: a19 :: a20 :: a21 :: some w :: σ) G Q = Q w G := rfl
theorem g_22 {w : W} {o : Option W} {G : Gp} {P : SW → Gp → Prop} {σ : SW} {a0 a1 a2 a3 a4 a5 a6 a7 a8 a9 a10 a11 a12 a13 a14 a15 a16 a17 a18 a19 a20 a21 : Option W} : gN 22 w (a0 :: a1 :: a2 :: a3 :: a4 :: a5 :: a6 :: a7 :: a8 :: a9 :: a10 :: a11 :: a12 :: a13 :: a14 :: a15 :: a16 :: a17 :: a18 :: a19 :: a20 :: a21 :: o :: σ) G P = P (a0 :: a1 :: a2 :: a3 :: a4 :: a5 :: a6 :: a7 :: a8 :: a9 :: a10 :: a11 :: a12 :: a13 :: a14 :: a15 :: a16 :: a17 :: a18 :: a19 :: a20 :: a21 :: some w :: σ) G := rfl
theorem u_22 {te : TEw} {r : RW2} {w : W} {D : EndsW} {G : Gp} {σ : SW} {a0 a1 a2 a3 a4 a5 a6 a7 a8 a9 a10 a11 a12 a13 a14 a15 a16 a17 a18 a19 a20 a21 : Option W} : wAug 22 te r D (a0 :: a1 :: a2 :: a3 :: a4 :: a5 :: a6 :: a7 :: a8 :: a9 :: a10 :: a11 :: a12 :: a13 :: a14 :: a15 :: a16 :: a17 :: a18 :: a19 :: a20 :: a21 :: some w :: σ) G = te (a0 :: a1 :: a2 :: a3 :: a4 :: a5 :: a6 :: a7 :: a8 :: a9 :: a10 :: a11 :: a12 :: a13 :: a14 :: a15 :: a16 :: a17 :: a18 :: a19 :: a20 :: a21 :: some w :: σ) G fun y G1 => r w y G1 fun z G2 => D.nx (a0 :: a1 :: a2 :: a3 :: a4 :: a5 :: a6 :: a7 :: a8 :: a9 :: a10 :: a11 :: a12 :: a13 :: a14 :: a15 :: a16 :: a17 :: a18 :: a19 :: a20 :: a21 :: some z :: σ) G2 := rfl
theorem v_23 {w : W} {G : Gp} {Q : QW} {σ : SW} {a0 a1 a2 a3 a4 a5 a6 a7 a8 a9 a10 a11 a12 a13 a14 a15 a16 a17 a18 a19 a20 a21 a22 : Option W} : wVar 23 (a0 :: a1 :: a2 :: a3 :: a4 :: a5 :: a6 :: a7 :: a8 :: a9 :: a10 :: a11 :: a12 :: a13 :: a14 :: a15 :: a16 :: a17 :: a18 :: a19 :: a20 :: a21 :: a22 :: some w :: σ) G Q = Q w G := rfl
theorem g_23 {w : W} {o : Option W} {G : Gp} {P : SW → Gp → Prop} {σ : SW} {a0 a1 a2 a3 a4 a5 a6 a7 a8 a9 a10 a11 a12 a13 a14 a15 a16 a17 a18 a19 a20 a21 a22 : Option W} : gN 23 w (a0 :: a1 :: a2 :: a3 :: a4 :: a5 :: a6 :: a7 :: a8 :: a9 :: a10 :: a11 :: a12 :: a13 :: a14 :: a15 :: a16 :: a17 :: a18 :: a19 :: a20 :: a21 :: a22 :: o :: σ) G P = P (a0 :: a1 :: a2 :: a3 :: a4 :: a5 :: a6 :: a7 :: a8 :: a9 :: a10 :: a11 :: a12 :: a13 :: a14 :: a15 :: a16 :: a17 :: a18 :: a19 :: a20 :: a21 :: a22 :: some w :: σ) G := rfl
theorem u_23 {te : TEw} {r : RW2} {w : W} {D : EndsW} {G : Gp} {σ : SW} {a0 a1 a2 a3 a4 a5 a6 a7 a8 a9 a10 a11 a12 a13 a14 a15 a16 a17 a18 a19 a20 a21 a22 : Option W} : wAug 23 te r D (a0 :: a1 :: a2 :: a3 :: a4 :: a5 :: a6 :: a7 :: a8 :: a9 :: a10 :: a11 :: a12 :: a13 :: a14 :: a15 :: a16 :: a17 :: a18 :: a19 :: a20 :: a21 :: a22 :: some w :: σ) G = te (a0 :: a1 :: a2 :: a3 :: a4 :: a5 :: a6 :: a7 :: a8 :: a9 :: a10 :: a11 :: a12 :: a13 :: a14 :: a15 :: a16 :: a17 :: a18 :: a19 :: a20 :: a21 :: a22 :: some w :: σ) G fun y G1 => r w y G1 fun z G2 => D.nx (a0 :: a1 :: a2 :: a3 :: a4 :: a5 :: a6 :: a7 :: a8 :: a9 :: a10 :: a11 :: a12 :: a13 :: a14 :: a15 :: a16 :: a17 :: a18 :: a19 :: a20 :: a21 :: a22 :: some z :: σ) G2 := rfl
theorem v_24 {w : W} {G : Gp} {Q : QW} {σ : SW} {a0 a1 a2 a3 a4 a5 a6 a7 a8 a9 a10 a11 a12 a13 a14 a15 a16 a17 a18 a19 a20 a21 a22 a23 : Option W} : wVar 24 (a0 :: a1 :: a2 :: a3 :: a4 :: a5 :: a6 :: a7 :: a8 :: a9 :: a10 :: a11 :: a12 :: a13 :: a14 :: a15 :: a16 :: a17 :: a18 :: a19 :: a20 :: a21 :: a22 :: a23 :: some w :: σ) G Q = Q w G := rfl
theorem g_24 {w : W} {o : Option W} {G : Gp} {P : SW → Gp → Prop} {σ : SW} {a0 a1 a2 a3 a4 a5 a6 a7 a8 a9 a10 a11 a12 a13 a14 a15 a16 a17 a18 a19 a20 a21 a22 a23 : Option W} : gN 24 w (a0 :: a1 :: a2 :: a3 :: a4 :: a5 :: a6 :: a7 :: a8 :: a9 :: a10 :: a11 :: a12 :: a13 :: a14 :: a15 :: a16 :: a17 :: a18 :: a19 :: a20 :: a21 :: a22 :: a23 :: o :: σ) G P = P (a0 :: a1 :: a2 :: a3 :: a4 :: a5 :: a6 :: a7 :: a8 :: a9 :: a10 :: a11 :: a12 :: a13 :: a14 :: a15 :: a16 :: a17 :: a18 :: a19 :: a20 :: a21 :: a22 :: a23 :: some w :: σ) G := rfl
theorem u_24 {te : TEw} {r : RW2} {w : W} {D : EndsW} {G : Gp} {σ : SW} {a0 a1 a2 a3 a4 a5 a6 a7 a8 a9 a10 a11 a12 a13 a14 a15 a16 a17 a18 a19 a20 a21 a22 a23 : Option W} : wAug 24 te r D (a0 :: a1 :: a2 :: a3 :: a4 :: a5 :: a6 :: a7 :: a8 :: a9 :: a10 :: a11 :: a12 :: a13 :: a14 :: a15 :: a16 :: a17 :: a18 :: a19 :: a20 :: a21 :: a22 :: a23 :: some w :: σ) G = te (a0 :: a1 :: a2 :: a3 :: a4 :: a5 :: a6 :: a7 :: a8 :: a9 :: a10 :: a11 :: a12 :: a13 :: a14 :: a15 :: a16 :: a17 :: a18 :: a19 :: a20 :: a21 :: a22 :: a23 :: some w :: σ) G fun y G1 => r w y G1 fun z G2 => D.nx (a0 :: a1 :: a2 :: a3 :: a4 :: a5 :: a6 :: a7 :: a8 :: a9 :: a10 :: a11 :: a12 :: a13 :: a14 :: a15 :: a16 :: a17 :: a18 :: a19 :: a20 :: a21 :: a22 :: a23 :: some z :: σ) G2 := rfl
theorem v_25 {w : W} {G : Gp} {Q : QW} {σ : SW} {a0 a1 a2 a3 a4 a5 a6 a7 a8 a9 a10 a11 a12 a13 a14 a15 a16 a17 a18 a19 a20 a21 a22 a23 a24 : Option W} : wVar 25 (a0 :: a1 :: a2 :: a3 :: a4 :: a5 :: a6 :: a7 :: a8 :: a9 :: a10 :: a11 :: a12 :: a13 :: a14 :: a15 :: a16 :: a17 :: a18 :: a19 :: a20 :: a21 :: a22 :: a23 :: a24 :: some w :: σ) G Q = Q w G := rfl
theorem g_25 {w : W} {o : Option W} {G : Gp} {P : SW → Gp → Prop} {σ : SW} {a0 a1 a2 a3 a4 a5 a6 a7 a8 a9 a10 a11 a12 a13 a14 a15 a16 a17 a18 a19 a20 a21 a22 a23 a24 : Option W} : gN 25 w (a0 :: a1 :: a2 :: a3 :: a4 :: a5 :: a6 :: a7 :: a8 :: a9 :: a10 :: a11 :: a12 :: a13 :: a14 :: a15 :: a16 :: a17 :: a18 :: a19 :: a20 :: a21 :: a22 :: a23 :: a24 :: o :: σ) G P = P (a0 :: a1 :: a2 :: a3 :: a4 :: a5 :: a6 :: a7 :: a8 :: a9 :: a10 :: a11 :: a12 :: a13 :: a14 :: a15 :: a16 :: a17 :: a18 :: a19 :: a20 :: a21 :: a22 :: a23 :: a24 :: some w :: σ) G := rfl
theorem u_25 {te : TEw} {r : RW2} {w : W} {D : EndsW} {G : Gp} {σ : SW} {a0 a1 a2 a3 a4 a5 a6 a7 a8 a9 a10 a11 a12 a13 a14 a15 a16 a17 a18 a19 a20 a21 a22 a23 a24 : Option W} : wAug 25 te r D (a0 :: a1 :: a2 :: a3 :: a4 :: a5 :: a6 :: a7 :: a8 :: a9 :: a10 :: a11 :: a12 :: a13 :: a14 :: a15 :: a16 :: a17 :: a18 :: a19 :: a20 :: a21 :: a22 :: a23 :: a24 :: some w :: σ) G = te (a0 :: a1 :: a2 :: a3 :: a4 :: a5 :: a6 :: a7 :: a8 :: a9 :: a10 :: a11 :: a12 :: a13 :: a14 :: a15 :: a16 :: a17 :: a18 :: a19 :: a20 :: a21 :: a22 :: a23 :: a24 :: some w :: σ) G fun y G1 => r w y G1 fun z G2 => D.nx (a0 :: a1 :: a2 :: a3 :: a4 :: a5 :: a6 :: a7 :: a8 :: a9 :: a10 :: a11 :: a12 :: a13 :: a14 :: a15 :: a16 :: a17 :: a18 :: a19 :: a20 :: a21 :: a22 :: a23 :: a24 :: some z :: σ) G2 := rfl
theorem f_0 {t : TSw} {p : Addr} {D : EndsW} {G : Gp} {σ : SW} : wFz 0 t D (some (.ref p) :: σ) G = isG (G p) fun ws => t D (some (.lst ws) :: σ) (gdel G p) := rfl
theorem fl_0 {t : TSw} {ws : List W} {D : EndsW} {G : Gp} {σ : SW} : wFz 0 t D (some (.lst ws) :: σ) G = t D (some (.lst ws) :: σ) G := rfl
theorem fn_0 {t : TSw} {ws : List W} {D : EndsW} {G : Gp} {σ : SW} : wFzN 0 t D (some (.lst ws) :: σ) G = fzL ws G fun zs G' => t D (some (.lst zs) :: σ) G' := rfl
theorem f_1 {t : TSw} {p : Addr} {D : EndsW} {G : Gp} {σ : SW} {a0 : Option W} : wFz 1 t D (a0 :: some (.ref p) :: σ) G = isG (G p) fun ws => t D (a0 :: some (.lst ws) :: σ) (gdel G p) := rfl
theorem fl_1 {t : TSw} {ws : List W} {D : EndsW} {G : Gp} {σ : SW} {a0 : Option W} : wFz 1 t D (a0 :: some (.lst ws) :: σ) G = t D (a0 :: some (.lst ws) :: σ) G := rfl
theorem fn_1 {t : TSw} {ws : List W} {D : EndsW} {G : Gp} {σ : SW} {a0 : Option W} : wFzN 1 t D (a0 :: some (.lst ws) :: σ) G = fzL ws G fun zs G' => t D (a0 :: some (.lst zs) :: σ) G' := rfl
theorem f_2 {t : TSw} {p : Addr} {D : EndsW} {G : Gp} {σ : SW} {a0 a1 : Option W} : wFz 2 t D (a0 :: a1 :: some (.ref p) :: σ) G = isG (G p) fun ws => t D (a0 :: a1 :: some (.lst ws) :: σ) (gdel G p) := rfl
theorem fl_2 {t : TSw} {ws : List W} {D : EndsW} {G : Gp} {σ : SW} {a0 a1 : Option W} : wFz 2 t D (a0 :: a1 :: some (.lst ws) :: σ) G = t D (a0 :: a1 :: some (.lst ws) :: σ) G := rfl
theorem fn_2 {t : TSw} {ws : List W} {D : EndsW} {G : Gp} {σ : SW} {a0 a1 : Option W} : wFzN 2 t D (a0 :: a1 :: some (.lst ws) :: σ) G = fzL ws G fun zs G' => t D (a0 :: a1 :: some (.lst zs) :: σ) G' := rfl
theorem f_3 {t : TSw} {p : Addr} {D : EndsW} {G : Gp} {σ : SW} {a0 a1 a2 : Option W} : wFz 3 t D (a0 :: a1 :: a2 :: some (.ref p) :: σ) G = isG (G p) fun ws => t D (a0 :: a1 :: a2 :: some (.lst ws) :: σ) (gdel G p) := rfl
theorem fl_3 {t : TSw} {ws : List W} {D : EndsW} {G : Gp} {σ : SW} {a0 a1 a2 : Option W} : wFz 3 t D (a0 :: a1 :: a2 :: some (.lst ws) :: σ) G = t D (a0 :: a1 :: a2 :: some (.lst ws) :: σ) G := rfl
theorem fn_3 {t : TSw} {ws : List W} {D : EndsW} {G : Gp} {σ : SW} {a0 a1 a2 : Option W} : wFzN 3 t D (a0 :: a1 :: a2 :: some (.lst ws) :: σ) G = fzL ws G fun zs G' => t D (a0 :: a1 :: a2 :: some (.lst zs) :: σ) G' := rfl
theorem f_4 {t : TSw} {p : Addr} {D : EndsW} {G : Gp} {σ : SW} {a0 a1 a2 a3 : Option W} : wFz 4 t D (a0 :: a1 :: a2 :: a3 :: some (.ref p) :: σ) G = isG (G p) fun ws => t D (a0 :: a1 :: a2 :: a3 :: some (.lst ws) :: σ) (gdel G p) := rfl
theorem fl_4 {t : TSw} {ws : List W} {D : EndsW} {G : Gp} {σ : SW} {a0 a1 a2 a3 : Option W} : wFz 4 t D (a0 :: a1 :: a2 :: a3 :: some (.lst ws) :: σ) G = t D (a0 :: a1 :: a2 :: a3 :: some (.lst ws) :: σ) G := rfl
theorem fn_4 {t : TSw} {ws : List W} {D : EndsW} {G : Gp} {σ : SW} {a0 a1 a2 a3 : Option W} : wFzN 4 t D (a0 :: a1 :: a2 :: a3 :: some (.lst ws) :: σ) G = fzL ws G fun zs G' => t D (a0 :: a1 :: a2 :: a3 :: some (.lst zs) :: σ) G' := rfl
theorem f_5 {t : TSw} {p : Addr} {D : EndsW} {G : Gp} {σ : SW} {a0 a1 a2 a3 a4 : Option W} : wFz 5 t D (a0 :: a1 :: a2 :: a3 :: a4 :: some (.ref p) :: σ) G = isG (G p) fun ws => t D (a0 :: a1 :: a2 :: a3 :: a4 :: some (.lst ws) :: σ) (gdel G p) := rfl
theorem fl_5 {t : TSw} {ws : List W} {D : EndsW} {G : Gp} {σ : SW} {a0 a1 a2 a3 a4 : Option W} : wFz 5 t D (a0 :: a1 :: a2 :: a3 :: a4 :: some (.lst ws) :: σ) G = t D (a0 :: a1 :: a2 :: a3 :: a4 :: some (.lst ws) :: σ) G := rfl
theorem fn_5 {t : TSw} {ws : List W} {D : EndsW} {G : Gp} {σ : SW} {a0 a1 a2 a3 a4 : Option W} : wFzN 5 t D (a0 :: a1 :: a2 :: a3 :: a4 :: some (.lst ws) :: σ) G = fzL ws G fun zs G' => t D (a0 :: a1 :: a2 :: a3 :: a4 :: some (.lst zs) :: σ) G' := rfl
theorem f_6 {t : TSw} {p : Addr} {D : EndsW} {G : Gp} {σ : SW} {a0 a1 a2 a3 a4 a5 : Option W} : wFz 6 t D (a0 :: a1 :: a2 :: a3 :: a4 :: a5 :: some (.ref p) :: σ) G = isG (G p) fun ws => t D (a0 :: a1 :: a2 :: a3 :: a4 :: a5 :: some (.lst ws) :: σ) (gdel G p) := rfl
theorem fl_6 {t : TSw} {ws : List W} {D : EndsW} {G : Gp} {σ : SW} {a0 a1 a2 a3 a4 a5 : Option W} : wFz 6 t D (a0 :: a1 :: a2 :: a3 :: a4 :: a5 :: some (.lst ws) :: σ) G = t D (a0 :: a1 :: a2 :: a3 :: a4 :: a5 :: some (.lst ws) :: σ) G := rfl
theorem fn_6 {t : TSw} {ws : List W} {D : EndsW} {G : Gp} {σ : SW} {a0 a1 a2 a3 a4 a5 : Option W} : wFzN 6 t D (a0 :: a1 :: a2 :: a3 :: a4 :: a5 :: some (.lst ws) :: σ) G = fzL ws G fun zs G' => t D (a0 :: a1 :: a2 :: a3 :: a4 :: a5 :: some (.lst zs) :: σ) G' := rfl
theorem f_7 {t : TSw} {p : Addr} {D : EndsW} {G : Gp} {σ : SW} {a0 a1 a2 a3 a4 a5 a6 : Option W} : wFz 7 t D (a0 :: a1 :: a2 :: a3 :: a4 :: a5 :: a6 :: some (.ref p) :: σ) G = isG (G p) fun ws => t D (a0 :: a1 :: a2 :: a3 :: a4 :: a5 :: a6 :: some (.lst ws) :: σ) (gdel G p) := rfl
theorem fl_7 {t : TSw} {ws : List W} {D : EndsW} {G : Gp} {σ : SW} {a0 a1 a2 a3 a4 a5 a6 : Option W} : wFz 7 t D (a0 :: a1 :: a2 :: a3 :: a4 :: a5 :: a6 :: some (.lst ws) :: σ) G = t D (a0 :: a1 :: a2 :: a3 :: a4 :: a5 :: a6 :: some (.lst ws) :: σ) G := rfl
theorem fn_7 {t : TSw} {ws : List W} {D : EndsW} {G : Gp} {σ : SW} {a0 a1 a2 a3 a4 a5 a6 : Option W} : wFzN 7 t D (a0 :: a1 :: a2 :: a3 :: a4 :: a5 :: a6 :: some (.lst ws) :: σ) G = fzL ws G fun zs G' => t D (a0 :: a1 :: a2 :: a3 :: a4 :: a5 :: a6 :: some (.lst zs) :: σ) G' := rfl
theorem f_8 {t : TSw} {p : Addr} {D : EndsW} {G : Gp} {σ : SW} {a0 a1 a2 a3 a4 a5 a6 a7 : Option W} : wFz 8 t D (a0 :: a1 :: a2 :: a3 :: a4 :: a5 :: a6 :: a7 :: some (.ref p) :: σ) G = isG (G p) fun ws => t D (a0 :: a1 :: a2 :: a3 :: a4 :: a5 :: a6 :: a7 :: some (.lst ws) :: σ) (gdel G p) := rfl
theorem fl_8 {t : TSw} {ws : List W} {D : EndsW} {G : Gp} {σ : SW} {a0 a1 a2 a3 a4 a5 a6 a7 : Option W} : wFz 8 t D (a0 :: a1 :: a2 :: a3 :: a4 :: a5 :: a6 :: a7 :: some (.lst ws) :: σ) G = t D (a0 :: a1 :: a2 :: a3 :: a4 :: a5 :: a6 :: a7 :: some (.lst ws) :: σ) G := rfl
theorem fn_8 {t : TSw} {ws : List W} {D : EndsW} {G : Gp} {σ : SW} {a0 a1 a2 a3 a4 a5 a6 a7 : Option W} : wFzN 8 t D (a0 :: a1 :: a2 :: a3 :: a4 :: a5 :: a6 :: a7 :: some (.lst ws) :: σ) G = fzL ws G fun zs G' => t D (a0 :: a1 :: a2 :: a3 :: a4 :: a5 :: a6 :: a7 :: some (.lst zs) :: σ) G' := rfl
theorem f_9 {t : TSw} {p : Addr} {D : EndsW} {G : Gp} {σ : SW} {a0 a1 a2 a3 a4 a5 a6 a7 a8 : Option W} : wFz 9 t D (a0 :: a1 :: a2 :: a3 :: a4 :: a5 :: a6 :: a7 :: a8 :: some (.ref p) :: σ) G = isG (G p) fun ws => t D (a0 :: a1 :: a2 :: a3 :: a4 :: a5 :: a6 :: a7 :: a8 :: some (.lst ws) :: σ) (gdel G p) := rfl
theorem fl_9 {t : TSw} {ws : List W} {D : EndsW} {G : Gp} {σ : SW} {a0 a1 a2 a3 a4 a5 a6 a7 a8 : Option W} : wFz 9 t D (a0 :: a1 :: a2 :: a3 :: a4 :: a5 :: a6 :: a7 :: a8 :: some (.lst ws) :: σ) G = t D (a0 :: a1 :: a2 :: a3 :: a4 :: a5 :: a6 :: a7 :: a8 :: some (.lst ws) :: σ) G := rfl
theorem fn_9 {t : TSw} {ws : List W} {D : EndsW} {G : Gp} {σ : SW} {a0 a1 a2 a3 a4 a5 a6 a7 a8 : Option W} : wFzN 9 t D (a0 :: a1 :: a2 :: a3 :: a4 :: a5 :: a6 :: a7 :: a8 :: some (.lst ws) :: σ) G = fzL ws G fun zs G' => t D (a0 :: a1 :: a2 :: a3 :: a4 :: a5 :: a6 :: a7 :: a8 :: some (.lst zs) :: σ) G' := rfl
theorem f_10 {t : TSw} {p : Addr} {D : EndsW} {G : Gp} {σ : SW} {a0 a1 a2 a3 a4 a5 a6 a7 a8 a9 : Option W} : wFz 10 t D (a0 :: a1 :: a2 :: a3 :: a4 :: a5 :: a6 :: a7 :: a8 :: a9 :: some (.ref p) :: σ) G = isG (G p) fun ws => t D (a0 :: a1 :: a2 :: a3 :: a4 :: a5 :: a6 :: a7 :: a8 :: a9 :: some (.lst ws) :: σ) (gdel G p) := rfl
theorem fl_10 {t : TSw} {ws : List W} {D : EndsW} {G : Gp} {σ : SW} {a0 a1 a2 a3 a4 a5 a6 a7 a8 a9 : Option W} : wFz 10 t D (a0 :: a1 :: a2 :: a3 :: a4 :: a5 :: a6 :: a7 :: a8 :: a9 :: some (.lst ws) :: σ) G = t D (a0 :: a1 :: a2 :: a3 :: a4 :: a5 :: a6 :: a7 :: a8 :: a9 :: some (.lst ws) :: σ) G := rfl
theorem fn_10 {t : TSw} {ws : List W} {D : EndsW} {G : Gp} {σ : SW} {a0 a1 a2 a3 a4 a5 a6 a7 a8 a9 : Option W} : wFzN 10 t D (a0 :: a1 :: a2 :: a3 :: a4 :: a5 :: a6 :: a7 :: a8 :: a9 :: some (.lst ws) :: σ) G = fzL ws G fun zs G' => t D (a0 :: a1 :: a2 :: a3 :: a4 :: a5 :: a6 :: a7 :: a8 :: a9 :: some (.lst zs) :: σ) G' := rfl
theorem f_11 {t : TSw} {p : Addr} {D : EndsW} {G : Gp} {σ : SW} {a0 a1 a2 a3 a4 a5 a6 a7 a8 a9 a10 : Option W} : wFz 11 t D (a0 :: a1 :: a2 :: a3 :: a4 :: a5 :: a6 :: a7 :: a8 :: a9 :: a10 :: some (.ref p) :: σ) G = isG (G p) fun ws => t D (a0 :: a1 :: a2 :: a3 :: a4 :: a5 :: a6 :: a7 :: a8 :: a9 :: a10 :: some (.lst ws) :: σ) (gdel G p) := rfl
theorem fl_11 {t : TSw} {ws : List W} {D : EndsW} {G : Gp} {σ : SW} {a0 a1 a2 a3 a4 a5 a6 a7 a8 a9 a10 : Option W} : wFz 11 t D (a0 :: a1 :: a2 :: a3 :: a4 :: a5 :: a6 :: a7 :: a8 :: a9 :: a10 :: some (.lst ws) :: σ) G = t D (a0 :: a1 :: a2 :: a3 :: a4 :: a5 :: a6 :: a7 :: a8 :: a9 :: a10 :: some (.lst ws) :: σ) G := rfl
theorem fn_11 {t : TSw} {ws : List W} {D : EndsW} {G : Gp} {σ : SW} {a0 a1 a2 a3 a4 a5 a6 a7 a8 a9 a10 : Option W} : wFzN 11 t D (a0 :: a1 :: a2 :: a3 :: a4 :: a5 :: a6 :: a7 :: a8 :: a9 :: a10 :: some (.lst ws) :: σ) G = fzL ws G fun zs G' => t D (a0 :: a1 :: a2 :: a3 :: a4 :: a5 :: a6 :: a7 :: a8 :: a9 :: a10 :: some (.lst zs) :: σ) G' := rfl
theorem f_12 {t : TSw} {p : Addr} {D : EndsW} {G : Gp} {σ : SW} {a0 a1 a2 a3 a4 a5 a6 a7 a8 a9 a10 a11 : Option W} : wFz 12 t D (a0 :: a1 :: a2 :: a3 :: a4 :: a5 :: a6 :: a7 :: a8 :: a9 :: a10 :: a11 :: some (.ref p) :: σ) G = isG (G p) fun ws => t D (a0 :: a1 :: a2 :: a3 :: a4 :: a5 :: a6 :: a7 :: a8 :: a9 :: a10 :: a11 :: some (.lst ws) :: σ) (gdel G p) := rfl
theorem fl_12 {t : TSw} {ws : List W} {D : EndsW} {G : Gp} {σ : SW} {a0 a1 a2 a3 a4 a5 a6 a7 a8 a9 a10 a11 : Option W} : wFz 12 t D (a0 :: a1 :: a2 :: a3 :: a4 :: a5 :: a6 :: a7 :: a8 :: a9 :: a10 :: a11 :: some (.lst ws) :: σ) G = t D (a0 :: a1 :: a2 :: a3 :: a4 :: a5 :: a6 :: a7 :: a8 :: a9 :: a10 :: a11 :: some (.lst ws) :: σ) G := rfl
theorem fn_12 {t : TSw} {ws : List W} {D : EndsW} {G : Gp} {σ : SW} {a0 a1 a2 a3 a4 a5 a6 a7 a8 a9 a10 a11 : Option W} : wFzN 12 t D (a0 :: a1 :: a2 :: a3 :: a4 :: a5 :: a6 :: a7 :: a8 :: a9 :: a10 :: a11 :: some (.lst ws) :: σ) G = fzL ws G fun zs G' => t D (a0 :: a1 :: a2 :: a3 :: a4 :: a5 :: a6 :: a7 :: a8 :: a9 :: a10 :: a11 :: some (.lst zs) :: σ) G' := rfl
theorem f_13 {t : TSw} {p : Addr} {D : EndsW} {G : Gp} {σ : SW} {a0 a1 a2 a3 a4 a5 a6 a7 a8 a9 a10 a11 a12 : Option W} : wFz 13 t D (a0 :: a1 :: a2 :: a3 :: a4 :: a5 :: a6 :: a7 :: a8 :: a9 :: a10 :: a11 :: a12 :: some (.ref p) :: σ) G = isG (G p) fun ws => t D (a0 :: a1 :: a2 :: a3 :: a4 :: a5 :: a6 :: a7 :: a8 :: a9 :: a10 :: a11 :: a12 :: some (.lst ws) :: σ) (gdel G p) := rfl
theorem fl_13 {t : TSw} {ws : List W} {D : EndsW} {G : Gp} {σ : SW} {a0 a1 a2 a3 a4 a5 a6 a7 a8 a9 a10 a11 a12 : Option W} : wFz 13 t D (a0 :: a1 :: a2 :: a3 :: a4 :: a5 :: a6 :: a7 :: a8 :: a9 :: a10 :: a11 :: a12 :: some (.lst ws) :: σ) G = t D (a0 :: a1 :: a2 :: a3 :: a4 :: a5 :: a6 :: a7 :: a8 :: a9 :: a10 :: a11 :: a12 :: some (.lst ws) :: σ) G := rfl
theorem fn_13 {t : TSw} {ws : List W} {D : EndsW} {G : Gp} {σ : SW} {a0 a1 a2 a3 a4 a5 a6 a7 a8 a9 a10 a11 a12 : Option W} : wFzN 13 t D (a0 :: a1 :: a2 :: a3 :: a4 :: a5 :: a6 :: a7 :: a8 :: a9 :: a10 :: a11 :: a12 :: some (.lst ws) :: σ) G = fzL ws G fun zs G' => t D (a0 :: a1 :: a2 :: a3 :: a4 :: a5 :: a6 :: a7 :: a8 :: a9 :: a10 :: a11 :: a12 :: some (.lst zs) :: σ) G' := rfl
theorem f_14 {t : TSw} {p : Addr} {D : EndsW} {G : Gp} {σ : SW} {a0 a1 a2 a3 a4 a5 a6 a7 a8 a9 a10 a11 a12 a13 : Option W} : wFz 14 t D (a0 :: a1 :: a2 :: a3 :: a4 :: a5 :: a6 :: a7 :: a8 :: a9 :: a10 :: a11 :: a12 :: a13 :: some (.ref p) :: σ) G = isG (G p) fun ws => t D (a0 :: a1 :: a2 :: a3 :: a4 :: a5 :: a6 :: a7 :: a8 :: a9 :: a10 :: a11 :: a12 :: a13 :: some (.lst ws) :: σ) (gdel G p) := rfl
theorem fl_14 {t : TSw} {ws : List W} {D : EndsW} {G : Gp} {σ : SW} {a0 a1 a2 a3 a4 a5 a6 a7 a8 a9 a10 a11 a12 a13 : Option W} : wFz 14 t D (a0 :: a1 :: a2 :: a3 :: a4 :: a5 :: a6 :: a7 :: a8 :: a9 :: a10 :: a11 :: a12 :: a13 :: some (.lst ws) :: σ) G = t D (a0 :: a1 :: a2 :: a3 :: a4 :: a5 :: a6 :: a7 :: a8 :: a9 :: a10 :: a11 :: a12 :: a13 :: some (.lst ws) :: σ) G := rfl
theorem fn_14 {t : TSw} {ws : List W} {D : EndsW} {G : Gp} {σ : SW} {a0 a1 a2 a3 a4 a5 a6 a7 a8 a9 a10 a11 a12 a13 : Option W} : wFzN 14 t D (a0 :: a1 :: a2 :: a3 :: a4 :: a5 :: a6 :: a7 :: a8 :: a9 :: a10 :: a11 :: a12 :: a13 :: some (.lst ws) :: σ) G = fzL ws G fun zs G' => t D (a0 :: a1 :: a2 :: a3 :: a4 :: a5 :: a6 :: a7 :: a8 :: a9 :: a10 :: a11 :: a12 :: a13 :: some (.lst zs) :: σ) G' := rfl
theorem f_15 {t : TSw} {p : Addr} {D : EndsW} {G : Gp} {σ : SW} {a0 a1 a2 a3 a4 a5 a6 a7 a8 a9 a10 a11 a12 a13 a14 : Option W} : wFz 15 t D (a0 :: a1 :: a2 :: a3 :: a4 :: a5 :: a6 :: a7 :: a8 :: a9 :: a10 :: a11 :: a12 :: a13 :: a14 :: some (.ref p) :: σ) G = isG (G p) fun ws => t D (a0 :: a1 :: a2 :: a3 :: a4 :: a5 :: a6 :: a7 :: a8 :: a9 :: a10 :: a11 :: a12 :: a13 :: a14 :: some (.lst ws) :: σ) (gdel G p) := rfl
theorem fl_15 {t : TSw} {ws : List W} {D : EndsW} {G : Gp} {σ : SW} {a0 a1 a2 a3 a4 a5 a6 a7 a8 a9 a10 a11 a12 a13 a14 : Option W} : wFz 15 t D (a0 :: a1 :: a2 :: a3 :: a4 :: a5 :: a6 :: a7 :: a8 :: a9 :: a10 :: a11 :: a12 :: a13 :: a14 :: some (.lst ws) :: σ) G = t D (a0 :: a1 :: a2 :: a3 :: a4 :: a5 :: a6 :: a7 :: a8 :: a9 :: a10 :: a11 :: a12 :: a13 :: a14 :: some (.lst ws) :: σ) G := rfl
theorem fn_15 {t : TSw} {ws : List W} {D : EndsW} {G : Gp} {σ : SW} {a0 a1 a2 a3 a4 a5 a6 a7 a8 a9 a10 a11 a12 a13 a14 : Option W} : wFzN 15 t D (a0 :: a1 :: a2 :: a3 :: a4 :: a5 :: a6 :: a7 :: a8 :: a9 :: a10 :: a11 :: a12 :: a13 :: a14 :: some (.lst ws) :: σ) G = fzL ws G fun zs G' => t D (a0 :: a1 :: a2 :: a3 :: a4 :: a5 :: a6 :: a7 :: a8 :: a9 :: a10 :: a11 :: a12 :: a13 :: a14 :: some (.lst zs) :: σ) G' := rfl
theorem f_16 {t : TSw} {p : Addr} {D : EndsW} {G : Gp} {σ : SW} {a0 a1 a2 a3 a4 a5 a6 a7 a8 a9 a10 a11 a12 a13 a14 a15 : Option W} : wFz 16 t D (a0 :: a1 :: a2 :: a3 :: a4 :: a5 :: a6 :: a7 :: a8 :: a9 :: a10 :: a11 :: a12 :: a13 :: a14 :: a15 :: some (.ref p) :: σ) G = isG (G p) fun ws => t D (a0 :: a1 :: a2 :: a3 :: a4 :: a5 :: a6 :: a7 :: a8 :: a9 :: a10 :: a11 :: a12 :: a13 :: a14 :: a15 :: some (.lst ws) :: σ) (gdel G p) := rfl
theorem fl_16 {t : TSw} {ws : List W} {D : EndsW} {G : Gp} {σ : SW} {a0 a1 a2 a3 a4 a5 a6 a7 a8 a9 a10 a11 a12 a13 a14 a15 : Option W} : wFz 16 t D (a0 :: a1 :: a2 :: a3 :: a4 :: a5 :: a6 :: a7 :: a8 :: a9 :: a10 :: a11 :: a12 :: a13 :: a14 :: a15 :: some (.lst ws) :: σ) G = t D (a0 :: a1 :: a2 :: a3 :: a4 :: a5 :: a6 :: a7 :: a8 :: a9 :: a10 :: a11 :: a12 :: a13 :: a14 :: a15 :: some (.lst ws) :: σ) G := rfl
theorem fn_16 {t : TSw} {ws : List W} {D : EndsW} {G : Gp} {σ : SW} {a0 a1 a2 a3 a4 a5 a6 a7 a8 a9 a10 a11 a12 a13 a14 a15 : Option W} : wFzN 16 t D (a0 :: a1 :: a2 :: a3 :: a4 :: a5 :: a6 :: a7 :: a8 :: a9 :: a10 :: a11 :: a12 :: a13 :: a14 :: a15 :: some (.lst ws) :: σ) G = fzL ws G fun zs G' => t D (a0 :: a1 :: a2 :: a3 :: a4 :: a5 :: a6 :: a7 :: a8 :: a9 :: a10 :: a11 :: a12 :: a13 :: a14 :: a15 :: some (.lst zs) :: σ) G' := rfl
theorem f_17 {t : TSw} {p : Addr} {D : EndsW} {G : Gp} {σ : SW} {a0 a1 a2 a3 a4 a5 a6 a7 a8 a9 a10 a11 a12 a13 a14 a15 a16 : Option W} : wFz 17 t D (a0 :: a1 :: a2 :: a3 :: a4 :: a5 :: a6 :: a7 :: a8 :: a9 :: a10 :: a11 :: a12 :: a13 :: a14 :: a15 :: a16 :: some (.ref p) :: σ) G = isG (G p) fun ws => t D (a0 :: a1 :: a2 :: a3 :: a4 :: a5 :: a6 :: a7 :: a8 :: a9 :: a10 :: a11 :: a12 :: a13 :: a14 :: a15 :: a16 :: some (.lst ws) :: σ) (gdel G p) := rfl
theorem fl_17 {t : TSw} {ws : List W} {D : EndsW} {G : Gp} {σ : SW} {a0 a1 a2 a3 a4 a5 a6 a7 a8 a9 a10 a11 a12 a13 a14 a15 a16 : Option W} : wFz 17 t D (a0 :: a1 :: a2 :: a3 :: a4 :: a5 :: a6 :: a7 :: a8 :: a9 :: a10 :: a11 :: a12 :: a13 :: a14 :: a15 :: a16 :: some (.lst ws) :: σ) G = t D (a0 :: a1 :: a2 :: a3 :: a4 :: a5 :: a6 :: a7 :: a8 :: a9 :: a10 :: a11 :: a12 :: a13 :: a14 :: a15 :: a16 :: some (.lst ws) :: σ) G := rfl
theorem fn_17 {t : TSw} {ws : List W} {D : EndsW} {G : Gp} {σ : SW} {a0 a1 a2 a3 a4 a5 a6 a7 a8 a9 a10 a11 a12 a13 a14 a15 a16 : Option W} : wFzN 17 t D (a0 :: a1 :: a2 :: a3 :: a4 :: a5 :: a6 :: a7 :: a8 :: a9 :: a10 :: a11 :: a12 :: a13 :: a14 :: a15 :: a16 :: some (.lst ws) :: σ) G = fzL ws G fun zs G' => t D (a0 :: a1 :: a2 :: a3 :: a4 :: a5 :: a6 :: a7 :: a8 :: a9 :: a10 :: a11 :: a12 :: a13 :: a14 :: a15 :: a16 :: some (.lst zs) :: σ) G' := rfl
theorem f_18 {t : TSw} {p : Addr} {D : EndsW} {G : Gp} {σ : SW} {a0 a1 a2 a3 a4 a5 a6 a7 a8 a9 a10 a11 a12 a13 a14 a15 a16 a17 : Option W} : wFz 18 t D (a0 :: a1 :: a2 :: a3 :: a4 :: a5 :: a6 :: a7 :: a8 :: a9 :: a10 :: a11 :: a12 :: a13 :: a14 :: a15 :: a16 :: a17 :: some (.ref p) :: σ) G = isG (G p) fun ws => t D (a0 :: a1 :: a2 :: a3 :: a4 :: a5 :: a6 :: a7 :: a8 :: a9 :: a10 :: a11 :: a12 :: a13 :: a14 :: a15 :: a16 :: a17 :: some (.lst ws) :: σ) (gdel G p) := rfl
theorem fl_18 {t : TSw} {ws : List W} {D : EndsW} {G : Gp} {σ : SW} {a0 a1 a2 a3 a4 a5 a6 a7 a8 a9 a10 a11 a12 a13 a14 a15 a16 a17 : Option W} : wFz 18 t D (a0 :: a1 :: a2 :: a3 :: a4 :: a5 :: a6 :: a7 :: a8 :: a9 :: a10 :: a11 :: a12 :: a13 :: a14 :: a15 :: a16 :: a17 :: some (.lst ws) :: σ) G = t D (a0 :: a1 :: a2 :: a3 :: a4 :: a5 :: a6 :: a7 :: a8 :: a9 :: a10 :: a11 :: a12 :: a13 :: a14 :: a15 :: a16 :: a17 :: some (.lst ws) :: σ) G := rfl
theorem fn_18 {t : TSw} {ws : List W} {D : EndsW} {G : Gp} {σ : SW} {a0 a1 a2 a3 a4 a5 a6 a7 a8 a9 a10 a11 a12 a13 a14 a15 a16 a17 : Option W} : wFzN 18 t D (a0 :: a1 :: a2 :: a3 :: a4 :: a5 :: a6 :: a7 :: a8 :: a9 :: a10 :: a11 :: a12 :: a13 :: a14 :: a15 :: a16 :: a17 :: some (.lst ws) :: σ) G = fzL ws G fun zs G' => t D (a0 :: a1 :: a2 :: a3 :: a4 :: a5 :: a6 :: a7 :: a8 :: a9 :: a10 :: a11 :: a12 :: a13 :: a14 :: a15 :: a16 :: a17 :: some (.lst zs) :: σ) G' := rfl
theorem f_19 {t : TSw} {p : Addr} {D : EndsW} {G : Gp} {σ : SW} {a0 a1 a2 a3 a4 a5 a6 a7 a8 a9 a10 a11 a12 a13 a14 a15 a16 a17 a18 : Option W} : wFz 19 t D (a0 :: a1 :: a2 :: a3 :: a4 :: a5 :: a6 :: a7 :: a8 :: a9 :: a10 :: a11 :: a12 :: a13 :: a14 :: a15 :: a16 :: a17 :: a18 :: some (.ref p) :: σ) G = isG (G p) fun ws => t D (a0 :: a1 :: a2 :: a3 :: a4 :: a5 :: a6 :: a7 :: a8 :: a9 :: a10 :: a11 :: a12 :: a13 :: a14 :: a15 :: a16 :: a17 :: a18 :: some (.lst ws) :: σ) (gdel G p) := rfl
theorem fl_19 {t : TSw} {ws : List W} {D : EndsW} {G : Gp} {σ : SW} {a0 a1 a2 a3 a4 a5 a6 a7 a8 a9 a10 a11 a12 a13 a14 a15 a16 a17 a18 : Option W} : wFz 19 t D (a0 :: a1 :: a2 :: a3 :: a4 :: a5 :: a6 :: a7 :: a8 :: a9 :: a10 :: a11 :: a12 :: a13 :: a14 :: a15 :: a16 :: a17 :: a18 :: some (.lst ws) :: σ) G = t D (a0 :: a1 :: a2 :: a3 :: a4 :: a5 :: a6 :: a7 :: a8 :: a9 :: a10 :: a11 :: a12 :: a13 :: a14 :: a15 :: a16 :: a17 :: a18 :: some (.lst ws) :: σ) G := rfl
theorem fn_19 {t : TSw} {ws : List W} {D : EndsW} {G : Gp} {σ : SW} {a0 a1 a2 a3 a4 a5 a6 a7 a8 a9 a10 a11 a12 a13 a14 a15 a16 a17 a18 : Option W} : wFzN 19 t D (a0 :: a1 :: a2 :: a3 :: a4 :: a5 :: a6 :: a7 :: a8 :: a9 :: a10 :: a11 :: a12 :: a13 :: a14 :: a15 :: a16 :: a17 :: a18 :: some (.lst ws) :: σ) G = fzL ws G fun zs G' => t D (a0 :: a1 :: a2 :: a3 :: a4 :: a5 :: a6 :: a7 :: a8 :: a9 :: a10 :: a11 :: a12 :: a13 :: a14 :: a15 :: a16 :: a17 :: a18 :: some (.lst zs) :: σ) G' := rfl
theorem f_20 {t : TSw} {p : Addr} {D : EndsW} {G : Gp} {σ : SW} {a0 a1 a2 a3 a4 a5 a6 a7 a8 a9 a10 a11 a12 a13 a14 a15 a16 a17 a18 a19 : Option W} : wFz 20 t D (a0 :: a1 :: a2 :: a3 :: a4 :: a5 :: a6 :: a7 :: a8 :: a9 :: a10 :: a11 :: a12 :: a13 :: a14 :: a15 :: a16 :: a17 :: a18 :: a19 :: some (.ref p) :: σ) G = isG (G p) fun ws => t D (a0 :: a1 :: a2 :: a3 :: a4 :: a5 :: a6 :: a7 :: a8 :: a9 :: a10 :: a11 :: a12 :: a13 :: a14 :: a15 :: a16 :: a17 :: a18 :: a19 :: some (.lst ws) :: σ) (gdel G p) := rfl
theorem fl_20 {t : TSw} {ws : List W} {D : EndsW} {G : Gp} {σ : SW} {a0 a1 a2 a3 a4 a5 a6 a7 a8 a9 a10 a11 a12 a13 a14 a15 a16 a17 a18 a19 : Option W} : wFz 20 t D (a0 :: a1 :: a2 :: a3 :: a4 :: a5 :: a6 :: a7 :: a8 :: a9 :: a10 :: a11 :: a12 :: a13 :: a14 :: a15 :: a16 :: a17 :: a18 :: a19 :: some (.lst ws) :: σ) G = t D (a0 :: a1 :: a2 :: a3 :: a4 :: a5 :: a6 :: a7 :: a8 :: a9 :: a10 :: a11 :: a12 :: a13 :: a14 :: a15 :: a16 :: a17 :: a18 :: a19 :: some (.lst ws) :: σ) G := rfl
theorem fn_20 {t : TSw} {ws : List W} {D : EndsW} {G : Gp} {σ : SW} {a0 a1 a2 a3 a4 a5 a6 a7 a8 a9 a10 a11 a12 a13 a14 a15 a16 a17 a18 a19 : Option W} : wFzN 20 t D (a0 :: a1 :: a2 :: a3 :: a4 :: a5 :: a6 :: a7 :: a8 :: a9 :: a10 :: a11 :: a12 :: a13 :: a14 :: a15 :: a16 :: a17 :: a18 :: a19 :: some (.lst ws) :: σ) G = fzL ws G fun zs G' => t D (a0 :: a1 :: a2 :: a3 :: a4 :: a5 :: a6 :: a7 :: a8 :: a9 :: a10 :: a11 :: a12 :: a13 :: a14 :: a15 :: a16 :: a17 :: a18 :: a19 :: some (.lst zs) :: σ) G' := rfl
theorem f_21 {t : TSw} {p : Addr} {D : EndsW} {G : Gp} {σ : SW} {a0 a1 a2 a3 a4 a5 a6 a7 a8 a9 a10 a11 a12 a13 a14 a15 a16 a17 a18 a19 a20 : Option W} : wFz 21 t D (a0 :: a1 :: a2 :: a3 :: a4 :: a5 :: a6 :: a7 :: a8 :: a9 :: a10 :: a11 :: a12 :: a13 :: a14 :: a15 :: a16 :: a17 :: a18 :: a19 :: a20 :: some (.ref p) :: σ) G = isG (G p) fun ws => t D (a0 :: a1 :: a2 :: a3 :: a4 :: a5 :: a6 :: a7 :: a8 :: a9 :: a10 :: a11 :: a12 :: a13 :: a14 :: a15 :: a16 :: a17 :: a18 :: a19 :: a20 :: some (.lst ws) :: σ) (gdel G p) := rfl
theorem fl_21 {t : TSw} {ws : List W} {D : EndsW} {G : Gp} {σ : SW} {a0 a1 a2 a3 a4 a5 a6 a7 a8 a9 a10 a11 a12 a13 a14 a15 a16 a17 a18 a19 a20 : Option W} : wFz 21 t D (a0 :: a1 :: a2 :: a3 :: a4 :: a5 :: a6 :: a7 :: a8 :: a9 :: a10 :: a11 :: a12 :: a13 :: a14 :: a15 :: a16 :: a17 :: a18 :: a19 :: a20 :: some (.lst ws) :: σ) G = t D (a0 :: a1 :: a2 :: a3 :: a4 :: a5 :: a6 :: a7 :: a8 :: a9 :: a10 :: a11 :: a12 :: a13 :: a14 :: a15 :: a16 :: a17 :: a18 :: a19 :: a20 :: some (.lst ws) :: σ) G := rfl
theorem fn_21 {t : TSw} {ws : List W} {D : EndsW} {G : Gp} {σ : SW} {a0 a1 a2 a3 a4 a5 a6 a7 a8 a9 a10 a11 a12 a13 a14 a15 a16 a17 a18 a19 a20 : Option W} : wFzN 21 t D (a0 :: a1 :: a2 :: a3 :: a4 :: a5 :: a6 :: a7 :: a8 :: a9 :: a10 :: a11 :: a12 :: a13 :: a14 :: a15 :: a16 :: a17 :: a18 :: a19 :: a20 :: some (.lst ws) :: σ) G = fzL ws G fun zs G' => t D (a0 :: a1 :: a2 :: a3 :: a4 :: a5 :: a6 :: a7 :: a8 :: a9 :: a10 :: a11 :: a12 :: a13 :: a14 :: a15 :: a16 :: a17 :: a18 :: a19 :: a20 :: some (.lst zs) :: σ) G' := rfl
theorem f_22 {t : TSw} {p : Addr} {D : EndsW} {G : Gp} {σ : SW} {a0 a1 a2 a3 a4 a5 a6 a7 a8 a9 a10 a11 a12 a13 a14 a15 a16 a17 a18 a19 a20 a21 : Option W} : wFz 22 t D (a0 :: a1 :: a2 :: a3 :: a4 :: a5 :: a6 :: a7 :: a8 :: a9 :: a10 :: a11 :: a12 :: a13 :: a14 :: a15 :: a16 :: a17 :: a18 :: a19 :: a20 :: a21 :: some (.ref p) :: σ) G = isG (G p) fun ws => t D (a0 :: a1 :: a2 :: a3 :: a4 :: a5 :: a6 :: a7 :: a8 :: a9 :: a10 :: a11 :: a12 :: a13 :: a14 :: a15 :: a16 :: a17 :: a18 :: a19 :: a20 :: a21 :: some (.lst ws) :: σ) (gdel G p) := rfl
theorem fl_22 {t : TSw} {ws : List W} {D : EndsW} {G : Gp} {σ : SW} {a0 a1 a2 a3 a4 a5 a6 a7 a8 a9 a10 a11 a12 a13 a14 a15 a16 a17 a18 a19 a20 a21 : Option W} : wFz 22 t D (a0 :: a1 :: a2 :: a3 :: a4 :: a5 :: a6 :: a7 :: a8 :: a9 :: a10 :: a11 :: a12 :: a13 :: a14 :: a15 :: a16 :: a17 :: a18 :: a19 :: a20 :: a21 :: some (.lst ws) :: σ) G = t D (a0 :: a1 :: a2 :: a3 :: a4 :: a5 :: a6 :: a7 :: a8 :: a9 :: a10 :: a11 :: a12 :: a13 :: a14 :: a15 :: a16 :: a17 :: a18 :: a19 :: a20 :: a21 :: some (.lst ws) :: σ) G := rfl
theorem fn_22 {t : TSw} {ws : List W} {D : EndsW} {G : Gp} {σ : SW} {a0 a1 a2 a3 a4 a5 a6 a7 a8 a9 a10 a11 a12 a13 a14 a15 a16 a17 a18 a19 a20 a21 : Option W} : wFzN 22 t D (a0 :: a1 :: a2 :: a3 :: a4 :: a5 :: a6 :: a7 :: a8 :: a9 :: a10 :: a11 :: a12 :: a13 :: a14 :: a15 :: a16 :: a17 :: a18 :: a19 :: a20 :: a21 :: some (.lst ws) :: σ) G = fzL ws G fun zs G' => t D (a0 :: a1 :: a2 :: a3 :: a4 :: a5 :: a6 :: a7 :: a8 :: a9 :: a10 :: a11 :: a12 :: a13 :: a14 :: a15 :: a16 :: a17 :: a18 :: a19 :: a20 :: a21 :: some (.lst zs) :: σ) G' := rfl
theorem f_23 {t : TSw} {p : Addr} {D : EndsW} {G : Gp} {σ : SW} {a0 a1 a2 a3 a4 a5 a6 a7 a8 a9 a10 a11 a12 a13 a14 a15 a16 a17 a18 a19 a20 a21 a22 : Option W} : wFz 23 t D (a0 :: a1 :: a2 :: a3 :: a4 :: a5 :: a6 :: a7 :: a8 :: a9 :: a10 :: a11 :: a12 :: a13 :: a14 :: a15 :: a16 :: a17 :: a18 :: a19 :: a20 :: a21 :: a22 :: some (.ref p) :: σ) G = isG (G p) fun ws => t D (a0 :: a1 :: a2 :: a3 :: a4 :: a5 :: a6 :: a7 :: a8 :: a9 :: a10 :: a11 :: a12 :: a13 :: a14 :: a15 :: a16 :: a17 :: a18 :: a19 :: a20 :: a21 :: a22 :: some (.lst ws) :: σ) (gdel G p) := rfl
theorem fl_23 {t : TSw} {ws : List W} {D : EndsW} {G : Gp} {σ : SW} {a0 a1 a2 a3 a4 a5 a6 a7 a8 a9 a10 a11 a12 a13 a14 a15 a16 a17 a18 a19 a20 a21 a22 : Option W} : wFz 23 t D (a0 :: a1 :: a2 :: a3 :: a4 :: a5 :: a6 :: a7 :: a8 :: a9 :: a10 :: a11 :: a12 :: a13 :: a14 :: a15 :: a16 :: a17 :: a18 :: a19 :: a20 :: a21 :: a22 :: some (.lst ws) :: σ) G = t D (a0 :: a1 :: a2 :: a3 :: a4 :: a5 :: a6 :: a7 :: a8 :: a9 :: a10 :: a11 :: a12 :: a13 :: a14 :: a15 :: a16 :: a17 :: a18 :: a19 :: a20 :: a21 :: a22 :: some (.lst ws) :: σ) G := rfl
theorem fn_23 {t : TSw} {ws : List W} {D : EndsW} {G : Gp} {σ : SW} {a0 a1 a2 a3 a4 a5 a6 a7 a8 a9 a10 a11 a12 a13 a14 a15 a16 a17 a18 a19 a20 a21 a22 : Option W} : wFzN 23 t D (a0 :: a1 :: a2 :: a3 :: a4 :: a5 :: a6 :: a7 :: a8 :: a9 :: a10 :: a11 :: a12 :: a13 :: a14 :: a15 :: a16 :: a17 :: a18 :: a19 :: a20 :: a21 :: a22 :: some (.lst ws) :: σ) G = fzL ws G fun zs G' => t D (a0 :: a1 :: a2 :: a3 :: a4 :: a5 :: a6 :: a7 :: a8 :: a9 :: a10 :: a11 :: a12 :: a13 :: a14 :: a15 :: a16 :: a17 :: a18 :: a19 :: a20 :: a21 :: a22 :: some (.lst zs) :: σ) G' := rfl
theorem f_24 {t : TSw} {p : Addr} {D : EndsW} {G : Gp} {σ : SW} {a0 a1 a2 a3 a4 a5 a6 a7 a8 a9 a10 a11 a12 a13 a14 a15 a16 a17 a18 a19 a20 a21 a22 a23 : Option W} : wFz 24 t D (a0 :: a1 :: a2 :: a3 :: a4 :: a5 :: a6 :: a7 :: a8 :: a9 :: a10 :: a11 :: a12 :: a13 :: a14 :: a15 :: a16 :: a17 :: a18 :: a19 :: a20 :: a21 :: a22 :: a23 :: some (.ref p) :: σ) G = isG (G p) fun ws => t D (a0 :: a1 :: a2 :: a3 :: a4 :: a5 :: a6 :: a7 :: a8 :: a9 :: a10 :: a11 :: a12 :: a13 :: a14 :: a15 :: a16 :: a17 :: a18 :: a19 :: a20 :: a21 :: a22 :: a23 :: some (.lst ws) :: σ) (gdel G p) := rfl
theorem fl_24 {t : TSw} {ws : List W} {D : EndsW} {G : Gp} {σ : SW} {a0 a1 a2 a3 a4 a5 a6 a7 a8 a9 a10 a11 a12 a13 a14 a15 a16 a17 a18 a19 a20 a21 a22 a23 : Option W} : wFz 24 t D (a0 :: a1 :: a2 :: a3 :: a4 :: a5 :: a6 :: a7 :: a8 :: a9 :: a10 :: a11 :: a12 :: a13 :: a14 :: a15 :: a16 :: a17 :: a18 :: a19 :: a20 :: a21 :: a22 :: a23 :: some (.lst ws) :: σ) G = t D (a0 :: a1 :: a2 :: a3 :: a4 :: a5 :: a6 :: a7 :: a8 :: a9 :: a10 :: a11 :: a12 :: a13 :: a14 :: a15 :: a16 :: a17 :: a18 :: a19 :: a20 :: a21 :: a22 :: a23 :: some (.lst ws) :: σ) G := rfl
theorem fn_24 {t : TSw} {ws : List W} {D : EndsW} {G : Gp} {σ : SW} {a0 a1 a2 a3 a4 a5 a6 a7 a8 a9 a10 a11 a12 a13 a14 a15 a16 a17 a18 a19 a20 a21 a22 a23 : Option W} : wFzN 24 t D (a0 :: a1 :: a2 :: a3 :: a4 :: a5 :: a6 :: a7 :: a8 :: a9 :: a10 :: a11 :: a12 :: a13 :: a14 :: a15 :: a16 :: a17 :: a18 :: a19 :: a20 :: a21 :: a22 :: a23 :: some (.lst ws) :: σ) G = fzL ws G fun zs G' => t D (a0 :: a1 :: a2 :: a3 :: a4 :: a5 :: a6 :: a7 :: a8 :: a9 :: a10 :: a11 :: a12 :: a13 :: a14 :: a15 :: a16 :: a17 :: a18 :: a19 :: a20 :: a21 :: a22 :: a23 :: some (.lst zs) :: σ) G' := rfl
theorem f_25 {t : TSw} {p : Addr} {D : EndsW} {G : Gp} {σ : SW} {a0 a1 a2 a3 a4 a5 a6 a7 a8 a9 a10 a11 a12 a13 a14 a15 a16 a17 a18 a19 a20 a21 a22 a23 a24 : Option W} : wFz 25 t D (a0 :: a1 :: a2 :: a3 :: a4 :: a5 :: a6 :: a7 :: a8 :: a9 :: a10 :: a11 :: a12 :: a13 :: a14 :: a15 :: a16 :: a17 :: a18 :: a19 :: a20 :: a21 :: a22 :: a23 :: a24 :: some (.ref p) :: σ) G = isG (G p) fun ws => t D (a0 :: a1 :: a2 :: a3 :: a4 :: a5 :: a6 :: a7 :: a8 :: a9 :: a10 :: a11 :: a12 :: a13 :: a14 :: a15 :: a16 :: a17 :: a18 :: a19 :: a20 :: a21 :: a22 :: a23 :: a24 :: some (.lst ws) :: σ) (gdel G p) := rfl
theorem fl_25 {t : TSw} {ws : List W} {D : EndsW} {G : Gp} {σ : SW} {a0 a1 a2 a3 a4 a5 a6 a7 a8 a9 a10 a11 a12 a13 a14 a15 a16 a17 a18 a19 a20 a21 a22 a23 a24 : Option W} : wFz 25 t D (a0 :: a1 :: a2 :: a3 :: a4 :: a5 :: a6 :: a7 :: a8 :: a9 :: a10 :: a11 :: a12 :: a13 :: a14 :: a15 :: a16 :: a17 :: a18 :: a19 :: a20 :: a21 :: a22 :: a23 :: a24 :: some (.lst ws) :: σ) G = t D (a0 :: a1 :: a2 :: a3 :: a4 :: a5 :: a6 :: a7 :: a8 :: a9 :: a10 :: a11 :: a12 :: a13 :: a14 :: a15 :: a16 :: a17 :: a18 :: a19 :: a20 :: a21 :: a22 :: a23 :: a24 :: some (.lst ws) :: σ) G := rfl
theorem fn_25 {t : TSw} {ws : List W} {D : EndsW} {G : Gp} {σ : SW} {a0 a1 a2 a3 a4 a5 a6 a7 a8 a9 a10 a11 a12 a13 a14 a15 a16 a17 a18 a19 a20 a21 a22 a23 a24 : Option W} : wFzN 25 t D (a0 :: a1 :: a2 :: a3 :: a4 :: a5 :: a6 :: a7 :: a8 :: a9 :: a10 :: a11 :: a12 :: a13 :: a14 :: a15 :: a16 :: a17 :: a18 :: a19 :: a20 :: a21 :: a22 :: a23 :: a24 :: some (.lst ws) :: σ) G = fzL ws G fun zs G' => t D (a0 :: a1 :: a2 :: a3 :: a4 :: a5 :: a6 :: a7 :: a8 :: a9 :: a10 :: a11 :: a12 :: a13 :: a14 :: a15 :: a16 :: a17 :: a18 :: a19 :: a20 :: a21 :: a22 :: a23 :: a24 :: some (.lst zs) :: σ) G' := rfl
end WL

namespace WL
open PySem PySem.Spec PyProof.Rows L2
local macro_rules | `(tactic| walk_at "w") => `(tactic| try simp only [↓a_seq, ↓a_asg, ↓a_ifS, ↓a_ret, ↓a_retN, ↓a_next, ↓a_break, ↓a_cont, ↓a_drop, ↓a_for, ↓a_C, ↓a_op, ↓a_un, ↓a_neg, ↓a_CB, ↓a_call, ↓a_nil, ↓a_cons, ↓a_tup, ↓a_lst, ↓a_lstM, ↓a_test, ↓a_and, ↓a_or, ↓a_not, ↓a_yes, ↓a_andV, ↓a_orV, ↓a_notV, ↓a_if, ↓a_isN, ↓a_notN, ↓a_chain, ↓a_BM, ↓a_BM0, ↓a_seqI, ↓a_R1, ↓a_R2, ↓a_zip2, ↓a_zipG2, ↓a_zipG3, ↓a_enumG, ↓a_enum, ↓a_lc, ↓a_lcM, ↓a_lcR, ↓a_forR, ↓a_seqR, ↓a_zip2R, ↓a_zipR, ↓a_lstRg, ↓a_lstRgM, ↓a_lcP, ↓a_lcPM, ↓a_zipTR, ↓a_zipTQ, ↓a_zip3R, ↓a_zip3Q, ↓a_lenSetT, ↓a_slice, ↓a_sliceM, ↓a_pN, ↓a_pS, ↓a_augIx, ↓a_gIx, ↓a_par, ↓a_setF, ↓a_meth, ↓a_make, ↓a_makeZ, ↓a_dnew, ↓a_done, ↓a_dput, ↓a_dget, ↓a_din, ↓a_lenD, ↓a_raise, ↓a_callX, ↓a_retX, ↓a_dropX, ↓a_asgX, ↓a_tryAs, ↓a_isE, ↓a_isET, ↓a_xf, ↓a_callE, ↓a_lstI, ↓v_0, ↓g_0, ↓u_0, ↓v_1, ↓g_1, ↓u_1, ↓v_2, ↓g_2, ↓u_2, ↓v_3, ↓g_3, ↓u_3, ↓v_4, ↓g_4, ↓u_4, ↓v_5, ↓g_5, ↓u_5, ↓v_6, ↓g_6, ↓u_6, ↓v_7, ↓g_7, ↓u_7, ↓v_8, ↓g_8, ↓u_8, ↓v_9, ↓g_9, ↓u_9, ↓v_10, ↓g_10, ↓u_10, ↓v_11, ↓g_11, ↓u_11, ↓v_12, ↓g_12, ↓u_12, ↓v_13, ↓g_13, ↓u_13, ↓v_14, ↓g_14, ↓u_14, ↓v_15, ↓g_15, ↓u_15, ↓v_16, ↓g_16, ↓u_16, ↓v_17, ↓g_17, ↓u_17, ↓v_18, ↓g_18, ↓u_18, ↓v_19, ↓g_19, ↓u_19, ↓v_20, ↓g_20, ↓u_20, ↓v_21, ↓g_21, ↓u_21, ↓v_22, ↓g_22, ↓u_22, ↓v_23, ↓g_23, ↓u_23, ↓v_24, ↓g_24, ↓u_24, ↓v_25, ↓g_25, ↓u_25, ↓f_0, ↓fl_0, ↓fn_0, ↓f_1, ↓fl_1, ↓fn_1, ↓f_2, ↓fl_2, ↓fn_2, ↓f_3, ↓fl_3, ↓fn_3, ↓f_4, ↓fl_4, ↓fn_4, ↓f_5, ↓fl_5, ↓fn_5, ↓f_6, ↓fl_6, ↓fn_6, ↓f_7, ↓fl_7, ↓fn_7, ↓f_8, ↓fl_8, ↓fn_8, ↓f_9, ↓fl_9, ↓fn_9, ↓f_10, ↓fl_10, ↓fn_10, ↓f_11, ↓fl_11, ↓fn_11, ↓f_12, ↓fl_12, ↓fn_12, ↓f_13, ↓fl_13, ↓fn_13, ↓f_14, ↓fl_14, ↓fn_14, ↓f_15, ↓fl_15, ↓fn_15, ↓f_16, ↓fl_16, ↓fn_16, ↓f_17, ↓fl_17, ↓fn_17, ↓f_18, ↓fl_18, ↓fn_18, ↓f_19, ↓fl_19, ↓fn_19, ↓f_20, ↓fl_20, ↓fn_20, ↓f_21, ↓fl_21, ↓fn_21, ↓f_22, ↓fl_22, ↓fn_22, ↓f_23, ↓fl_23, ↓fn_23, ↓f_24, ↓fl_24, ↓fn_24, ↓f_25, ↓fl_25, ↓fn_25, ↓asL_lst, ↓asL_scr, ↓asL_gup, ↓wIx_tup, ↓wIx_lst, ↓wIx_scr, ↓wIx_ref, ↓wIx_str, ↓wAdd_int, ↓wAdd_str, ↓wAdd_tup, ↓wAdd_lst, ↓wII_int, ↓wI2_int, ↓wI1_int, ↓wI1N_int, ↓wI2N_int, ↓wLen_tup, ↓wLen_lst, ↓wLen_scr, ↓wLen_ref, ↓wLen_str, ↓wInt_int, ↓wInt_bl, ↓wStrI_int, ↓wEq_int, ↓wEq_str, ↓wEq_bl, ↓wNe_bl, ↓wNe_int, ↓wNe_str, ↓wEq_tup, ↓wNe_tup, ↓wEq_lst, ↓wNe_lst, ↓setIx_ref, ↓gT_tup, ↓gT_lst, ↓gT_ref, ↓gsC_cons, ↓gsN_nil, ↓wAppend_ref, ↓wPop_ref, ↓wExtend_ref, ↓rgO_int, ↓wAddM_lst, ↓wIsB_bl, ↓wReverse_ref, ↓wRepT_tup, ↓wNotB_bl, ↓wInD_lst, ↓wPopAt_ref, ↓wInsert_ref, ↓refR_ref, ↓seqOf_tup, ↓seqOf_lst, ↓seqOf_scr, ↓seqOf_ref, ↓rng1_int, ↓rng2_int, ↓wIsi_non, ↓wIsi_bl, ↓wIsi_int, ↓wIsi_str, ↓wIsi_tup, ↓wIsi_lst, ↓wIsi_ref, ↓wAll_lst, ↓wAny_lst, ↓wSum_lst, ↓wTuple_tup, ↓wTuple_lst, ↓wTuple_ref, ↓wList_tup, ↓wList_lst, ↓wList_ref, ↓wListM_tup, ↓wListM_lst, ↓wCut_tup, ↓wCut_lst, ↓wCut_ref, ↓wCut_str, ↓wRep_lst, ↓wRepM_lst, ↓zipOf_tup, ↓zipOf_lst, ↓enumOf_lst, ↓enumOf_scr, ↓zipG2_eq, ↓zipG3_eq, ↓enumG_eq, ↓wSorted_eq, ↓wSortedM_eq, ↓wClear_ref, ↓wGet_ref, ↓truO_bl, ↓intO_int, ↓isS_some, ↓isG_lst, ↓setF_ref, ↓isI_ins, ↓dPut_ref, ↓isD_dic, ↓insOf_gup, ↓dicOf_gup, ↓isExc_exc, ↓lstOf_lst, ↓gT'_tup, sdel, keyOf, nk, rangeW_length, sset, skill, swipe, swipe.sforget, lcW, wIn, seqs, inW, eqW, flatW, kdIs, isNon, gup_same, gup_gup, at0, at1, at2, at3, at4, at5, at6, at7, ix0, ix1, ix2, ix3, ix4, ix5, W.bl.injEq, exists_eq_left', List.length_cons, List.length_nil, List.length_map, Nat.zero_add, Nat.reduceAdd, List.set, List.map_cons, List.map_nil, Option.isSome_some, List.all_cons, List.all_nil, List.any_cons, List.any_nil, List.cons_append, List.nil_append, Bool.and_true, Bool.and_self, Bool.or_false, Bool.true_and, Bool.false_and, Bool.and_false, true_and, decide_true, decide_false, Bool.not_true, Bool.not_false, Bool.not_not, Bool.false_eq_true, if_true, if_false, ite_self, beq_self_eq_true])

/-- slots: _law_bag_here 0, _law_many 1, _law_digit 2 -/
def t__law_take : TSw := (wSeq (wIfS (wTest (wOp wGt (wOp wIx (wVar 0) (wC (.int 0))) (wC (.int 0)))) (wSeq (wAsg (wOp wMod (wOp wIx (wVar 0) (wC (.int 0))) (wVar 1)) (gN 2))
    (wSeq (wAsg (wOp wFdiv (wOp wIx (wVar 0) (wC (.int 0))) (wVar 1)) (gIx (wVar 0) (wC (.int 0))))
    (wRet (wVar 2)))) wNext)
    (wSeq (wAsg (wOp wMod (wOp wAdd (wOp wMul (wOp wIx (wVar 0) (wC (.int 1))) (wC (.int 48271))) (wC (.int 7919))) (wC (.int 2147483647))) (gIx (wVar 0) (wC (.int 1))))
    (wRet (wOp wMod (wOp wMod (wOp wMul (wOp wFdiv (wOp wMod (wOp wPow (wOp wIx (wVar 0) (wC (.int 1))) (wC (.int 3))) (wC (.int 2147483587))) (wC (.int 7))) (wC (.int 69621))) (wC (.int 1073741789))) (wVar 1)))))
theorem rd__law_take (ws : List W) (G : Gp) (Q : QW) (E) (h : sp__law_take ws G Q E) : t__law_take { nx := fun _ G' => Q .non G', rt := Cl Q } (startW ["_law_bag_here", "_law_many", "_law_digit"] ws) G := by
  obtain ⟨p, m, c, x, rfl, g, hc, hx, hx2, hm, q⟩ := h
  show t__law_take _ [some (.ref p), some (.int m), none] G
  rw [show G = gup G p (bagO c x) from (gup_self g).symm]
  unfold t__law_take
  walk_at "w"
  split
  · rename_i hp
    rw [fmodP (by omega), fdivP (by omega)]
    exact ⟨by omega, by omega, .inl (q _ _ _ (Int.emod_nonneg _ (by omega)) (Int.emod_lt_of_pos _ hm) (Int.ediv_nonneg hc (by omega)) hx hx2)⟩
  · rw [fmodP (j := 2147483647), fmodP (j := 2147483587), fmodP (j := 1073741789), fmodP (by omega), fdivP]
    have b1 := Int.emod_nonneg (x * 48271 + 7919) (show (2147483647 : Int) ≠ 0 by decide)
    have b2 := Int.emod_lt_of_pos (x * 48271 + 7919) (show (0 : Int) < 2147483647 by decide)
    generalize (x * 48271 + 7919) % 2147483647 = y at b1 b2 ⊢
    have b3 := Int.emod_nonneg (y ^ (3 : Int).toNat) (show (2147483587 : Int) ≠ 0 by decide)
    have b4 := Int.emod_lt_of_pos (y ^ (3 : Int).toNat) (show (0 : Int) < 2147483587 by decide)
    generalize (y ^ (3 : Int).toNat) % 2147483587 = z at b3 b4 ⊢
    refine ⟨cm64 (by omega) (by omega), by decide, cp64 (by omega) (by omega), by decide, by decide, cm64 (by omega) (by omega), by decide, by omega, .inl (q _ _ _ (Int.emod_nonneg _ (by omega)) (Int.emod_lt_of_pos _ hm) hc b1 (by omega))⟩
/-- slots: _law_script 0, _law_at 1, _law_cell 2, _law_mix 3, _law_k 4 -/
def t__law_bag_b1 : TSw := (wAsg (wOp wMod (wOp wAdd (wOp wAdd (wOp wMul (wVar 3) (wC (.int 48271))) (wOp wMul (wOp wMod (wOp wIx (wVar 0) (wVar 4)) (wC (.int 2147483587))) (wOp wAdd (wVar 4) (wC (.int 3))))) (wVar 4)) (wC (.int 2147483629))) (gN 3))
def t__law_bag_r1 : TSw := (wRet (wLstM (wCons (wVar 2) (wCons (wVar 3) wNil))))
def t__law_bag_r2 : TSw := (wSeq (wIfS (wTest (wOp wLt (wVar 2) (wOp wPow (wC (.int 10)) (wC (.int 18))))) (wAsg (wC (.int 0)) (gN 2)) wNext)
    t__law_bag_r1)
def t__law_bag_r3 : TSw := (wSeq (wAsg (wOp wMod (wOp wPow (wOp wAdd (wOp wAdd (wOp wMod (wVar 2) (wC (.int 2147483629))) (wOp wMul (wC (.int 104729)) (wVar 1))) (wC (.int 17))) (wC (.int 5))) (wC (.int 2147483647))) (gN 3))
    (wSeq (wFor [false, true, false, false, true] (iR1 (wCons (wCB (wI2N fun i j => .int (if j < i then j else i)) (wCons (wCB wLen (wCons (wVar 0) wNil)) (wCons (wC (.int 60)) wNil))) wNil)) (gN 4) t__law_bag_b1)
    t__law_bag_r2))
def t__law_bag : TSw := (wSeq (wAsg (wC (.int 0)) (gN 2))
    (wSeq (wIfS (wTest (wOp wLt (wVar 1) (wCB wLen (wCons (wVar 0) wNil)))) (wAsg (wCB (wI1N fun i => .int (if i < 0 then -i else i)) (wCons (wOp wIx (wVar 0) (wVar 1)) wNil)) (gN 2)) wNext)
    t__law_bag_r3))
theorem rd__law_bag (ws : List W) (G : Gp) (Q : QW) (E) (h : sp__law_bag ws G Q E) : t__law_bag { nx := fun _ G' => Q .non G', rt := Cl Q } (startW ["_law_script", "_law_at", "_law_cell", "_law_mix", "_law_k"] ws) G := by
  obtain ⟨ns, k, rfl, hl, hk0, hk1, q⟩ := h
  show t__law_bag _ [some (.scr (ns.map W.int)), some (.int k), none, none, none] G
  have ll : ((ns.map W.int).length : Int) = ns.length := by rw [List.length_map]
  have rest2 : ∀ c x, 0 ≤ c → 0 ≤ x → x < 2147483648 → t__law_bag_r2 { nx := fun _ G' => Q .non G', rt := Cl Q } [some (.scr (ns.map W.int)), none, some (.int c), some (.int x), none] G := by
    intro c x hc hx hx2
    unfold t__law_bag_r2 t__law_bag_r1
    walk_at "w"
    refine ⟨cp64 (by omega) (by omega), ?_⟩
    split
    · exact ⟨by decide, fun p hp => .inl (q p _ _ hp (Int.le_refl 0) hx hx2)⟩
    · exact ⟨by decide, fun p hp => .inl (q p _ _ hp hc hx hx2)⟩
  have rest3 : ∀ c, 0 ≤ c → t__law_bag_r3 { nx := fun _ G' => Q .non G', rt := Cl Q } [some (.scr (ns.map W.int)), some (.int k), some (.int c), none, none] G := by
    intro c hc
    unfold t__law_bag_r3
    walk_at "w"
    rw [fmodP (j := 2147483629), fmodP (j := 2147483647)]
    have b1 := Int.emod_nonneg c (show (2147483629 : Int) ≠ 0 by decide)
    have b2 := Int.emod_lt_of_pos c (show (0 : Int) < 2147483629 by decide)
    refine ⟨by decide, cm64 (by omega) (by omega), cp64 (by omega) (by omega), by decide, ?_, ?_, ?_⟩
    · split <;> omega
    · split <;> omega
    generalize (c % 2147483629 + 104729 * k + 17) ^ (5 : Int).toNat = y
    have b3 := Int.emod_nonneg y (show (2147483647 : Int) ≠ 0 by decide)
    have b4 := Int.emod_lt_of_pos y (show (0 : Int) < 2147483647 by decide)
    refine forW_inv (fun σ G1 => G1 = G ∧ ∃ x, 0 ≤ x ∧ x < 2147483648 ∧ σ = [some (.scr (ns.map W.int)), none, some (.int c), some (.int x), none]) _ _ _ ⟨rfl, _, b3, by omega, rfl⟩ ?_ ?_
    · rintro w hw σ G1 N ⟨rfl, x, hx, hx2, rfl⟩ hN
      obtain ⟨i, hi, rfl⟩ := rangeW_mem hw
      have hi2 : i < ns.length ∧ i < 60 := by
        by_cases h6 : (60 : Int) < ns.length
        · rw [if_pos h6] at hi; omega
        · rw [if_neg h6] at hi; omega
      have ea : atI (ns.map W.int) (0 + (i : Int)) = some (.int ns[i]) := by
        rw [Int.zero_add]
        exact at_nat (by rw [List.getElem?_map, List.getElem?_eq_getElem hi2.1]; rfl)
      unfold t__law_bag_b1
      walk_at "w"
      rw [ea]
      walk_at "w"
      rw [fmodP (j := 2147483587), fmodP (j := 2147483629)]
      have c1 := Int.emod_nonneg ns[i] (show (2147483587 : Int) ≠ 0 by decide)
      have c2 := Int.emod_lt_of_pos ns[i] (show (0 : Int) < 2147483587 by decide)
      generalize ns[i] % 2147483587 = z at c1 c2 ⊢
      refine ⟨cm64 (by omega) (by omega), by decide, cm64 (by omega) (by omega), by decide, hN _ _ ⟨rfl, _, Int.emod_nonneg _ (by decide), Int.lt_trans (Int.emod_lt_of_pos _ (by decide)) (by decide), rfl⟩⟩
    · rintro σ G1 ⟨rfl, x, hx, hx2, rfl⟩
      exact rest2 c x hc hx hx2
  unfold t__law_bag
  walk_at "w"
  split
  · rename_i hlt
    have hlt := of_decide_eq_true hlt
    obtain ⟨v, ev, mv⟩ := at_in (l := ns.map W.int) hk0 (by rw [ll]; exact hlt)
    obtain ⟨i, _, rfl⟩ := List.mem_map.mp mv
    rw [ev]
    walk_at "w"
    exact rest3 _ (by split <;> omega)
  · exact rest3 0 (Int.le_refl 0)
theorem len__law_take (ws G Q E) (h : sp__law_take ws G Q E) : ws.length = 2 := by obtain ⟨_, _, _, _, rfl, _⟩ := h; rfl
theorem len__law_bag (ws G Q E) (h : sp__law_bag ws G Q E) : ws.length = 2 := by obtain ⟨_, _, rfl, _⟩ := h; rfl
theorem len_law (ws G Q E) (h : sp_law ws G Q E) : ws.length = 1 := by obtain ⟨_, rfl, _⟩ := h; rfl
end WL


namespace WL
open PySem PySem.Spec PyProof.Rows L2
local macro_rules | `(tactic| walk_at "w") => `(tactic| try simp only [↓a_seq, ↓a_asg, ↓a_ifS, ↓a_ret, ↓a_retN, ↓a_next, ↓a_break, ↓a_cont, ↓a_drop, ↓a_for, ↓a_C, ↓a_op, ↓a_un, ↓a_neg, ↓a_CB, ↓a_call, ↓a_nil, ↓a_cons, ↓a_tup, ↓a_lst, ↓a_lstM, ↓a_test, ↓a_and, ↓a_or, ↓a_not, ↓a_yes, ↓a_andV, ↓a_orV, ↓a_notV, ↓a_if, ↓a_isN, ↓a_notN, ↓a_chain, ↓a_BM, ↓a_BM0, ↓a_seqI, ↓a_R1, ↓a_R2, ↓a_zip2, ↓a_zipG2, ↓a_zipG3, ↓a_enumG, ↓a_enum, ↓a_lc, ↓a_lcM, ↓a_lcR, ↓a_forR, ↓a_seqR, ↓a_zip2R, ↓a_zipR, ↓a_lstRg, ↓a_lstRgM, ↓a_lcP, ↓a_lcPM, ↓a_zipTR, ↓a_zipTQ, ↓a_zip3R, ↓a_zip3Q, ↓a_lenSetT, ↓a_slice, ↓a_sliceM, ↓a_pN, ↓a_pS, ↓a_augIx, ↓a_gIx, ↓a_par, ↓a_setF, ↓a_meth, ↓a_make, ↓a_makeZ, ↓a_dnew, ↓a_done, ↓a_dput, ↓a_dget, ↓a_din, ↓a_lenD, ↓a_raise, ↓a_callX, ↓a_retX, ↓a_dropX, ↓a_asgX, ↓a_tryAs, ↓a_isE, ↓a_isET, ↓a_xf, ↓a_callE, ↓a_lstI, ↓v_0, ↓g_0, ↓u_0, ↓v_1, ↓g_1, ↓u_1, ↓v_2, ↓g_2, ↓u_2, ↓v_3, ↓g_3, ↓u_3, ↓v_4, ↓g_4, ↓u_4, ↓v_5, ↓g_5, ↓u_5, ↓v_6, ↓g_6, ↓u_6, ↓v_7, ↓g_7, ↓u_7, ↓v_8, ↓g_8, ↓u_8, ↓v_9, ↓g_9, ↓u_9, ↓v_10, ↓g_10, ↓u_10, ↓v_11, ↓g_11, ↓u_11, ↓v_12, ↓g_12, ↓u_12, ↓v_13, ↓g_13, ↓u_13, ↓v_14, ↓g_14, ↓u_14, ↓v_15, ↓g_15, ↓u_15, ↓v_16, ↓g_16, ↓u_16, ↓v_17, ↓g_17, ↓u_17, ↓v_18, ↓g_18, ↓u_18, ↓v_19, ↓g_19, ↓u_19, ↓v_20, ↓g_20, ↓u_20, ↓v_21, ↓g_21, ↓u_21, ↓v_22, ↓g_22, ↓u_22, ↓v_23, ↓g_23, ↓u_23, ↓v_24, ↓g_24, ↓u_24, ↓v_25, ↓g_25, ↓u_25, ↓f_0, ↓fl_0, ↓fn_0, ↓f_1, ↓fl_1, ↓fn_1, ↓f_2, ↓fl_2, ↓fn_2, ↓f_3, ↓fl_3, ↓fn_3, ↓f_4, ↓fl_4, ↓fn_4, ↓f_5, ↓fl_5, ↓fn_5, ↓f_6, ↓fl_6, ↓fn_6, ↓f_7, ↓fl_7, ↓fn_7, ↓f_8, ↓fl_8, ↓fn_8, ↓f_9, ↓fl_9, ↓fn_9, ↓f_10, ↓fl_10, ↓fn_10, ↓f_11, ↓fl_11, ↓fn_11, ↓f_12, ↓fl_12, ↓fn_12, ↓f_13, ↓fl_13, ↓fn_13, ↓f_14, ↓fl_14, ↓fn_14, ↓f_15, ↓fl_15, ↓fn_15, ↓f_16, ↓fl_16, ↓fn_16, ↓f_17, ↓fl_17, ↓fn_17, ↓f_18, ↓fl_18, ↓fn_18, ↓f_19, ↓fl_19, ↓fn_19, ↓f_20, ↓fl_20, ↓fn_20, ↓f_21, ↓fl_21, ↓fn_21, ↓f_22, ↓fl_22, ↓fn_22, ↓f_23, ↓fl_23, ↓fn_23, ↓f_24, ↓fl_24, ↓fn_24, ↓f_25, ↓fl_25, ↓fn_25, ↓asL_lst, ↓asL_scr, ↓asL_gup, ↓wIx_tup, ↓wIx_lst, ↓wIx_scr, ↓wIx_ref, ↓wIx_str, ↓wAdd_int, ↓wAdd_str, ↓wAdd_tup, ↓wAdd_lst, ↓wII_int, ↓wI2_int, ↓wI1_int, ↓wI1N_int, ↓wI2N_int, ↓wLen_tup, ↓wLen_lst, ↓wLen_scr, ↓wLen_ref, ↓wLen_str, ↓wInt_int, ↓wInt_bl, ↓wStrI_int, ↓wEq_int, ↓wEq_str, ↓wEq_bl, ↓wNe_bl, ↓wNe_int, ↓wNe_str, ↓wEq_tup, ↓wNe_tup, ↓wEq_lst, ↓wNe_lst, ↓setIx_ref, ↓gT_tup, ↓gT_lst, ↓gT_ref, ↓gsC_cons, ↓gsN_nil, ↓wAppend_ref, ↓wPop_ref, ↓wExtend_ref, ↓rgO_int, ↓wAddM_lst, ↓wIsB_bl, ↓wReverse_ref, ↓wRepT_tup, ↓wNotB_bl, ↓wInD_lst, ↓wPopAt_ref, ↓wInsert_ref, ↓refR_ref, ↓seqOf_tup, ↓seqOf_lst, ↓seqOf_scr, ↓seqOf_ref, ↓rng1_int, ↓rng2_int, ↓wIsi_non, ↓wIsi_bl, ↓wIsi_int, ↓wIsi_str, ↓wIsi_tup, ↓wIsi_lst, ↓wIsi_ref, ↓wAll_lst, ↓wAny_lst, ↓wSum_lst, ↓wTuple_tup, ↓wTuple_lst, ↓wTuple_ref, ↓wList_tup, ↓wList_lst, ↓wList_ref, ↓wListM_tup, ↓wListM_lst, ↓wCut_tup, ↓wCut_lst, ↓wCut_ref, ↓wCut_str, ↓wRep_lst, ↓wRepM_lst, ↓zipOf_tup, ↓zipOf_lst, ↓enumOf_lst, ↓enumOf_scr, ↓zipG2_eq, ↓zipG3_eq, ↓enumG_eq, ↓wSorted_eq, ↓wSortedM_eq, ↓wClear_ref, ↓wGet_ref, ↓truO_bl, ↓intO_int, ↓isS_some, ↓isG_lst, ↓setF_ref, ↓isI_ins, ↓dPut_ref, ↓isD_dic, ↓insOf_gup, ↓dicOf_gup, ↓isExc_exc, ↓lstOf_lst, ↓gT'_tup, sdel, keyOf, nk, rangeW_length, sset, skill, swipe, swipe.sforget, lcW, wIn, seqs, inW, eqW, flatW, kdIs, isNon, gup_same, gup_gup, at0, at1, at2, at3, at4, at5, at6, at7, ix0, ix1, ix2, ix3, ix4, ix5, W.bl.injEq, exists_eq_left', List.length_cons, List.length_nil, List.length_map, Nat.zero_add, Nat.reduceAdd, List.set, List.map_cons, List.map_nil, Option.isSome_some, List.all_cons, List.all_nil, List.any_cons, List.any_nil, List.cons_append, List.nil_append, Bool.and_true, Bool.and_self, Bool.or_false, Bool.true_and, Bool.false_and, Bool.and_false, true_and, decide_true, decide_false, Bool.not_true, Bool.not_false, Bool.not_not, Bool.false_eq_true, if_true, if_false, ite_self, beq_self_eq_true])

/-! ### fractions: the rationals -/
abbrev fr (q : Rat) : W := .tup [.int q.num, .int (q.den : Int)]
theorem natAbs_fmod_lt (u : Int) {v : Int} (h : v ≠ 0) : (u.fmod v).natAbs < v.natAbs := by
  rw [Int.fmod_eq_emod]
  have h1 := Int.emod_nonneg u h
  have h2 : u % v < v.natAbs := Int.emod_lt u h
  by_cases c : 0 ≤ v ∨ v ∣ u
  · rw [if_pos c]; omega
  · rw [if_neg c]
    have h3 : u % v ≠ 0 := fun z => c (.inr (Int.dvd_of_emod_eq_zero z))
    omega
theorem gcd_fmod (u v : Int) : Int.gcd v (u.fmod v) = Int.gcd u v := by
  rw [Int.fmod_def, Int.gcd_sub_mul_left_right, Int.gcd_comm]
/-- the quotients by a sign's greatest common divisor -/
theorem fdiv_exact {a b : Int} (h : b ∣ a) : a.fdiv b = a / b := by rw [Int.fdiv_eq_ediv, if_pos (.inr h)]; omega
theorem divInt_parts {a b : Int} (hb : b ≠ 0) (p : Int) (hp : p = if b < 0 then -((Int.gcd a b : Nat) : Int) else ((Int.gcd a b : Nat) : Int)) :
    p ≠ 0 ∧ a.fdiv p = (Rat.divInt a b).num ∧ b.fdiv p = ((Rat.divInt a b).den : Int) := by
  have g0 : 0 < Int.gcd a b := Int.gcd_pos_of_ne_zero_right a hb
  have da : ((Int.gcd a b : Nat) : Int) ∣ a := Int.gcd_dvd_left a b
  have db : ((Int.gcd a b : Nat) : Int) ∣ b := Int.gcd_dvd_right a b
  have hn := Rat.num_divInt a b
  have hd := Rat.den_divInt a b
  rw [if_neg hb] at hd
  rw [hn, hd, Int.gcd_comm b a]
  by_cases c : b < 0
  · rw [if_pos c] at hp
    subst hp
    refine ⟨by omega, ?_, ?_⟩
    · rw [fdiv_exact (Int.neg_dvd.mpr da), Int.sign_eq_neg_one_of_neg c, Int.ediv_neg, show -1 * a = -a by omega, Int.neg_ediv_of_dvd da]
    · rw [fdiv_exact (Int.neg_dvd.mpr db), Int.ediv_neg, Int.natCast_ediv, ← Int.neg_ediv_of_dvd db]
      rw [show ((b.natAbs : Nat) : Int) = -b by omega]
  · rw [if_neg c] at hp
    subst hp
    refine ⟨by omega, ?_, ?_⟩
    · rw [fdiv_exact da, Int.sign_eq_one_of_pos (by omega), Int.one_mul]
    · rw [fdiv_exact db, Int.natCast_ediv, show ((b.natAbs : Nat) : Int) = b by omega]
/-! ### sums, differences, products, quotients -/
/-- of so many bits -/
def sz (n : Nat) (q : Rat) : Prop := q.num.natAbs < 2 ^ n ∧ q.den < 2 ^ n
theorem sz_mono {n m : Nat} {q : Rat} (h : sz n q) (hm : n ≤ m) : sz m q :=
  ⟨Nat.lt_of_lt_of_le h.1 (Nat.pow_le_pow_right (by decide) hm), Nat.lt_of_lt_of_le h.2 (Nat.pow_le_pow_right (by decide) hm)⟩
theorem sz_pos {n : Nat} {q : Rat} (h : sz n q) : 0 < n := by
  have h1 := h.2
  have h2 := q.den_pos
  cases n with
  | zero => rw [Nat.pow_zero] at h1; omega
  | succ n => exact Nat.succ_pos n
theorem sz_divInt {a b : Int} {n : Nat} (hb : b ≠ 0) (ha : a.natAbs < 2 ^ n) (hb2 : b.natAbs < 2 ^ n) : sz n (Rat.divInt a b) := by
  obtain ⟨h0, h1, h2⟩ := divInt_parts (a := a) hb _ rfl
  have da : (if b < 0 then -((Int.gcd a b : Nat) : Int) else ((Int.gcd a b : Nat) : Int)) ∣ a := by
    split
    · exact Int.neg_dvd.mpr (Int.gcd_dvd_left a b)
    · exact Int.gcd_dvd_left a b
  have db : (if b < 0 then -((Int.gcd a b : Nat) : Int) else ((Int.gcd a b : Nat) : Int)) ∣ b := by
    split
    · exact Int.neg_dvd.mpr (Int.gcd_dvd_right a b)
    · exact Int.gcd_dvd_right a b
  rw [fdiv_exact da] at h1
  rw [fdiv_exact db] at h2
  have e1 := Int.natAbs_ediv_le_natAbs a (if b < 0 then -((Int.gcd a b : Nat) : Int) else ((Int.gcd a b : Nat) : Int))
  have e2 := Int.natAbs_ediv_le_natAbs b (if b < 0 then -((Int.gcd a b : Nat) : Int) else ((Int.gcd a b : Nat) : Int))
  rw [h1] at e1
  rw [h2] at e2
  exact ⟨by omega, by omega⟩
theorem natAbs_mul_lt {i j : Int} {a b : Nat} (ha : i.natAbs < 2 ^ a) (hb : j.natAbs < 2 ^ b) : (i * j).natAbs < 2 ^ (a + b) := by
  rw [Int.natAbs_mul, Nat.pow_add]
  exact Nat.mul_lt_mul'' ha hb
theorem sz_num {n : Nat} {q : Rat} (h : sz n q) : q.num.natAbs < 2 ^ n := h.1
theorem sz_den {n : Nat} {q : Rat} (h : sz n q) : (q.den : Int).natAbs < 2 ^ n := h.2
theorem add_divInt (u v : Rat) : u + v = Rat.divInt (u.num * v.den + v.num * u.den) (u.den * v.den) := by
  have hu : (u.den : Int) ≠ 0 := by have := u.den_pos; omega
  have hv : (v.den : Int) ≠ 0 := by have := v.den_pos; omega
  have e := Rat.divInt_add_divInt u.num v.num hu hv
  rw [Rat.num_divInt_den, Rat.num_divInt_den] at e
  exact e
theorem sub_divInt (u v : Rat) : u - v = Rat.divInt (u.num * v.den - v.num * u.den) (u.den * v.den) := by
  have hu : (u.den : Int) ≠ 0 := by have := u.den_pos; omega
  have hv : (v.den : Int) ≠ 0 := by have := v.den_pos; omega
  have e := Rat.divInt_sub_divInt u.num v.num hu hv
  rw [Rat.num_divInt_den, Rat.num_divInt_den] at e
  exact e
theorem mul_divInt (u v : Rat) : u * v = Rat.divInt (u.num * v.num) (u.den * v.den) := by
  have e := Rat.divInt_mul_divInt u.num v.num (d₁ := u.den) (d₂ := v.den)
  rw [Rat.num_divInt_den, Rat.num_divInt_den] at e
  exact e
theorem div_divInt (u v : Rat) : u / v = Rat.divInt (u.num * v.den) (u.den * v.num) := by
  have e := Rat.divInt_mul_divInt u.num v.den (d₁ := u.den) (d₂ := v.num)
  rw [← Rat.inv_divInt v.num v.den, Rat.num_divInt_den, Rat.num_divInt_den, ← Rat.div_def] at e
  exact e
/-- so many bits, of a sum, a difference, a product, a quotient -/
theorem natAbs_add_lt {i j : Int} {n : Nat} (ha : i.natAbs < 2 ^ n) (hb : j.natAbs < 2 ^ n) : (i + j).natAbs < 2 ^ (n + 1) := by
  rw [Nat.pow_succ]; omega
theorem natAbs_sub_lt {i j : Int} {n : Nat} (ha : i.natAbs < 2 ^ n) (hb : j.natAbs < 2 ^ n) : (i - j).natAbs < 2 ^ (n + 1) := by
  rw [Nat.pow_succ]; omega
theorem pow_up {i : Int} {n m : Nat} (h : i.natAbs < 2 ^ n) (e : n ≤ m) : i.natAbs < 2 ^ m := Nat.lt_of_lt_of_le h (Nat.pow_le_pow_right (by decide) e)
theorem den_ne (u v : Rat) : (u.den : Int) * v.den ≠ 0 := Int.mul_ne_zero (by have := u.den_pos; omega) (by have := v.den_pos; omega)
theorem sz_add {u v : Rat} {a b : Nat} (hu : sz a u) (hv : sz b v) : sz (a + b + 1) (u + v) := by
  rw [add_divInt]
  refine sz_divInt (den_ne u v) (natAbs_add_lt (natAbs_mul_lt (sz_num hu) (sz_den hv)) ?_) (pow_up (natAbs_mul_lt (sz_den hu) (sz_den hv)) (by omega))
  rw [Nat.add_comm a b]
  exact natAbs_mul_lt (sz_num hv) (sz_den hu)
theorem sz_sub {u v : Rat} {a b : Nat} (hu : sz a u) (hv : sz b v) : sz (a + b + 1) (u - v) := by
  rw [sub_divInt]
  refine sz_divInt (den_ne u v) (natAbs_sub_lt (natAbs_mul_lt (sz_num hu) (sz_den hv)) ?_) (pow_up (natAbs_mul_lt (sz_den hu) (sz_den hv)) (by omega))
  rw [Nat.add_comm a b]
  exact natAbs_mul_lt (sz_num hv) (sz_den hu)
theorem sz_mul {u v : Rat} {a b : Nat} (hu : sz a u) (hv : sz b v) : sz (a + b) (u * v) := by
  rw [mul_divInt]
  exact sz_divInt (den_ne u v) (natAbs_mul_lt (sz_num hu) (sz_num hv)) (natAbs_mul_lt (sz_den hu) (sz_den hv))
theorem num_ne {v : Rat} (h : v ≠ 0) : v.num ≠ 0 := fun e => h (Rat.num_eq_zero.mp e)
theorem sz_div {u v : Rat} {a b : Nat} (h : v ≠ 0) (hu : sz a u) (hv : sz b v) : sz (a + b) (u / v) := by
  rw [div_divInt]
  exact sz_divInt (Int.mul_ne_zero (by have := u.den_pos; omega) (num_ne h)) (natAbs_mul_lt (sz_num hu) (sz_den hv)) (natAbs_mul_lt (sz_den hu) (sz_num hv))
/-- two fractions of so many bits together -/
def sz2 (u v : Rat) : Prop := ∃ a b, sz a u ∧ sz b v ∧ a + b ≤ 134000000
theorem sz2.m1 {u v : Rat} (h : sz2 u v) : CMulX u.num v.den := by obtain ⟨a, b, h1, h2, h3⟩ := h; exact cmX (sz_num h1) (sz_den h2) (sz_pos h1) (sz_pos h2) (by omega)
theorem sz2.m2 {u v : Rat} (h : sz2 u v) : CMulX v.num u.den := by obtain ⟨a, b, h1, h2, h3⟩ := h; exact cmX (sz_num h2) (sz_den h1) (sz_pos h2) (sz_pos h1) (by omega)
theorem sz2.m3 {u v : Rat} (h : sz2 u v) : CMulX u.den v.den := by obtain ⟨a, b, h1, h2, h3⟩ := h; exact cmX (sz_den h1) (sz_den h2) (sz_pos h1) (sz_pos h2) (by omega)
theorem sz2.m4 {u v : Rat} (h : sz2 u v) : CMulX u.num v.num := by obtain ⟨a, b, h1, h2, h3⟩ := h; exact cmX (sz_num h1) (sz_num h2) (sz_pos h1) (sz_pos h2) (by omega)
theorem sz2.m5 {u v : Rat} (h : sz2 u v) : CMulX u.den v.num := by obtain ⟨a, b, h1, h2, h3⟩ := h; exact cmX (sz_den h1) (sz_num h2) (sz_pos h1) (sz_pos h2) (by omega)
end WL


namespace WL
open PySem PySem.Spec PyProof.Rows L2

/-! ### data that may be compared -/
def wD (d : Nat) (w : W) : Prop := wpure w = true ∧ (wdat w).canLay0 = true ∧ (wdat w).depth ≤ d
theorem wD_int {i : Int} : wD 0 (.int i) := ⟨rfl, by simp [wdat, PyData.canLay0], by simp [wdat, PyData.depth]⟩
theorem wD_bl {b : Bool} : wD 0 (.bl b) := ⟨rfl, by simp [wdat, PyData.canLay0], by simp [wdat, PyData.depth]⟩
theorem wD_non : wD 0 .non := ⟨rfl, by simp [wdat, PyData.canLay0], by simp [wdat, PyData.depth]⟩
theorem wD_mono {d e : Nat} {w : W} (h : wD d w) (l : d ≤ e) : wD e w := ⟨h.1, h.2.1, Nat.le_trans h.2.2 l⟩
theorem wDs {d : Nat} : ∀ {ws : List W}, (∀ w ∈ ws, wD d w) → wpures ws = true ∧ PyData.canLayAll0 (wdats ws) = true ∧ PyData.depthAll (wdats ws) ≤ d
  | [], _ => ⟨rfl, by simp [wdats, PyData.canLayAll0], by simp [wdats, PyData.depthAll]⟩
  | w :: ws, h => by
    obtain ⟨a, b, c⟩ := h w (.head _)
    obtain ⟨a', b', c'⟩ := wDs (d := d) (ws := ws) fun v m => h v (.tail _ m)
    refine ⟨by simp [wpures, a, a'], by simp [wdats, PyData.canLayAll0, b, b'], ?_⟩
    simp only [wdats, PyData.depthAll]
    omega
theorem wD_tup {d : Nat} {ws : List W} (h : ∀ w ∈ ws, wD d w) : wD (d + 1) (.tup ws) := by
  obtain ⟨a, b, c⟩ := wDs h
  exact ⟨by simpa [wpure] using a, by simpa [wdat, PyData.canLay0] using b, by simpa [wdat, PyData.depth] using c⟩
theorem wD_lst {d : Nat} {ws : List W} (h : ∀ w ∈ ws, wD d w) : wD (d + 1) (.lst ws) := by
  obtain ⟨a, b, c⟩ := wDs h
  exact ⟨by simpa [wpure] using a, by simpa [wdat, PyData.canLay0] using b, by simpa [wdat, PyData.depth] using c⟩
theorem wOk_of {d : Nat} {w : W} (h : wD d w) (l : d ≤ 64) : wOk w := ⟨h.1, by unfold SeqAt.shaped; rw [h.2.1, Bool.true_and]; exact decide_eq_true (Nat.le_trans h.2.2 l)⟩
theorem weqb_self {d : Nat} {w : W} (h : wD d w) : weqb w w = true := SeqAt.eqv_refl _ h.2.1
theorem wD_fr (u : Rat) : wD 1 (fr u) := wD_tup fun w h => by
  simp only [List.mem_cons, List.not_mem_nil, or_false] at h
  rcases h with rfl | rfl <;> exact wD_int
theorem wNe_lref {p : Addr} {ws us : List W} {G : Gp} {Q : QW} (h : G p = some (.lst ws)) : wNe (.ref p) (.lst us) G Q = (wOk (.lst ws) ∧ wOk (.lst us) ∧ Q (.bl (!weqb (.lst ws) (.lst us))) G) := by
  have e : wder G (.ref p) = .lst ws := by show (match G p with | some (.lst ws) => W.lst ws | _ => .ref p) = .lst ws; rw [h]
  have f : wNe (.ref p) (.lst us) G Q = (wOk (wder G (.ref p)) ∧ wOk (wder G (.lst us)) ∧ Q (.bl (!weqb (wder G (.ref p)) (wder G (.lst us)))) G) := rfl
  rw [f, e]
  rfl
theorem wEq_lref {p : Addr} {ws us : List W} {G : Gp} {Q : QW} (h : G p = some (.lst ws)) : wEq (.ref p) (.lst us) G Q = (wOk (.lst ws) ∧ wOk (.lst us) ∧ Q (.bl (weqb (.lst ws) (.lst us))) G) := by
  have e : wder G (.ref p) = .lst ws := by show (match G p with | some (.lst ws) => W.lst ws | _ => .ref p) = .lst ws; rw [h]
  have f : wEq (.ref p) (.lst us) G Q = (wOk (wder G (.ref p)) ∧ wOk (wder G (.lst us)) ∧ Q (.bl (weqb (wder G (.ref p)) (wder G (.lst us)))) G) := rfl
  rw [f, e]
  rfl
/-! ### two things in the small heap -/
theorem wNe_lrr {p : Addr} {ws us : List W} {G : Gp} {Q : QW} (h : G p = some (.lst ws)) : wNe (.lst us) (.ref p) G Q = (wOk (.lst us) ∧ wOk (.lst ws) ∧ Q (.bl (!weqb (.lst us) (.lst ws))) G) := by
  show (wOk (wder G (.lst us)) ∧ wOk (wder G (.ref p)) ∧ Q (.bl (!weqb (wder G (.lst us)) (wder G (.ref p)))) G) = _
  have e : wder G (.ref p) = .lst ws := by simp only [wder, h]
  rw [e]
  rfl
theorem wEq_lrr {p : Addr} {ws us : List W} {G : Gp} {Q : QW} (h : G p = some (.lst ws)) : wEq (.lst us) (.ref p) G Q = (wOk (.lst us) ∧ wOk (.lst ws) ∧ Q (.bl (weqb (.lst us) (.lst ws))) G) := by
  show (wOk (wder G (.lst us)) ∧ wOk (wder G (.ref p)) ∧ Q (.bl (weqb (wder G (.lst us)) (wder G (.ref p)))) G) = _
  have e : wder G (.ref p) = .lst ws := by simp only [wder, h]
  rw [e]
  rfl
theorem gup_in {G : Gp} {p q : Addr} {a b r : GO} (h : p ≠ q) : gup (gup (gup G p a) q r) p b = gup (gup G p b) q r := by
  funext x
  unfold gup
  by_cases c : x = p
  · subst c; rw [if_pos rfl, if_neg h, if_pos rfl]
  · rw [if_neg c, if_neg c, if_neg c]
theorem gup_fresh {G : Gp} {p q : Addr} {a : GO} (h : gup G p a q = none) : q ≠ p ∧ G q = none := by
  unfold gup at h
  split at h
  · cases h
  · exact ⟨by assumption, h⟩
/-! ### cuts -/
theorem cut_from {α : Type} (f : α → W) (xs : List α) {k : Nat} (h : k ≤ xs.length) : cutW (xs.map f) (some ((k : Nat) : Int)) none = (xs.drop k).map f := by
  unfold cutW
  rw [HT.sIx_nat, HT.sIx_none, List.length_map, Nat.min_eq_left h, List.map_drop]
  rw [List.take_of_length_le (by rw [List.length_drop, List.length_map]; omega)]
theorem cut_1 {α : Type} (f : α → W) (xs : List α) (h : 1 ≤ xs.length) : cutW (xs.map f) (some 1) none = (xs.drop 1).map f := cut_from f xs (k := 1) h
theorem cut_to {α : Type} (f : α → W) (xs : List α) {k : Nat} (h : k ≤ xs.length) : cutW (xs.map f) none (some ((k : Nat) : Int)) = (xs.take k).map f := by
  unfold cutW
  rw [HT.sIx_nat, HT.sIx_none, List.length_map, Nat.min_eq_left h, List.map_take, Nat.sub_zero, List.drop_zero]
/-! ### comprehensions -/
theorem lcW_mapA {α : Type} {gw : TGw} {te : TEw} {σ : SW} {G : Gp} (g h : α → W) : ∀ (xs : List α) (acc : List W) (Q : List W → Gp → Prop),
    (∀ x ∈ xs, ∀ P : QW, P (h x) G → gw (g x) σ G fun σ1 G1 => te σ1 G1 P) → Q (acc ++ xs.map h) G → lcW gw wYes te σ (xs.map g) acc G Q
  | [], acc, Q, _, q => by simpa [lcW] using q
  | x :: xs, acc, Q, hh, q => by
    have h1 := hh x (.head _) (fun y G3 => lcW gw wYes te σ (xs.map g) (acc ++ [y]) G3 Q) (lcW_mapA g h xs (acc ++ [h x]) Q (fun w' hw => hh w' (.tail _ hw)) (by simpa using q))
    simpa only [List.map_cons, lcW, wYes, if_true] using h1
theorem lcW_m {α : Type} {gw : TGw} {te : TEw} {σ : SW} {G : Gp} (g h : α → W) (xs : List α) (Q : List W → Gp → Prop) (hs : ∀ x ∈ xs, ∀ P : QW, P (h x) G → gw (g x) σ G fun σ1 G1 => te σ1 G1 P) (hd : Q (xs.map h) G) : lcW gw wYes te σ (xs.map g) [] G Q :=
  lcW_mapA g h xs [] Q hs (by rw [List.nil_append]; exact hd)
theorem lcR_mapA {α : Type} {p : Addr} {us : List W} {gw : TGw} {te : TEw} {σ : SW} {G : Gp} (hp : G p = some (.lst us)) (g h : α → W) : ∀ (xs : List α) (acc : List W) (Q : List W → Gp → Prop),
    (∀ x ∈ xs, ∀ P : QW, P (h x) G → gw (g x) σ G fun σ1 G1 => te σ1 G1 P) → Q (acc ++ xs.map h) G → lcR p us gw wYes te σ (xs.map g) acc G Q
  | [], acc, Q, _, q => ⟨hp, by simpa using q⟩
  | x :: xs, acc, Q, hh, q => ⟨hp, hh x (.head _) (fun y G3 => lcR p us gw wYes te σ (xs.map g) (acc ++ [y]) G3 Q) (lcR_mapA hp g h xs (acc ++ [h x]) Q (fun w' hw => hh w' (.tail _ hw)) (by simpa using q))⟩
/-- a comprehension that draws: P by what was told and the heap -/
theorem lcW_step {gw : TGw} {te : TEw} {σ : SW} (P : Nat → List W → Gp → Prop) : ∀ (items : List W) (k : Nat) (acc : List W) (G : Gp) (Q : List W → Gp → Prop), P k acc G →
    (∀ w ∈ items, ∀ k acc G (N : QW), P k acc G → (∀ y G', P (k + 1) (acc ++ [y]) G' → N y G') → gw w σ G fun σ1 G1 => te σ1 G1 N) → (∀ acc G, P (k + items.length) acc G → Q acc G) → lcW gw wYes te σ items acc G Q
  | [], k, acc, G, Q, p, _, q => by simpa [lcW] using q acc G p
  | w :: ws, k, acc, G, Q, p, hh, q => by
    have h1 := hh w (.head _) k acc G (fun y G3 => lcW gw wYes te σ ws (acc ++ [y]) G3 Q) p fun y G' p' => lcW_step P ws (k + 1) _ G' Q p' (fun w' m => hh w' (.tail _ m)) fun acc G p2 => q acc G (by rw [List.length_cons]; rw [show k + (ws.length + 1) = k + 1 + ws.length by omega]; exact p2)
    simpa only [lcW, wYes, if_true] using h1
/-! ### the bag stands -/
abbrev BagAt (p : Addr) (G : Gp) : Prop := ∃ c x, G p = some (bagO c x) ∧ 0 ≤ c ∧ 0 ≤ x ∧ x < 2147483648
theorem asL_at {G : Gp} {p : Addr} {ws : List W} (h : G p = some (.lst ws)) : asL G (.ref p) = some ws := by
  show (match G p with | some (.lst ws) => some ws | _ => none) = _
  rw [h]
theorem isG_at {G : Gp} {p : Addr} {ws : List W} {P : List W → Prop} (h : G p = some (.lst ws)) : isG (G p) P = P ws := by rw [h, isG_lst]
theorem BagAt.up {p q : Addr} {G : Gp} {o : GO} (h : BagAt p G) (ne : p ≠ q) : BagAt p (gup G q o) := by
  obtain ⟨c, x, g, r⟩ := h
  exact ⟨c, x, by rw [gup_ne ne]; exact g, r⟩
theorem BagAt.del {p q : Addr} {G : Gp} (h : BagAt p G) (ne : p ≠ q) : BagAt p (gdel G q) := by
  obtain ⟨c, x, g, r⟩ := h
  exact ⟨c, x, by rw [gdel_ne ne]; exact g, r⟩
theorem BagAt.ne {p q : Addr} {G : Gp} (h : BagAt p G) (n : G q = none) : p ≠ q := fun z => by
  obtain ⟨c, x, g, r⟩ := h
  rw [← z, g] at n; cases n
/-! ### a thing put in -/
def insL {α : Type} (k : Nat) (x : α) (xs : List α) : List α := xs.take k ++ [x] ++ xs.drop k
theorem ins_len {α : Type} {k : Nat} {x : α} {xs : List α} : (insL k x xs).length = xs.length + 1 := by
  unfold insL
  rw [List.length_append, List.length_append, List.length_take, List.length_drop, List.length_singleton]
  omega
theorem ins_mem {α : Type} {k : Nat} {x y : α} {xs : List α} (h : y ∈ insL k x xs) : y = x ∨ y ∈ xs := by
  unfold insL at h
  rcases List.mem_append.mp h with h | h
  · rcases List.mem_append.mp h with h | h
    · exact .inr (List.mem_of_mem_take h)
    · exact .inl (List.mem_singleton.mp h)
  · exact .inr (List.mem_of_mem_drop h)
theorem ins_map {α β : Type} (f : α → β) {k : Nat} {x : α} {xs : List α} : (xs.map f).take k ++ [f x] ++ (xs.map f).drop k = (insL k x xs).map f := by
  unfold insL
  rw [List.map_append, List.map_append, List.map_take, List.map_drop]
  rfl
theorem ins_mem' {α : Type} {k : Nat} {x y : α} {xs : List α} (h : y = x ∨ y ∈ xs) : y ∈ insL k x xs := by
  unfold insL
  rcases h with h | h
  · rw [h]; simp
  · rw [← List.take_append_drop k xs] at h
    rcases List.mem_append.mp h with h | h
    · exact List.mem_append.mpr (.inl (List.mem_append.mpr (.inl h)))
    · exact List.mem_append.mpr (.inr h)
theorem lcW_filterA {α : Type} {gw : TGw} {tt : TTw} {te : TEw} {σ : SW} {G : Gp} (g h : α → W) (c : α → Bool) : ∀ (xs : List α) (acc : List W) (Q : List W → Gp → Prop),
    (∀ x ∈ xs, ∀ (R : QW) (P : Gp → Prop), (c x = true → R (h x) G) → (c x = false → P G) → gw (g x) σ G fun σ1 G1 => tt σ1 G1 fun b G2 => if b = true then te σ1 G2 R else P G2) → Q (acc ++ (xs.filter c).map h) G → lcW gw tt te σ (xs.map g) acc G Q
  | [], acc, Q, _, q => by simpa [lcW] using q
  | x :: xs, acc, Q, hh, q => by
    have h1 := hh x (.head _) (fun y G3 => lcW gw tt te σ (xs.map g) (acc ++ [y]) G3 Q) (fun G2 => lcW gw tt te σ (xs.map g) acc G2 Q)
      (fun e => lcW_filterA g h c xs (acc ++ [h x]) Q (fun w' hw => hh w' (.tail _ hw)) (by simpa [List.filter_cons, e] using q))
      (fun e => lcW_filterA g h c xs acc Q (fun w' hw => hh w' (.tail _ hw)) (by simpa [List.filter_cons, e] using q))
    simpa only [List.map_cons, lcW] using h1
theorem lcP_mapA {α : Type} {I : Gp → Prop} {gw : TGw} {te : TEw} {σ : SW} {G : Gp} (hI : I G) (g h : α → W) : ∀ (xs : List α) (acc : List W) (Q : List W → Gp → Prop),
    (∀ x ∈ xs, ∀ P : QW, P (h x) G → gw (g x) σ G fun σ1 G1 => te σ1 G1 P) → Q (acc ++ xs.map h) G → lcP I gw wYes te σ (xs.map g) acc G Q
  | [], acc, Q, _, q => ⟨hI, by simpa using q⟩
  | x :: xs, acc, Q, hh, q => ⟨hI, hh x (.head _) (fun y G3 => lcP I gw wYes te σ (xs.map g) (acc ++ [y]) G3 Q) (lcP_mapA hI g h xs (acc ++ [h x]) Q (fun w' hw => hh w' (.tail _ hw)) (by simpa using q))⟩
theorem gdel_in {G : Gp} {p r : Addr} {o u : GO} (hp : G p = none) (ne : r ≠ p) : gdel (gup (gup G p o) r u) p = gup G r u := by
  funext c
  unfold gdel gup
  by_cases c1 : c = p
  · subst c1; rw [if_pos rfl, if_neg (Ne.symm ne), hp]
  · rw [if_neg c1]
    by_cases c2 : c = r
    · rw [if_pos c2, if_pos c2]
    · rw [if_neg c2, if_neg c2, if_neg c1]
/-- a list told, another one forgotten -/
theorem tell_drop {ws : List W} {Q : QW} {G : Gp} {p r : Addr} {o : GO} (h : tellL ws Q G) (hp : G p = none) (hr : gup G p o r = none) : Cl Q (.ref r) (gup (gup G p o) r (.lst ws)) := by
  obtain ⟨ne, hr'⟩ := gup_fresh hr
  have e := gdel_in (o := o) (u := .lst ws) hp ne
  rcases h with h | h
  · refine .inr ⟨[p], .inr ⟨r, ws, rfl, ?_, ?_⟩⟩
    · show gdel _ p r = _
      rw [e, gup_same]
    · show Q _ (gdel (gdel _ p) r)
      rw [e, gdel_gup hr']; exact h
  · refine .inr ⟨[p], .inl ?_⟩
    show Q _ (gdel _ p)
    rw [e]; exact h r hr'
end WL


namespace WL
open PySem PySem.Spec PyProof.Rows L2
local macro_rules | `(tactic| walk_at "w") => `(tactic| try simp only [↓a_seq, ↓a_asg, ↓a_ifS, ↓a_ret, ↓a_retN, ↓a_next, ↓a_break, ↓a_cont, ↓a_drop, ↓a_for, ↓a_C, ↓a_op, ↓a_un, ↓a_neg, ↓a_CB, ↓a_call, ↓a_nil, ↓a_cons, ↓a_tup, ↓a_lst, ↓a_lstM, ↓a_test, ↓a_and, ↓a_or, ↓a_not, ↓a_yes, ↓a_andV, ↓a_orV, ↓a_notV, ↓a_if, ↓a_isN, ↓a_notN, ↓a_chain, ↓a_BM, ↓a_BM0, ↓a_seqI, ↓a_R1, ↓a_R2, ↓a_zip2, ↓a_zipG2, ↓a_zipG3, ↓a_enumG, ↓a_enum, ↓a_lc, ↓a_lcM, ↓a_lcR, ↓a_forR, ↓a_seqR, ↓a_zip2R, ↓a_zipR, ↓a_lstRg, ↓a_lstRgM, ↓a_lcP, ↓a_lcPM, ↓a_zipTR, ↓a_zipTQ, ↓a_zip3R, ↓a_zip3Q, ↓a_lenSetT, ↓a_slice, ↓a_sliceM, ↓a_pN, ↓a_pS, ↓a_augIx, ↓a_gIx, ↓a_par, ↓a_setF, ↓a_meth, ↓a_make, ↓a_makeZ, ↓a_dnew, ↓a_done, ↓a_dput, ↓a_dget, ↓a_din, ↓a_lenD, ↓a_raise, ↓a_callX, ↓a_retX, ↓a_dropX, ↓a_asgX, ↓a_tryAs, ↓a_isE, ↓a_isET, ↓a_xf, ↓a_callE, ↓a_lstI, ↓v_0, ↓g_0, ↓u_0, ↓v_1, ↓g_1, ↓u_1, ↓v_2, ↓g_2, ↓u_2, ↓v_3, ↓g_3, ↓u_3, ↓v_4, ↓g_4, ↓u_4, ↓v_5, ↓g_5, ↓u_5, ↓v_6, ↓g_6, ↓u_6, ↓v_7, ↓g_7, ↓u_7, ↓v_8, ↓g_8, ↓u_8, ↓v_9, ↓g_9, ↓u_9, ↓v_10, ↓g_10, ↓u_10, ↓v_11, ↓g_11, ↓u_11, ↓v_12, ↓g_12, ↓u_12, ↓v_13, ↓g_13, ↓u_13, ↓v_14, ↓g_14, ↓u_14, ↓v_15, ↓g_15, ↓u_15, ↓v_16, ↓g_16, ↓u_16, ↓v_17, ↓g_17, ↓u_17, ↓v_18, ↓g_18, ↓u_18, ↓v_19, ↓g_19, ↓u_19, ↓v_20, ↓g_20, ↓u_20, ↓v_21, ↓g_21, ↓u_21, ↓v_22, ↓g_22, ↓u_22, ↓v_23, ↓g_23, ↓u_23, ↓v_24, ↓g_24, ↓u_24, ↓v_25, ↓g_25, ↓u_25, ↓f_0, ↓fl_0, ↓fn_0, ↓f_1, ↓fl_1, ↓fn_1, ↓f_2, ↓fl_2, ↓fn_2, ↓f_3, ↓fl_3, ↓fn_3, ↓f_4, ↓fl_4, ↓fn_4, ↓f_5, ↓fl_5, ↓fn_5, ↓f_6, ↓fl_6, ↓fn_6, ↓f_7, ↓fl_7, ↓fn_7, ↓f_8, ↓fl_8, ↓fn_8, ↓f_9, ↓fl_9, ↓fn_9, ↓f_10, ↓fl_10, ↓fn_10, ↓f_11, ↓fl_11, ↓fn_11, ↓f_12, ↓fl_12, ↓fn_12, ↓f_13, ↓fl_13, ↓fn_13, ↓f_14, ↓fl_14, ↓fn_14, ↓f_15, ↓fl_15, ↓fn_15, ↓f_16, ↓fl_16, ↓fn_16, ↓f_17, ↓fl_17, ↓fn_17, ↓f_18, ↓fl_18, ↓fn_18, ↓f_19, ↓fl_19, ↓fn_19, ↓f_20, ↓fl_20, ↓fn_20, ↓f_21, ↓fl_21, ↓fn_21, ↓f_22, ↓fl_22, ↓fn_22, ↓f_23, ↓fl_23, ↓fn_23, ↓f_24, ↓fl_24, ↓fn_24, ↓f_25, ↓fl_25, ↓fn_25, ↓asL_lst, ↓asL_scr, ↓asL_gup, ↓wIx_tup, ↓wIx_lst, ↓wIx_scr, ↓wIx_ref, ↓wIx_str, ↓wAdd_int, ↓wAdd_str, ↓wAdd_tup, ↓wAdd_lst, ↓wII_int, ↓wI2_int, ↓wI1_int, ↓wI1N_int, ↓wI2N_int, ↓wLen_tup, ↓wLen_lst, ↓wLen_scr, ↓wLen_ref, ↓wLen_str, ↓wInt_int, ↓wInt_bl, ↓wStrI_int, ↓wEq_int, ↓wEq_str, ↓wEq_bl, ↓wNe_bl, ↓wNe_int, ↓wNe_str, ↓wEq_tup, ↓wNe_tup, ↓wEq_lst, ↓wNe_lst, ↓setIx_ref, ↓gT_tup, ↓gT_lst, ↓gT_ref, ↓gsC_cons, ↓gsN_nil, ↓wAppend_ref, ↓wPop_ref, ↓wExtend_ref, ↓rgO_int, ↓wAddM_lst, ↓wIsB_bl, ↓wReverse_ref, ↓wRepT_tup, ↓wNotB_bl, ↓wInD_lst, ↓wPopAt_ref, ↓wInsert_ref, ↓refR_ref, ↓seqOf_tup, ↓seqOf_lst, ↓seqOf_scr, ↓seqOf_ref, ↓rng1_int, ↓rng2_int, ↓wIsi_non, ↓wIsi_bl, ↓wIsi_int, ↓wIsi_str, ↓wIsi_tup, ↓wIsi_lst, ↓wIsi_ref, ↓wAll_lst, ↓wAny_lst, ↓wSum_lst, ↓wTuple_tup, ↓wTuple_lst, ↓wTuple_ref, ↓wList_tup, ↓wList_lst, ↓wList_ref, ↓wListM_tup, ↓wListM_lst, ↓wCut_tup, ↓wCut_lst, ↓wCut_ref, ↓wCut_str, ↓wRep_lst, ↓wRepM_lst, ↓zipOf_tup, ↓zipOf_lst, ↓enumOf_lst, ↓enumOf_scr, ↓zipG2_eq, ↓zipG3_eq, ↓enumG_eq, ↓wSorted_eq, ↓wSortedM_eq, ↓wClear_ref, ↓wGet_ref, ↓truO_bl, ↓intO_int, ↓isS_some, ↓isG_lst, ↓setF_ref, ↓isI_ins, ↓dPut_ref, ↓isD_dic, ↓insOf_gup, ↓dicOf_gup, ↓isExc_exc, ↓lstOf_lst, ↓gT'_tup, sdel, keyOf, nk, rangeW_length, sset, skill, swipe, swipe.sforget, lcW, wIn, seqs, inW, eqW, flatW, kdIs, isNon, gup_same, gup_gup, at0, at1, at2, at3, at4, at5, at6, at7, ix0, ix1, ix2, ix3, ix4, ix5, W.bl.injEq, exists_eq_left', List.length_cons, List.length_nil, List.length_map, Nat.zero_add, Nat.reduceAdd, List.set, List.map_cons, List.map_nil, Option.isSome_some, List.all_cons, List.all_nil, List.any_cons, List.any_nil, List.cons_append, List.nil_append, Bool.and_true, Bool.and_self, Bool.or_false, Bool.true_and, Bool.false_and, Bool.and_false, true_and, decide_true, decide_false, Bool.not_true, Bool.not_false, Bool.not_not, Bool.false_eq_true, if_true, if_false, ite_self, beq_self_eq_true])

/-! ### data that is the same -/
theorem wOk_fr (u : Rat) : wOk (fr u) := ⟨rfl, by simp [wdat, wdats, SeqAt.shaped, PyData.canLay0, PyData.canLayAll0, PyData.depth, PyData.depthAll]⟩
theorem weqb_fr (u v : Rat) : weqb (fr u) (fr v) = decide (u = v) := by
  simp only [weqb, wdat, wdats, PyData.eqv, PyData.eqvAll, Bool.and_true]
  by_cases h : u = v
  · subst h; simp
  · rw [decide_eq_false h]
    by_cases c : u.num = v.num
    · have d : u.den ≠ v.den := fun d => h (Rat.ext c d)
      simp only [c, beq_self_eq_true, Bool.true_and, beq_eq_false_iff_ne]
      omega
    · simp [c]
/-! ### the law's own reckoning -/
def sp__law_far : Spw := fun ws G Q _ => ∃ p n c x, ws = [.ref p, .int n] ∧ G p = some (bagO c x) ∧ 0 ≤ c ∧ 0 ≤ x ∧ x < 2147483648 ∧ 0 ≤ n ∧ n ≤ 6 ∧
  ∀ r c' x', 0 ≤ r → r < 10 ^ (6 * n.toNat) → 0 ≤ c' → 0 ≤ x' → x' < 2147483648 → Q (.int r) (gup G p (bagO c' x'))
theorem len__law_far (ws G Q E) (h : sp__law_far ws G Q E) : ws.length = 2 := by obtain ⟨_, _, _, _, rfl, _⟩ := h; rfl
/-- slots: _law_bag_here 0, _law_sixes 1, _law_number 2, _law_k 3 -/
def t__law_far_b1 : TSw := (wAsg (wOp wAdd (wOp wMul (wVar 2) (wOp wPow (wC (.int 10)) (wC (.int 6)))) (wCall sp__law_take (wCons (wVar 0) (wCons (wOp wPow (wC (.int 10)) (wC (.int 6))) wNil)))) (gN 2))
def t__law_far : TSw := (wSeq (wAsg (wC (.int 0)) (gN 2))
    (wSeq (wFor [false, true, false, true] (iR1 (wCons (wVar 1) wNil)) (gN 3) t__law_far_b1)
    (wRet (wVar 2))))
theorem rd__law_far (ws : List W) (G : Gp) (Q : QW) (E) (h : sp__law_far ws G Q E) : t__law_far { nx := fun _ G' => Q .non G', rt := Cl Q } (startW ["_law_bag_here", "_law_sixes", "_law_number", "_law_k"] ws) G := by
  obtain ⟨p, n, c, x, rfl, g, hc, hx, hx2, hn0, hn6, q⟩ := h
  show t__law_far _ [some (.ref p), some (.int n), none, none] G
  rw [show G = gup G p (bagO c x) from (gup_self g).symm]
  unfold t__law_far
  walk_at "w"
  refine ⟨by omega, by omega, ?_⟩
  refine forW_range (fun i σ G1 => ∃ r c x, (0 ≤ r ∧ r < 10 ^ (6 * i) ∧ 0 ≤ c ∧ 0 ≤ x ∧ x < 2147483648) ∧ G1 = gup G p (bagO c x) ∧ σ = [some (.ref p), none, some (.int r), none]) ⟨0, c, x, ⟨Int.le_refl 0, by decide, hc, hx, hx2⟩, rfl, rfl⟩ ?_ ?_
  · rintro i hi σ G1 N ⟨r, c, x, ⟨hr, hr2, hc, hx, hx2⟩, rfl, rfl⟩ hN
    have hi6 : i < 6 := by omega
    have big : (r : Int) < 10 ^ 36 := Int.lt_of_lt_of_le hr2 (by
      have := Nat.pow_le_pow_right (n := 10) (by decide) (show 6 * i ≤ 36 by omega)
      exact_mod_cast this)
    unfold t__law_far_b1
    walk_at "w"
    refine ⟨cp64 (by omega) (by omega), cmX (a := 120) (b := 20) (by omega) (by decide) (by decide) (by decide) (by decide), cp64 (by omega) (by omega), p, _, c, x, rfl, gup_same, hc, hx, hx2, by decide, fun d c' x' d0 d1 hc' hx' hx2' => ?_⟩
    walk_at "w"
    have d1' : d < 1000000 := d1
    refine hN _ _ ⟨_, c', x', ⟨?_, ?_, hc', hx', hx2'⟩, rfl, rfl⟩
    · show 0 ≤ r * 1000000 + d
      omega
    · show r * 1000000 + d < _
      rw [show 6 * (i + 1) = 6 * i + 6 by omega, Int.pow_add]
      show r * 1000000 + d < 10 ^ (6 * i) * 1000000
      omega
  · rintro σ G1 ⟨r, c, x, ⟨hr, hr2, hc, hx, hx2⟩, rfl, rfl⟩
    walk_at "w"
    exact .inl (q _ _ _ hr (by simpa using hr2) hc hx hx2)
end WL


namespace WL
open PySem PySem.Spec PyProof.Rows L2

/-! ### what hangs together (plain) -/
/-- a set that no line leaves -/
def Shut (es : List (Nat × Nat)) (S : Nat → Prop) : Prop := ∀ e ∈ es, S e.1 ↔ S e.2
def Conn (n : Nat) (es : List (Nat × Nat)) : Prop := ∀ S : Nat → Prop, S 0 → Shut es S → ∀ v, v < n → S v
theorem full_of_nodup : ∀ (n : Nat) (l : List Nat), l.Nodup → (∀ x ∈ l, x < n) → l.length ≤ n ∧ (l.length = n → ∀ v, v < n → v ∈ l)
  | 0, [], _, _ => ⟨Nat.le_refl _, fun _ v hv => absurd hv (by omega)⟩
  | 0, x :: l, _, h => absurd (h x (.head _)) (by omega)
  | n + 1, l, nd, h => by
    by_cases c : n ∈ l
    · have nd2 := nd.erase n
      have len := List.length_erase_of_mem c
      have h2 : ∀ x ∈ l.erase n, x < n := fun x hx => by
        have h3 := h x (List.mem_of_mem_erase hx)
        have h4 : x ≠ n := fun z => by rw [z] at hx; exact (nd.not_mem_erase) hx
        omega
      obtain ⟨a, b⟩ := full_of_nodup n (l.erase n) nd2 h2
      have pos : 0 < l.length := List.length_pos_of_mem c
      refine ⟨by omega, fun e v hv => ?_⟩
      by_cases d : v = n
      · rw [d]; exact c
      · exact List.mem_of_mem_erase (b (by omega) v (by omega))
    · have h2 : ∀ x ∈ l, x < n := fun x hx => by
        have := h x hx
        have : x ≠ n := fun z => c (z ▸ hx)
        omega
      obtain ⟨a, b⟩ := full_of_nodup n l nd h2
      exact ⟨by omega, fun e => absurd e (by omega)⟩
/-- what was met from 0 on, and nothing beyond, is all: then it hangs together -/
theorem met_conn {n : Nat} {es : List (Nat × Nat)} {met : List Nat} (nd : met.Nodup) (lt : ∀ x ∈ met, x < n) (h0 : 0 ∈ met) (sh : Shut es (· ∈ met)) (all : ∀ S : Nat → Prop, S 0 → Shut es S → ∀ v ∈ met, S v) : met.length = n ↔ Conn n es := by
  obtain ⟨a, b⟩ := full_of_nodup n met nd lt
  constructor
  · intro e S s0 sS v hv
    exact all S s0 sS v (b e v hv)
  · intro c
    have f := c (· ∈ met) h0 sh
    have g := List.nodup_range.length_le_of_subset (l₁ := List.range n) (l₂ := met) fun v hv => f v (List.mem_range.mp hv)
    rw [List.length_range] at g
    omega
/-- what was met, what is left to look from; done: p alone is still looked from, along the first k lines -/
structure Seek (n : Nat) (es : List (Nat × Nat)) (met left : List Nat) : Prop where
  nd : met.Nodup
  lt : ∀ x ∈ met, x < n
  h0 : 0 ∈ met
  sub : ∀ x ∈ left, x ∈ met
  all : ∀ S : Nat → Prop, S 0 → Shut es S → ∀ v ∈ met, S v
def DoneAt (es : List (Nat × Nat)) (met : List Nat) (v : Nat) : Prop := ∀ e ∈ es, (e.1 = v → e.2 ∈ met) ∧ (e.2 = v → e.1 ∈ met)
theorem DoneAt.mono {es : List (Nat × Nat)} {met met' : List Nat} {v : Nat} (h : DoneAt es met v) (m : ∀ x ∈ met, x ∈ met') : DoneAt es met' v := fun e he => ⟨fun z => m _ ((h e he).1 z), fun z => m _ ((h e he).2 z)⟩
theorem seek_start {n : Nat} {es : List (Nat × Nat)} (hn : 0 < n) : Seek n es [0] [0] :=
  ⟨by simp, fun x hx => by rw [List.mem_singleton.mp hx]; exact hn, .head _, fun _ h => h, fun S s0 _ v hv => by rw [List.mem_singleton.mp hv]; exact s0⟩
theorem seek_add {n : Nat} {es : List (Nat × Nat)} {met left : List Nat} {p t : Nat} (h : Seek n es met left) (hp : p ∈ met) (ht : t ∉ met) (tn : t < n) (e : (p, t) ∈ es ∨ (t, p) ∈ es) : Seek n es (met ++ [t]) (left ++ [t]) := by
  refine ⟨?_, fun x hx => ?_, List.mem_append.mpr (.inl h.h0), fun x hx => ?_, fun S s0 sS v hv => ?_⟩
  · rw [List.nodup_append]
    refine ⟨h.nd, by simp, fun a ha b hb => ?_⟩
    rw [List.mem_singleton.mp hb]
    exact fun z => ht (z ▸ ha)
  · rcases List.mem_append.mp hx with hx | hx
    · exact h.lt x hx
    · rw [List.mem_singleton.mp hx]; exact tn
  · rcases List.mem_append.mp hx with hx | hx
    · exact List.mem_append.mpr (.inl (h.sub x hx))
    · exact List.mem_append.mpr (.inr hx)
  · rcases List.mem_append.mp hv with hv | hv
    · exact h.all S s0 sS v hv
    · rw [List.mem_singleton.mp hv]
      have sp := h.all S s0 sS p hp
      rcases e with e | e
      · exact (sS _ e).mp sp
      · exact (sS _ e).mpr sp
theorem seek_end {n : Nat} {es : List (Nat × Nat)} {met : List Nat} (h : Seek n es met []) (d : ∀ v ∈ met, DoneAt es met v) : met.length = n ↔ Conn n es :=
  met_conn h.nd h.lt h.h0 (fun e he => ⟨fun z => (d _ z e he).1 rfl, fun z => (d _ z e he).2 rfl⟩) h.all
theorem seek_len {n : Nat} {es : List (Nat × Nat)} {met left : List Nat} (h : Seek n es met left) : met.length ≤ n := (full_of_nodup n met h.nd h.lt).1
/-! the law's way: labels -/
structure Lab (n : Nat) (es : List (Nat × Nat)) (f : Nat → Nat) : Prop where
  z : f 0 = 0
  same : ∀ e ∈ es, f e.1 = f e.2
  set : ∀ S : Nat → Prop, Shut es S → ∀ v, v < n → (S v ↔ S (f v))
  lt : ∀ v, v < n → f v < n
theorem lab_start {n : Nat} : Lab n [] (fun v => v) := ⟨rfl, fun e he => (by cases he), fun _ _ _ _ => Iff.rfl, fun _ h => h⟩
def relab (f : Nat → Nat) (a b : Nat) : Nat → Nat := fun v => if f v = max (f a) (f b) then min (f a) (f b) else f v
theorem lab_step {n a b : Nat} {es : List (Nat × Nat)} {f : Nat → Nat} (h : Lab n es f) (ha : a < n) (hb : b < n) : Lab n (es ++ [(a, b)]) (relab f a b) := by
  have hfa := h.lt a ha
  have hfb := h.lt b hb
  refine ⟨?_, fun e he => ?_, fun S sS v hv => ?_, fun v hv => ?_⟩
  · unfold relab; rw [h.z]; split <;> omega
  · rcases List.mem_append.mp he with he | he
    · unfold relab; rw [h.same e he]
    · rw [List.mem_singleton.mp he]
      show relab f a b a = relab f a b b
      unfold relab
      split <;> split <;> omega
  · have sE : Shut es S := fun e he => sS e (List.mem_append.mpr (.inl he))
    have sab : S a ↔ S b := sS (a, b) (List.mem_append.mpr (.inr (.head _)))
    have s1 := h.set S sE a ha
    have s2 := h.set S sE b hb
    have s3 := h.set S sE v hv
    unfold relab
    by_cases c : f v = max (f a) (f b)
    · rw [if_pos c, s3, c]
      by_cases d : f a ≤ f b
      · rw [Nat.max_eq_right d, Nat.min_eq_left d, ← s2, ← s1]; exact sab.symm
      · rw [Nat.max_eq_left (by omega), Nat.min_eq_right (by omega), ← s2, ← s1]; exact sab
    · rw [if_neg c]; exact s3
  · have := h.lt v hv
    unfold relab
    split <;> omega
theorem lab_end {n : Nat} {es : List (Nat × Nat)} {f : Nat → Nat} (h : Lab n es f) : (∀ v, v < n → f v = 0) ↔ Conn n es := by
  constructor
  · intro z S s0 sS v hv
    have := h.set S sS v hv
    rw [z v hv] at this
    exact this.mpr s0
  · intro c v hv
    exact c (fun v => f v = 0) h.z (fun e he => by show f e.1 = 0 ↔ f e.2 = 0; rw [h.same e he]) v hv
noncomputable def connB (n : Nat) (es : List (Nat × Nat)) : Bool := @decide (Conn n es) (Classical.propDecidable _)
theorem connB_of {n : Nat} {es : List (Nat × Nat)} {p : Prop} [Decidable p] (h : p ↔ Conn n es) : decide p = connB n es := by
  unfold connB
  by_cases c : p
  · rw [decide_eq_true c]; symm; exact @decide_eq_true _ (Classical.propDecidable _) (h.mp c)
  · rw [decide_eq_false c]; symm; exact @decide_eq_false _ (Classical.propDecidable _) fun z => c (h.mpr z)
theorem connB_iff {n : Nat} {es : List (Nat × Nat)} : connB n es = true ↔ Conn n es := by
  unfold connB
  exact @decide_eq_true_iff _ (Classical.propDecidable _)
/-! lines -/
structure Ln where
  a : Nat
  b : Nat
  s : Nat
  m : Nat
def Ln.e (l : Ln) : Nat × Nat := (l.a, l.b)
structure LnOk (n : Nat) (l : Ln) : Prop where
  a : l.a < n
  b : l.b < n
  ne : l.a ≠ l.b
  s : 1 ≤ l.s ∧ l.s ≤ 9
  m : l.m ≤ 99
abbrev lineW (l : Ln) : W := .tup [.int ((l.a : Nat) : Int), .int ((l.b : Nat) : Int), .int ((l.s : Nat) : Int), .int ((l.m : Nat) : Int)]
abbrev linesW (ls : List Ln) : List W := ls.map fun l => lineW l
abbrev netW (n : Nat) (ls : List Ln) : W := .tup [.int ((n : Nat) : Int), .tup (linesW ls)]
abbrev edges (ls : List Ln) : List (Nat × Nat) := ls.map Ln.e
def dropL (ls : List Ln) (k : Nat) : List Ln := ls.take k ++ ls.drop (k + 1)
end WL


namespace WL
open PySem PySem.Spec PyProof.Rows L2
local macro_rules | `(tactic| walk_at "w") => `(tactic| try simp only [↓a_seq, ↓a_asg, ↓a_ifS, ↓a_ret, ↓a_retN, ↓a_next, ↓a_break, ↓a_cont, ↓a_drop, ↓a_for, ↓a_C, ↓a_op, ↓a_un, ↓a_neg, ↓a_CB, ↓a_call, ↓a_nil, ↓a_cons, ↓a_tup, ↓a_lst, ↓a_lstM, ↓a_test, ↓a_and, ↓a_or, ↓a_not, ↓a_yes, ↓a_andV, ↓a_orV, ↓a_notV, ↓a_if, ↓a_isN, ↓a_notN, ↓a_chain, ↓a_BM, ↓a_BM0, ↓a_seqI, ↓a_R1, ↓a_R2, ↓a_zip2, ↓a_zipG2, ↓a_zipG3, ↓a_enumG, ↓a_enum, ↓a_lc, ↓a_lcM, ↓a_lcR, ↓a_forR, ↓a_seqR, ↓a_zip2R, ↓a_zipR, ↓a_lstRg, ↓a_lstRgM, ↓a_lcP, ↓a_lcPM, ↓a_zipTR, ↓a_zipTQ, ↓a_zip3R, ↓a_zip3Q, ↓a_lenSetT, ↓a_slice, ↓a_sliceM, ↓a_pN, ↓a_pS, ↓a_augIx, ↓a_gIx, ↓a_par, ↓a_setF, ↓a_meth, ↓a_make, ↓a_makeZ, ↓a_dnew, ↓a_done, ↓a_dput, ↓a_dget, ↓a_din, ↓a_lenD, ↓a_raise, ↓a_callX, ↓a_retX, ↓a_dropX, ↓a_asgX, ↓a_tryAs, ↓a_isE, ↓a_isET, ↓a_xf, ↓a_callE, ↓a_lstI, ↓v_0, ↓g_0, ↓u_0, ↓v_1, ↓g_1, ↓u_1, ↓v_2, ↓g_2, ↓u_2, ↓v_3, ↓g_3, ↓u_3, ↓v_4, ↓g_4, ↓u_4, ↓v_5, ↓g_5, ↓u_5, ↓v_6, ↓g_6, ↓u_6, ↓v_7, ↓g_7, ↓u_7, ↓v_8, ↓g_8, ↓u_8, ↓v_9, ↓g_9, ↓u_9, ↓v_10, ↓g_10, ↓u_10, ↓v_11, ↓g_11, ↓u_11, ↓v_12, ↓g_12, ↓u_12, ↓v_13, ↓g_13, ↓u_13, ↓v_14, ↓g_14, ↓u_14, ↓v_15, ↓g_15, ↓u_15, ↓v_16, ↓g_16, ↓u_16, ↓v_17, ↓g_17, ↓u_17, ↓v_18, ↓g_18, ↓u_18, ↓v_19, ↓g_19, ↓u_19, ↓v_20, ↓g_20, ↓u_20, ↓v_21, ↓g_21, ↓u_21, ↓v_22, ↓g_22, ↓u_22, ↓v_23, ↓g_23, ↓u_23, ↓v_24, ↓g_24, ↓u_24, ↓v_25, ↓g_25, ↓u_25, ↓f_0, ↓fl_0, ↓fn_0, ↓f_1, ↓fl_1, ↓fn_1, ↓f_2, ↓fl_2, ↓fn_2, ↓f_3, ↓fl_3, ↓fn_3, ↓f_4, ↓fl_4, ↓fn_4, ↓f_5, ↓fl_5, ↓fn_5, ↓f_6, ↓fl_6, ↓fn_6, ↓f_7, ↓fl_7, ↓fn_7, ↓f_8, ↓fl_8, ↓fn_8, ↓f_9, ↓fl_9, ↓fn_9, ↓f_10, ↓fl_10, ↓fn_10, ↓f_11, ↓fl_11, ↓fn_11, ↓f_12, ↓fl_12, ↓fn_12, ↓f_13, ↓fl_13, ↓fn_13, ↓f_14, ↓fl_14, ↓fn_14, ↓f_15, ↓fl_15, ↓fn_15, ↓f_16, ↓fl_16, ↓fn_16, ↓f_17, ↓fl_17, ↓fn_17, ↓f_18, ↓fl_18, ↓fn_18, ↓f_19, ↓fl_19, ↓fn_19, ↓f_20, ↓fl_20, ↓fn_20, ↓f_21, ↓fl_21, ↓fn_21, ↓f_22, ↓fl_22, ↓fn_22, ↓f_23, ↓fl_23, ↓fn_23, ↓f_24, ↓fl_24, ↓fn_24, ↓f_25, ↓fl_25, ↓fn_25, ↓asL_lst, ↓asL_scr, ↓asL_gup, ↓wIx_tup, ↓wIx_lst, ↓wIx_scr, ↓wIx_ref, ↓wIx_str, ↓wAdd_int, ↓wAdd_str, ↓wAdd_tup, ↓wAdd_lst, ↓wII_int, ↓wI2_int, ↓wI1_int, ↓wI1N_int, ↓wI2N_int, ↓wLen_tup, ↓wLen_lst, ↓wLen_scr, ↓wLen_ref, ↓wLen_str, ↓wInt_int, ↓wInt_bl, ↓wStrI_int, ↓wEq_int, ↓wEq_str, ↓wEq_bl, ↓wNe_bl, ↓wNe_int, ↓wNe_str, ↓wEq_tup, ↓wNe_tup, ↓wEq_lst, ↓wNe_lst, ↓setIx_ref, ↓gT_tup, ↓gT_lst, ↓gT_ref, ↓gsC_cons, ↓gsN_nil, ↓wAppend_ref, ↓wPop_ref, ↓wExtend_ref, ↓rgO_int, ↓wAddM_lst, ↓wIsB_bl, ↓wReverse_ref, ↓wRepT_tup, ↓wNotB_bl, ↓wInD_lst, ↓wPopAt_ref, ↓wInsert_ref, ↓refR_ref, ↓seqOf_tup, ↓seqOf_lst, ↓seqOf_scr, ↓seqOf_ref, ↓rng1_int, ↓rng2_int, ↓wIsi_non, ↓wIsi_bl, ↓wIsi_int, ↓wIsi_str, ↓wIsi_tup, ↓wIsi_lst, ↓wIsi_ref, ↓wAll_lst, ↓wAny_lst, ↓wSum_lst, ↓wTuple_tup, ↓wTuple_lst, ↓wTuple_ref, ↓wList_tup, ↓wList_lst, ↓wList_ref, ↓wListM_tup, ↓wListM_lst, ↓wCut_tup, ↓wCut_lst, ↓wCut_ref, ↓wCut_str, ↓wRep_lst, ↓wRepM_lst, ↓zipOf_tup, ↓zipOf_lst, ↓enumOf_lst, ↓enumOf_scr, ↓zipG2_eq, ↓zipG3_eq, ↓enumG_eq, ↓wSorted_eq, ↓wSortedM_eq, ↓wClear_ref, ↓wGet_ref, ↓truO_bl, ↓intO_int, ↓isS_some, ↓isG_lst, ↓setF_ref, ↓isI_ins, ↓dPut_ref, ↓isD_dic, ↓insOf_gup, ↓dicOf_gup, ↓isExc_exc, ↓lstOf_lst, ↓gT'_tup, sdel, keyOf, nk, rangeW_length, sset, skill, swipe, swipe.sforget, lcW, wIn, seqs, inW, eqW, flatW, kdIs, isNon, gup_same, gup_gup, at0, at1, at2, at3, at4, at5, at6, at7, ix0, ix1, ix2, ix3, ix4, ix5, W.bl.injEq, exists_eq_left', List.length_cons, List.length_nil, List.length_map, Nat.zero_add, Nat.reduceAdd, List.set, List.map_cons, List.map_nil, Option.isSome_some, List.all_cons, List.all_nil, List.any_cons, List.any_nil, List.cons_append, List.nil_append, Bool.and_true, Bool.and_self, Bool.or_false, Bool.true_and, Bool.false_and, Bool.and_false, true_and, decide_true, decide_false, Bool.not_true, Bool.not_false, Bool.not_not, Bool.false_eq_true, if_true, if_false, ite_self, beq_self_eq_true])

/-! ### lines, walked -/
abbrev natsW (xs : List Nat) : List W := xs.map fun v => W.int ((v : Nat) : Int)
theorem wD_nats (xs : List Nat) : wD 1 (.lst (natsW xs)) := wD_lst fun w h => by
  obtain ⟨q, _, rfl⟩ := List.mem_map.mp h
  exact wD_int
theorem nats_mem {v : Nat} {xs : List Nat} : (natsW xs).any (fun y => eqW y (.int ((v : Nat) : Int))) = decide (v ∈ xs) := by
  induction xs with
  | nil => rfl
  | cons x xs ih =>
    show (eqW _ _ || (natsW xs).any _) = _
    rw [ih]
    show (decide ((x : Int) = (v : Int)) || decide (v ∈ xs)) = _
    by_cases c : v = x
    · subst c; simp
    · have c' : ¬ ((x : Int) = (v : Int)) := by omega
      simp [c, c']
theorem bag_at {G : Gp} {p q : Addr} {a r : GO} (h : q ≠ p) : gup (gup G p a) q r p = some a := by rw [gup_ne (Ne.symm h), gup_same]
def AsLines (lw : W) (ls : List Ln) : Prop := lw = .tup (linesW ls) ∨ lw = .lst (linesW ls)
def sp_hangs_together : Spw := fun ws G Q _ => ∃ (n : Nat) (lw : W) (ls : List Ln), ws = [.int ((n : Nat) : Int), lw] ∧ AsLines lw ls ∧ 1 ≤ n ∧ n ≤ 1000 ∧ (∀ l ∈ ls, LnOk n l) ∧ Q (.bl (connB n (edges ls))) G
theorem len_hangs_together (ws G Q E) (h : sp_hangs_together ws G Q E) : ws.length = 2 := by obtain ⟨_, _, _, rfl, _⟩ := h; rfl
/-- slots: many 0, lines 1, met 2, left 3, place 4, one 5, other 6, stiffness 7, most 8, there 9 -/
def t_hangs_together_b1 : TSw := (wIfS (wTest (wOp (wIn false) (wVar 4) (wTup (wCons (wVar 5) (wCons (wVar 6) wNil))))) (wSeq (wAsg (wOp wSub (wOp wAdd (wVar 5) (wVar 6)) (wVar 4)) (gN 9))
    (wIfS (wTest (wOp (wIn true) (wVar 9) (wVar 2))) (wSeq (wDrop (wBM wM_append (wVar 2) (wCons (wVar 9) wNil)))
    (wDrop (wBM wM_append (wVar 3) (wCons (wVar 9) wNil)))) wNext)) wNext)
def t_hangs_together_b2 : TSw := (wSeq (wAsg (wBM0 wM_pop (wVar 3)) (gN 4))
    (wFor [false, false, false, false, false, true, true, true, true, true] (iSeqW (wVar 1)) (gT 4 (gsC (gN 5) (gsC (gN 6) (gsC (gN 7) (gsC (gN 8) gsN))))) t_hangs_together_b1))
def t_hangs_together_r1 : TSw := (wRet (wOp wEq (wCB wLen (wCons (wVar 2) wNil)) (wVar 0)))
def t_hangs_together : TSw := (wSeq (wAsg (wLstM (wCons (wC (.int 0)) wNil)) (gN 2))
    (wSeq (wAsg (wLstM (wCons (wC (.int 0)) wNil)) (gN 3))
    (wSeq (wWhile [false, false, false, false, true, true, true, true, true, true] (wTest (wOp wNe (wVar 3) (wLst wNil))) t_hangs_together_b2)
    t_hangs_together_r1)))
theorem rd_hangs_together (ws : List W) (G : Gp) (Q : QW) (E) (h : sp_hangs_together ws G Q E) : t_hangs_together { nx := fun _ G' => Q .non G', rt := Cl Q } (startW ["many", "lines", "met", "left", "place", "one", "other", "stiffness", "most", "there"] ws) G := by
  obtain ⟨n, lw, ls, rfl, hlw, n1, n2, ok, q⟩ := h
  show t_hangs_together _ [some (.int n), some lw, none, none, none, none, none, none, none, none] G
  have big : 2000 < sizeLine := by decide
  have hseq : ∀ (G : Gp) (R : List W → Gp → Prop), seqOf lw G R = R (linesW ls) G := by rcases hlw with rfl | rfl <;> exact fun _ _ => rfl
  unfold t_hangs_together
  walk_at "w"
  refine ⟨by decide, fun p1 hp1 => ⟨by decide, fun p2 hp2 => ?_⟩⟩
  obtain ⟨ne, hp2⟩ := gup_fresh hp2
  refine ⟨fun m σ G1 => ∃ met left, G1 = gup (gup G p1 (.lst (natsW met))) p2 (.lst (natsW left)) ∧ σ = [some (.int n), some lw, some (.ref p1), some (.ref p2), none, none, none, none, none, none] ∧ Seek n (edges ls) met left ∧ (∀ v ∈ met, v ∉ left → DoneAt (edges ls) met v) ∧ m = 2 * (n - met.length) + left.length ∧ m ≤ 2 * n, ⟨_, [0], [0], rfl, rfl, seek_start (by omega), fun v h1 h2 => absurd h1 h2, rfl, by simp; omega⟩, ?_⟩
  rintro m σ G1 ⟨met, left, rfl, rfl, sk, dn, rfl, bnd⟩
  walk_at "w"
  rw [wNe_lref gup_same]
  refine ⟨by decide, wOk_of (wD_nats left) (by decide), wOk_of (wD_nats []) (by decide), ?_⟩
  walk_at "w"
  rcases List.eq_nil_or_concat left with rfl | ⟨left, p, rfl⟩
  · rw [show weqb (W.lst (natsW [])) (W.lst []) = true from weqb_self (wD_nats [])]
    unfold t_hangs_together_r1
    walk_at "w"
    rw [asL_at (bag_at ne)]
    walk_at "w"
    have e : decide (((met.length : Nat) : Int) = ((n : Nat) : Int)) = connB n (edges ls) := connB_of (by
      rw [← seek_end sk fun v hv => dn v hv (by simp)]
      omega)
    rw [e]
    refine .inr ⟨[p2, p1], .inl ?_⟩
    show Q _ (gdel (gdel (gup (gup G p1 _) p2 _) p2) p1)
    rw [gdel_gup (by rw [gup_ne ne]; exact hp2), gdel_gup hp1]
    exact q
  · rw [List.concat_eq_append] at *
    have en : natsW (left ++ [p]) = natsW left ++ [.int (p : Int)] := by unfold natsW; rw [List.map_append]; rfl
    have e0 : weqb (W.lst (natsW (left ++ [p]))) (W.lst []) = false := by
      cases left <;> simp [weqb, wdat, wdats, PyData.eqv, PyData.eqvAll]
    rw [e0]
    unfold t_hangs_together_b2
    walk_at "w"
    rw [en]
    rw [show (natsW left ++ [W.int (p : Int)])[(left ++ [p]).length - 1]? = some (.int (p : Int)) by simp]
    walk_at "w"
    rw [hseq, List.dropLast_concat]
    have hpm : p ∈ met := sk.sub p (List.mem_append.mpr (.inr (.head _)))
    have sk1 : Seek n (edges ls) met left := ⟨sk.nd, sk.lt, sk.h0, fun x hx => sk.sub x (List.mem_append.mpr (.inl hx)), sk.all⟩
    have dn1 : ∀ v ∈ met, v ≠ p → v ∉ left → DoneAt (edges ls) met v := fun v hv ne hl => dn v hv fun z => by
      rcases List.mem_append.mp z with z | z
      · exact hl z
      · exact ne (List.mem_singleton.mp z)
    have lm := seek_len sk
    rw [List.length_append, List.length_singleton] at bnd
    refine forW_ix (fun k σ G1 => ∃ met' left', G1 = gup (gup G p1 (.lst (natsW met'))) p2 (.lst (natsW left')) ∧ σ = [some (.int n), some lw, some (.ref p1), some (.ref p2), some (.int p), none, none, none, none, none] ∧ Seek n (edges ls) met' left' ∧ p ∈ met' ∧ (∀ v ∈ met', v ≠ p → v ∉ left' → DoneAt (edges ls) met' v) ∧ DoneAt ((edges ls).take k) met' p ∧ 2 * (n - met'.length) + left'.length ≤ 2 * (n - met.length) + left.length) _ 0 _ _ ⟨met, left, rfl, rfl, sk1, hpm, dn1, fun e he => (by simp at he), Nat.le_refl _⟩ ?_ ?_
    · rintro k w hw σ G1 N ⟨met', left', rfl, rfl, sk', hp', dn', dp', lm'⟩ hN
      rw [Nat.zero_add] at hN dp'
      rw [List.getElem?_map] at hw
      by_cases hk : k < ls.length
      · rw [List.getElem?_eq_getElem hk] at hw
        injection hw with hw
        subst hw
        have okl := ok _ (List.getElem_mem hk)
        have hke : k < (edges ls).length := by rw [List.length_map]; exact hk
        have ee : (edges ls).take (k + 1) = (edges ls).take k ++ [(ls[k].a, ls[k].b)] := by
          rw [List.take_succ_eq_append_getElem hke, List.getElem_map]
          rfl
        have em : (ls[k].a, ls[k].b) ∈ edges ls := List.mem_map.mpr ⟨_, List.getElem_mem hk, rfl⟩
        rw [ee] at hN
        generalize ls[k] = l at okl em hN ⊢
        unfold t_hangs_together_b1
        walk_at "w"
        refine ⟨by decide, ?_⟩
        by_cases hp : p = l.a ∨ p = l.b
        · obtain ⟨t, et, tn, ed, e1, e2⟩ : ∃ t : Nat, (l.a : Int) + (l.b : Int) - (p : Int) = (t : Int) ∧ t < n ∧ ((p, t) ∈ edges ls ∨ (t, p) ∈ edges ls) ∧ (l.a = p → l.b = t) ∧ (l.b = p → l.a = t) := by
            rcases hp with h | h
            · exact ⟨l.b, by omega, okl.b, .inl (by rw [h]; exact em), fun _ => rfl, fun z => by omega⟩
            · exact ⟨l.a, by omega, okl.a, .inr (by rw [h]; exact em), fun z => by omega, fun _ => rfl⟩
          rw [et]
          rw [if_pos (by rcases hp with h | h <;> simp [h])]
          rw [asL_at (bag_at ne)]
          walk_at "w"
          have fl : (natsW met').all flatW = true := by simp [flatW]
          have key := nats_mem (v := t) (xs := met')
          unfold eqW at key
          rw [key]
          refine ⟨fl, ?_⟩
          by_cases tm : t ∈ met'
          · rw [decide_eq_true tm, if_neg (by decide)]
            refine hN _ _ ⟨met', left', rfl, rfl, sk', hp', dn', fun e he => ?_, lm'⟩
            rcases List.mem_append.mp he with he | he
            · exact dp' e he
            · rw [List.mem_singleton.mp he]
              exact ⟨fun z => by rw [e1 z]; exact tm, fun z => by rw [e2 z]; exact tm⟩
          · rw [decide_eq_false tm, if_pos (by decide)]
            have sk2 := seek_add sk' hp' tm tn ed
            have l2 := seek_len sk2
            rw [List.length_append, List.length_singleton] at l2
            rw [isG_at (bag_at ne)]
            rw [gup_in (Ne.symm ne), asL_at gup_same]
            have lw1 : met'.length ≤ 1000 := by omega
            have lw2 : left'.length ≤ 2000 := by omega
            refine ⟨by rw [List.length_map]; omega, rfl, ?_⟩
            rw [isG_at gup_same, gup_gup]
            have e3 : natsW met' ++ [.int (t : Int)] = natsW (met' ++ [t]) := by unfold natsW; rw [List.map_append]; rfl
            have e4 : natsW left' ++ [.int (t : Int)] = natsW (left' ++ [t]) := by unfold natsW; rw [List.map_append]; rfl
            rw [e3, e4]
            have mm : ∀ x ∈ met', x ∈ met' ++ [t] := fun x hx => List.mem_append.mpr (.inl hx)
            refine ⟨by rw [List.length_map]; omega, hN _ _ ⟨met' ++ [t], left' ++ [t], rfl, rfl, sk2, mm _ hp', fun v hv vp vl => ?_, fun e he => ?_, ?_⟩⟩
            · rcases List.mem_append.mp hv with hv | hv
              · exact (dn' v hv vp fun z => vl (List.mem_append.mpr (.inl z))).mono mm
              · exact absurd (List.mem_append.mpr (.inr hv)) vl
            · rcases List.mem_append.mp he with he | he
              · exact dp'.mono mm e he
              · rw [List.mem_singleton.mp he]
                exact ⟨fun z => by rw [e1 z]; exact List.mem_append.mpr (.inr (.head _)), fun z => by rw [e2 z]; exact List.mem_append.mpr (.inr (.head _))⟩
            · rw [List.length_append, List.length_append, List.length_singleton]; omega
        · rw [if_neg (by simp only [not_or] at hp; simp; omega)]
          refine hN _ _ ⟨met', left', rfl, rfl, sk', hp', dn', fun e he => ?_, lm'⟩
          rcases List.mem_append.mp he with he | he
          · exact dp' e he
          · rw [List.mem_singleton.mp he]
            exact ⟨fun z => absurd (.inl z.symm) hp, fun z => absurd (.inr z.symm) hp⟩
      · rw [List.getElem?_eq_none (by omega)] at hw; cases hw
    · rintro σ G1 ⟨met', left', rfl, rfl, sk', hp', dn', dp', lm'⟩
      rw [Nat.zero_add, List.length_map, ← List.length_map (f := Ln.e), List.take_length] at dp'
      refine ⟨_, ?_, met', left', rfl, rfl, sk', fun v hv hl => ?_, rfl, by omega⟩
      · rw [List.length_append, List.length_singleton]; omega
      · by_cases c : v = p
        · rw [c]; exact dp'
        · exact dn' v hv c hl
/-! ### the law's way -/
theorem weqb_nats : ∀ (xs ys : List Nat), weqb (.lst (natsW xs)) (.lst (natsW ys)) = decide (xs = ys)
  | [], [] => by simp [weqb, wdat, wdats, PyData.eqv, PyData.eqvAll]
  | [], _ :: _ => by simp [weqb, wdat, wdats, PyData.eqv, PyData.eqvAll]
  | _ :: _, [] => by simp [weqb, wdat, wdats, PyData.eqv, PyData.eqvAll]
  | x :: xs, y :: ys => by
    have ih := weqb_nats xs ys
    simp only [weqb, wdat, wdats, PyData.eqv, PyData.eqvAll, List.map_cons] at ih ⊢
    rw [ih]
    by_cases c : x = y
    · subst c; simp
    · have c' : ¬ ((x : Int) = (y : Int)) := by omega
      simp [c, c']
theorem atI_nats {xs : List Nat} {k : Nat} (h : k < xs.length) : L2.atI (natsW xs) ((k : Nat) : Int) = some (.int ((xs[k] : Nat) : Int)) := by
  unfold L2.atI
  simp [L2.ixN, h]
def sp__law_joined : Spw := fun ws G Q _ => ∃ (n : Nat) (lw : W) (ls : List Ln), ws = [.int ((n : Nat) : Int), lw] ∧ AsLines lw ls ∧ 1 ≤ n ∧ n ≤ 1000 ∧ (∀ l ∈ ls, LnOk n l) ∧ Q (.bl (connB n (edges ls))) G
theorem len__law_joined (ws G Q E) (h : sp__law_joined ws G Q E) : ws.length = 2 := by obtain ⟨_, _, _, rfl, _⟩ := h; rfl
/-- slots: _law_many 0, _law_lines 1, _law_heap 2, _law_one 3, _law_other 4, _law_stiffness 5, _law_most 6, _law_low 7, _law_high 8, _law_head 9 -/
def t__law_joined_b1 : TSw := (wSeq (wAsg (wCB (wI2N fun i j => .int (if j < i then j else i)) (wCons (wOp wIx (wVar 2) (wVar 3)) (wCons (wOp wIx (wVar 2) (wVar 4)) wNil))) (gN 7))
    (wSeq (wAsg (wCB (wI2N fun i j => .int (if j > i then j else i)) (wCons (wOp wIx (wVar 2) (wVar 3)) (wCons (wOp wIx (wVar 2) (wVar 4)) wNil))) (gN 8))
    (wAsg (wLc [9] (iSeqW (wVar 2)) (gN 9) wYes (wOp wIx (wLst (wCons (wVar 9) (wCons (wVar 7) wNil))) (wCB wInt (wCons (wOp wEq (wVar 9) (wVar 8)) wNil)))) (gN 2))))
def t__law_joined_r1 : TSw := (wRet (wOp wEq (wVar 2) (wOp wRep (wLst (wCons (wC (.int 0)) wNil)) (wVar 0))))
def t__law_joined : TSw := (wSeq (wAsg (wLstRg (wVar 0)) (gN 2))
    (wSeq (wFor [false, true, false, true, true, true, true, true, true, true] (iSeqW (wVar 1)) (gT 4 (gsC (gN 3) (gsC (gN 4) (gsC (gN 5) (gsC (gN 6) gsN))))) t__law_joined_b1)
    t__law_joined_r1))
theorem rd__law_joined (ws : List W) (G : Gp) (Q : QW) (E) (h : sp__law_joined ws G Q E) : t__law_joined { nx := fun _ G' => Q .non G', rt := Cl Q } (startW ["_law_many", "_law_lines", "_law_heap", "_law_one", "_law_other", "_law_stiffness", "_law_most", "_law_low", "_law_high", "_law_head"] ws) G := by
  obtain ⟨n, lw, ls, rfl, hlw, n1, n2, ok, q⟩ := h
  show t__law_joined _ [some (.int n), some lw, none, none, none, none, none, none, none, none] G
  have big : 2000 < sizeLine := by decide
  have n0 : (n : Int).toNat = n := by omega
  have hseq : ∀ (G : Gp) (R : List W → Gp → Prop), seqOf lw G R = R (linesW ls) G := by rcases hlw with rfl | rfl <;> exact fun _ _ => rfl
  unfold t__law_joined
  walk_at "w"
  rw [n0, hseq]
  have e0 : rangeW 0 n = natsW ((List.range n).map fun v => v) := by
    unfold rangeW natsW
    rw [List.map_map]
    exact List.map_congr_left fun x _ => by show W.int (0 + (x : Int)) = .int (x : Int); rw [Int.zero_add]
  rw [e0]
  refine ⟨L2.RgOk.of_le (by omega) (by omega) (by omega) (by omega), ?_⟩
  refine forW_ix (fun k σ G1 => G1 = G ∧ ∃ f, Lab n ((edges ls).take k) f ∧ σ = [some (.int n), none, some (.lst (natsW ((List.range n).map f))), none, none, none, none, none, none, none]) _ 0 _ _ ⟨rfl, _, lab_start, rfl⟩ ?_ ?_
  · rintro k w hw σ G1 N ⟨rfl, f, lab, rfl⟩ hN
    rw [Nat.zero_add] at hN lab
    rw [List.getElem?_map] at hw
    by_cases hk : k < ls.length
    · rw [List.getElem?_eq_getElem hk] at hw
      injection hw with hw
      subst hw
      have okl := ok _ (List.getElem_mem hk)
      have hke : k < (edges ls).length := by rw [List.length_map]; exact hk
      have ee : (edges ls).take (k + 1) = (edges ls).take k ++ [(ls[k].a, ls[k].b)] := by
        rw [List.take_succ_eq_append_getElem hke, List.getElem_map]
        rfl
      rw [ee] at hN
      have lab2 := lab_step lab okl.a okl.b
      generalize ls[k] = l at okl hN lab2 ⊢
      have la : l.a < ((List.range n).map f).length := by rw [List.length_map, List.length_range]; exact okl.a
      have lb : l.b < ((List.range n).map f).length := by rw [List.length_map, List.length_range]; exact okl.b
      have ga : ((List.range n).map f)[l.a] = f l.a := by simp
      have gb : ((List.range n).map f)[l.b] = f l.b := by simp
      unfold t__law_joined_b1
      walk_at "w"
      rw [atI_nats la, ga]
      walk_at "w"
      rw [atI_nats lb, gb]
      walk_at "w"
      rw [show (if ((f l.b : Nat) : Int) < ((f l.a : Nat) : Int) then ((f l.b : Nat) : Int) else ((f l.a : Nat) : Int)) = ((min (f l.a) (f l.b) : Nat) : Int) by split <;> omega,
        show (if ((f l.b : Nat) : Int) > ((f l.a : Nat) : Int) then ((f l.b : Nat) : Int) else ((f l.a : Nat) : Int)) = ((max (f l.a) (f l.b) : Nat) : Int) by split <;> omega]
      rw [List.length_range]
      refine ⟨by omega, ?_⟩
      refine lcW_mapA (fun v : Nat => W.int (v : Int)) (fun v => .int ((if v = max (f l.a) (f l.b) then min (f l.a) (f l.b) else v : Nat) : Int)) _ _ _ ?_ ?_
      · intro v hv P hP
        walk_at "w"
        refine ⟨by decide, ?_⟩
        by_cases c : v = max (f l.a) (f l.b)
        · rw [if_pos c] at hP
          rw [decide_eq_true (show (v : Int) = ((max (f l.a) (f l.b) : Nat) : Int) by rw [c]), if_pos rfl]
          walk_at "w"
          exact hP
        · rw [if_neg c] at hP
          rw [decide_eq_false (show ¬ (v : Int) = ((max (f l.a) (f l.b) : Nat) : Int) by omega), if_neg (by decide)]
          walk_at "w"
          exact hP
      · refine hN _ _ ⟨rfl, _, lab2, ?_⟩
        rw [List.nil_append, List.map_map, natsW, List.map_map]
        rfl
    · rw [List.getElem?_eq_none (by omega)] at hw; cases hw
  · rintro σ G1 ⟨rfl, f, lab, rfl⟩
    rw [Nat.zero_add, List.length_map, ← List.length_map (f := Ln.e), List.take_length] at lab
    unfold t__law_joined_r1
    walk_at "w"
    have er : repW ((n : Nat) : Int) [W.int 0] = natsW (List.replicate n 0) := by
      unfold repW natsW
      rw [n0, List.map_replicate]
      simp
    rw [er, weqb_nats]
    refine ⟨by decide, ⟨by omega, by omega, by rw [n0]; show 1 * _ ≤ _; omega⟩, wOk_of (wD_nats _) (by decide), wOk_of (wD_nats _) (by decide), .inl ?_⟩
    rw [connB_of (n := n) (es := edges ls) (by
      rw [← lab_end lab, List.eq_replicate_iff]
      constructor
      · rintro ⟨_, h⟩ v hv
        exact h _ (List.mem_map.mpr ⟨v, List.mem_range.mpr hv, rfl⟩)
      · intro h
        refine ⟨by simp, fun b hb => ?_⟩
        obtain ⟨v, hv, rfl⟩ := List.mem_map.mp hb
        exact h v (List.mem_range.mp hv))]
    exact q
/-! ### nets, drawn -/
def sp__law_line : Spw := fun ws G Q _ => ∃ (p : Addr) (a b n : Nat), ws = [.ref p, .int ((a : Nat) : Int), .int ((b : Nat) : Int)] ∧ BagAt p G ∧ a < n ∧ b < n ∧ a ≠ b ∧
  ∀ l c x, LnOk n l → (l.e = (a, b) ∨ l.e = (b, a)) → 0 ≤ c → 0 ≤ x → x < 2147483648 → Q (lineW l) (gup G p (bagO c x))
theorem len__law_line (ws G Q E) (h : sp__law_line ws G Q E) : ws.length = 3 := by obtain ⟨_, _, _, _, rfl, _⟩ := h; rfl
/-- slots: _law_bag_here 0, _law_one 1, _law_other 2, _law_stiffness 3, _law_most 4 -/
def t__law_line : TSw := (wSeq (wAsg (wOp wAdd (wC (.int 1)) (wCall sp__law_take (wCons (wVar 0) (wCons (wC (.int 9)) wNil)))) (gN 3))
    (wSeq (wAsg (wCall sp__law_take (wCons (wVar 0) (wCons (wC (.int 100)) wNil))) (gN 4))
    (wSeq (wIfS (wTest (wOp wEq (wCall sp__law_take (wCons (wVar 0) (wCons (wC (.int 2)) wNil))) (wC (.int 1)))) (wRet (wTup (wCons (wVar 2) (wCons (wVar 1) (wCons (wVar 3) (wCons (wVar 4) wNil)))))) wNext)
    (wRet (wTup (wCons (wVar 1) (wCons (wVar 2) (wCons (wVar 3) (wCons (wVar 4) wNil)))))))))
theorem rd__law_line (ws : List W) (G : Gp) (Q : QW) (E) (h : sp__law_line ws G Q E) : t__law_line { nx := fun _ G' => Q .non G', rt := Cl Q } (startW ["_law_bag_here", "_law_one", "_law_other", "_law_stiffness", "_law_most"] ws) G := by
  obtain ⟨p, a, b, n, rfl, ⟨c, x, g, hc, hx, hx2⟩, ha, hb, ne, q⟩ := h
  show t__law_line _ [some (.ref p), some (.int a), some (.int b), none, none] G
  have four : 4 ≤ sizeLine := by decide
  unfold t__law_line
  walk_at "w"
  refine ⟨p, 9, c, x, rfl, g, hc, hx, hx2, by decide, fun s c x s0 s1 hc hx hx2 => ?_⟩
  walk_at "w"
  refine ⟨p, 100, c, x, rfl, gup_same, hc, hx, hx2, by decide, fun m c x m0 m1 hc hx hx2 => ?_⟩
  walk_at "w"
  refine ⟨p, 2, c, x, rfl, gup_same, hc, hx, hx2, by decide, fun d c x d0 d1 hc hx hx2 => ?_⟩
  walk_at "w"
  obtain ⟨s, rfl⟩ : ∃ k : Nat, s = (k : Int) := ⟨s.toNat, by omega⟩
  obtain ⟨m, rfl⟩ : ∃ k : Nat, m = (k : Int) := ⟨m.toNat, by omega⟩
  have es : (1 : Int) + (s : Int) = ((1 + s : Nat) : Int) := by omega
  rw [es]
  split
  · exact ⟨four, .inl (q ⟨b, a, 1 + s, m⟩ c x ⟨hb, ha, Ne.symm ne, ⟨by show 1 ≤ 1 + s; omega, by show 1 + s ≤ 9; omega⟩, by show m ≤ 99; omega⟩ (.inr rfl) hc hx hx2)⟩
  · exact ⟨four, .inl (q ⟨a, b, 1 + s, m⟩ c x ⟨ha, hb, ne, ⟨by show 1 ≤ 1 + s; omega, by show 1 + s ≤ 9; omega⟩, by show m ≤ 99; omega⟩ (.inl rfl) hc hx hx2)⟩
theorem conn_more {n : Nat} {es es' : List (Nat × Nat)} (h : Conn n es) (m : ∀ e ∈ es, e ∈ es') : Conn n es' := fun S s0 sS => h S s0 fun e he => sS e (m e he)
theorem conn_next {n v : Nat} {es : List (Nat × Nat)} {e : Nat × Nat} (h : Conn n es) (hv : v < n) (he : e = (n, v) ∨ e = (v, n)) : Conn (n + 1) (es ++ [e]) := fun S s0 sS u hu => by
  have c := h S s0 fun e he => sS e (List.mem_append.mpr (.inl he))
  by_cases d : u = n
  · have z := sS e (List.mem_append.mpr (.inr (.head _)))
    rcases he with he | he
    · rw [he] at z; rw [d]; exact z.mpr (c v hv)
    · rw [he] at z; rw [d]; exact z.mp (c v hv)
  · exact c u (by omega)
structure Net (n : Nat) (ls : List Ln) : Prop where
  n1 : 1 ≤ n
  n4 : n ≤ 4
  few : ls.length ≤ 6
  ok : ∀ l ∈ ls, LnOk n l
  conn : Conn n (edges ls)
def sp__law_net : Spw := fun ws G Q _ => ∃ (p : Addr), ws = [.ref p] ∧ BagAt p G ∧ ∀ n ls c x, Net n ls → 0 ≤ c → 0 ≤ x → x < 2147483648 → Q (netW n ls) (gup G p (bagO c x))
theorem len__law_net (ws G Q E) (h : sp__law_net ws G Q E) : ws.length = 1 := by obtain ⟨_, rfl, _⟩ := h; rfl
/-- slots: _law_bag_here 0, _law_many 1, _law_lines 2, _law_place 3, _law_k 4, _law_one 5, _law_other 6 -/
def t__law_net_b1 : TSw := (wDrop (wBM wM_append (wVar 2) (wCons (wCall sp__law_line (wCons (wVar 0) (wCons (wVar 3) (wCons (wCall sp__law_take (wCons (wVar 0) (wCons (wVar 3) wNil))) wNil)))) wNil)))
def t__law_net_b2 : TSw := (wSeq (wAsg (wCall sp__law_take (wCons (wVar 0) (wCons (wVar 1) wNil))) (gN 5))
    (wSeq (wAsg (wOp wMod (wOp wAdd (wOp wAdd (wVar 5) (wC (.int 1))) (wCall sp__law_take (wCons (wVar 0) (wCons (wOp wSub (wVar 1) (wC (.int 1))) wNil)))) (wVar 1)) (gN 6))
    (wDrop (wBM wM_insert (wVar 2) (wCons (wCall sp__law_take (wCons (wVar 0) (wCons (wOp wAdd (wCB wLen (wCons (wVar 2) wNil)) (wC (.int 1))) wNil))) (wCons (wCall sp__law_line (wCons (wVar 0) (wCons (wVar 5) (wCons (wVar 6) wNil)))) wNil))))))
def t__law_net_r1 : TSw := (wRet (wTup (wCons (wVar 1) (wCons (wCB wTuple (wCons (wVar 2) wNil)) wNil))))
def t__law_net_r2 : TSw := (wSeq (wFor [false, false, false, true, true, true, true] (iR1 (wCons (wOp wMul (wCall sp__law_take (wCons (wVar 0) (wCons (wOp wSub (wC (.int 7)) (wCB wLen (wCons (wVar 2) wNil))) wNil))) (wCB wInt (wCons (wOp wGt (wVar 1) (wC (.int 1))) wNil))) wNil)) (gN 4) t__law_net_b2)
    t__law_net_r1)
def t__law_net : TSw := (wSeq (wAsg (wOp wIx (wLst (wCons (wC (.int 4)) (wCons (wC (.int 3)) (wCons (wC (.int 2)) (wCons (wC (.int 4)) (wCons (wC (.int 3)) (wCons (wC (.int 1)) (wCons (wC (.int 4)) (wCons (wC (.int 2)) wNil))))))))) (wCall sp__law_take (wCons (wVar 0) (wCons (wC (.int 8)) wNil)))) (gN 1))
    (wSeq (wAsg (wLstM wNil) (gN 2))
    (wSeq (wFor [false, false, false, true, true, true, true] (iR2 (wCons (wC (.int 1)) (wCons (wVar 1) wNil))) (gN 3) t__law_net_b1)
    t__law_net_r2)))
theorem rd__law_net (ws : List W) (G : Gp) (Q : QW) (E) (h : sp__law_net ws G Q E) : t__law_net { nx := fun _ G' => Q .non G', rt := Cl Q } (startW ["_law_bag_here", "_law_many", "_law_lines", "_law_place", "_law_k", "_law_one", "_law_other"] ws) G := by
  obtain ⟨p, rfl, ⟨c, x, g, hc, hx, hx2⟩, q⟩ := h
  show t__law_net _ [some (.ref p), none, none, none, none, none, none] G
  have big : 2000 < sizeLine := by decide
  have eG : gup G p (bagO c x) = G := gup_self g
  unfold t__law_net
  walk_at "w"
  refine ⟨by decide, p, 8, c, x, rfl, g, hc, hx, hx2, by decide, fun d c x d0 d1 hc hx hx2 => ?_⟩
  obtain ⟨w, ew, mw⟩ := at_in (l := [W.int 4, W.int 3, W.int 2, W.int 4, W.int 3, W.int 1, W.int 4, W.int 2]) d0 (by simpa using d1)
  walk_at "w"
  rw [ew]
  walk_at "w"
  obtain ⟨n, rfl, n1, n4⟩ : ∃ n : Nat, w = .int (n : Int) ∧ 1 ≤ n ∧ n ≤ 4 := by
    simp only [List.mem_cons, List.not_mem_nil, or_false] at mw
    rcases mw with rfl | rfl | rfl | rfl | rfl | rfl | rfl | rfl
    · exact ⟨4, rfl, by decide, by decide⟩
    · exact ⟨3, rfl, by decide, by decide⟩
    · exact ⟨2, rfl, by decide, by decide⟩
    · exact ⟨4, rfl, by decide, by decide⟩
    · exact ⟨3, rfl, by decide, by decide⟩
    · exact ⟨1, rfl, by decide, by decide⟩
    · exact ⟨4, rfl, by decide, by decide⟩
    · exact ⟨2, rfl, by decide, by decide⟩
  refine ⟨by decide, fun p2 hp2 => ?_⟩
  obtain ⟨ne, hp2⟩ := gup_fresh hp2
  refine ⟨by omega, ?_⟩
  refine forW_range (fun i σ G1 => ∃ ls c x, ls.length = i ∧ (∀ l ∈ ls, LnOk n l) ∧ Conn (i + 1) (edges ls) ∧ (0 ≤ c ∧ 0 ≤ x ∧ x < 2147483648) ∧ G1 = gup (gup G p (bagO c x)) p2 (.lst (linesW ls)) ∧ σ = [some (.ref p), some (.int n), some (.ref p2), none, none, none, none]) ⟨[], c, x, rfl, by simp, fun S s0 _ v hv => by rw [show v = 0 by omega]; exact s0, ⟨hc, hx, hx2⟩, rfl, rfl⟩ ?_ ?_
  · rintro i hi σ G1 N ⟨ls, c, x, li, ok, cn, ⟨hc, hx, hx2⟩, rfl, rfl⟩ hN
    unfold t__law_net_b1
    walk_at "w"
    have hin : i + 1 < n := by omega
    refine ⟨p, _, c, x, rfl, bag_at ne, hc, hx, hx2, by omega, fun t c x t0 t1 hc hx hx2 => ?_⟩
    rw [gup_in (Ne.symm ne)]
    walk_at "w"
    obtain ⟨t, rfl⟩ : ∃ k : Nat, t = (k : Int) := ⟨t.toNat, by omega⟩
    rw [show (1 : Int) + (i : Int) = ((i + 1 : Nat) : Int) by omega]
    refine ⟨p, i + 1, t, n, rfl, ⟨c, x, bag_at ne, hc, hx, hx2⟩, hin, by omega, by omega, fun l c x okl el hc hx hx2 => ?_⟩
    rw [gup_in (Ne.symm ne)]
    walk_at "w"
    refine ⟨by omega, hN _ _ ⟨ls ++ [l], c, x, by rw [List.length_append, li]; rfl, fun y hy => ?_, ?_, ⟨hc, hx, hx2⟩, ?_, rfl⟩⟩
    · rcases List.mem_append.mp hy with hy | hy
      · exact ok y hy
      · rw [List.mem_singleton.mp hy]; exact okl
    · rw [edges, List.map_append]
      exact conn_next cn (by omega) el
    · rw [show linesW (ls ++ [l]) = linesW ls ++ [lineW l] from List.map_append]
  · rintro σ G1 ⟨ls, c, x, li, ok, cn, ⟨hc, hx, hx2⟩, rfl, rfl⟩
    unfold t__law_net_r2
    walk_at "w"
    have lsn : ls.length = n - 1 := by omega
    refine ⟨p, _, c, x, rfl, bag_at ne, hc, hx, hx2, by omega, fun d c x d0 d1 hc hx hx2 => ?_⟩
    rw [gup_in (Ne.symm ne)]
    walk_at "w"
    obtain ⟨u, eu, eu2⟩ : ∃ u : Int, (if decide ((1 : Int) < (n : Int)) = true then 1 else 0) = u ∧ (u = 1 ∧ 1 < n ∨ u = 0) := by
      by_cases h : 1 < n
      · exact ⟨1, if_pos (decide_eq_true (by omega)), .inl ⟨rfl, h⟩⟩
      · exact ⟨0, if_neg (by simp; omega), .inr rfl⟩
    rw [eu]
    have du : 0 ≤ d * u ∧ d * u ≤ 6 ∧ (0 < d * u → 1 < n) ∧ d * u < 7 - (ls.length : Int) := by
      rcases eu2 with ⟨rfl, h⟩ | rfl
      · refine ⟨by omega, by omega, fun _ => h, by omega⟩
      · rw [Int.mul_zero]; refine ⟨by omega, by omega, by omega, by omega⟩
    walk_at "w"
    refine ⟨cm64 (by omega) (by rcases eu2 with ⟨rfl, _⟩ | rfl <;> omega), ?_⟩
    generalize d * u = du' at du ⊢
    refine ⟨by omega, by omega, ?_⟩
    refine forW_range (fun i σ G1 => ∃ ls' c x, ls'.length = ls.length + i ∧ (∀ l ∈ ls', LnOk n l) ∧ Conn n (edges ls') ∧ (0 ≤ c ∧ 0 ≤ x ∧ x < 2147483648) ∧ G1 = gup (gup G p (bagO c x)) p2 (.lst (linesW ls')) ∧ σ = [some (.ref p), some (.int n), some (.ref p2), none, none, none, none]) ⟨ls, c, x, rfl, ok, by rw [show (↑n - 1 : Int).toNat + 1 = n by omega] at cn; exact cn, ⟨hc, hx, hx2⟩, rfl, rfl⟩ ?_ ?_
    · rintro i hi σ G1 N ⟨ls', c, x, li, ok, cn, ⟨hc, hx, hx2⟩, rfl, rfl⟩ hN
      have n2 := du.2.2.1 (by omega)
      unfold t__law_net_b2
      walk_at "w"
      refine ⟨p, n, c, x, rfl, bag_at ne, hc, hx, hx2, by omega, fun a c x a0 a1 hc hx hx2 => ?_⟩
      rw [gup_in (Ne.symm ne)]
      walk_at "w"
      refine ⟨p, _, c, x, rfl, bag_at ne, hc, hx, hx2, by omega, fun b c x b0 b1 hc hx hx2 => ?_⟩
      rw [gup_in (Ne.symm ne)]
      walk_at "w"
      rw [fmodP (by omega)]
      have m0 := Int.emod_nonneg (a + 1 + b) (show (n : Int) ≠ 0 by omega)
      have m1 := Int.emod_lt_of_pos (a + 1 + b) (show (0 : Int) < n by omega)
      have m2 : (a + 1 + b) % (n : Int) ≠ a := by
        by_cases h : a + 1 + b < n
        · rw [Int.emod_eq_of_lt (by omega) h]; omega
        · have : (a + 1 + b) % (n : Int) = a + 1 + b - n := by
            rw [← Int.sub_emod_right, Int.emod_eq_of_lt (by omega) (by omega)]
          omega
      generalize (a + 1 + b) % (n : Int) = o at m0 m1 m2 ⊢
      obtain ⟨a, rfl⟩ : ∃ k : Nat, a = (k : Int) := ⟨a.toNat, by omega⟩
      obtain ⟨o, rfl⟩ : ∃ k : Nat, o = (k : Int) := ⟨o.toNat, by omega⟩
      refine ⟨by omega, p, _, c, x, rfl, bag_at ne, hc, hx, hx2, by omega, fun k c x k0 k1 hc hx hx2 => ?_⟩
      rw [gup_in (Ne.symm ne)]
      walk_at "w"
      refine ⟨p, a, o, n, rfl, ⟨c, x, bag_at ne, hc, hx, hx2⟩, by omega, by omega, by omega, fun l c x okl el hc hx hx2 => ?_⟩
      rw [gup_in (Ne.symm ne)]
      walk_at "w"
      obtain ⟨k, rfl⟩ : ∃ j : Nat, k = (j : Int) := ⟨k.toNat, by omega⟩
      rw [show ((k : Nat) : Int).toNat = k by omega, ins_map (fun l => lineW l)]
      refine ⟨by omega, by omega, by omega, hN _ _ ⟨insL k l ls', c, x, by rw [ins_len, li]; omega, fun y hy => ?_, conn_more cn fun e he => ?_, ⟨hc, hx, hx2⟩, rfl, rfl⟩⟩
      · rcases ins_mem hy with rfl | hy
        · exact okl
        · exact ok y hy
      · obtain ⟨y, hy, rfl⟩ := List.mem_map.mp he
        exact List.mem_map.mpr ⟨y, ins_mem' (.inr hy), rfl⟩
    · rintro σ G1 ⟨ls', c, x, li, ok, cn, ⟨hc, hx, hx2⟩, rfl, rfl⟩
      unfold t__law_net_r1
      walk_at "w"
      refine ⟨by decide, ?_⟩
      refine Cl.drop (by rw [gup_ne ne]; exact hp2) (q n ls' c x ⟨n1, n4, by omega, ok, cn⟩ hc hx hx2)
end WL


namespace WL
open PySem PySem.Spec PyProof.Rows L2
local macro_rules | `(tactic| walk_at "w") => `(tactic| try simp only [↓a_seq, ↓a_asg, ↓a_ifS, ↓a_ret, ↓a_retN, ↓a_next, ↓a_break, ↓a_cont, ↓a_drop, ↓a_for, ↓a_C, ↓a_op, ↓a_un, ↓a_neg, ↓a_CB, ↓a_call, ↓a_nil, ↓a_cons, ↓a_tup, ↓a_lst, ↓a_lstM, ↓a_test, ↓a_and, ↓a_or, ↓a_not, ↓a_yes, ↓a_andV, ↓a_orV, ↓a_notV, ↓a_if, ↓a_isN, ↓a_notN, ↓a_chain, ↓a_BM, ↓a_BM0, ↓a_seqI, ↓a_R1, ↓a_R2, ↓a_zip2, ↓a_zipG2, ↓a_zipG3, ↓a_enumG, ↓a_enum, ↓a_lc, ↓a_lcM, ↓a_lcR, ↓a_forR, ↓a_seqR, ↓a_zip2R, ↓a_zipR, ↓a_lstRg, ↓a_lstRgM, ↓a_lcP, ↓a_lcPM, ↓a_zipTR, ↓a_zipTQ, ↓a_zip3R, ↓a_zip3Q, ↓a_lenSetT, ↓a_slice, ↓a_sliceM, ↓a_pN, ↓a_pS, ↓a_augIx, ↓a_gIx, ↓a_par, ↓a_setF, ↓a_meth, ↓a_make, ↓a_makeZ, ↓a_dnew, ↓a_done, ↓a_dput, ↓a_dget, ↓a_din, ↓a_lenD, ↓a_raise, ↓a_callX, ↓a_retX, ↓a_dropX, ↓a_asgX, ↓a_tryAs, ↓a_isE, ↓a_isET, ↓a_xf, ↓a_callE, ↓a_lstI, ↓v_0, ↓g_0, ↓u_0, ↓v_1, ↓g_1, ↓u_1, ↓v_2, ↓g_2, ↓u_2, ↓v_3, ↓g_3, ↓u_3, ↓v_4, ↓g_4, ↓u_4, ↓v_5, ↓g_5, ↓u_5, ↓v_6, ↓g_6, ↓u_6, ↓v_7, ↓g_7, ↓u_7, ↓v_8, ↓g_8, ↓u_8, ↓v_9, ↓g_9, ↓u_9, ↓v_10, ↓g_10, ↓u_10, ↓v_11, ↓g_11, ↓u_11, ↓v_12, ↓g_12, ↓u_12, ↓v_13, ↓g_13, ↓u_13, ↓v_14, ↓g_14, ↓u_14, ↓v_15, ↓g_15, ↓u_15, ↓v_16, ↓g_16, ↓u_16, ↓v_17, ↓g_17, ↓u_17, ↓v_18, ↓g_18, ↓u_18, ↓v_19, ↓g_19, ↓u_19, ↓v_20, ↓g_20, ↓u_20, ↓v_21, ↓g_21, ↓u_21, ↓v_22, ↓g_22, ↓u_22, ↓v_23, ↓g_23, ↓u_23, ↓v_24, ↓g_24, ↓u_24, ↓v_25, ↓g_25, ↓u_25, ↓f_0, ↓fl_0, ↓fn_0, ↓f_1, ↓fl_1, ↓fn_1, ↓f_2, ↓fl_2, ↓fn_2, ↓f_3, ↓fl_3, ↓fn_3, ↓f_4, ↓fl_4, ↓fn_4, ↓f_5, ↓fl_5, ↓fn_5, ↓f_6, ↓fl_6, ↓fn_6, ↓f_7, ↓fl_7, ↓fn_7, ↓f_8, ↓fl_8, ↓fn_8, ↓f_9, ↓fl_9, ↓fn_9, ↓f_10, ↓fl_10, ↓fn_10, ↓f_11, ↓fl_11, ↓fn_11, ↓f_12, ↓fl_12, ↓fn_12, ↓f_13, ↓fl_13, ↓fn_13, ↓f_14, ↓fl_14, ↓fn_14, ↓f_15, ↓fl_15, ↓fn_15, ↓f_16, ↓fl_16, ↓fn_16, ↓f_17, ↓fl_17, ↓fn_17, ↓f_18, ↓fl_18, ↓fn_18, ↓f_19, ↓fl_19, ↓fn_19, ↓f_20, ↓fl_20, ↓fn_20, ↓f_21, ↓fl_21, ↓fn_21, ↓f_22, ↓fl_22, ↓fn_22, ↓f_23, ↓fl_23, ↓fn_23, ↓f_24, ↓fl_24, ↓fn_24, ↓f_25, ↓fl_25, ↓fn_25, ↓asL_lst, ↓asL_scr, ↓asL_gup, ↓wIx_tup, ↓wIx_lst, ↓wIx_scr, ↓wIx_ref, ↓wIx_str, ↓wAdd_int, ↓wAdd_str, ↓wAdd_tup, ↓wAdd_lst, ↓wII_int, ↓wI2_int, ↓wI1_int, ↓wI1N_int, ↓wI2N_int, ↓wLen_tup, ↓wLen_lst, ↓wLen_scr, ↓wLen_ref, ↓wLen_str, ↓wInt_int, ↓wInt_bl, ↓wStrI_int, ↓wEq_int, ↓wEq_str, ↓wEq_bl, ↓wNe_bl, ↓wNe_int, ↓wNe_str, ↓wEq_tup, ↓wNe_tup, ↓wEq_lst, ↓wNe_lst, ↓setIx_ref, ↓gT_tup, ↓gT_lst, ↓gT_ref, ↓gsC_cons, ↓gsN_nil, ↓wAppend_ref, ↓wPop_ref, ↓wExtend_ref, ↓rgO_int, ↓wAddM_lst, ↓wIsB_bl, ↓wReverse_ref, ↓wRepT_tup, ↓wNotB_bl, ↓wInD_lst, ↓wPopAt_ref, ↓wInsert_ref, ↓refR_ref, ↓seqOf_tup, ↓seqOf_lst, ↓seqOf_scr, ↓seqOf_ref, ↓rng1_int, ↓rng2_int, ↓wIsi_non, ↓wIsi_bl, ↓wIsi_int, ↓wIsi_str, ↓wIsi_tup, ↓wIsi_lst, ↓wIsi_ref, ↓wAll_lst, ↓wAny_lst, ↓wSum_lst, ↓wTuple_tup, ↓wTuple_lst, ↓wTuple_ref, ↓wList_tup, ↓wList_lst, ↓wList_ref, ↓wListM_tup, ↓wListM_lst, ↓wCut_tup, ↓wCut_lst, ↓wCut_ref, ↓wCut_str, ↓wRep_lst, ↓wRepM_lst, ↓zipOf_tup, ↓zipOf_lst, ↓enumOf_lst, ↓enumOf_scr, ↓zipG2_eq, ↓zipG3_eq, ↓enumG_eq, ↓wSorted_eq, ↓wSortedM_eq, ↓wClear_ref, ↓wGet_ref, ↓truO_bl, ↓intO_int, ↓isS_some, ↓isG_lst, ↓setF_ref, ↓isI_ins, ↓dPut_ref, ↓isD_dic, ↓insOf_gup, ↓dicOf_gup, ↓isExc_exc, ↓lstOf_lst, ↓gT'_tup, sdel, keyOf, nk, rangeW_length, sset, skill, swipe, swipe.sforget, lcW, wIn, seqs, inW, eqW, flatW, kdIs, isNon, gup_same, gup_gup, at0, at1, at2, at3, at4, at5, at6, at7, ix0, ix1, ix2, ix3, ix4, ix5, W.bl.injEq, exists_eq_left', List.length_cons, List.length_nil, List.length_map, Nat.zero_add, Nat.reduceAdd, List.set, List.map_cons, List.map_nil, Option.isSome_some, List.all_cons, List.all_nil, List.any_cons, List.any_nil, List.cons_append, List.nil_append, Bool.and_true, Bool.and_self, Bool.or_false, Bool.true_and, Bool.false_and, Bool.and_false, true_and, decide_true, decide_false, Bool.not_true, Bool.not_false, Bool.not_not, Bool.false_eq_true, if_true, if_false, ite_self, beq_self_eq_true])

/-! ### things of any kind -/
mutual
def datB : W → Bool
  | .non => true
  | .bl _ => true
  | .int _ => true
  | .str _ => true
  | .tup ws => datsB ws
  | .lst ws => datsB ws
  | _ => false
def datsB : List W → Bool
  | [] => true
  | w :: ws => datB w && datsB ws
end
theorem dats_all : ∀ {ws : List W}, datsB ws = true ↔ ∀ w ∈ ws, datB w = true
  | [] => by simp [datsB]
  | w :: ws => by
    simp only [datsB, Bool.and_eq_true, dats_all (ws := ws), List.mem_cons, forall_eq_or_imp]
def wholeB : W → Bool
  | .int _ => true
  | _ => false
def fromB (w : W) (lo hi : Int) : Bool := match w with
  | .int i => decide (lo ≤ i) && decide (i ≤ hi)
  | _ => false
theorem from_int {w : W} {lo hi : Int} (h : fromB w lo hi = true) : ∃ i, w = .int i ∧ lo ≤ i ∧ i ≤ hi := by
  cases w with
  | int i =>
    have h' : (decide (lo ≤ i) && decide (i ≤ hi)) = true := h
    rw [Bool.and_eq_true] at h'
    exact ⟨i, rfl, of_decide_eq_true h'.1, of_decide_eq_true h'.2⟩
  | _ => cases h
def sp_is_whole : Spw := fun ws G Q _ => ∃ w, ws = [w] ∧ datB w = true ∧ Q (.bl (wholeB w)) G
theorem len_is_whole (ws G Q E) (h : sp_is_whole ws G Q E) : ws.length = 1 := by obtain ⟨_, rfl, _⟩ := h; rfl
/-- slots: thing 0 -/
def t_is_whole : TSw := (wRet (wAndV (wUn (wIsi .int) (wVar 0)) (wNotV (wUn (wIsi .bool) (wVar 0)))))
theorem rd_is_whole (ws : List W) (G : Gp) (Q : QW) (E) (h : sp_is_whole ws G Q E) : t_is_whole { nx := fun _ G' => Q .non G', rt := Cl Q } (startW ["thing"] ws) G := by
  obtain ⟨w, rfl, d, q⟩ := h
  show t_is_whole _ [some w] G
  unfold t_is_whole
  cases w <;> first | (walk_at "w"; exact .inl q) | (simp [datB] at d)
def sp_is_from : Spw := fun ws G Q _ => ∃ w lo hi, ws = [w, .int lo, .int hi] ∧ datB w = true ∧ Q (.bl (fromB w lo hi)) G
theorem len_is_from (ws G Q E) (h : sp_is_from ws G Q E) : ws.length = 3 := by obtain ⟨_, _, _, rfl, _⟩ := h; rfl
/-- slots: thing 0, least 1, most 2 -/
def t_is_from : TSw := (wRet (wAndV (wCall sp_is_whole (wCons (wVar 0) wNil)) (wChain wLe wLe (wVar 1) (wVar 0) (wVar 2))))
theorem rd_is_from (ws : List W) (G : Gp) (Q : QW) (E) (h : sp_is_from ws G Q E) : t_is_from { nx := fun _ G' => Q .non G', rt := Cl Q } (startW ["thing", "least", "most"] ws) G := by
  obtain ⟨w, lo, hi, rfl, d, q⟩ := h
  show t_is_from _ [some w, some (.int lo), some (.int hi)] G
  unfold t_is_from
  walk_at "w"
  refine ⟨w, rfl, d, ?_⟩
  cases w with
  | int i =>
    have q' : Q (.bl (decide (lo ≤ i) && decide (i ≤ hi))) G := q
    rw [show wholeB (.int i) = true from rfl]
    walk_at "w"
    split
    · rename_i c
      rw [c] at q'
      exact .inl q'
    · rename_i c
      rw [Bool.not_eq_true] at c
      rw [c] at q'
      exact .inl q'
  | _ =>
    first
    | (rw [show wholeB _ = false from rfl]; walk_at "w"; exact .inl q)
    | (simp [datB] at d)
/-! ### lines and nets, of things of any kind -/
def intEqB : W → W → Bool
  | .int a, .int b => decide (a = b)
  | _, _ => false
def lineB (n : Int) : W → Bool
  | .tup [a, b, s, m] => fromB a 0 (n - 1) && (fromB b 0 (n - 1) && (!intEqB a b && (fromB s 1 9 && fromB m 0 99)))
  | _ => false
def natOf : W → Nat
  | .int i => i.toNat
  | _ => 0
def lnOf : W → Ln
  | .tup [a, b, s, m] => ⟨natOf a, natOf b, natOf s, natOf m⟩
  | _ => ⟨0, 0, 0, 0⟩
theorem line_of {n : Nat} {w : W} (h : lineB n w = true) : w = lineW (lnOf w) ∧ LnOk n (lnOf w) := by
  match w, h with
  | .tup [a, b, s, m], h =>
    simp only [lineB, Bool.and_eq_true, Bool.not_eq_true'] at h
    obtain ⟨h1, h2, h3, h4, h5⟩ := h
    obtain ⟨a, rfl, a0, a1⟩ := from_int h1
    obtain ⟨b, rfl, b0, b1⟩ := from_int h2
    obtain ⟨s, rfl, s0, s1⟩ := from_int h4
    obtain ⟨m, rfl, m0, m1⟩ := from_int h5
    have h3' : decide (a = b) = false := h3
    have ne := of_decide_eq_false h3'
    refine ⟨?_, ⟨by show a.toNat < n; omega, by show b.toNat < n; omega, by show a.toNat ≠ b.toNat; omega, ⟨by show 1 ≤ s.toNat; omega, by show s.toNat ≤ 9; omega⟩, by show m.toNat ≤ 99; omega⟩⟩
    show W.tup [.int a, .int b, .int s, .int m] = .tup [.int ((a.toNat : Nat) : Int), .int ((b.toNat : Nat) : Int), .int ((s.toNat : Nat) : Int), .int ((m.toNat : Nat) : Int)]
    rw [Int.toNat_of_nonneg a0, Int.toNat_of_nonneg b0, Int.toNat_of_nonneg (by omega : 0 ≤ s), Int.toNat_of_nonneg m0]
theorem lines_of {n : Nat} : ∀ {ws : List W}, ws.all (lineB n) = true → ws = linesW (ws.map lnOf) ∧ ∀ l ∈ ws.map lnOf, LnOk n l
  | [], _ => ⟨rfl, by simp⟩
  | w :: ws, h => by
    simp only [List.all_cons, Bool.and_eq_true] at h
    obtain ⟨h1, h2⟩ := line_of h.1
    obtain ⟨h3, h4⟩ := lines_of h.2
    refine ⟨?_, fun l hl => ?_⟩
    · show w :: ws = lineW (lnOf w) :: linesW (ws.map lnOf)
      rw [← h1, ← h3]
    · rcases List.mem_cons.mp hl with rfl | hl
      · exact h2
      · exact h4 l hl
noncomputable def netB : W → Bool
  | .tup [m, .tup lines] => fromB m 1 4 && (decide (lines.length ≤ 6) && (lines.all (lineB (natOf m)) && connB (natOf m) (edges (lines.map lnOf))))
  | _ => false
end WL


namespace WL
open PySem PySem.Spec PyProof.Rows L2
local macro_rules | `(tactic| walk_at "w") => `(tactic| try simp only [↓a_seq, ↓a_asg, ↓a_ifS, ↓a_ret, ↓a_retN, ↓a_next, ↓a_break, ↓a_cont, ↓a_drop, ↓a_for, ↓a_C, ↓a_op, ↓a_un, ↓a_neg, ↓a_CB, ↓a_call, ↓a_nil, ↓a_cons, ↓a_tup, ↓a_lst, ↓a_lstM, ↓a_test, ↓a_and, ↓a_or, ↓a_not, ↓a_yes, ↓a_andV, ↓a_orV, ↓a_notV, ↓a_if, ↓a_isN, ↓a_notN, ↓a_chain, ↓a_BM, ↓a_BM0, ↓a_seqI, ↓a_R1, ↓a_R2, ↓a_zip2, ↓a_zipG2, ↓a_zipG3, ↓a_enumG, ↓a_enum, ↓a_lc, ↓a_lcM, ↓a_lcR, ↓a_forR, ↓a_seqR, ↓a_zip2R, ↓a_zipR, ↓a_lstRg, ↓a_lstRgM, ↓a_lcP, ↓a_lcPM, ↓a_zipTR, ↓a_zipTQ, ↓a_zip3R, ↓a_zip3Q, ↓a_lenSetT, ↓a_slice, ↓a_sliceM, ↓a_pN, ↓a_pS, ↓a_augIx, ↓a_gIx, ↓a_par, ↓a_setF, ↓a_meth, ↓a_make, ↓a_makeZ, ↓a_dnew, ↓a_done, ↓a_dput, ↓a_dget, ↓a_din, ↓a_lenD, ↓a_raise, ↓a_callX, ↓a_retX, ↓a_dropX, ↓a_asgX, ↓a_tryAs, ↓a_isE, ↓a_isET, ↓a_xf, ↓a_callE, ↓a_lstI, ↓v_0, ↓g_0, ↓u_0, ↓v_1, ↓g_1, ↓u_1, ↓v_2, ↓g_2, ↓u_2, ↓v_3, ↓g_3, ↓u_3, ↓v_4, ↓g_4, ↓u_4, ↓v_5, ↓g_5, ↓u_5, ↓v_6, ↓g_6, ↓u_6, ↓v_7, ↓g_7, ↓u_7, ↓v_8, ↓g_8, ↓u_8, ↓v_9, ↓g_9, ↓u_9, ↓v_10, ↓g_10, ↓u_10, ↓v_11, ↓g_11, ↓u_11, ↓v_12, ↓g_12, ↓u_12, ↓v_13, ↓g_13, ↓u_13, ↓v_14, ↓g_14, ↓u_14, ↓v_15, ↓g_15, ↓u_15, ↓v_16, ↓g_16, ↓u_16, ↓v_17, ↓g_17, ↓u_17, ↓v_18, ↓g_18, ↓u_18, ↓v_19, ↓g_19, ↓u_19, ↓v_20, ↓g_20, ↓u_20, ↓v_21, ↓g_21, ↓u_21, ↓v_22, ↓g_22, ↓u_22, ↓v_23, ↓g_23, ↓u_23, ↓v_24, ↓g_24, ↓u_24, ↓v_25, ↓g_25, ↓u_25, ↓f_0, ↓fl_0, ↓fn_0, ↓f_1, ↓fl_1, ↓fn_1, ↓f_2, ↓fl_2, ↓fn_2, ↓f_3, ↓fl_3, ↓fn_3, ↓f_4, ↓fl_4, ↓fn_4, ↓f_5, ↓fl_5, ↓fn_5, ↓f_6, ↓fl_6, ↓fn_6, ↓f_7, ↓fl_7, ↓fn_7, ↓f_8, ↓fl_8, ↓fn_8, ↓f_9, ↓fl_9, ↓fn_9, ↓f_10, ↓fl_10, ↓fn_10, ↓f_11, ↓fl_11, ↓fn_11, ↓f_12, ↓fl_12, ↓fn_12, ↓f_13, ↓fl_13, ↓fn_13, ↓f_14, ↓fl_14, ↓fn_14, ↓f_15, ↓fl_15, ↓fn_15, ↓f_16, ↓fl_16, ↓fn_16, ↓f_17, ↓fl_17, ↓fn_17, ↓f_18, ↓fl_18, ↓fn_18, ↓f_19, ↓fl_19, ↓fn_19, ↓f_20, ↓fl_20, ↓fn_20, ↓f_21, ↓fl_21, ↓fn_21, ↓f_22, ↓fl_22, ↓fn_22, ↓f_23, ↓fl_23, ↓fn_23, ↓f_24, ↓fl_24, ↓fn_24, ↓f_25, ↓fl_25, ↓fn_25, ↓asL_lst, ↓asL_scr, ↓asL_gup, ↓wIx_tup, ↓wIx_lst, ↓wIx_scr, ↓wIx_ref, ↓wIx_str, ↓wAdd_int, ↓wAdd_str, ↓wAdd_tup, ↓wAdd_lst, ↓wII_int, ↓wI2_int, ↓wI1_int, ↓wI1N_int, ↓wI2N_int, ↓wLen_tup, ↓wLen_lst, ↓wLen_scr, ↓wLen_ref, ↓wLen_str, ↓wInt_int, ↓wInt_bl, ↓wStrI_int, ↓wEq_int, ↓wEq_str, ↓wEq_bl, ↓wNe_bl, ↓wNe_int, ↓wNe_str, ↓wEq_tup, ↓wNe_tup, ↓wEq_lst, ↓wNe_lst, ↓setIx_ref, ↓gT_tup, ↓gT_lst, ↓gT_ref, ↓gsC_cons, ↓gsN_nil, ↓wAppend_ref, ↓wPop_ref, ↓wExtend_ref, ↓rgO_int, ↓wAddM_lst, ↓wIsB_bl, ↓wReverse_ref, ↓wRepT_tup, ↓wNotB_bl, ↓wInD_lst, ↓wPopAt_ref, ↓wInsert_ref, ↓refR_ref, ↓seqOf_tup, ↓seqOf_lst, ↓seqOf_scr, ↓seqOf_ref, ↓rng1_int, ↓rng2_int, ↓wIsi_non, ↓wIsi_bl, ↓wIsi_int, ↓wIsi_str, ↓wIsi_tup, ↓wIsi_lst, ↓wIsi_ref, ↓wAll_lst, ↓wAny_lst, ↓wSum_lst, ↓wTuple_tup, ↓wTuple_lst, ↓wTuple_ref, ↓wList_tup, ↓wList_lst, ↓wList_ref, ↓wListM_tup, ↓wListM_lst, ↓wCut_tup, ↓wCut_lst, ↓wCut_ref, ↓wCut_str, ↓wRep_lst, ↓wRepM_lst, ↓zipOf_tup, ↓zipOf_lst, ↓enumOf_lst, ↓enumOf_scr, ↓zipG2_eq, ↓zipG3_eq, ↓enumG_eq, ↓wSorted_eq, ↓wSortedM_eq, ↓wClear_ref, ↓wGet_ref, ↓truO_bl, ↓intO_int, ↓isS_some, ↓isG_lst, ↓setF_ref, ↓isI_ins, ↓dPut_ref, ↓isD_dic, ↓insOf_gup, ↓dicOf_gup, ↓isExc_exc, ↓lstOf_lst, ↓gT'_tup, sdel, keyOf, nk, rangeW_length, sset, skill, swipe, swipe.sforget, lcW, wIn, seqs, inW, eqW, flatW, kdIs, isNon, gup_same, gup_gup, at0, at1, at2, at3, at4, at5, at6, at7, ix0, ix1, ix2, ix3, ix4, ix5, W.bl.injEq, exists_eq_left', List.length_cons, List.length_nil, List.length_map, Nat.zero_add, Nat.reduceAdd, List.set, List.map_cons, List.map_nil, Option.isSome_some, List.all_cons, List.all_nil, List.any_cons, List.any_nil, List.cons_append, List.nil_append, Bool.and_true, Bool.and_self, Bool.or_false, Bool.true_and, Bool.false_and, Bool.and_false, true_and, decide_true, decide_false, Bool.not_true, Bool.not_false, Bool.not_not, Bool.false_eq_true, if_true, if_false, ite_self, beq_self_eq_true])

/-! ### a line lost -/
noncomputable def dueL (n : Nat) (ls : List Ln) : List Nat := (List.range ls.length).filter fun k => connB n (edges (dropL ls k))
theorem drop_mem {ls : List Ln} {k : Nat} {l : Ln} (h : l ∈ dropL ls k) : l ∈ ls := by
  rcases List.mem_append.mp h with h | h
  · exact List.mem_of_mem_take h
  · exact List.mem_of_mem_drop h
theorem drop_len {ls : List Ln} {k : Nat} (h : k < ls.length) : (dropL ls k).length + 1 = ls.length := by
  unfold dropL
  rw [List.length_append, List.length_take, List.length_drop]
  omega
theorem drop_len' {ls : List Ln} {k : Nat} : (dropL ls k).length ≤ ls.length := by
  unfold dropL
  rw [List.length_append, List.length_take, List.length_drop]
  omega
theorem due_mem {n k : Nat} {ls : List Ln} (h : k ∈ dueL n ls) : k < ls.length ∧ connB n (edges (dropL ls k)) = true := by
  unfold dueL at h
  rw [List.mem_filter, List.mem_range] at h
  exact h
theorem net_drop {n k : Nat} {ls : List Ln} (h : Net n ls) (m : k ∈ dueL n ls) : Net n (dropL ls k) :=
  ⟨h.n1, h.n4, Nat.le_trans drop_len' h.few, fun l hl => h.ok l (drop_mem hl), connB_iff.mp (due_mem m).2⟩
theorem cut_lines {ls : List Ln} {k : Nat} (h : k < ls.length) : cutW (linesW ls) none (some ((k : Nat) : Int)) ++ cutW (linesW ls) (some (((k + 1 : Nat)) : Int)) none = linesW (dropL ls k) := by
  rw [cut_to _ _ (by omega), cut_from _ _ (by omega), ← List.map_append]
  rfl
theorem wD_net (n : Nat) (ls : List Ln) : wD 3 (netW n ls) := wD_tup fun w h => by
  simp only [List.mem_cons, List.not_mem_nil, or_false] at h
  rcases h with rfl | rfl
  · exact wD_mono wD_int (by decide)
  · refine wD_tup fun w h => ?_
    obtain ⟨l, _, rfl⟩ := List.mem_map.mp h
    refine wD_tup fun w h => ?_
    simp only [List.mem_cons, List.not_mem_nil, or_false] at h
    rcases h with rfl | rfl | rfl | rfl <;> exact wD_int
theorem lnOf_line (l : Ln) : lnOf (lineW l) = l := rfl
theorem line_ok {n : Nat} {l : Ln} (h : LnOk n l) : lineB n (lineW l) = true := by
  have h1 := h.a
  have h2 := h.b
  have h3 := h.ne
  have h4 := h.s
  have h5 := h.m
  show (fromB _ _ _ && (fromB _ _ _ && (!intEqB _ _ && (fromB _ _ _ && fromB _ _ _)))) = true
  simp only [fromB, intEqB, Bool.and_eq_true, decide_eq_true_eq, Bool.not_eq_true', decide_eq_false_iff_not]
  omega
theorem net_ok {n : Nat} {ls : List Ln} (h : Net n ls) : netB (netW n ls) = true := by
  have e : (linesW ls).map lnOf = ls := by rw [List.map_map]; simp [Function.comp_def, lnOf_line]
  show (fromB _ 1 4 && (decide ((linesW ls).length ≤ 6) && ((linesW ls).all (lineB n) && connB n (edges ((linesW ls).map lnOf))))) = true
  rw [e, connB_iff.mpr h.conn, decide_eq_true (show (linesW ls).length ≤ 6 by rw [List.length_map]; exact h.few)]
  have h1 := h.n1
  have h4 := h.n4
  have a : (linesW ls).all (lineB n) = true := List.all_eq_true.mpr fun w hw => by
    obtain ⟨l, hl, rfl⟩ := List.mem_map.mp hw
    exact line_ok (h.ok l hl)
  rw [a]
  simp [fromB]
  omega
theorem net_dat (n : Nat) (ls : List Ln) : datB (netW n ls) = true := by
  have a : datsB (linesW ls) = true := dats_all.mpr fun w hw => by
    obtain ⟨l, _, rfl⟩ := List.mem_map.mp hw
    rfl
  show (true && (datsB (linesW ls) && true)) = true
  rw [a]; rfl
theorem due_len {n : Nat} {ls : List Ln} : (dueL n ls).length ≤ ls.length := by
  unfold dueL
  exact Nat.le_trans (List.length_filter_le _ _) (by rw [List.length_range]; exact Nat.le_refl _)
def sp_left_lines : Spw := fun ws G Q _ => ∃ n ls k, ws = [netW n ls, .int ((k : Nat) : Int)] ∧ k < ls.length ∧ ls.length ≤ 1000 ∧ Q (.tup (linesW (dropL ls k))) G
theorem len_left_lines (ws G Q E) (h : sp_left_lines ws G Q E) : ws.length = 2 := by obtain ⟨_, _, _, rfl, _⟩ := h; rfl
/-- slots: net 0, line 1 -/
def t_left_lines : TSw := (wRet (wOp wAdd (wSlice (wOp wIx (wVar 0) (wC (.int 1))) wpNone (wpSome (wVar 1))) (wSlice (wOp wIx (wVar 0) (wC (.int 1))) (wpSome (wOp wAdd (wVar 1) (wC (.int 1)))) wpNone)))
theorem rd_left_lines (ws : List W) (G : Gp) (Q : QW) (E) (h : sp_left_lines ws G Q E) : t_left_lines { nx := fun _ G' => Q .non G', rt := Cl Q } (startW ["net", "line"] ws) G := by
  obtain ⟨n, ls, k, rfl, hk, few, q⟩ := h
  show t_left_lines _ [some (netW n ls), some (.int k)] G
  have big : 1000 < sizeLine := by decide
  have l1 := congrArg List.length (cut_lines hk)
  rw [List.length_append, List.length_map] at l1
  have l2 := drop_len hk
  unfold t_left_lines
  walk_at "w"
  rw [show ((k : Nat) : Int) + 1 = ((k + 1 : Nat) : Int) by omega, cut_lines hk]
  exact ⟨by omega, .inl q⟩
def sp_losable : Spw := fun ws G Q _ => ∃ n ls, ws = [netW n ls] ∧ Net n ls ∧ tellL (natsW (dueL n ls)) Q G
theorem len_losable (ws G Q E) (h : sp_losable ws G Q E) : ws.length = 1 := by obtain ⟨_, _, rfl, _⟩ := h; rfl
/-- slots: net 0, k 1 -/
def t_losable : TSw := (wRet (wLcM [1] (iR1 (wCons (wCB wLen (wCons (wOp wIx (wVar 0) (wC (.int 1))) wNil)) wNil)) (gN 1) (wTest (wCall sp_hangs_together (wCons (wOp wIx (wVar 0) (wC (.int 0))) (wCons (wCall sp_left_lines (wCons (wVar 0) (wCons (wVar 1) wNil))) wNil)))) (wVar 1)))
theorem rd_losable (ws : List W) (G : Gp) (Q : QW) (E) (h : sp_losable ws G Q E) : t_losable { nx := fun _ G' => Q .non G', rt := Cl Q } (startW ["net", "k"] ws) G := by
  obtain ⟨n, ls, rfl, net, q⟩ := h
  show t_losable _ [some (netW n ls), none] G
  have big : 1000 < sizeLine := by decide
  have few := net.few
  unfold t_losable
  walk_at "w"
  rw [show ((ls.length : Nat) : Int).toNat = ls.length by omega]
  refine ⟨by omega, by omega, by omega, ?_⟩
  refine lcW_filterA (fun k : Nat => W.int (0 + (k : Int))) (fun k => .int ((k : Nat) : Int)) (fun k => connB n (edges (dropL ls k))) _ _ _ ?_ ?_
  · intro k hk R P hR hP
    rw [List.mem_range] at hk
    rw [Int.zero_add]
    walk_at "w"
    refine ⟨n, ls, k, rfl, hk, by omega, ?_⟩
    walk_at "w"
    refine ⟨n, _, dropL ls k, rfl, .inl rfl, net.n1, by have := net.n4; omega, fun l hl => net.ok l (drop_mem hl), ?_⟩
    walk_at "w"
    cases c : connB n (edges (dropL ls k)) with
    | true => rw [if_pos rfl]; exact hR c
    | false => rw [if_neg (by decide)]; exact hP c
  · intro p hp
    exact q.cl hp
end WL


namespace WL
open PySem PySem.Spec PyProof.Rows L2
local macro_rules | `(tactic| walk_at "w") => `(tactic| try simp only [↓a_seq, ↓a_asg, ↓a_ifS, ↓a_ret, ↓a_retN, ↓a_next, ↓a_break, ↓a_cont, ↓a_drop, ↓a_for, ↓a_C, ↓a_op, ↓a_un, ↓a_neg, ↓a_CB, ↓a_call, ↓a_nil, ↓a_cons, ↓a_tup, ↓a_lst, ↓a_lstM, ↓a_test, ↓a_and, ↓a_or, ↓a_not, ↓a_yes, ↓a_andV, ↓a_orV, ↓a_notV, ↓a_if, ↓a_isN, ↓a_notN, ↓a_chain, ↓a_BM, ↓a_BM0, ↓a_seqI, ↓a_R1, ↓a_R2, ↓a_zip2, ↓a_zipG2, ↓a_zipG3, ↓a_enumG, ↓a_enum, ↓a_lc, ↓a_lcM, ↓a_lcR, ↓a_forR, ↓a_seqR, ↓a_zip2R, ↓a_zipR, ↓a_lstRg, ↓a_lstRgM, ↓a_lcP, ↓a_lcPM, ↓a_zipTR, ↓a_zipTQ, ↓a_zip3R, ↓a_zip3Q, ↓a_lenSetT, ↓a_slice, ↓a_sliceM, ↓a_pN, ↓a_pS, ↓a_augIx, ↓a_gIx, ↓a_par, ↓a_setF, ↓a_meth, ↓a_make, ↓a_makeZ, ↓a_dnew, ↓a_done, ↓a_dput, ↓a_dget, ↓a_din, ↓a_lenD, ↓a_raise, ↓a_callX, ↓a_retX, ↓a_dropX, ↓a_asgX, ↓a_tryAs, ↓a_isE, ↓a_isET, ↓a_xf, ↓a_callE, ↓a_lstI, ↓v_0, ↓g_0, ↓u_0, ↓v_1, ↓g_1, ↓u_1, ↓v_2, ↓g_2, ↓u_2, ↓v_3, ↓g_3, ↓u_3, ↓v_4, ↓g_4, ↓u_4, ↓v_5, ↓g_5, ↓u_5, ↓v_6, ↓g_6, ↓u_6, ↓v_7, ↓g_7, ↓u_7, ↓v_8, ↓g_8, ↓u_8, ↓v_9, ↓g_9, ↓u_9, ↓v_10, ↓g_10, ↓u_10, ↓v_11, ↓g_11, ↓u_11, ↓v_12, ↓g_12, ↓u_12, ↓v_13, ↓g_13, ↓u_13, ↓v_14, ↓g_14, ↓u_14, ↓v_15, ↓g_15, ↓u_15, ↓v_16, ↓g_16, ↓u_16, ↓v_17, ↓g_17, ↓u_17, ↓v_18, ↓g_18, ↓u_18, ↓v_19, ↓g_19, ↓u_19, ↓v_20, ↓g_20, ↓u_20, ↓v_21, ↓g_21, ↓u_21, ↓v_22, ↓g_22, ↓u_22, ↓v_23, ↓g_23, ↓u_23, ↓v_24, ↓g_24, ↓u_24, ↓v_25, ↓g_25, ↓u_25, ↓f_0, ↓fl_0, ↓fn_0, ↓f_1, ↓fl_1, ↓fn_1, ↓f_2, ↓fl_2, ↓fn_2, ↓f_3, ↓fl_3, ↓fn_3, ↓f_4, ↓fl_4, ↓fn_4, ↓f_5, ↓fl_5, ↓fn_5, ↓f_6, ↓fl_6, ↓fn_6, ↓f_7, ↓fl_7, ↓fn_7, ↓f_8, ↓fl_8, ↓fn_8, ↓f_9, ↓fl_9, ↓fn_9, ↓f_10, ↓fl_10, ↓fn_10, ↓f_11, ↓fl_11, ↓fn_11, ↓f_12, ↓fl_12, ↓fn_12, ↓f_13, ↓fl_13, ↓fn_13, ↓f_14, ↓fl_14, ↓fn_14, ↓f_15, ↓fl_15, ↓fn_15, ↓f_16, ↓fl_16, ↓fn_16, ↓f_17, ↓fl_17, ↓fn_17, ↓f_18, ↓fl_18, ↓fn_18, ↓f_19, ↓fl_19, ↓fn_19, ↓f_20, ↓fl_20, ↓fn_20, ↓f_21, ↓fl_21, ↓fn_21, ↓f_22, ↓fl_22, ↓fn_22, ↓f_23, ↓fl_23, ↓fn_23, ↓f_24, ↓fl_24, ↓fn_24, ↓f_25, ↓fl_25, ↓fn_25, ↓asL_lst, ↓asL_scr, ↓asL_gup, ↓wIx_tup, ↓wIx_lst, ↓wIx_scr, ↓wIx_ref, ↓wIx_str, ↓wAdd_int, ↓wAdd_str, ↓wAdd_tup, ↓wAdd_lst, ↓wII_int, ↓wI2_int, ↓wI1_int, ↓wI1N_int, ↓wI2N_int, ↓wLen_tup, ↓wLen_lst, ↓wLen_scr, ↓wLen_ref, ↓wLen_str, ↓wInt_int, ↓wInt_bl, ↓wStrI_int, ↓wEq_int, ↓wEq_str, ↓wEq_bl, ↓wNe_bl, ↓wNe_int, ↓wNe_str, ↓wEq_tup, ↓wNe_tup, ↓wEq_lst, ↓wNe_lst, ↓setIx_ref, ↓gT_tup, ↓gT_lst, ↓gT_ref, ↓gsC_cons, ↓gsN_nil, ↓wAppend_ref, ↓wPop_ref, ↓wExtend_ref, ↓rgO_int, ↓wAddM_lst, ↓wIsB_bl, ↓wReverse_ref, ↓wRepT_tup, ↓wNotB_bl, ↓wInD_lst, ↓wPopAt_ref, ↓wInsert_ref, ↓refR_ref, ↓seqOf_tup, ↓seqOf_lst, ↓seqOf_scr, ↓seqOf_ref, ↓rng1_int, ↓rng2_int, ↓wIsi_non, ↓wIsi_bl, ↓wIsi_int, ↓wIsi_str, ↓wIsi_tup, ↓wIsi_lst, ↓wIsi_ref, ↓wAll_lst, ↓wAny_lst, ↓wSum_lst, ↓wTuple_tup, ↓wTuple_lst, ↓wTuple_ref, ↓wList_tup, ↓wList_lst, ↓wList_ref, ↓wListM_tup, ↓wListM_lst, ↓wCut_tup, ↓wCut_lst, ↓wCut_ref, ↓wCut_str, ↓wRep_lst, ↓wRepM_lst, ↓zipOf_tup, ↓zipOf_lst, ↓enumOf_lst, ↓enumOf_scr, ↓zipG2_eq, ↓zipG3_eq, ↓enumG_eq, ↓wSorted_eq, ↓wSortedM_eq, ↓wClear_ref, ↓wGet_ref, ↓truO_bl, ↓intO_int, ↓isS_some, ↓isG_lst, ↓setF_ref, ↓isI_ins, ↓dPut_ref, ↓isD_dic, ↓insOf_gup, ↓dicOf_gup, ↓isExc_exc, ↓lstOf_lst, ↓gT'_tup, sdel, keyOf, nk, rangeW_length, sset, skill, swipe, swipe.sforget, lcW, wIn, seqs, inW, eqW, flatW, kdIs, isNon, gup_same, gup_gup, at0, at1, at2, at3, at4, at5, at6, at7, ix0, ix1, ix2, ix3, ix4, ix5, W.bl.injEq, exists_eq_left', List.length_cons, List.length_nil, List.length_map, Nat.zero_add, Nat.reduceAdd, List.set, List.map_cons, List.map_nil, Option.isSome_some, List.all_cons, List.all_nil, List.any_cons, List.any_nil, List.cons_append, List.nil_append, Bool.and_true, Bool.and_self, Bool.or_false, Bool.true_and, Bool.false_and, Bool.and_false, true_and, decide_true, decide_false, Bool.not_true, Bool.not_false, Bool.not_not, Bool.false_eq_true, if_true, if_false, ite_self, beq_self_eq_true])

/-- a list told by a def as its caller's frozen one -/
theorem TL.cl {Q : QW} {G : Gp} {p : Addr} {ws : List W} (n : G p = none) (h : Q (.lst ws) G) : Cl Q (.ref p) (gup G p (.lst ws)) := (show tellL ws Q G from .inl h).cl n
/-! ### drawing -/
/-- only the bag has changed -/
def BagUp (p : Addr) (G G' : Gp) : Prop := ∃ c x, G' = gup G p (bagO c x) ∧ 0 ≤ c ∧ 0 ≤ x ∧ x < 2147483648
theorem BagUp.at {p : Addr} {G G' : Gp} (h : BagUp p G G') : BagAt p G' := by
  obtain ⟨c, x, rfl, r⟩ := h
  exact ⟨c, x, gup_same, r⟩
theorem BagUp.ne {p q : Addr} {G G' : Gp} (h : BagUp p G G') (ne : q ≠ p) : G' q = G q := by
  obtain ⟨c, x, rfl, r⟩ := h
  exact gup_ne ne
theorem BagUp.refl {p : Addr} {G : Gp} (h : BagAt p G) : BagUp p G G := by
  obtain ⟨c, x, g, r⟩ := h
  exact ⟨c, x, (gup_self g).symm, r⟩
theorem BagUp.trans {p : Addr} {G G' G'' : Gp} (h : BagUp p G G') (h' : BagUp p G' G'') : BagUp p G G'' := by
  obtain ⟨c, x, rfl, r⟩ := h
  obtain ⟨c', x', rfl, r'⟩ := h'
  exact ⟨c', x', gup_gup, r'⟩
theorem take_up {p : Addr} {m : Int} {G : Gp} {Q : QW} {E} (h : BagAt p G) (hm : 0 < m) (q : ∀ (d : Nat) G', (d : Int) < m → BagUp p G G' → Q (.int ((d : Nat) : Int)) G') : sp__law_take [.ref p, .int m] G Q E := by
  obtain ⟨c, x, g, hc, hx, hx2⟩ := h
  refine ⟨p, m, c, x, rfl, g, hc, hx, hx2, hm, fun d c' x' d0 d1 hc' hx' hx2' => ?_⟩
  obtain ⟨k, rfl⟩ : ∃ k : Nat, d = (k : Int) := ⟨d.toNat, by omega⟩
  exact q k _ d1 ⟨c', x', rfl, hc', hx', hx2'⟩
theorem bag_up {ns : List Int} {k : Int} {G : Gp} {Q : QW} {E} (hl : ns.length ≤ 63) (h0 : 0 ≤ k) (h1 : k < 1000) (q : ∀ p G', G p = none → BagAt p G' → (∀ r, r ≠ p → G' r = G r) → Q (.ref p) G') : sp__law_bag [.scr (ns.map W.int), .int k] G Q E :=
  ⟨ns, k, rfl, hl, h0, h1, fun p c x hp hc hx hx2 => q p _ hp ⟨c, x, gup_same, hc, hx, hx2⟩ fun r hr => gup_ne hr⟩
theorem far_up {p : Addr} {n : Nat} {G : Gp} {Q : QW} {E} (h : BagAt p G) (hm : n ≤ 6) (q : ∀ (d : Nat) G', d < 10 ^ (6 * n) → BagUp p G G' → Q (.int ((d : Nat) : Int)) G') : sp__law_far [.ref p, .int ((n : Nat) : Int)] G Q E := by
  obtain ⟨c, x, g, hc, hx, hx2⟩ := h
  refine ⟨p, n, c, x, rfl, g, hc, hx, hx2, by omega, by omega, fun d c' x' d0 d1 hc' hx' hx2' => ?_⟩
  obtain ⟨k, rfl⟩ : ∃ k : Nat, d = (k : Int) := ⟨d.toNat, by omega⟩
  refine q k _ ?_ ⟨c', x', rfl, hc', hx', hx2'⟩
  rw [show ((n : Nat) : Int).toNat = n by omega] at d1
  exact_mod_cast d1
theorem net_up {p : Addr} {G : Gp} {Q : QW} {E} (h : BagAt p G) (q : ∀ n ls G', Net n ls → BagUp p G G' → Q (netW n ls) G') : sp__law_net [.ref p] G Q E :=
  ⟨p, rfl, h, fun n ls c x net hc hx hx2 => by first | exact q n ls _ net ⟨c, x, rfl, hc, hx, hx2⟩ | exact fun _ => q n ls _ net ⟨c, x, rfl, hc, hx, hx2⟩⟩
theorem isS_at {l : List W} {d : Nat} {P : W → Prop} (h : d < l.length) (q : ∀ w ∈ l, P w) : isS (L2.atI l ((d : Nat) : Int)) P := by
  rw [L2.atI_nat (List.getElem?_eq_getElem h)]
  exact q _ (List.getElem_mem h)
end WL


namespace WL
open PySem PySem.Spec PyProof.Rows L2
local macro_rules | `(tactic| walk_at "w") => `(tactic| try simp only [↓a_seq, ↓a_asg, ↓a_ifS, ↓a_ret, ↓a_retN, ↓a_next, ↓a_break, ↓a_cont, ↓a_drop, ↓a_for, ↓a_C, ↓a_op, ↓a_un, ↓a_neg, ↓a_CB, ↓a_call, ↓a_nil, ↓a_cons, ↓a_tup, ↓a_lst, ↓a_lstM, ↓a_test, ↓a_and, ↓a_or, ↓a_not, ↓a_yes, ↓a_andV, ↓a_orV, ↓a_notV, ↓a_if, ↓a_isN, ↓a_notN, ↓a_chain, ↓a_BM, ↓a_BM0, ↓a_seqI, ↓a_R1, ↓a_R2, ↓a_zip2, ↓a_zipG2, ↓a_zipG3, ↓a_enumG, ↓a_enum, ↓a_lc, ↓a_lcM, ↓a_lcR, ↓a_forR, ↓a_seqR, ↓a_zip2R, ↓a_zipR, ↓a_lstRg, ↓a_lstRgM, ↓a_lcP, ↓a_lcPM, ↓a_zipTR, ↓a_zipTQ, ↓a_zip3R, ↓a_zip3Q, ↓a_lenSetT, ↓a_slice, ↓a_sliceM, ↓a_pN, ↓a_pS, ↓a_augIx, ↓a_gIx, ↓a_par, ↓a_setF, ↓a_meth, ↓a_make, ↓a_makeZ, ↓a_dnew, ↓a_done, ↓a_dput, ↓a_dget, ↓a_din, ↓a_lenD, ↓a_raise, ↓a_callX, ↓a_retX, ↓a_dropX, ↓a_asgX, ↓a_tryAs, ↓a_isE, ↓a_isET, ↓a_xf, ↓a_callE, ↓a_lstI, ↓v_0, ↓g_0, ↓u_0, ↓v_1, ↓g_1, ↓u_1, ↓v_2, ↓g_2, ↓u_2, ↓v_3, ↓g_3, ↓u_3, ↓v_4, ↓g_4, ↓u_4, ↓v_5, ↓g_5, ↓u_5, ↓v_6, ↓g_6, ↓u_6, ↓v_7, ↓g_7, ↓u_7, ↓v_8, ↓g_8, ↓u_8, ↓v_9, ↓g_9, ↓u_9, ↓v_10, ↓g_10, ↓u_10, ↓v_11, ↓g_11, ↓u_11, ↓v_12, ↓g_12, ↓u_12, ↓v_13, ↓g_13, ↓u_13, ↓v_14, ↓g_14, ↓u_14, ↓v_15, ↓g_15, ↓u_15, ↓v_16, ↓g_16, ↓u_16, ↓v_17, ↓g_17, ↓u_17, ↓v_18, ↓g_18, ↓u_18, ↓v_19, ↓g_19, ↓u_19, ↓v_20, ↓g_20, ↓u_20, ↓v_21, ↓g_21, ↓u_21, ↓v_22, ↓g_22, ↓u_22, ↓v_23, ↓g_23, ↓u_23, ↓v_24, ↓g_24, ↓u_24, ↓v_25, ↓g_25, ↓u_25, ↓f_0, ↓fl_0, ↓fn_0, ↓f_1, ↓fl_1, ↓fn_1, ↓f_2, ↓fl_2, ↓fn_2, ↓f_3, ↓fl_3, ↓fn_3, ↓f_4, ↓fl_4, ↓fn_4, ↓f_5, ↓fl_5, ↓fn_5, ↓f_6, ↓fl_6, ↓fn_6, ↓f_7, ↓fl_7, ↓fn_7, ↓f_8, ↓fl_8, ↓fn_8, ↓f_9, ↓fl_9, ↓fn_9, ↓f_10, ↓fl_10, ↓fn_10, ↓f_11, ↓fl_11, ↓fn_11, ↓f_12, ↓fl_12, ↓fn_12, ↓f_13, ↓fl_13, ↓fn_13, ↓f_14, ↓fl_14, ↓fn_14, ↓f_15, ↓fl_15, ↓fn_15, ↓f_16, ↓fl_16, ↓fn_16, ↓f_17, ↓fl_17, ↓fn_17, ↓f_18, ↓fl_18, ↓fn_18, ↓f_19, ↓fl_19, ↓fn_19, ↓f_20, ↓fl_20, ↓fn_20, ↓f_21, ↓fl_21, ↓fn_21, ↓f_22, ↓fl_22, ↓fn_22, ↓f_23, ↓fl_23, ↓fn_23, ↓f_24, ↓fl_24, ↓fn_24, ↓f_25, ↓fl_25, ↓fn_25, ↓asL_lst, ↓asL_scr, ↓asL_gup, ↓wIx_tup, ↓wIx_lst, ↓wIx_scr, ↓wIx_ref, ↓wIx_str, ↓wAdd_int, ↓wAdd_str, ↓wAdd_tup, ↓wAdd_lst, ↓wII_int, ↓wI2_int, ↓wI1_int, ↓wI1N_int, ↓wI2N_int, ↓wLen_tup, ↓wLen_lst, ↓wLen_scr, ↓wLen_ref, ↓wLen_str, ↓wInt_int, ↓wInt_bl, ↓wStrI_int, ↓wEq_int, ↓wEq_str, ↓wEq_bl, ↓wNe_bl, ↓wNe_int, ↓wNe_str, ↓wEq_tup, ↓wNe_tup, ↓wEq_lst, ↓wNe_lst, ↓setIx_ref, ↓gT_tup, ↓gT_lst, ↓gT_ref, ↓gsC_cons, ↓gsN_nil, ↓wAppend_ref, ↓wPop_ref, ↓wExtend_ref, ↓rgO_int, ↓wAddM_lst, ↓wIsB_bl, ↓wReverse_ref, ↓wRepT_tup, ↓wNotB_bl, ↓wInD_lst, ↓wPopAt_ref, ↓wInsert_ref, ↓refR_ref, ↓seqOf_tup, ↓seqOf_lst, ↓seqOf_scr, ↓seqOf_ref, ↓rng1_int, ↓rng2_int, ↓wIsi_non, ↓wIsi_bl, ↓wIsi_int, ↓wIsi_str, ↓wIsi_tup, ↓wIsi_lst, ↓wIsi_ref, ↓wAll_lst, ↓wAny_lst, ↓wSum_lst, ↓wTuple_tup, ↓wTuple_lst, ↓wTuple_ref, ↓wList_tup, ↓wList_lst, ↓wList_ref, ↓wListM_tup, ↓wListM_lst, ↓wCut_tup, ↓wCut_lst, ↓wCut_ref, ↓wCut_str, ↓wRep_lst, ↓wRepM_lst, ↓zipOf_tup, ↓zipOf_lst, ↓enumOf_lst, ↓enumOf_scr, ↓zipG2_eq, ↓zipG3_eq, ↓enumG_eq, ↓wSorted_eq, ↓wSortedM_eq, ↓wClear_ref, ↓wGet_ref, ↓truO_bl, ↓intO_int, ↓isS_some, ↓isG_lst, ↓setF_ref, ↓isI_ins, ↓dPut_ref, ↓isD_dic, ↓insOf_gup, ↓dicOf_gup, ↓isExc_exc, ↓lstOf_lst, ↓gT'_tup, sdel, keyOf, nk, rangeW_length, sset, skill, swipe, swipe.sforget, lcW, wIn, seqs, inW, eqW, flatW, kdIs, isNon, gup_same, gup_gup, at0, at1, at2, at3, at4, at5, at6, at7, ix0, ix1, ix2, ix3, ix4, ix5, W.bl.injEq, exists_eq_left', List.length_cons, List.length_nil, List.length_map, Nat.zero_add, Nat.reduceAdd, List.set, List.map_cons, List.map_nil, Option.isSome_some, List.all_cons, List.all_nil, List.any_cons, List.any_nil, List.cons_append, List.nil_append, Bool.and_true, Bool.and_self, Bool.or_false, Bool.true_and, Bool.false_and, Bool.and_false, true_and, decide_true, decide_false, Bool.not_true, Bool.not_false, Bool.not_not, Bool.false_eq_true, if_true, if_false, ite_self, beq_self_eq_true])

/-! ### things of any kind, of bounded width -/
mutual
def okB (k : Nat) : W → Bool
  | .non => true
  | .bl _ => true
  | .int _ => true
  | .str _ => true
  | .tup ws => decide (ws.length ≤ k) && oksB k ws
  | .lst ws => decide (ws.length ≤ k) && oksB k ws
  | _ => false
def oksB (k : Nat) : List W → Bool
  | [] => true
  | w :: ws => okB k w && oksB k ws
end
theorem oks_all {k : Nat} : ∀ {ws : List W}, oksB k ws = true ↔ ∀ w ∈ ws, okB k w = true
  | [] => by simp [oksB]
  | w :: ws => by
    simp only [oksB, Bool.and_eq_true, oks_all (ws := ws), List.mem_cons, forall_eq_or_imp]
theorem ok_tup {k : Nat} {ws : List W} : okB k (.tup ws) = true ↔ ws.length ≤ k ∧ ∀ w ∈ ws, okB k w = true := by
  rw [okB, Bool.and_eq_true, oks_all, decide_eq_true_eq]
theorem ok_lst {k : Nat} {ws : List W} : okB k (.lst ws) = true ↔ ws.length ≤ k ∧ ∀ w ∈ ws, okB k w = true := by
  rw [okB, Bool.and_eq_true, oks_all, decide_eq_true_eq]
mutual
theorem ok_mono {k m : Nat} (h : k ≤ m) : ∀ (w : W), okB k w = true → okB m w = true
  | .non, _ => rfl
  | .bl _, _ => rfl
  | .int _, _ => rfl
  | .str _, _ => rfl
  | .tup ws, e => by
    rw [okB, Bool.and_eq_true] at e ⊢
    exact ⟨decide_eq_true (Nat.le_trans (of_decide_eq_true e.1) h), oks_mono h ws e.2⟩
  | .lst ws, e => by
    rw [okB, Bool.and_eq_true] at e ⊢
    exact ⟨decide_eq_true (Nat.le_trans (of_decide_eq_true e.1) h), oks_mono h ws e.2⟩
  | .scr _, e => by simp [okB] at e
  | .ins _ _, e => by simp [okB] at e
  | .ref _, e => by simp [okB] at e
  | .ty _, e => by simp [okB] at e
theorem oks_mono {k m : Nat} (h : k ≤ m) : ∀ (ws : List W), oksB k ws = true → oksB m ws = true
  | [], _ => rfl
  | w :: ws, e => by
    rw [oksB, Bool.and_eq_true] at e ⊢
    exact ⟨ok_mono h w e.1, oks_mono h ws e.2⟩
end
mutual
theorem ok_dat {k : Nat} : ∀ (w : W), okB k w = true → datB w = true
  | .non, _ => rfl
  | .bl _, _ => rfl
  | .int _, _ => rfl
  | .str _, _ => rfl
  | .tup ws, e => by
    rw [okB, Bool.and_eq_true] at e
    rw [datB]
    exact oks_dat ws e.2
  | .lst ws, e => by
    rw [okB, Bool.and_eq_true] at e
    rw [datB]
    exact oks_dat ws e.2
  | .scr _, e => by simp [okB] at e
  | .ins _ _, e => by simp [okB] at e
  | .ref _, e => by simp [okB] at e
  | .ty _, e => by simp [okB] at e
theorem oks_dat {k : Nat} : ∀ (ws : List W), oksB k ws = true → datsB ws = true
  | [], _ => rfl
  | w :: ws, e => by
    rw [oksB, Bool.and_eq_true] at e
    rw [datsB, ok_dat w e.1, oks_dat ws e.2]
    rfl
end
theorem cut_mem {ws : List W} {lo hi : Option Int} {w : W} (h : w ∈ cutW ws lo hi) : w ∈ ws := by
  unfold cutW at h
  exact List.mem_of_mem_drop (List.mem_of_mem_take h)
theorem cut_len {ws : List W} {lo hi : Option Int} : (cutW ws lo hi).length ≤ ws.length := by
  unfold cutW
  rw [List.length_take, List.length_drop]
  omega
theorem rep_mem {k : Int} {ws : List W} {w : W} (h : w ∈ repW k ws) : w ∈ ws := by
  unfold repW at h
  obtain ⟨l, hl, hw⟩ := List.mem_flatten.mp h
  rw [(List.mem_replicate.mp hl).2] at hw
  exact hw
theorem rep_len {k : Int} {ws : List W} : (repW k ws).length = k.toNat * ws.length := by
  unfold repW
  rw [List.length_flatten, List.map_replicate, List.sum_replicate_nat]
end WL


namespace WL
open PySem PySem.Spec PyProof.Rows L2
local macro_rules | `(tactic| walk_at "w") => `(tactic| try simp only [↓a_seq, ↓a_asg, ↓a_ifS, ↓a_ret, ↓a_retN, ↓a_next, ↓a_break, ↓a_cont, ↓a_drop, ↓a_for, ↓a_C, ↓a_op, ↓a_un, ↓a_neg, ↓a_CB, ↓a_call, ↓a_nil, ↓a_cons, ↓a_tup, ↓a_lst, ↓a_lstM, ↓a_test, ↓a_and, ↓a_or, ↓a_not, ↓a_yes, ↓a_andV, ↓a_orV, ↓a_notV, ↓a_if, ↓a_isN, ↓a_notN, ↓a_chain, ↓a_BM, ↓a_BM0, ↓a_seqI, ↓a_R1, ↓a_R2, ↓a_zip2, ↓a_zipG2, ↓a_zipG3, ↓a_enumG, ↓a_enum, ↓a_lc, ↓a_lcM, ↓a_lcR, ↓a_forR, ↓a_seqR, ↓a_zip2R, ↓a_zipR, ↓a_lstRg, ↓a_lstRgM, ↓a_lcP, ↓a_lcPM, ↓a_zipTR, ↓a_zipTQ, ↓a_zip3R, ↓a_zip3Q, ↓a_lenSetT, ↓a_slice, ↓a_sliceM, ↓a_pN, ↓a_pS, ↓a_augIx, ↓a_gIx, ↓a_par, ↓a_setF, ↓a_meth, ↓a_make, ↓a_makeZ, ↓a_dnew, ↓a_done, ↓a_dput, ↓a_dget, ↓a_din, ↓a_lenD, ↓a_raise, ↓a_callX, ↓a_retX, ↓a_dropX, ↓a_asgX, ↓a_tryAs, ↓a_isE, ↓a_isET, ↓a_xf, ↓a_callE, ↓a_lstI, ↓v_0, ↓g_0, ↓u_0, ↓v_1, ↓g_1, ↓u_1, ↓v_2, ↓g_2, ↓u_2, ↓v_3, ↓g_3, ↓u_3, ↓v_4, ↓g_4, ↓u_4, ↓v_5, ↓g_5, ↓u_5, ↓v_6, ↓g_6, ↓u_6, ↓v_7, ↓g_7, ↓u_7, ↓v_8, ↓g_8, ↓u_8, ↓v_9, ↓g_9, ↓u_9, ↓v_10, ↓g_10, ↓u_10, ↓v_11, ↓g_11, ↓u_11, ↓v_12, ↓g_12, ↓u_12, ↓v_13, ↓g_13, ↓u_13, ↓v_14, ↓g_14, ↓u_14, ↓v_15, ↓g_15, ↓u_15, ↓v_16, ↓g_16, ↓u_16, ↓v_17, ↓g_17, ↓u_17, ↓v_18, ↓g_18, ↓u_18, ↓v_19, ↓g_19, ↓u_19, ↓v_20, ↓g_20, ↓u_20, ↓v_21, ↓g_21, ↓u_21, ↓v_22, ↓g_22, ↓u_22, ↓v_23, ↓g_23, ↓u_23, ↓v_24, ↓g_24, ↓u_24, ↓v_25, ↓g_25, ↓u_25, ↓f_0, ↓fl_0, ↓fn_0, ↓f_1, ↓fl_1, ↓fn_1, ↓f_2, ↓fl_2, ↓fn_2, ↓f_3, ↓fl_3, ↓fn_3, ↓f_4, ↓fl_4, ↓fn_4, ↓f_5, ↓fl_5, ↓fn_5, ↓f_6, ↓fl_6, ↓fn_6, ↓f_7, ↓fl_7, ↓fn_7, ↓f_8, ↓fl_8, ↓fn_8, ↓f_9, ↓fl_9, ↓fn_9, ↓f_10, ↓fl_10, ↓fn_10, ↓f_11, ↓fl_11, ↓fn_11, ↓f_12, ↓fl_12, ↓fn_12, ↓f_13, ↓fl_13, ↓fn_13, ↓f_14, ↓fl_14, ↓fn_14, ↓f_15, ↓fl_15, ↓fn_15, ↓f_16, ↓fl_16, ↓fn_16, ↓f_17, ↓fl_17, ↓fn_17, ↓f_18, ↓fl_18, ↓fn_18, ↓f_19, ↓fl_19, ↓fn_19, ↓f_20, ↓fl_20, ↓fn_20, ↓f_21, ↓fl_21, ↓fn_21, ↓f_22, ↓fl_22, ↓fn_22, ↓f_23, ↓fl_23, ↓fn_23, ↓f_24, ↓fl_24, ↓fn_24, ↓f_25, ↓fl_25, ↓fn_25, ↓asL_lst, ↓asL_scr, ↓asL_gup, ↓wIx_tup, ↓wIx_lst, ↓wIx_scr, ↓wIx_ref, ↓wIx_str, ↓wAdd_int, ↓wAdd_str, ↓wAdd_tup, ↓wAdd_lst, ↓wII_int, ↓wI2_int, ↓wI1_int, ↓wI1N_int, ↓wI2N_int, ↓wLen_tup, ↓wLen_lst, ↓wLen_scr, ↓wLen_ref, ↓wLen_str, ↓wInt_int, ↓wInt_bl, ↓wStrI_int, ↓wEq_int, ↓wEq_str, ↓wEq_bl, ↓wNe_bl, ↓wNe_int, ↓wNe_str, ↓wEq_tup, ↓wNe_tup, ↓wEq_lst, ↓wNe_lst, ↓setIx_ref, ↓gT_tup, ↓gT_lst, ↓gT_ref, ↓gsC_cons, ↓gsN_nil, ↓wAppend_ref, ↓wPop_ref, ↓wExtend_ref, ↓rgO_int, ↓wAddM_lst, ↓wIsB_bl, ↓wReverse_ref, ↓wRepT_tup, ↓wNotB_bl, ↓wInD_lst, ↓wPopAt_ref, ↓wInsert_ref, ↓refR_ref, ↓seqOf_tup, ↓seqOf_lst, ↓seqOf_scr, ↓seqOf_ref, ↓rng1_int, ↓rng2_int, ↓wIsi_non, ↓wIsi_bl, ↓wIsi_int, ↓wIsi_str, ↓wIsi_tup, ↓wIsi_lst, ↓wIsi_ref, ↓wAll_lst, ↓wAny_lst, ↓wSum_lst, ↓wTuple_tup, ↓wTuple_lst, ↓wTuple_ref, ↓wList_tup, ↓wList_lst, ↓wList_ref, ↓wListM_tup, ↓wListM_lst, ↓wCut_tup, ↓wCut_lst, ↓wCut_ref, ↓wCut_str, ↓wRep_lst, ↓wRepM_lst, ↓zipOf_tup, ↓zipOf_lst, ↓enumOf_lst, ↓enumOf_scr, ↓zipG2_eq, ↓zipG3_eq, ↓enumG_eq, ↓wSorted_eq, ↓wSortedM_eq, ↓wClear_ref, ↓wGet_ref, ↓truO_bl, ↓intO_int, ↓isS_some, ↓isG_lst, ↓setF_ref, ↓isI_ins, ↓dPut_ref, ↓isD_dic, ↓insOf_gup, ↓dicOf_gup, ↓isExc_exc, ↓lstOf_lst, ↓gT'_tup, sdel, keyOf, nk, rangeW_length, sset, skill, swipe, swipe.sforget, lcW, wIn, seqs, inW, eqW, flatW, kdIs, isNon, gup_same, gup_gup, at0, at1, at2, at3, at4, at5, at6, at7, ix0, ix1, ix2, ix3, ix4, ix5, W.bl.injEq, exists_eq_left', List.length_cons, List.length_nil, List.length_map, Nat.zero_add, Nat.reduceAdd, List.set, List.map_cons, List.map_nil, Option.isSome_some, List.all_cons, List.all_nil, List.any_cons, List.any_nil, List.cons_append, List.nil_append, Bool.and_true, Bool.and_self, Bool.or_false, Bool.true_and, Bool.false_and, Bool.and_false, true_and, decide_true, decide_false, Bool.not_true, Bool.not_false, Bool.not_not, Bool.false_eq_true, if_true, if_false, ite_self, beq_self_eq_true])

/-- what the law calls a refusal -/
def refN (n : Str) : Str := if n = "NoFraction" then "fraction" else if n = "NoPuts" then "puts" else if n = "NoBalance" then "balance" else if n = "NoLine" then "line" else "loss"
def sp__law_refused : SpE := fun a_e d_e n_e ws G Q => ∃ u, ws = [.exc a_e d_e n_e u] ∧ (n_e ∈ (["NoFraction", "NoPuts", "NoBalance", "NoLine", "NoLoss"] : List Str)) ∧ Q (.str (refN n_e)) G
theorem len__law_refused a_e d_e n_e ws G Q (h : sp__law_refused a_e d_e n_e ws G Q) : ws.length = 1 := by obtain ⟨_, rfl, _⟩ := h; rfl
/-- slots: _law_e 0, _law_kinds 1, _law_met 2, _law_name 3, _law_so 4 -/
def t__law_refused (a_e : Addr) (d_e : Option Addr) (n_e : Str) : TSw := (wSeq (wAsg (wLst (wCons (wTup (wCons (wC (.str "fraction")) (wCons (wIsE a_e d_e n_e "NoFraction" (wVar 0)) wNil))) (wCons (wTup (wCons (wC (.str "puts")) (wCons (wIsE a_e d_e n_e "NoPuts" (wVar 0)) wNil))) wNil))) (gN 1))
    (wSeq (wAsg (wOp wAdd (wVar 1) (wLst (wCons (wTup (wCons (wC (.str "balance")) (wCons (wIsE a_e d_e n_e "NoBalance" (wVar 0)) wNil))) (wCons (wTup (wCons (wC (.str "line")) (wCons (wIsE a_e d_e n_e "NoLine" (wVar 0)) wNil))) wNil)))) (gN 1))
    (wSeq (wAsg (wOp wAdd (wVar 1) (wLst (wCons (wTup (wCons (wC (.str "loss")) (wCons (wIsE a_e d_e n_e "NoLoss" (wVar 0)) wNil))) wNil))) (gN 1))
    (wSeq (wAsg (wOp wAdd (wVar 1) (wLst (wCons (wTup (wCons (wC (.str "else")) (wCons (wIsET a_e d_e n_e ["NoPaper", "NoMaking", "NoText", "NoHouse", "NoRow", "NoNumber", "NoDeed"] (wVar 0)) wNil))) wNil))) (gN 1))
    (wSeq (wAsg (wLc [3, 4] (iLstW (wVar 1)) (gT' 2 (gsC (gN 3) (gsC (gN 4) gsN))) (wTest (wVar 4)) (wVar 3)) (gN 2))
    (wSeq (wIfS (wOr (wTest (wOp wNe (wCB wLen (wCons (wVar 2) wNil)) (wC (.int 1)))) (wNot (wTest (wIsE a_e d_e n_e "ValueError" (wVar 0))))) (wRet (wC (.str "many"))) wNext)
    (wRet (wOp wIx (wVar 2) (wC (.int 0))))))))))
theorem rd__law_refused (a_e : Addr) (d_e : Option Addr) (n_e : Str) (ws : List W) (G : Gp) (Q : QW) (h : sp__law_refused a_e d_e n_e ws G Q) : t__law_refused a_e d_e n_e { nx := fun _ G' => Q .non G', rt := Cl Q } (startW ["_law_e", "_law_kinds", "_law_met", "_law_name", "_law_so"] ws) G := by
  obtain ⟨u, rfl, hn, q⟩ := h
  show t__law_refused a_e d_e n_e _ [some (.exc a_e d_e n_e u), none, none, none, none] G
  unfold t__law_refused
  walk_at "w"
  simp only [List.mem_cons, List.not_mem_nil, or_false] at hn
  rcases hn with rfl | rfl | rfl | rfl | rfl
  all_goals
    simp (decide := true) only [subE, if_true, if_false, true_and]
    exact .inl q
end WL


namespace WL
open PySem PySem.Spec PyProof.Rows L2
local macro_rules | `(tactic| walk_at "w") => `(tactic| try simp only [↓a_seq, ↓a_asg, ↓a_ifS, ↓a_ret, ↓a_retN, ↓a_next, ↓a_break, ↓a_cont, ↓a_drop, ↓a_for, ↓a_C, ↓a_op, ↓a_un, ↓a_neg, ↓a_CB, ↓a_call, ↓a_nil, ↓a_cons, ↓a_tup, ↓a_lst, ↓a_lstM, ↓a_test, ↓a_and, ↓a_or, ↓a_not, ↓a_yes, ↓a_andV, ↓a_orV, ↓a_notV, ↓a_if, ↓a_isN, ↓a_notN, ↓a_chain, ↓a_BM, ↓a_BM0, ↓a_seqI, ↓a_R1, ↓a_R2, ↓a_zip2, ↓a_zipG2, ↓a_zipG3, ↓a_enumG, ↓a_enum, ↓a_lc, ↓a_lcM, ↓a_lcR, ↓a_forR, ↓a_seqR, ↓a_zip2R, ↓a_zipR, ↓a_lstRg, ↓a_lstRgM, ↓a_lcP, ↓a_lcPM, ↓a_zipTR, ↓a_zipTQ, ↓a_zip3R, ↓a_zip3Q, ↓a_lenSetT, ↓a_slice, ↓a_sliceM, ↓a_pN, ↓a_pS, ↓a_augIx, ↓a_gIx, ↓a_par, ↓a_setF, ↓a_meth, ↓a_make, ↓a_makeZ, ↓a_dnew, ↓a_done, ↓a_dput, ↓a_dget, ↓a_din, ↓a_lenD, ↓a_raise, ↓a_callX, ↓a_retX, ↓a_dropX, ↓a_asgX, ↓a_tryAs, ↓a_isE, ↓a_isET, ↓a_xf, ↓a_callE, ↓a_lstI, ↓v_0, ↓g_0, ↓u_0, ↓v_1, ↓g_1, ↓u_1, ↓v_2, ↓g_2, ↓u_2, ↓v_3, ↓g_3, ↓u_3, ↓v_4, ↓g_4, ↓u_4, ↓v_5, ↓g_5, ↓u_5, ↓v_6, ↓g_6, ↓u_6, ↓v_7, ↓g_7, ↓u_7, ↓v_8, ↓g_8, ↓u_8, ↓v_9, ↓g_9, ↓u_9, ↓v_10, ↓g_10, ↓u_10, ↓v_11, ↓g_11, ↓u_11, ↓v_12, ↓g_12, ↓u_12, ↓v_13, ↓g_13, ↓u_13, ↓v_14, ↓g_14, ↓u_14, ↓v_15, ↓g_15, ↓u_15, ↓v_16, ↓g_16, ↓u_16, ↓v_17, ↓g_17, ↓u_17, ↓v_18, ↓g_18, ↓u_18, ↓v_19, ↓g_19, ↓u_19, ↓v_20, ↓g_20, ↓u_20, ↓v_21, ↓g_21, ↓u_21, ↓v_22, ↓g_22, ↓u_22, ↓v_23, ↓g_23, ↓u_23, ↓v_24, ↓g_24, ↓u_24, ↓v_25, ↓g_25, ↓u_25, ↓f_0, ↓fl_0, ↓fn_0, ↓f_1, ↓fl_1, ↓fn_1, ↓f_2, ↓fl_2, ↓fn_2, ↓f_3, ↓fl_3, ↓fn_3, ↓f_4, ↓fl_4, ↓fn_4, ↓f_5, ↓fl_5, ↓fn_5, ↓f_6, ↓fl_6, ↓fn_6, ↓f_7, ↓fl_7, ↓fn_7, ↓f_8, ↓fl_8, ↓fn_8, ↓f_9, ↓fl_9, ↓fn_9, ↓f_10, ↓fl_10, ↓fn_10, ↓f_11, ↓fl_11, ↓fn_11, ↓f_12, ↓fl_12, ↓fn_12, ↓f_13, ↓fl_13, ↓fn_13, ↓f_14, ↓fl_14, ↓fn_14, ↓f_15, ↓fl_15, ↓fn_15, ↓f_16, ↓fl_16, ↓fn_16, ↓f_17, ↓fl_17, ↓fn_17, ↓f_18, ↓fl_18, ↓fn_18, ↓f_19, ↓fl_19, ↓fn_19, ↓f_20, ↓fl_20, ↓fn_20, ↓f_21, ↓fl_21, ↓fn_21, ↓f_22, ↓fl_22, ↓fn_22, ↓f_23, ↓fl_23, ↓fn_23, ↓f_24, ↓fl_24, ↓fn_24, ↓f_25, ↓fl_25, ↓fn_25, ↓asL_lst, ↓asL_scr, ↓asL_gup, ↓wIx_tup, ↓wIx_lst, ↓wIx_scr, ↓wIx_ref, ↓wIx_str, ↓wAdd_int, ↓wAdd_str, ↓wAdd_tup, ↓wAdd_lst, ↓wII_int, ↓wI2_int, ↓wI1_int, ↓wI1N_int, ↓wI2N_int, ↓wLen_tup, ↓wLen_lst, ↓wLen_scr, ↓wLen_ref, ↓wLen_str, ↓wInt_int, ↓wInt_bl, ↓wStrI_int, ↓wEq_int, ↓wEq_str, ↓wEq_bl, ↓wNe_bl, ↓wNe_int, ↓wNe_str, ↓wEq_tup, ↓wNe_tup, ↓wEq_lst, ↓wNe_lst, ↓setIx_ref, ↓gT_tup, ↓gT_lst, ↓gT_ref, ↓gsC_cons, ↓gsN_nil, ↓wAppend_ref, ↓wPop_ref, ↓wExtend_ref, ↓rgO_int, ↓wAddM_lst, ↓wIsB_bl, ↓wReverse_ref, ↓wRepT_tup, ↓wNotB_bl, ↓wInD_lst, ↓wPopAt_ref, ↓wInsert_ref, ↓refR_ref, ↓seqOf_tup, ↓seqOf_lst, ↓seqOf_scr, ↓seqOf_ref, ↓rng1_int, ↓rng2_int, ↓wIsi_non, ↓wIsi_bl, ↓wIsi_int, ↓wIsi_str, ↓wIsi_tup, ↓wIsi_lst, ↓wIsi_ref, ↓wAll_lst, ↓wAny_lst, ↓wSum_lst, ↓wTuple_tup, ↓wTuple_lst, ↓wTuple_ref, ↓wList_tup, ↓wList_lst, ↓wList_ref, ↓wListM_tup, ↓wListM_lst, ↓wCut_tup, ↓wCut_lst, ↓wCut_ref, ↓wCut_str, ↓wRep_lst, ↓wRepM_lst, ↓zipOf_tup, ↓zipOf_lst, ↓enumOf_lst, ↓enumOf_scr, ↓zipG2_eq, ↓zipG3_eq, ↓enumG_eq, ↓wSorted_eq, ↓wSortedM_eq, ↓wClear_ref, ↓wGet_ref, ↓truO_bl, ↓intO_int, ↓isS_some, ↓isG_lst, ↓setF_ref, ↓isI_ins, ↓dPut_ref, ↓isD_dic, ↓insOf_gup, ↓dicOf_gup, ↓isExc_exc, ↓lstOf_lst, ↓gT'_tup, sdel, keyOf, nk, rangeW_length, sset, skill, swipe, swipe.sforget, lcW, wIn, seqs, inW, eqW, flatW, kdIs, isNon, gup_same, gup_gup, at0, at1, at2, at3, at4, at5, at6, at7, ix0, ix1, ix2, ix3, ix4, ix5, W.bl.injEq, exists_eq_left', List.length_cons, List.length_nil, List.length_map, Nat.zero_add, Nat.reduceAdd, List.set, List.map_cons, List.map_nil, Option.isSome_some, List.all_cons, List.all_nil, List.any_cons, List.any_nil, List.cons_append, List.nil_append, Bool.and_true, Bool.and_self, Bool.or_false, Bool.true_and, Bool.false_and, Bool.and_false, true_and, decide_true, decide_false, Bool.not_true, Bool.not_false, Bool.not_not, Bool.false_eq_true, if_true, if_false, ite_self, beq_self_eq_true])

theorem mem_due {n k : Nat} {ls : List Ln} (h : k < ls.length) (c : connB n (edges (dropL ls k)) = true) : k ∈ dueL n ls := by
  unfold dueL
  rw [List.mem_filter, List.mem_range]
  exact ⟨h, c⟩
/-! ### a line left out, or refused -/
def sp_without : Spw := fun ws G Q E => ∃ (n : Nat) (ls : List Ln) (w : W), ws = [netW n ls, w] ∧ (Net n ls) ∧ (datB w = true) ∧ (fromB w 0 (((ls.length : Nat) : Int) - 1) = false → E "NoLine" [] G) ∧ (∀ k : Nat, w = .int ((k : Nat) : Int) → k < ls.length → connB n (edges (dropL ls k)) = false → E "NoLoss" [] G) ∧ (∀ k : Nat, w = .int ((k : Nat) : Int) → k ∈ dueL n ls → Q (netW n (dropL ls k)) G)
theorem len_without (ws G Q E) (h : sp_without ws G Q E) : ws.length = 2 := by obtain ⟨_, _, _, rfl, _⟩ := h; rfl
/-- slots: net 0, line 1 -/
def t_without : TSw := (wSeq (wIfS (wNot (wTest (wCall sp_is_from (wCons (wVar 1) (wCons (wC (.int 0)) (wCons (wOp wSub (wCB wLen (wCons (wOp wIx (wVar 0) (wC (.int 1))) wNil)) (wC (.int 1))) wNil)))))) (wRaise "NoLine") wNext)
    (wSeq (wIfS (wNot (wTest (wCall sp_hangs_together (wCons (wOp wIx (wVar 0) (wC (.int 0))) (wCons (wCall sp_left_lines (wCons (wVar 0) (wCons (wVar 1) wNil))) wNil))))) (wRaise "NoLoss") wNext)
    (wRet (wTup (wCons (wOp wIx (wVar 0) (wC (.int 0))) (wCons (wCall sp_left_lines (wCons (wVar 0) (wCons (wVar 1) wNil))) wNil))))))
theorem rd_without (ws : List W) (G : Gp) (Q : QW) (E : EXw) (h : sp_without ws G Q E) : t_without { nx := fun _ G' => Q .non G', rt := Cl Q, ex := fun nm fs _ G' => E nm fs G' } (startW ["net", "line"] ws) G := by
  obtain ⟨n, ls, w, rfl, net, d, no1, no2, q⟩ := h
  show t_without _ [some (netW n ls), some (w)] G
  unfold t_without
  walk_at "w"
  have few := net.few
  refine ⟨w, 0, _, rfl, d, ?_⟩
  cases e : fromB w 0 (((ls.length : Nat) : Int) - 1) with
  | false =>
    walk_at "w"
    exact no1 e
  | true =>
    obtain ⟨i, rfl, h0, h1⟩ := from_int e
    obtain ⟨k, rfl⟩ : ∃ k : Nat, i = (k : Int) := ⟨i.toNat, by omega⟩
    have hk1 : k < ls.length := by omega
    walk_at "w"
    refine ⟨n, ls, k, rfl, hk1, by omega, ?_⟩
    walk_at "w"
    refine ⟨n, _, dropL ls k, rfl, .inl rfl, net.n1, by have := net.n4; omega, fun l hl => net.ok l (drop_mem hl), ?_⟩
    cases c : connB n (edges (dropL ls k)) with
    | false =>
      walk_at "w"
      exact no2 k rfl hk1 c
    | true =>
      walk_at "w"
      exact ⟨n, ls, k, rfl, hk1, by omega, by decide, .inl (q k rfl (mem_due hk1 c))⟩
/-- what is due -/
noncomputable def outW (n : Nat) (ls : List Ln) (w : W) : W := match w with
  | .int i => if 0 ≤ i ∧ i < ls.length then (if connB n (edges (dropL ls i.toNat)) = true then netW n (dropL ls i.toNat) else .str "loss") else .str "line"
  | _ => .str "line"
theorem out_no {n : Nat} {ls : List Ln} {w : W} (h : fromB w 0 (((ls.length : Nat) : Int) - 1) = false) : outW n ls w = .str "line" := by
  cases w with
  | int i =>
    have h : (decide (0 ≤ i) && decide (i ≤ ((ls.length : Nat) : Int) - 1)) = false := h
    show (if 0 ≤ i ∧ i < ls.length then _ else _) = _
    rw [if_neg]
    rintro ⟨h0, h1⟩
    rw [decide_eq_true h0, decide_eq_true (show i ≤ ((ls.length : Nat) : Int) - 1 by omega)] at h
    cases h
  | _ => rfl
theorem out_at {n k : Nat} {ls : List Ln} (h : k < ls.length) : outW n ls (.int ((k : Nat) : Int)) = if connB n (edges (dropL ls k)) = true then netW n (dropL ls k) else .str "loss" := by
  show (if 0 ≤ ((k : Nat) : Int) ∧ ((k : Nat) : Int) < ls.length then (if connB n (edges (dropL ls ((k : Nat) : Int).toNat)) = true then netW n (dropL ls ((k : Nat) : Int).toNat) else .str "loss") else .str "line") = _
  rw [if_pos ⟨by omega, by omega⟩, show ((k : Nat) : Int).toNat = k by omega]
theorem wD_txt {x : Str} (h : PyData.strOk x = true) : wD 0 (.str x) := ⟨rfl, by simp [wdat, PyData.canLay0, h], by simp [wdat, PyData.depth]⟩
theorem wD_out (n : Nat) (ls : List Ln) (w : W) : wD 4 (outW n ls w) := by
  have a : wD 4 (.str "line") := wD_mono (wD_txt (by decide +kernel)) (by decide)
  have b : wD 4 (.str "loss") := wD_mono (wD_txt (by decide +kernel)) (by decide)
  cases w with
  | int i =>
    show wD 4 (if _ then _ else _)
    split
    · split
      · exact wD_mono (wD_net n _) (by decide)
      · exact b
    · exact a
  | _ => exact a
theorem wNe_self {d : Nat} {w : W} {G : Gp} {Q : QW} (h : wD d w) (l : d ≤ 64) : wNe w w G Q = Q (.bl false) G := by
  have o := wOk_of h l
  have e := weqb_self h
  have nr := h.1
  have gen : wder G w = w → (wOk (wder G w) ∧ wOk (wder G w) ∧ Q (.bl (!weqb (wder G w) (wder G w))) G) = Q (.bl false) G := fun hw => by
    rw [hw, e]; exact propext ⟨fun h => h.2.2, fun q => ⟨o, o, q⟩⟩
  cases w with
  | int i => show Q (.bl (!decide (i = i))) G = _; rw [decide_eq_true rfl]; rfl
  | str x => show Q (.bl (!decide (x = x))) G = _; rw [decide_eq_true rfl]; rfl
  | ref p => simp [wpure] at nr
  | _ => exact gen rfl
def sp__law_outcome : Spw := fun ws G Q E => ∃ (n : Nat) (ls : List Ln) (w : W), ws = [netW n ls, w] ∧ (Net n ls) ∧ (datB w = true) ∧ Q (outW n ls w) G
theorem len__law_outcome (ws G Q E) (h : sp__law_outcome ws G Q E) : ws.length = 2 := by obtain ⟨_, _, _, rfl, _⟩ := h; rfl
/-- slots: _law_net_here 0, _law_line_here 1, _law_e 2 -/
def t__law_outcome : TSw := (wTryAs 2 "MainsError" ["NoLine", "NoLoss"] (wRetX (wCallX sp_without (wCons (wVar 0) (wCons (wVar 1) wNil)))) (fun a_e d_e n_e f_e => (wRet (wCallE sp__law_refused a_e d_e n_e (wCons (wVar 2) wNil)))))
theorem rd__law_outcome (ws : List W) (G : Gp) (Q : QW) (E) (h : sp__law_outcome ws G Q E) : t__law_outcome { nx := fun _ G' => Q .non G', rt := Cl Q } (startW ["_law_net_here", "_law_line_here", "_law_e"] ws) G := by
  obtain ⟨n, ls, w, rfl, net, d, q⟩ := h
  show t__law_outcome _ [some (netW n ls), some (w), none] G
  unfold t__law_outcome
  walk_at "w"
  refine ⟨n, ls, w, rfl, net, d, fun e => ?_, fun k e hk c => ?_, fun k e hk => .inl ?_⟩
  · refine ⟨by simp, fun _ a d _ => ⟨[], rfl, by simp, .inl ?_⟩, fun h => by revert h; decide⟩
    rw [out_no e] at q
    exact q
  · refine ⟨by simp, fun _ a d _ => ⟨[], rfl, by simp, .inl ?_⟩, fun h => by revert h; decide⟩
    rw [e, out_at hk, c, if_neg (by decide)] at q
    exact q
  · obtain ⟨h1, h2⟩ := due_mem hk
    rw [e, out_at h1, h2, if_pos rfl] at q
    exact q
def sp__law_whole : Spw := fun ws G Q E => ∃ (w : W), ws = [w] ∧ (datB w = true) ∧ Q (.bl (wholeB w)) G
theorem len__law_whole (ws G Q E) (h : sp__law_whole ws G Q E) : ws.length = 1 := by obtain ⟨_, rfl, _⟩ := h; rfl
/-- slots: _law_thing 0 -/
def t__law_whole : TSw := (wRet (wAndV (wUn (wIsi .int) (wVar 0)) (wNotV (wUn (wIsi .bool) (wVar 0)))))
theorem rd__law_whole (ws : List W) (G : Gp) (Q : QW) (E) (h : sp__law_whole ws G Q E) : t__law_whole { nx := fun _ G' => Q .non G', rt := Cl Q } (startW ["_law_thing"] ws) G := by
  obtain ⟨w, rfl, d, q⟩ := h
  show t__law_whole _ [some (w)] G
  unfold t__law_whole
  walk_at "w"
  cases w <;> first | (walk_at "w"; exact .inl q) | (simp [datB] at d)
def sp__law_due : Spw := fun ws G Q E => ∃ (n : Nat) (ls : List Ln) (w : W), ws = [netW n ls, w] ∧ (Net n ls) ∧ (datB w = true) ∧ Q (outW n ls w) G
theorem len__law_due (ws G Q E) (h : sp__law_due ws G Q E) : ws.length = 2 := by obtain ⟨_, _, _, rfl, _⟩ := h; rfl
/-- slots: _law_net_here 0, _law_line_here 1 -/
def t__law_due : TSw := (wSeq (wIfS (wOr (wNot (wTest (wCall sp__law_whole (wCons (wVar 1) wNil)))) (wNot (wTest (wChain wLe wLt (wC (.int 0)) (wVar 1) (wCB wLen (wCons (wOp wIx (wVar 0) (wC (.int 1))) wNil)))))) (wRet (wC (.str "line"))) wNext)
    (wSeq (wIfS (wNot (wTest (wCall sp__law_joined (wCons (wOp wIx (wVar 0) (wC (.int 0))) (wCons (wOp wAdd (wSlice (wOp wIx (wVar 0) (wC (.int 1))) wpNone (wpSome (wVar 1))) (wSlice (wOp wIx (wVar 0) (wC (.int 1))) (wpSome (wOp wAdd (wVar 1) (wC (.int 1)))) wpNone)) wNil))))) (wRet (wC (.str "loss"))) wNext)
    (wRet (wTup (wCons (wOp wIx (wVar 0) (wC (.int 0))) (wCons (wOp wAdd (wSlice (wOp wIx (wVar 0) (wC (.int 1))) wpNone (wpSome (wVar 1))) (wSlice (wOp wIx (wVar 0) (wC (.int 1))) (wpSome (wOp wAdd (wVar 1) (wC (.int 1)))) wpNone)) wNil))))))
theorem rd__law_due (ws : List W) (G : Gp) (Q : QW) (E) (h : sp__law_due ws G Q E) : t__law_due { nx := fun _ G' => Q .non G', rt := Cl Q } (startW ["_law_net_here", "_law_line_here"] ws) G := by
  obtain ⟨n, ls, w, rfl, net, d, q⟩ := h
  show t__law_due _ [some (netW n ls), some (w)] G
  unfold t__law_due
  walk_at "w"
  have few := net.few
  have big : 1000 < sizeLine := by decide
  refine ⟨w, rfl, d, ?_⟩
  cases w with
  | int i =>
    rw [show wholeB (.int i) = true from rfl]
    walk_at "w"
    by_cases c : 0 ≤ i ∧ i < ls.length
    · obtain ⟨k, rfl⟩ : ∃ k : Nat, i = (k : Int) := ⟨i.toNat, by omega⟩
      have hk : k < ls.length := by omega
      have l1 := congrArg List.length (cut_lines hk)
      rw [List.length_append, List.length_map] at l1
      have l2 := drop_len hk
      rw [out_at hk] at q
      rw [if_pos (decide_eq_true c.1), decide_eq_true c.2, if_neg (by decide)]
      rw [show ((k : Nat) : Int) + 1 = ((k + 1 : Nat) : Int) by omega, cut_lines hk]
      refine ⟨by omega, n, _, dropL ls k, rfl, .inl rfl, net.n1, by have := net.n4; omega, fun l hl => net.ok l (drop_mem hl), ?_⟩
      cases c : connB n (edges (dropL ls k)) with
      | false =>
        rw [c, if_neg (by decide)] at q
        walk_at "w"
        exact .inl q
      | true =>
        rw [c, if_pos rfl] at q
        walk_at "w"
        exact ⟨by omega, by decide, .inl q⟩
    · have e : outW n ls (.int i) = .str "line" := if_neg c
      rw [e] at q
      by_cases c0 : 0 ≤ i
      · rw [if_pos (decide_eq_true c0), decide_eq_false (show ¬ i < ((ls.length : Nat) : Int) by omega), if_pos (by decide)]
        exact .inl q
      · rw [if_neg (by simpa using c0)]
        exact .inl q
  | _ => first | (rw [show wholeB _ = false from rfl]; walk_at "w"; exact .inl q) | (simp [datB] at d)
/-- slots: _law_script 0, _law_at 1, _law_bag_here 2, _law_net_here 3, _law_far_here 4, _law_things 5, _law_turn 6, _law_line_here 7, _law_due_here 8, _law_k 9 -/
def t_law_b1 : TSw := (wDrop (wBM wM_append (wVar 5) (wCons (wBM wM_popAt (wVar 5) (wCons (wCall sp__law_take (wCons (wVar 2) (wCons (wCB wLen (wCons (wVar 5) wNil)) wNil))) wNil)) wNil)))
def t_law_b2 : TSw := (wSeq (wAsg (wCall sp__law_due (wCons (wVar 3) (wCons (wVar 7) wNil))) (gN 8))
    (wIfS (wOr (wTest (wOp wNe (wCall sp__law_outcome (wCons (wVar 3) (wCons (wVar 7) wNil))) (wVar 8))) (wTest (wOp wNe (wCall sp__law_outcome (wCons (wVar 3) (wCons (wVar 7) wNil))) (wVar 8)))) (wRet (wC (.bl false))) wNext))
def t_law_r1 : TSw := (wSeq (wAsg (wLc [9] (iR1 (wCons (wCB wLen (wCons (wOp wIx (wVar 3) (wC (.int 1))) wNil)) wNil)) (gN 9) (wTest (wUn (wIsi .tuple) (wCall sp__law_due (wCons (wVar 3) (wCons (wVar 9) wNil))))) (wVar 9)) (gN 8))
    (wIfS (wTest (wOp wNe (wCall sp_losable (wCons (wVar 3) wNil)) (wVar 8))) (wRet (wC (.bl false))) wNext))
def t_law_r2 : TSw := (wSeq (wFor [false, true, true, false, true, true, true, true, true, true] (iSeqW (wVar 5)) (gN 7) t_law_b2)
    t_law_r1)
def t_law_b3 : TSw := (wSeq (wAsg (wCall sp__law_bag (wCons (wVar 0) (wCons (wVar 1) wNil))) (gN 2))
    (wSeq (wAsg (wCall sp__law_net (wCons (wVar 2) wNil)) (gN 3))
    (wSeq (wAsg (wOp wAdd (wOp wPow (wC (.int 10)) (wC (.int 30))) (wCall sp__law_far (wCons (wVar 2) (wCons (wC (.int 4)) wNil)))) (gN 4))
    (wSeq (wAsg (wOp wAdd (wLstRg (wCB wLen (wCons (wOp wIx (wVar 3) (wC (.int 1))) wNil))) (wLst (wCons (wNeg (wC (.int 1))) (wCons (wCB wLen (wCons (wOp wIx (wVar 3) (wC (.int 1))) wNil)) (wCons (wVar 4) (wCons (wOp wSub (wC (.int 0)) (wVar 4)) (wCons (wC (.bl true)) (wCons (wC (.bl false)) (wCons (wC .non) (wCons (wC (.str "0")) (wCons (wC (.str "")) wNil))))))))))) (gN 5))
    (wSeq (wAsg (wOp wAddM (wOp wAdd (wVar 5) (wLst (wCons (wTup (wCons (wC (.int 0)) wNil)) (wCons (wLst (wCons (wC (.int 0)) wNil)) (wCons (wLst wNil) (wCons (wTup wNil) wNil)))))) (wSlice (wCB wList (wCons (wOp wIx (wVar 3) (wC (.int 1))) wNil)) wpNone (wpSome (wC (.int 1))))) (gN 5))
    (wSeq (wFor [false, true, false, false, true, false, true, true, true, true] (iR1 (wCons (wC (.int 4)) wNil)) (gN 6) t_law_b1)
    t_law_r2))))))
def t_law : TSw := (wSeq (wFor [false, true, true, true, true, true, true, true, true, true] (iR1 (wCons (wCB (wI2N fun i j => .int (if j > i then j else i)) (wCons (wC (.int 3)) (wCons (wCB (wI2N fun i j => .int (if j < i then j else i)) (wCons (wCB wLen (wCons (wVar 0) wNil)) (wCons (wC (.int 6)) wNil))) wNil))) wNil)) (gN 1) t_law_b3)
    (wRet (wC (.bl true))))
theorem rd_law (ws : List W) (G : Gp) (Q : QW) (E) (h : sp_law ws G Q E) : t_law { nx := fun _ G' => Q .non G', rt := Cl Q } (startW ["_law_script", "_law_at", "_law_bag_here", "_law_net_here", "_law_far_here", "_law_things", "_law_turn", "_law_line_here", "_law_due_here", "_law_k"] ws) G := by
  obtain ⟨ns, rfl, hl, q⟩ := h
  show t_law _ [some (.scr (ns.map W.int)), none, none, none, none, none, none, none, none, none] G
  unfold t_law
  walk_at "w"
  have big : 1000 < sizeLine := by decide
  refine ⟨by omega, by split <;> (try split) <;> omega, ?_⟩
  refine forW_inv (fun σ _ => σ = [some (.scr (ns.map W.int)), none, none, none, none, none, none, none, none, none]) _ _ _ rfl ?_ ?_
  · rintro w hw σ G1 N rfl hN
    obtain ⟨i, hi, rfl⟩ := rangeW_mem hw
    have hi6 : i < 7 := by
      have := hi
      split at this <;> (try split at this) <;> omega
    unfold t_law_b3
    walk_at "w"
    refine bag_up hl (by omega) (by omega) fun p G2 hp b2 o2 => ?_
    walk_at "w"
    refine net_up b2 fun n ls G3 net u3 => ?_
    have few := net.few
    walk_at "w"
    refine ⟨⟨by decide, by decide, by decide⟩, far_up (n := 4) u3.at (by decide) fun far G4 hf u4 => ?_⟩
    walk_at "w"
    have start : ∀ w ∈ (rangeW 0 ((ls.length : Nat) : Int).toNat ++ [W.int (-1), W.int ls.length, W.int (10 ^ Int.toNat 30 + far), W.int (0 - (10 ^ Int.toNat 30 + far)), W.bl true, W.bl false, W.non, W.str "0", W.str ""] ++ [W.tup [W.int 0], W.lst [W.int 0], W.lst [], W.tup []] ++ cutW (linesW ls) none (some 1)), datB w = true := fun w hw => by
      simp only [List.mem_append] at hw
      rcases hw with ((hw | hw) | hw) | hw
      · obtain ⟨j, _, rfl⟩ := rangeW_mem hw
        rfl
      · simp only [List.mem_cons, List.not_mem_nil, or_false] at hw
        rcases hw with rfl | rfl | rfl | rfl | rfl | rfl | rfl | rfl | rfl <;> rfl
      · simp only [List.mem_cons, List.not_mem_nil, or_false] at hw
        rcases hw with rfl | rfl | rfl | rfl <;> rfl
      · obtain ⟨l, _, rfl⟩ := List.mem_map.mp (cut_mem hw)
        rfl
    have lcut := cut_len (ws := linesW ls) (lo := none) (hi := some 1)
    rw [List.length_map] at lcut
    have rl : (rangeW 0 ((ls.length : Nat) : Int).toNat).length ≤ 6 := by rw [rangeW_length]; omega
    generalize hL : (rangeW 0 ((ls.length : Nat) : Int).toNat ++ [W.int (-1), W.int ls.length, W.int (10 ^ Int.toNat 30 + far), W.int (0 - (10 ^ Int.toNat 30 + far)), W.bl true, W.bl false, W.non, W.str "0", W.str ""] ++ [W.tup [W.int 0], W.lst [W.int 0], W.lst [], W.tup []] ++ cutW (linesW ls) none (some 1)) = L at start ⊢
    have lL : 1 ≤ L.length ∧ L.length ≤ 40 := by
      rw [← hL]
      simp only [List.length_append, List.length_cons, List.length_nil]
      omega
    refine ⟨⟨by omega, by omega⟩, by decide, by omega, by decide, by decide, by decide, by decide, by decide, ?_, ?_, fun r hr => ⟨by decide, by decide, ?_⟩⟩
    · simp only [List.length_append, List.length_cons, List.length_nil]; omega
    · simp only [List.length_append, List.length_cons, List.length_nil]; omega
    have b4 := u4.at
    have hrp : r ≠ p := fun e => by
      obtain ⟨c, x, g, _⟩ := b4
      rw [e, g] at hr; cases hr
    refine forW_inv (fun σ G5 => BagAt p G5 ∧ (∃ l, G5 r = some (.lst l) ∧ (1 ≤ l.length ∧ l.length ≤ 40) ∧ ∀ w ∈ l, datB w = true) ∧ σ = [some (.scr (ns.map W.int)), none, some (.ref p), some (netW n ls), none, some (.ref r), none, none, none, none]) _ _ _ ⟨?_, ⟨L, gup_same, lL, start⟩, rfl⟩ ?_ ?_
    · obtain ⟨c, x, g, z⟩ := b4
      exact ⟨c, x, by rw [gup_ne hrp.symm]; exact g, z⟩
    · rintro w hw σ G5 N2 ⟨b5, ⟨l, gl, ll, lw⟩, rfl⟩ hN2
      unfold t_law_b1
      walk_at "w"
      have as := asL_at gl
      rw [as]
      refine ⟨rfl, rfl, ?_⟩
      walk_at "w"
      refine take_up b5 (by omega) fun d G6 hd u6 => ?_
      have gl6 : G6 r = some (.lst l) := by rw [u6.ne hrp]; exact gl
      have hd' : d < l.length := by omega
      walk_at "w"
      rw [isG_at gl6]
      refine ⟨by omega, by omega, ?_⟩
      rw [show L2.ixN l.length ((d : Nat) : Int) = some d by simp [L2.ixN, hd'], isS_some, List.getElem?_eq_getElem hd', isS_some]
      have el : (l.eraseIdx d).length = l.length - 1 := by rw [List.length_eraseIdx, if_pos hd']
      refine ⟨by omega, hN2 _ _ ⟨?_, ⟨l.eraseIdx d ++ [l[d]], gup_same, by rw [List.length_append, el]; simp only [List.length_cons, List.length_nil]; omega, fun w hw => ?_⟩, rfl⟩⟩
      · obtain ⟨c, x, g, z⟩ := u6.at
        exact ⟨c, x, by rw [gup_ne hrp.symm]; exact g, z⟩
      · rcases List.mem_append.mp hw with hw | hw
        · exact lw w (List.mem_of_mem_eraseIdx hw)
        · rw [List.mem_singleton.mp hw]
          exact lw _ (List.getElem_mem hd')
    · rintro σ G5 ⟨b5, ⟨l, gl, ll, lw⟩, rfl⟩
      unfold t_law_r2
      walk_at "w"
      rw [isG_at gl]
      refine forW_inv (fun σ _ => σ = [some (.scr (ns.map W.int)), none, none, some (netW n ls), none, none, none, none, none, none]) _ _ _ rfl ?_ ?_
      · rintro w hw σ G6 N2 rfl hN2
        have dw := lw w hw
        have od := wD_out n ls w
        unfold t_law_b2
        walk_at "w"
        refine ⟨n, ls, w, rfl, net, dw, ?_⟩
        walk_at "w"
        refine ⟨n, ls, w, rfl, net, dw, ?_⟩
        show wNe (outW n ls w) (outW n ls w) _ _
        rw [wNe_self od (by decide)]
        walk_at "w"
        refine ⟨n, ls, w, rfl, net, dw, ?_⟩
        show wNe (outW n ls w) (outW n ls w) _ _
        rw [wNe_self od (by decide)]
        walk_at "w"
        exact hN2 _ _ rfl
      · rintro σ G6 rfl
        unfold t_law_r1
        walk_at "w"
        rw [show ((ls.length : Nat) : Int).toNat = ls.length by omega]
        refine ⟨by omega, by omega, by omega, ?_⟩
        have dd := wD_nats (dueL n ls)
        refine lcW_filterA (fun k : Nat => W.int (0 + (k : Int))) (fun k => .int ((k : Nat) : Int)) (fun k => connB n (edges (dropL ls k))) _ _ _ ?_ ?_
        · intro k hk R P hR hP
          rw [List.mem_range] at hk
          rw [Int.zero_add]
          walk_at "w"
          refine ⟨n, ls, .int ((k : Nat) : Int), rfl, net, rfl, ?_⟩
          rw [out_at hk]
          cases c : connB n (edges (dropL ls k)) with
          | true =>
            rw [if_pos rfl]
            walk_at "w"
            exact hR c
          | false =>
            rw [if_neg (by decide)]
            walk_at "w"
            exact hP c
        · refine ⟨n, ls, rfl, net, .inl ?_⟩
          show wNe (.lst (natsW (dueL n ls))) (.lst (natsW (dueL n ls))) _ _
          rw [wNe_self dd (by decide)]
          walk_at "w"
          exact hN _ _ rfl
  · rintro σ G1 rfl
    walk_at "w"
    exact .inl (q _)
end WL

namespace WL
open PySem PySem.Spec PyProof.Rows L2
/-! ## the text -/
def topS (i : Nat) : Stmt := PySem.Challenge.pw_mainskeep_k17_lines_refused.main.body.getD i (.Pass ⟨0, 0, 0, 0⟩)
section
variable {D_MainsError D_NoBalance D_NoDeed D_NoFraction D_NoHouse D_NoLine D_NoLoss D_NoMaking D_NoNumber D_NoPaper D_NoPuts D_NoRow D_NoText : Addr}
section
variable {P : Program} {w : World} {K : PySem.W.Frag} {mg : Str → Option Value} {base : Heap}
abbrev sD_is_whole : Stmt := topS 15
theorem sc_is_whole : FnScope ["thing"] ["thing"] (defScope sD_is_whole) := ⟨rfl, rfl, rfl, by decide +kernel, rfl, by decide +kernel, by decide +kernel⟩
theorem ok_is_whole {f : Addr} {fd : FuncData} (F : Fun K "is_whole" "is_whole" sD_is_whole f fd) (seer : base.NoSeer) (tree : P.given.tree = none) (m_isinstance : mg "isinstance" = none) (m_int : mg "int" = none) (m_bool : mg "bool" = none) : FnOk P w K mg base CX0 (40 + 1) f fd ["thing"] (liftSp K sp_is_whole) := by
  refine okW F sc_is_whole seer tree (by decide) (fun ws G Q E h => ?_) (fun cdv A outer s H E hr hd => ⟨t_is_whole, ?_, rd_is_whole⟩)
  · exact len_is_whole ws G Q E h
  · exact (qs_one (qret (qandV (qisi (k := .int) (by decide) (by decide +kernel) (by decide) (by decide) rfl m_isinstance rfl m_int (qv 0)) (qone (qnotV (qisi (k := .bool) (by decide) (by decide +kernel) (by decide) (by decide) rfl m_isinstance rfl m_bool (qv 0)))))))
abbrev sD_hangs_together : Stmt := topS 18
theorem sc_hangs_together : FnScope ["many", "lines", "met", "left", "place", "one", "other", "stiffness", "most", "there"] ["many", "lines"] (defScope sD_hangs_together) := ⟨rfl, rfl, rfl, by decide +kernel, rfl, by decide +kernel, by decide +kernel⟩
theorem ok_hangs_together {f : Addr} {fd : FuncData} (F : Fun K "hangs_together" "hangs_together" sD_hangs_together f fd) (seer : base.NoSeer) (tree : P.given.tree = none) (m_len : mg "len" = none) : FnOk P w K mg base CX0 (40 + 1) f fd ["many", "lines"] (liftSp K sp_hangs_together) := by
  refine okW F sc_hangs_together seer tree (by decide) (fun ws G Q E h => ?_) (fun cdv A outer s H E hr hd => ⟨t_hangs_together, ?_, rd_hangs_together⟩)
  · exact len_hangs_together ws G Q E h
  · exact (qs_cons (qset (i := 2) sc_hangs_together.nd rfl (he := (qlstM (qa_cons qint qa_nil))))
    (qs_cons (qset (i := 3) sc_hangs_together.nd rfl (he := (qlstM (qa_cons qint qa_nil))))
    (qs_cons (qwhile (ks := [false, false, false, false, true, true, true, true, true, true]) PassesOwn.never (qtne hr (qv 3) (qlst qa_nil)) (qs_cons (qset (i := 4) sc_hangs_together.nd rfl (he := (qm_pop (qv 3))))
    (qs_one (qfor (ks := [false, false, false, false, false, true, true, true, true, true]) PassesOwn.never rfl (qiseq (qv 1)) (qgT rfl (qgs_cons (qgN (i := 5) sc_hangs_together.nd rfl) (qgs_cons (qgN (i := 6) sc_hangs_together.nd rfl) (qgs_cons (qgN (i := 7) sc_hangs_together.nd rfl) (qgs_cons (qgN (i := 8) sc_hangs_together.nd rfl) qgs_nil))))) (qs_one (qif (qtin (qv 4) (qtup (qa_cons (qv 5) (qa_cons (qv 6) qa_nil)))) (qs_cons (qset (i := 9) sc_hangs_together.nd rfl (he := (qsub (qadd (qv 5) (qv 6)) (qv 4))))
    (qs_one (qif (qtnin (qv 9) (qv 2)) (qs_cons (qexpr (qm_append (qv 2) (qa_cons (qv 9) qa_nil)))
    (qs_one (qexpr (qm_append (qv 3) (qa_cons (qv 9) qa_nil))))) qs_nil))) qs_nil))))))
    (qs_one (qret (qeq hr (qlen rfl m_len (qa_cons (qv 2) qa_nil)) (qv 0)))))))
abbrev sD_left_lines : Stmt := topS 19
theorem sc_left_lines : FnScope ["net", "line"] ["net", "line"] (defScope sD_left_lines) := ⟨rfl, rfl, rfl, by decide +kernel, rfl, by decide +kernel, by decide +kernel⟩
theorem ok_left_lines {f : Addr} {fd : FuncData} (F : Fun K "left_lines" "left_lines" sD_left_lines f fd) (seer : base.NoSeer) (tree : P.given.tree = none) : FnOk P w K mg base CX0 (40 + 1) f fd ["net", "line"] (liftSp K sp_left_lines) := by
  refine okW F sc_left_lines seer tree (by decide) (fun ws G Q E h => ?_) (fun cdv A outer s H E hr hd => ⟨t_left_lines, ?_, rd_left_lines⟩)
  · exact len_left_lines ws G Q E h
  · exact (qs_one (qret (qadd (qslice (qix (qv 0) qint) qp_none (qp_some (qv 1))) (qslice (qix (qv 0) qint) (qp_some (qadd (qv 1) qint)) qp_none))))
abbrev sD__law_bag : Stmt := topS 23
theorem sc__law_bag : FnScope ["_law_script", "_law_at", "_law_cell", "_law_mix", "_law_k"] ["_law_script", "_law_at"] (defScope sD__law_bag) := ⟨rfl, rfl, rfl, by decide +kernel, rfl, by decide +kernel, by decide +kernel⟩
theorem ok__law_bag {f : Addr} {fd : FuncData} (F : Fun K "_law_bag" "_law_bag" sD__law_bag f fd) (seer : base.NoSeer) (tree : P.given.tree = none) (m_len : mg "len" = none) (m_abs : mg "abs" = none) (m_range : mg "range" = none) (m_min : mg "min" = none) : FnOk P w K mg base CX0 (40 + 1) f fd ["_law_script", "_law_at"] (liftSp K sp__law_bag) := by
  refine okW F sc__law_bag seer tree (by decide) (fun ws G Q E h => ?_) (fun cdv A outer s H E hr hd => ⟨t__law_bag, ?_, rd__law_bag⟩)
  · exact len__law_bag ws G Q E h
  · exact (qs_cons (qset (i := 2) sc__law_bag.nd rfl (he := qint))
    (qs_cons (qif (qtlt (qv 1) (qlen rfl m_len (qa_cons (qv 0) qa_nil))) (qs_one (qset (i := 2) sc__law_bag.nd rfl (he := (qabs rfl m_abs (qa_cons (qix (qv 0) (qv 1)) qa_nil))))) qs_nil)
    (qs_cons (qset (i := 3) sc__law_bag.nd rfl (he := (qmod (qpow (qadd (qadd (qmod (qv 2) qint) (qmul qint (qv 1))) qint) qint) qint)))
    (qs_cons (qfor (ks := [false, true, false, false, true]) PassesOwn.never rfl (qrange1 rfl m_range (qa_cons (qmin2 rfl rfl m_min (qa_cons (qlen rfl m_len (qa_cons (qv 0) qa_nil)) (qa_cons qint qa_nil))) qa_nil)) (qgN (i := 4) sc__law_bag.nd rfl) (qs_one (qset (i := 3) sc__law_bag.nd rfl (he := (qmod (qadd (qadd (qmul (qv 3) qint) (qmul (qmod (qix (qv 0) (qv 4)) qint) (qadd (qv 4) qint))) (qv 4)) qint)))))
    (qs_cons (qif (qtlt (qv 2) (qpow qint qint)) (qs_one (qset (i := 2) sc__law_bag.nd rfl (he := qint))) qs_nil)
    (qs_one (qret (qlstM (qa_cons (qv 2) (qa_cons (qv 3) qa_nil))))))))))
abbrev sD__law_take : Stmt := topS 24
theorem sc__law_take : FnScope ["_law_bag_here", "_law_many", "_law_digit"] ["_law_bag_here", "_law_many"] (defScope sD__law_take) := ⟨rfl, rfl, rfl, by decide +kernel, rfl, by decide +kernel, by decide +kernel⟩
theorem ok__law_take {f : Addr} {fd : FuncData} (F : Fun K "_law_take" "_law_take" sD__law_take f fd) (seer : base.NoSeer) (tree : P.given.tree = none) : FnOk P w K mg base CX0 (40 + 1) f fd ["_law_bag_here", "_law_many"] (liftSp K sp__law_take) := by
  refine okW F sc__law_take seer tree (by decide) (fun ws G Q E h => ?_) (fun cdv A outer s H E hr hd => ⟨t__law_take, ?_, rd__law_take⟩)
  · exact len__law_take ws G Q E h
  · exact (qs_cons (qif (qtgt (qix (qv 0) qint) qint) (qs_cons (qset (i := 2) sc__law_take.nd rfl (he := (qmod (qix (qv 0) qint) (qv 1))))
    (qs_cons (qasg (qfdiv ⟨hd.seer, hd.tree, hd.room, hd.frame⟩ (qix (qv 0) qint) (qv 1)) (qgIx (qv 0) qint))
    (qs_one (qret (qv 2))))) qs_nil)
    (qs_cons (qasg (qmod (qadd (qmul (qix (qv 0) qint) qint) qint) qint) (qgIx (qv 0) qint))
    (qs_one (qret (qmod (qmod (qmul (qfdiv ⟨hd.seer, hd.tree, hd.room, hd.frame⟩ (qmod (qpow (qix (qv 0) qint) qint) qint) qint) qint) qint) (qv 1))))))
abbrev sD__law_whole : Stmt := topS 30
theorem sc__law_whole : FnScope ["_law_thing"] ["_law_thing"] (defScope sD__law_whole) := ⟨rfl, rfl, rfl, by decide +kernel, rfl, by decide +kernel, by decide +kernel⟩
theorem ok__law_whole {f : Addr} {fd : FuncData} (F : Fun K "_law_whole" "_law_whole" sD__law_whole f fd) (seer : base.NoSeer) (tree : P.given.tree = none) (m_isinstance : mg "isinstance" = none) (m_int : mg "int" = none) (m_bool : mg "bool" = none) : FnOk P w K mg base CX0 (40 + 1) f fd ["_law_thing"] (liftSp K sp__law_whole) := by
  refine okW F sc__law_whole seer tree (by decide) (fun ws G Q E h => ?_) (fun cdv A outer s H E hr hd => ⟨t__law_whole, ?_, rd__law_whole⟩)
  · exact len__law_whole ws G Q E h
  · exact (qs_one (qret (qandV (qisi (k := .int) (by decide) (by decide +kernel) (by decide) (by decide) rfl m_isinstance rfl m_int (qv 0)) (qone (qnotV (qisi (k := .bool) (by decide) (by decide +kernel) (by decide) (by decide) rfl m_isinstance rfl m_bool (qv 0)))))))
abbrev sD__law_joined : Stmt := topS 31
theorem sc__law_joined : FnScope ["_law_many", "_law_lines", "_law_heap", "_law_one", "_law_other", "_law_stiffness", "_law_most", "_law_low", "_law_high", "_law_head"] ["_law_many", "_law_lines"] (defScope sD__law_joined) := ⟨rfl, rfl, rfl, by decide +kernel, rfl, by decide +kernel, by decide +kernel⟩
theorem ok__law_joined {f : Addr} {fd : FuncData} (F : Fun K "_law_joined" "_law_joined" sD__law_joined f fd) (seer : base.NoSeer) (tree : P.given.tree = none) (m_list : mg "list" = none) (m_range : mg "range" = none) (m_min : mg "min" = none) (m_max : mg "max" = none) (m_int : mg "int" = none) : FnOk P w K mg base CX0 (40 + 1) f fd ["_law_many", "_law_lines"] (liftSp K sp__law_joined) := by
  refine okW F sc__law_joined seer tree (by decide) (fun ws G Q E h => ?_) (fun cdv A outer s H E hr hd => ⟨t__law_joined, ?_, rd__law_joined⟩)
  · exact len__law_joined ws G Q E h
  · exact (qs_cons (qset (i := 2) sc__law_joined.nd rfl (he := (qlstRg rfl rfl m_list rfl m_range (qv 0))))
    (qs_cons (qfor (ks := [false, true, false, true, true, true, true, true, true, true]) PassesOwn.never rfl (qiseq (qv 1)) (qgT rfl (qgs_cons (qgN (i := 3) sc__law_joined.nd rfl) (qgs_cons (qgN (i := 4) sc__law_joined.nd rfl) (qgs_cons (qgN (i := 5) sc__law_joined.nd rfl) (qgs_cons (qgN (i := 6) sc__law_joined.nd rfl) qgs_nil))))) (qs_cons (qset (i := 7) sc__law_joined.nd rfl (he := (qmin2 rfl rfl m_min (qa_cons (qix (qv 2) (qv 3)) (qa_cons (qix (qv 2) (qv 4)) qa_nil)))))
    (qs_cons (qset (i := 8) sc__law_joined.nd rfl (he := (qmax2 rfl rfl m_max (qa_cons (qix (qv 2) (qv 3)) (qa_cons (qix (qv 2) (qv 4)) qa_nil)))))
    (qs_one (qsetLc (j := 2) (own := [("_law_head", 9)]) rfl sc__law_joined.nd rfl rfl (sw_true rfl rfl rfl (by decide +kernel)) (qiseq (qv 2)) (blkOk_by (N := ["_law_many", "_law_lines", "_law_heap", "_law_one", "_law_other", "_law_stiffness", "_law_most", "_law_low", "_law_high", "_law_head"]) (sc := defScope sD__law_joined) (by decide +kernel)) (gcN (i := 9) sc__law_joined.nd rfl) (fun _ _ _ _ _ => qts_nil) (fun _ _ _ _ _ => (qix (qlst (qa_cons (qv 9) (qa_cons (qv 7) qa_nil))) (qint1 rfl m_int (qa_cons (qeq hr (qv 9) (qv 8)) qa_nil)))))))))
    (qs_one (qret (qeq hr (qv 2) (qrep (qlst (qa_cons qint qa_nil)) (qv 0)))))))
abbrev sD__law_refused : Stmt := topS 32
theorem sc__law_refused : FnScope ["_law_e", "_law_kinds", "_law_met", "_law_name", "_law_so"] ["_law_e"] (defScope sD__law_refused) := ⟨rfl, rfl, rfl, by decide +kernel, rfl, by decide +kernel, by decide +kernel⟩
theorem ok__law_refused {f : Addr} {fd : FuncData} (F : Fun K "_law_refused" "_law_refused" sD__law_refused f fd) (m_isinstance : mg "isinstance" = none) (m_len : mg "len" = none) (m_ValueError : mg "ValueError" = none) (gT_NoBalance : mg "NoBalance" = some (.ref D_NoBalance)) (gT_NoDeed : mg "NoDeed" = some (.ref D_NoDeed)) (gT_NoFraction : mg "NoFraction" = some (.ref D_NoFraction)) (gT_NoHouse : mg "NoHouse" = some (.ref D_NoHouse)) (gT_NoLine : mg "NoLine" = some (.ref D_NoLine)) (gT_NoLoss : mg "NoLoss" = some (.ref D_NoLoss)) (gT_NoMaking : mg "NoMaking" = some (.ref D_NoMaking)) (gT_NoNumber : mg "NoNumber" = some (.ref D_NoNumber)) (gT_NoPaper : mg "NoPaper" = some (.ref D_NoPaper)) (gT_NoPuts : mg "NoPuts" = some (.ref D_NoPuts)) (gT_NoRow : mg "NoRow" = some (.ref D_NoRow)) (gT_NoText : mg "NoText" = some (.ref D_NoText)) (kT_NoFraction : ErrT K ["NoLine", "NoLoss"] "NoFraction" (.ref D_NoFraction)) (kT_NoPuts : ErrT K ["NoLine", "NoLoss"] "NoPuts" (.ref D_NoPuts)) (kT_NoBalance : ErrT K ["NoLine", "NoLoss"] "NoBalance" (.ref D_NoBalance)) (kT_NoLine : ErrT K ["NoLine", "NoLoss"] "NoLine" (.ref D_NoLine)) (kT_NoLoss : ErrT K ["NoLine", "NoLoss"] "NoLoss" (.ref D_NoLoss)) (kT_NoDeed : ErrT K ["NoLine", "NoLoss"] "NoDeed" (.ref D_NoDeed)) (kT_NoNumber : ErrT K ["NoLine", "NoLoss"] "NoNumber" (.ref D_NoNumber)) (kT_NoRow : ErrT K ["NoLine", "NoLoss"] "NoRow" (.ref D_NoRow)) (kT_NoHouse : ErrT K ["NoLine", "NoLoss"] "NoHouse" (.ref D_NoHouse)) (kT_NoText : ErrT K ["NoLine", "NoLoss"] "NoText" (.ref D_NoText)) (kT_NoMaking : ErrT K ["NoLine", "NoLoss"] "NoMaking" (.ref D_NoMaking)) (kT_NoPaper : ErrT K ["NoLine", "NoLoss"] "NoPaper" (.ref D_NoPaper)) (kT_ValueError : ErrT K ["NoLine", "NoLoss"] "ValueError" (.type "ValueError")) (eC : ErrC K ["NoLine", "NoLoss"]) : FnE P w K mg base ["NoLine", "NoLoss"] (40 + 1) f fd ["_law_e"] sp__law_refused := by
  refine okE F sc__law_refused (fun a d n ws G Q h => len__law_refused a d n ws G Q h) (fun cdv A outer s H p_e d_e n_e hn hr hot => ⟨t__law_refused p_e.1 d_e n_e, ?_, rd__law_refused p_e.1 d_e n_e⟩)
  exact (qs_cons (qset (i := 1) sc__law_refused.nd rfl (he := (qlst (qa_cons (qtup (qa_cons qstr (qa_cons (qisE hot hn kT_NoFraction eC .own rfl m_isinstance (qv 0) (qclsv rfl gT_NoFraction)) qa_nil))) (qa_cons (qtup (qa_cons qstr (qa_cons (qisE hot hn kT_NoPuts eC .own rfl m_isinstance (qv 0) (qclsv rfl gT_NoPuts)) qa_nil))) qa_nil)))))
    (qs_cons (qset (i := 1) sc__law_refused.nd rfl (he := (qadd (qv 1) (qlst (qa_cons (qtup (qa_cons qstr (qa_cons (qisE hot hn kT_NoBalance eC .own rfl m_isinstance (qv 0) (qclsv rfl gT_NoBalance)) qa_nil))) (qa_cons (qtup (qa_cons qstr (qa_cons (qisE hot hn kT_NoLine eC .own rfl m_isinstance (qv 0) (qclsv rfl gT_NoLine)) qa_nil))) qa_nil))))))
    (qs_cons (qset (i := 1) sc__law_refused.nd rfl (he := (qadd (qv 1) (qlst (qa_cons (qtup (qa_cons qstr (qa_cons (qisE hot hn kT_NoLoss eC .own rfl m_isinstance (qv 0) (qclsv rfl gT_NoLoss)) qa_nil))) qa_nil)))))
    (qs_cons (qset (i := 1) sc__law_refused.nd rfl (he := (qadd (qv 1) (qlst (qa_cons (qtup (qa_cons qstr (qa_cons (qisET hot hn eC (.cons kT_NoPaper .own (.cons kT_NoMaking .own (.cons kT_NoText .own (.cons kT_NoHouse .own (.cons kT_NoRow .own (.cons kT_NoNumber .own (.cons kT_NoDeed .own .nil))))))) rfl m_isinstance (qv 0) (qcls_cons (qclsv rfl gT_NoPaper) (qcls_cons (qclsv rfl gT_NoMaking) (qcls_cons (qclsv rfl gT_NoText) (qcls_cons (qclsv rfl gT_NoHouse) (qcls_cons (qclsv rfl gT_NoRow) (qcls_cons (qclsv rfl gT_NoNumber) (qcls_cons (qclsv rfl gT_NoDeed) qcls_nil))))))) (by show 7 ≤ sizeLine; decide)) qa_nil))) qa_nil)))))
    (qs_cons (qsetLcH (own := [("_law_name", 3), ("_law_so", 4)]) (j := 2) hot.hotC sc__law_refused.nd rfl rfl (sw_true rfl rfl rfl (by decide +kernel)) (qv 1) (blkOk_by (N := ["_law_e", "_law_kinds", "_law_met", "_law_name", "_law_so"]) (sc := defScope sD__law_refused) (by decide +kernel)) (gcT2H (i := 3) (j := 4) hot.hotC sc__law_refused.nd rfl rfl) (fun _ _ _ _ _ => qts_one (qtv (qv 4))) (fun _ _ _ _ _ => (qv 3)))
    (qs_cons (qif (qwt (qor (qtneH hr (qlen rfl m_len (qa_cons (qv 2) qa_nil)) qint) (qor1 (qnot (qtv (qisE hot hn kT_ValueError eC .ty rfl m_isinstance (qv 0) (qclsT rfl m_ValueError (by decide +kernel)))))))) (qs_one (qret qstr)) qs_nil)
    (qs_one (qret (qix (qv 2) qint)))))))))
abbrev sD_is_from : Stmt := topS 16
theorem sc_is_from : FnScope ["thing", "least", "most"] ["thing", "least", "most"] (defScope sD_is_from) := ⟨rfl, rfl, rfl, by decide +kernel, rfl, by decide +kernel, by decide +kernel⟩
theorem ok_is_from {f : Addr} {fd : FuncData} (F : Fun K "is_from" "is_from" sD_is_from f fd) (seer : base.NoSeer) (tree : P.given.tree = none) (c_is_whole : Cal P w K mg base CX0 41 "is_whole" sp_is_whole) : FnOk P w K mg base CX0 (41 + 1) f fd ["thing", "least", "most"] (liftSp K sp_is_from) := by
  refine okW F sc_is_from seer tree (by decide) (fun ws G Q E h => ?_) (fun cdv A outer s H E hr hd => ⟨t_is_from, ?_, rd_is_from⟩)
  · exact len_is_from ws G Q E h
  · exact (qs_one (qret (qandV (qcall c_is_whole (hr.mono (by decide)) rfl (qa_cons (qv 0) qa_nil)) (qone (qlele (qv 1) (qv 0) (qv 2))))))
abbrev sD_losable : Stmt := topS 20
theorem sc_losable : FnScope ["net", "k"] ["net"] (defScope sD_losable) := ⟨rfl, rfl, rfl, by decide +kernel, rfl, by decide +kernel, by decide +kernel⟩
theorem ok_losable {f : Addr} {fd : FuncData} (F : Fun K "losable" "losable" sD_losable f fd) (seer : base.NoSeer) (tree : P.given.tree = none) (c_hangs_together : Cal P w K mg base CX0 41 "hangs_together" sp_hangs_together) (c_left_lines : Cal P w K mg base CX0 41 "left_lines" sp_left_lines) (m_range : mg "range" = none) (m_len : mg "len" = none) : FnOk P w K mg base CX0 (41 + 1) f fd ["net"] (liftSp K sp_losable) := by
  refine okW F sc_losable seer tree (by decide) (fun ws G Q E h => ?_) (fun cdv A outer s H E hr hd => ⟨t_losable, ?_, rd_losable⟩)
  · exact len_losable ws G Q E h
  · exact (qs_one (qret (qlcM (own := [("k", 1)]) rfl sc_losable.nd (qrange1 rfl m_range (qa_cons (qlen rfl m_len (qa_cons (qix (qv 0) qint) qa_nil)) qa_nil)) (blkOk_by (N := ["net", "k"]) (sc := defScope sD_losable) (by decide +kernel)) (gcN (i := 1) sc_losable.nd rfl) (fun _ _ _ _ _ => qts_one (qtv (qcall c_hangs_together (hr.mono (by decide)) rfl (qa_cons (qix (qv 0) qint) (qa_cons (qcall c_left_lines (hr.mono (by decide)) rfl (qa_cons (qv 0) (qa_cons (qv 1) qa_nil))) qa_nil))))) (fun _ _ _ _ _ => (qv 1)))))
abbrev sD__law_far : Stmt := topS 25
theorem sc__law_far : FnScope ["_law_bag_here", "_law_sixes", "_law_number", "_law_k"] ["_law_bag_here", "_law_sixes"] (defScope sD__law_far) := ⟨rfl, rfl, rfl, by decide +kernel, rfl, by decide +kernel, by decide +kernel⟩
theorem ok__law_far {f : Addr} {fd : FuncData} (F : Fun K "_law_far" "_law_far" sD__law_far f fd) (seer : base.NoSeer) (tree : P.given.tree = none) (c__law_take : Cal P w K mg base CX0 41 "_law_take" sp__law_take) (m_range : mg "range" = none) : FnOk P w K mg base CX0 (41 + 1) f fd ["_law_bag_here", "_law_sixes"] (liftSp K sp__law_far) := by
  refine okW F sc__law_far seer tree (by decide) (fun ws G Q E h => ?_) (fun cdv A outer s H E hr hd => ⟨t__law_far, ?_, rd__law_far⟩)
  · exact len__law_far ws G Q E h
  · exact (qs_cons (qset (i := 2) sc__law_far.nd rfl (he := qint))
    (qs_cons (qfor (ks := [false, true, false, true]) PassesOwn.never rfl (qrange1 rfl m_range (qa_cons (qv 1) qa_nil)) (qgN (i := 3) sc__law_far.nd rfl) (qs_one (qset (i := 2) sc__law_far.nd rfl (he := (qadd (qmul (qv 2) (qpow qint qint)) (qcall c__law_take (hr.mono (by decide)) rfl (qa_cons (qv 0) (qa_cons (qpow qint qint) qa_nil))))))))
    (qs_one (qret (qv 2)))))
abbrev sD__law_line : Stmt := topS 28
theorem sc__law_line : FnScope ["_law_bag_here", "_law_one", "_law_other", "_law_stiffness", "_law_most"] ["_law_bag_here", "_law_one", "_law_other"] (defScope sD__law_line) := ⟨rfl, rfl, rfl, by decide +kernel, rfl, by decide +kernel, by decide +kernel⟩
theorem ok__law_line {f : Addr} {fd : FuncData} (F : Fun K "_law_line" "_law_line" sD__law_line f fd) (seer : base.NoSeer) (tree : P.given.tree = none) (c__law_take : Cal P w K mg base CX0 41 "_law_take" sp__law_take) : FnOk P w K mg base CX0 (41 + 1) f fd ["_law_bag_here", "_law_one", "_law_other"] (liftSp K sp__law_line) := by
  refine okW F sc__law_line seer tree (by decide) (fun ws G Q E h => ?_) (fun cdv A outer s H E hr hd => ⟨t__law_line, ?_, rd__law_line⟩)
  · exact len__law_line ws G Q E h
  · exact (qs_cons (qset (i := 3) sc__law_line.nd rfl (he := (qadd qint (qcall c__law_take (hr.mono (by decide)) rfl (qa_cons (qv 0) (qa_cons qint qa_nil))))))
    (qs_cons (qset (i := 4) sc__law_line.nd rfl (he := (qcall c__law_take (hr.mono (by decide)) rfl (qa_cons (qv 0) (qa_cons qint qa_nil)))))
    (qs_cons (qif (qteq hr (qcall c__law_take (hr.mono (by decide)) rfl (qa_cons (qv 0) (qa_cons qint qa_nil))) qint) (qs_one (qret (qtup (qa_cons (qv 2) (qa_cons (qv 1) (qa_cons (qv 3) (qa_cons (qv 4) qa_nil))))))) qs_nil)
    (qs_one (qret (qtup (qa_cons (qv 1) (qa_cons (qv 2) (qa_cons (qv 3) (qa_cons (qv 4) qa_nil))))))))))
abbrev sD__law_due : Stmt := topS 33
theorem sc__law_due : FnScope ["_law_net_here", "_law_line_here"] ["_law_net_here", "_law_line_here"] (defScope sD__law_due) := ⟨rfl, rfl, rfl, by decide +kernel, rfl, by decide +kernel, by decide +kernel⟩
theorem ok__law_due {f : Addr} {fd : FuncData} (F : Fun K "_law_due" "_law_due" sD__law_due f fd) (seer : base.NoSeer) (tree : P.given.tree = none) (c__law_whole : Cal P w K mg base CX0 41 "_law_whole" sp__law_whole) (c__law_joined : Cal P w K mg base CX0 41 "_law_joined" sp__law_joined) (m_len : mg "len" = none) : FnOk P w K mg base CX0 (41 + 1) f fd ["_law_net_here", "_law_line_here"] (liftSp K sp__law_due) := by
  refine okW F sc__law_due seer tree (by decide) (fun ws G Q E h => ?_) (fun cdv A outer s H E hr hd => ⟨t__law_due, ?_, rd__law_due⟩)
  · exact len__law_due ws G Q E h
  · exact (qs_cons (qif (qwt (qor (qnot (qtv (qcall c__law_whole (hr.mono (by decide)) rfl (qa_cons (qv 1) qa_nil)))) (qor1 (qnot (qtlelt qint (qv 1) (qlen rfl m_len (qa_cons (qix (qv 0) qint) qa_nil))))))) (qs_one (qret qstr)) qs_nil)
    (qs_cons (qif (qnot (qtv (qcall c__law_joined (hr.mono (by decide)) rfl (qa_cons (qix (qv 0) qint) (qa_cons (qadd (qslice (qix (qv 0) qint) qp_none (qp_some (qv 1))) (qslice (qix (qv 0) qint) (qp_some (qadd (qv 1) qint)) qp_none)) qa_nil))))) (qs_one (qret qstr)) qs_nil)
    (qs_one (qret (qtup (qa_cons (qix (qv 0) qint) (qa_cons (qadd (qslice (qix (qv 0) qint) qp_none (qp_some (qv 1))) (qslice (qix (qv 0) qint) (qp_some (qadd (qv 1) qint)) qp_none)) qa_nil)))))))
abbrev sD_without : Stmt := topS 21
theorem sc_without : FnScope ["net", "line"] ["net", "line"] (defScope sD_without) := ⟨rfl, rfl, rfl, by decide +kernel, rfl, by decide +kernel, by decide +kernel⟩
theorem ok_without {f : Addr} {fd : FuncData} (F : Fun K "without" "without" sD_without f fd) (seer : base.NoSeer) (tree : P.given.tree = none) (c_is_from : Cal P w K mg base CX0 42 "is_from" sp_is_from) (c_hangs_together : Cal P w K mg base CX0 41 "hangs_together" sp_hangs_together) (c_left_lines : Cal P w K mg base CX0 41 "left_lines" sp_left_lines) (m_len : mg "len" = none) (e_NoLine : Err K mg "NoLine") (e_NoLoss : Err K mg "NoLoss") : FnOk P w K mg base (L2N.CX P w) (42 + 1) f fd ["net", "line"] (liftSp K sp_without) := by
  refine okWX F sc_without seer tree (by decide) (fun ws G Q E h => ?_) (fun cdv A outer s H E hr hd hp => ⟨t_without, ?_, rd_without⟩)
  · exact len_without ws G Q E h
  · exact (qs_cons (qif (qnot (qtv (qcall c_is_from (hr.mono (by decide)) rfl (qa_cons (qv 1) (qa_cons qint (qa_cons (qsub (qlen rfl m_len (qa_cons (qix (qv 0) qint) qa_nil)) qint) qa_nil)))))) (qs_one (qraise e_NoLine rfl rfl)) qs_nil)
    (qs_cons (qif (qnot (qtv (qcall c_hangs_together (hr.mono (by decide)) rfl (qa_cons (qix (qv 0) qint) (qa_cons (qcall c_left_lines (hr.mono (by decide)) rfl (qa_cons (qv 0) (qa_cons (qv 1) qa_nil))) qa_nil))))) (qs_one (qraise e_NoLoss rfl rfl)) qs_nil)
    (qs_one (qret (qtup (qa_cons (qix (qv 0) qint) (qa_cons (qcall c_left_lines (hr.mono (by decide)) rfl (qa_cons (qv 0) (qa_cons (qv 1) qa_nil))) qa_nil)))))))
abbrev sD__law_net : Stmt := topS 29
theorem sc__law_net : FnScope ["_law_bag_here", "_law_many", "_law_lines", "_law_place", "_law_k", "_law_one", "_law_other"] ["_law_bag_here"] (defScope sD__law_net) := ⟨rfl, rfl, rfl, by decide +kernel, rfl, by decide +kernel, by decide +kernel⟩
theorem ok__law_net {f : Addr} {fd : FuncData} (F : Fun K "_law_net" "_law_net" sD__law_net f fd) (seer : base.NoSeer) (tree : P.given.tree = none) (c__law_take : Cal P w K mg base CX0 41 "_law_take" sp__law_take) (c__law_line : Cal P w K mg base CX0 42 "_law_line" sp__law_line) (m_range : mg "range" = none) (m_len : mg "len" = none) (m_int : mg "int" = none) (m_tuple : mg "tuple" = none) : FnOk P w K mg base CX0 (42 + 1) f fd ["_law_bag_here"] (liftSp K sp__law_net) := by
  refine okW F sc__law_net seer tree (by decide) (fun ws G Q E h => ?_) (fun cdv A outer s H E hr hd => ⟨t__law_net, ?_, rd__law_net⟩)
  · exact len__law_net ws G Q E h
  · exact (qs_cons (qset (i := 1) sc__law_net.nd rfl (he := (qix (qlst (qa_cons qint (qa_cons qint (qa_cons qint (qa_cons qint (qa_cons qint (qa_cons qint (qa_cons qint (qa_cons qint qa_nil))))))))) (qcall c__law_take (hr.mono (by decide)) rfl (qa_cons (qv 0) (qa_cons qint qa_nil))))))
    (qs_cons (qset (i := 2) sc__law_net.nd rfl (he := (qlstM qa_nil)))
    (qs_cons (qfor (ks := [false, false, false, true, true, true, true]) PassesOwn.never rfl (qrange2 rfl m_range (qa_cons qint (qa_cons (qv 1) qa_nil))) (qgN (i := 3) sc__law_net.nd rfl) (qs_one (qexpr (qm_append (qv 2) (qa_cons (qcall c__law_line (hr.mono (by decide)) rfl (qa_cons (qv 0) (qa_cons (qv 3) (qa_cons (qcall c__law_take (hr.mono (by decide)) rfl (qa_cons (qv 0) (qa_cons (qv 3) qa_nil))) qa_nil)))) qa_nil)))))
    (qs_cons (qfor (ks := [false, false, false, true, true, true, true]) PassesOwn.never rfl (qrange1 rfl m_range (qa_cons (qmul (qcall c__law_take (hr.mono (by decide)) rfl (qa_cons (qv 0) (qa_cons (qsub qint (qlen rfl m_len (qa_cons (qv 2) qa_nil))) qa_nil))) (qint1 rfl m_int (qa_cons (qgt (qv 1) qint) qa_nil))) qa_nil)) (qgN (i := 4) sc__law_net.nd rfl) (qs_cons (qset (i := 5) sc__law_net.nd rfl (he := (qcall c__law_take (hr.mono (by decide)) rfl (qa_cons (qv 0) (qa_cons (qv 1) qa_nil)))))
    (qs_cons (qset (i := 6) sc__law_net.nd rfl (he := (qmod (qadd (qadd (qv 5) qint) (qcall c__law_take (hr.mono (by decide)) rfl (qa_cons (qv 0) (qa_cons (qsub (qv 1) qint) qa_nil)))) (qv 1))))
    (qs_one (qexpr (qm_insert (qv 2) (qa_cons (qcall c__law_take (hr.mono (by decide)) rfl (qa_cons (qv 0) (qa_cons (qadd (qlen rfl m_len (qa_cons (qv 2) qa_nil)) qint) qa_nil))) (qa_cons (qcall c__law_line (hr.mono (by decide)) rfl (qa_cons (qv 0) (qa_cons (qv 5) (qa_cons (qv 6) qa_nil)))) qa_nil))))))))
    (qs_one (qret (qtup (qa_cons (qv 1) (qa_cons (qtuple rfl m_tuple (qa_cons (qv 2) qa_nil)) qa_nil)))))))))
abbrev sD__law_outcome : Stmt := topS 34
theorem sc__law_outcome : FnScope ["_law_net_here", "_law_line_here", "_law_e"] ["_law_net_here", "_law_line_here"] (defScope sD__law_outcome) := ⟨rfl, rfl, rfl, by decide +kernel, rfl, by decide +kernel, by decide +kernel⟩
theorem ok__law_outcome {f : Addr} {fd : FuncData} (F : Fun K "_law_outcome" "_law_outcome" sD__law_outcome f fd) (seer : base.NoSeer) (tree : P.given.tree = none) (c_without : Cal P w K mg base (L2N.CX P w) 43 "without" sp_without) (c__law_refused : CalE P w K mg base ["NoLine", "NoLoss"] 41 "_law_refused" sp__law_refused) (gT_MainsError : mg "MainsError" = some (.ref D_MainsError)) (mM_MainsError : ErrM K ["NoLine", "NoLoss"] "MainsError" (.ref D_MainsError)) : FnOk P w K mg base CX0 (43 + 1) f fd ["_law_net_here", "_law_line_here"] (liftSp K sp__law_outcome) := by
  refine okW F sc__law_outcome seer tree (by decide) (fun ws G Q E h => ?_) (fun cdv A outer s H E hr hd => ⟨t__law_outcome, ?_, rd__law_outcome⟩)
  · exact len__law_outcome ws G Q E h
  · exact (qs_one (qtryAs (i := 2) (ES := ["NoLine", "NoLoss"]) rfl rfl sc__law_outcome.nd rfl rfl ⟨rfl, by decide, .inl gT_MainsError⟩ mM_MainsError (fun _ _ hp2 => (qs_one (qretX (qcallX c_without (hr.mono (by decide)) rfl (qa_cons (qv 0) (qa_cons (qv 1) qa_nil)))))) (fun a_e oe_e C_e d_e pn_e n_e f_e cA_e hn hz_e hf_e => by have hot := hotE_suite (X := _) (a := a_e) (oe := oe_e) (pn := pn_e) cA_e hz_e hf_e; have hr := roomH_mark hr (a_e := a_e); exact (qs_one (qret (qcallE c__law_refused hot hn (hr.mono (by decide)) rfl (qa_cons (qv 2) qa_nil)))))))
abbrev sD_law : Stmt := topS 35
theorem sc_law : FnScope ["_law_script", "_law_at", "_law_bag_here", "_law_net_here", "_law_far_here", "_law_things", "_law_turn", "_law_line_here", "_law_due_here", "_law_k"] ["_law_script"] (defScope sD_law) := ⟨rfl, rfl, rfl, by decide +kernel, rfl, by decide +kernel, by decide +kernel⟩
theorem ok_law {f : Addr} {fd : FuncData} (F : Fun K "law" "law" sD_law f fd) (seer : base.NoSeer) (tree : P.given.tree = none) (c__law_bag : Cal P w K mg base CX0 41 "_law_bag" sp__law_bag) (c__law_net : Cal P w K mg base CX0 43 "_law_net" sp__law_net) (c__law_far : Cal P w K mg base CX0 42 "_law_far" sp__law_far) (c__law_take : Cal P w K mg base CX0 41 "_law_take" sp__law_take) (c__law_due : Cal P w K mg base CX0 42 "_law_due" sp__law_due) (c__law_outcome : Cal P w K mg base CX0 44 "_law_outcome" sp__law_outcome) (c_losable : Cal P w K mg base CX0 42 "losable" sp_losable) (m_range : mg "range" = none) (m_max : mg "max" = none) (m_min : mg "min" = none) (m_len : mg "len" = none) (m_list : mg "list" = none) (m_isinstance : mg "isinstance" = none) (m_tuple : mg "tuple" = none) : FnOk P w K mg base CX0 (44 + 1) f fd ["_law_script"] (liftSp K sp_law) := by
  refine okW F sc_law seer tree (by decide) (fun ws G Q E h => ?_) (fun cdv A outer s H E hr hd => ⟨t_law, ?_, rd_law⟩)
  · exact len_law ws G Q E h
  · exact (qs_cons (qfor (ks := [false, true, true, true, true, true, true, true, true, true]) PassesOwn.never rfl (qrange1 rfl m_range (qa_cons (qmax2 rfl rfl m_max (qa_cons qint (qa_cons (qmin2 rfl rfl m_min (qa_cons (qlen rfl m_len (qa_cons (qv 0) qa_nil)) (qa_cons qint qa_nil))) qa_nil))) qa_nil)) (qgN (i := 1) sc_law.nd rfl) (qs_cons (qset (i := 2) sc_law.nd rfl (he := (qcall c__law_bag (hr.mono (by decide)) rfl (qa_cons (qv 0) (qa_cons (qv 1) qa_nil)))))
    (qs_cons (qset (i := 3) sc_law.nd rfl (he := (qcall c__law_net (hr.mono (by decide)) rfl (qa_cons (qv 2) qa_nil))))
    (qs_cons (qset (i := 4) sc_law.nd rfl (he := (qadd (qpow qint qint) (qcall c__law_far (hr.mono (by decide)) rfl (qa_cons (qv 2) (qa_cons qint qa_nil))))))
    (qs_cons (qset (i := 5) sc_law.nd rfl (he := (qadd (qlstRg rfl rfl m_list rfl m_range (qlen rfl m_len (qa_cons (qix (qv 3) qint) qa_nil))) (qlst (qa_cons (qneg qint) (qa_cons (qlen rfl m_len (qa_cons (qix (qv 3) qint) qa_nil)) (qa_cons (qv 4) (qa_cons (qsub qint (qv 4)) (qa_cons qbl (qa_cons qbl (qa_cons qnon (qa_cons qstr (qa_cons qstr qa_nil)))))))))))))
    (qs_cons (qset (i := 5) sc_law.nd rfl (he := (qaddM (qadd (qv 5) (qlst (qa_cons (qtup (qa_cons qint qa_nil)) (qa_cons (qlst (qa_cons qint qa_nil)) (qa_cons (qlst qa_nil) (qa_cons (qtup qa_nil) qa_nil)))))) (qslice (qlist rfl m_list (qa_cons (qix (qv 3) qint) qa_nil)) qp_none (qp_some qint)))))
    (qs_cons (qfor (ks := [false, true, false, false, true, false, true, true, true, true]) PassesOwn.never rfl (qrange1 rfl m_range (qa_cons qint qa_nil)) (qgN (i := 6) sc_law.nd rfl) (qs_one (qexpr (qm_append (qv 5) (qa_cons (qm_popAt (qv 5) (qa_cons (qcall c__law_take (hr.mono (by decide)) rfl (qa_cons (qv 2) (qa_cons (qlen rfl m_len (qa_cons (qv 5) qa_nil)) qa_nil))) qa_nil)) qa_nil)))))
    (qs_cons (qfor (ks := [false, true, true, false, true, true, true, true, true, true]) PassesOwn.never rfl (qiseq (qv 5)) (qgN (i := 7) sc_law.nd rfl) (qs_cons (qset (i := 8) sc_law.nd rfl (he := (qcall c__law_due (hr.mono (by decide)) rfl (qa_cons (qv 3) (qa_cons (qv 7) qa_nil)))))
    (qs_one (qif (qwt (qor (qtne hr (qcall c__law_outcome (hr.mono (by decide)) rfl (qa_cons (qv 3) (qa_cons (qv 7) qa_nil))) (qv 8)) (qor1 (qtne hr (qcall c__law_outcome (hr.mono (by decide)) rfl (qa_cons (qv 3) (qa_cons (qv 7) qa_nil))) (qv 8))))) (qs_one (qret qbl)) qs_nil))))
    (qs_cons (qsetLc (j := 8) (own := [("_law_k", 9)]) rfl sc_law.nd rfl rfl (sw_true rfl rfl rfl (by decide +kernel)) (qrange1 rfl m_range (qa_cons (qlen rfl m_len (qa_cons (qix (qv 3) qint) qa_nil)) qa_nil)) (blkOk_by (N := ["_law_script", "_law_at", "_law_bag_here", "_law_net_here", "_law_far_here", "_law_things", "_law_turn", "_law_line_here", "_law_due_here", "_law_k"]) (sc := defScope sD_law) (by decide +kernel)) (gcN (i := 9) sc_law.nd rfl) (fun _ _ _ _ _ => qts_one (qtv (qisi (k := .tuple) (by decide) (by decide +kernel) (by decide) (by decide) rfl m_isinstance rfl m_tuple (qcall c__law_due (hr.mono (by decide)) rfl (qa_cons (qv 3) (qa_cons (qv 9) qa_nil)))))) (fun _ _ _ _ _ => (qv 9)))
    (qs_one (qif (qtne hr (qcall c_losable (hr.mono (by decide)) rfl (qa_cons (qv 3) qa_nil)) (qv 8)) (qs_one (qret qbl)) qs_nil)))))))))))
    (qs_one (qret qbl)))
end
end
theorem all_mk {l : PySem.W.OpenLaw} {w : World} {K : PySem.W.Frag} {h : Heap} {mg : Str → Option Value} {fa f0 f1 f2 f3 f4 f5 f6 f7 f8 f9 f10 f11 f12 f13 f14 f15 f16 : Addr} (X : K.In h) (G : h.Ns mainGlobals mg) (tree : l.prog.given.tree = none) (hfa : mg "law" = some (.ref fa))
    {D_MainsError D_NoBalance D_NoDeed D_NoFraction D_NoHouse D_NoLine D_NoLoss D_NoMaking D_NoNumber D_NoPaper D_NoPuts D_NoRow D_NoText : Addr}
    {od0 an0 od1 an1 od2 an2 od3 an3 od4 an4 od5 an5 od6 an6 od7 an7 od8 an8 od9 an9 od10 an10 od11 an11 od12 an12 od13 an13 od14 an14 od15 an15 od16 an16 : Option Addr} {sl0 sl1 sl2 sl3 sl4 sl5 sl6 sl7 sl8 sl9 sl10 sl11 sl12 sl13 sl14 sl15 sl16 : Array (Option Value)} {oc0 kV0 dc0 pm0 cd0 ct0 oc1 kV1 dc1 pm1 cd1 ct1 oc2 kV2 dc2 pm2 cd2 ct2 oc3 kV3 dc3 pm3 cd3 ct3 oc4 kV4 dc4 pm4 cd4 ct4 oc5 kV5 dc5 pm5 cd5 ct5 oc6 kV6 dc6 pm6 cd6 ct6 oc7 kV7 dc7 pm7 cd7 ct7 oc8 kV8 dc8 pm8 cd8 ct8 oc9 kV9 dc9 pm9 cd9 ct9 oc10 kV10 dc10 pm10 cd10 ct10 oc11 kV11 dc11 pm11 cd11 ct11 oc12 kV12 dc12 pm12 cd12 ct12 oc13 kV13 dc13 pm13 cd13 ct13 oc14 kV14 dc14 pm14 cd14 ct14 oc15 kV15 dc15 pm15 cd15 ct15 oc16 kV16 dc16 pm16 cd16 ct16 : Value}
    (a0 : PySem.W.nsIn K mainGlobals "is_whole" = some (some (.ref f0))) (l0 : K.lookup f0 = some ⟨oc0, od0, .func (PySem.W.fnOf "is_whole" "is_whole" (defArgs sD_is_whole) (defBody sD_is_whole) (defScope sD_is_whole) .none kV0 dc0 pm0 an0 cd0 ct0), sl0⟩) (c0 : PySem.W.codeIn K cd0 "is_whole" = true) (k0 : PySem.W.keepIn K (.ref f0) = true)
    (a1 : PySem.W.nsIn K mainGlobals "hangs_together" = some (some (.ref f1))) (l1 : K.lookup f1 = some ⟨oc1, od1, .func (PySem.W.fnOf "hangs_together" "hangs_together" (defArgs sD_hangs_together) (defBody sD_hangs_together) (defScope sD_hangs_together) .none kV1 dc1 pm1 an1 cd1 ct1), sl1⟩) (c1 : PySem.W.codeIn K cd1 "hangs_together" = true) (k1 : PySem.W.keepIn K (.ref f1) = true)
    (a2 : PySem.W.nsIn K mainGlobals "left_lines" = some (some (.ref f2))) (l2 : K.lookup f2 = some ⟨oc2, od2, .func (PySem.W.fnOf "left_lines" "left_lines" (defArgs sD_left_lines) (defBody sD_left_lines) (defScope sD_left_lines) .none kV2 dc2 pm2 an2 cd2 ct2), sl2⟩) (c2 : PySem.W.codeIn K cd2 "left_lines" = true) (k2 : PySem.W.keepIn K (.ref f2) = true)
    (a3 : PySem.W.nsIn K mainGlobals "_law_bag" = some (some (.ref f3))) (l3 : K.lookup f3 = some ⟨oc3, od3, .func (PySem.W.fnOf "_law_bag" "_law_bag" (defArgs sD__law_bag) (defBody sD__law_bag) (defScope sD__law_bag) .none kV3 dc3 pm3 an3 cd3 ct3), sl3⟩) (c3 : PySem.W.codeIn K cd3 "_law_bag" = true) (k3 : PySem.W.keepIn K (.ref f3) = true)
    (a4 : PySem.W.nsIn K mainGlobals "_law_take" = some (some (.ref f4))) (l4 : K.lookup f4 = some ⟨oc4, od4, .func (PySem.W.fnOf "_law_take" "_law_take" (defArgs sD__law_take) (defBody sD__law_take) (defScope sD__law_take) .none kV4 dc4 pm4 an4 cd4 ct4), sl4⟩) (c4 : PySem.W.codeIn K cd4 "_law_take" = true) (k4 : PySem.W.keepIn K (.ref f4) = true)
    (a5 : PySem.W.nsIn K mainGlobals "_law_whole" = some (some (.ref f5))) (l5 : K.lookup f5 = some ⟨oc5, od5, .func (PySem.W.fnOf "_law_whole" "_law_whole" (defArgs sD__law_whole) (defBody sD__law_whole) (defScope sD__law_whole) .none kV5 dc5 pm5 an5 cd5 ct5), sl5⟩) (c5 : PySem.W.codeIn K cd5 "_law_whole" = true) (k5 : PySem.W.keepIn K (.ref f5) = true)
    (a6 : PySem.W.nsIn K mainGlobals "_law_joined" = some (some (.ref f6))) (l6 : K.lookup f6 = some ⟨oc6, od6, .func (PySem.W.fnOf "_law_joined" "_law_joined" (defArgs sD__law_joined) (defBody sD__law_joined) (defScope sD__law_joined) .none kV6 dc6 pm6 an6 cd6 ct6), sl6⟩) (c6 : PySem.W.codeIn K cd6 "_law_joined" = true) (k6 : PySem.W.keepIn K (.ref f6) = true)
    (a7 : PySem.W.nsIn K mainGlobals "_law_refused" = some (some (.ref f7))) (l7 : K.lookup f7 = some ⟨oc7, od7, .func (PySem.W.fnOf "_law_refused" "_law_refused" (defArgs sD__law_refused) (defBody sD__law_refused) (defScope sD__law_refused) .none kV7 dc7 pm7 an7 cd7 ct7), sl7⟩) (c7 : PySem.W.codeIn K cd7 "_law_refused" = true) (k7 : PySem.W.keepIn K (.ref f7) = true)
    (a8 : PySem.W.nsIn K mainGlobals "is_from" = some (some (.ref f8))) (l8 : K.lookup f8 = some ⟨oc8, od8, .func (PySem.W.fnOf "is_from" "is_from" (defArgs sD_is_from) (defBody sD_is_from) (defScope sD_is_from) .none kV8 dc8 pm8 an8 cd8 ct8), sl8⟩) (c8 : PySem.W.codeIn K cd8 "is_from" = true) (k8 : PySem.W.keepIn K (.ref f8) = true)
    (a9 : PySem.W.nsIn K mainGlobals "losable" = some (some (.ref f9))) (l9 : K.lookup f9 = some ⟨oc9, od9, .func (PySem.W.fnOf "losable" "losable" (defArgs sD_losable) (defBody sD_losable) (defScope sD_losable) .none kV9 dc9 pm9 an9 cd9 ct9), sl9⟩) (c9 : PySem.W.codeIn K cd9 "losable" = true) (k9 : PySem.W.keepIn K (.ref f9) = true)
    (a10 : PySem.W.nsIn K mainGlobals "_law_far" = some (some (.ref f10))) (l10 : K.lookup f10 = some ⟨oc10, od10, .func (PySem.W.fnOf "_law_far" "_law_far" (defArgs sD__law_far) (defBody sD__law_far) (defScope sD__law_far) .none kV10 dc10 pm10 an10 cd10 ct10), sl10⟩) (c10 : PySem.W.codeIn K cd10 "_law_far" = true) (k10 : PySem.W.keepIn K (.ref f10) = true)
    (a11 : PySem.W.nsIn K mainGlobals "_law_line" = some (some (.ref f11))) (l11 : K.lookup f11 = some ⟨oc11, od11, .func (PySem.W.fnOf "_law_line" "_law_line" (defArgs sD__law_line) (defBody sD__law_line) (defScope sD__law_line) .none kV11 dc11 pm11 an11 cd11 ct11), sl11⟩) (c11 : PySem.W.codeIn K cd11 "_law_line" = true) (k11 : PySem.W.keepIn K (.ref f11) = true)
    (a12 : PySem.W.nsIn K mainGlobals "_law_due" = some (some (.ref f12))) (l12 : K.lookup f12 = some ⟨oc12, od12, .func (PySem.W.fnOf "_law_due" "_law_due" (defArgs sD__law_due) (defBody sD__law_due) (defScope sD__law_due) .none kV12 dc12 pm12 an12 cd12 ct12), sl12⟩) (c12 : PySem.W.codeIn K cd12 "_law_due" = true) (k12 : PySem.W.keepIn K (.ref f12) = true)
    (a13 : PySem.W.nsIn K mainGlobals "without" = some (some (.ref f13))) (l13 : K.lookup f13 = some ⟨oc13, od13, .func (PySem.W.fnOf "without" "without" (defArgs sD_without) (defBody sD_without) (defScope sD_without) .none kV13 dc13 pm13 an13 cd13 ct13), sl13⟩) (c13 : PySem.W.codeIn K cd13 "without" = true) (k13 : PySem.W.keepIn K (.ref f13) = true)
    (a14 : PySem.W.nsIn K mainGlobals "_law_net" = some (some (.ref f14))) (l14 : K.lookup f14 = some ⟨oc14, od14, .func (PySem.W.fnOf "_law_net" "_law_net" (defArgs sD__law_net) (defBody sD__law_net) (defScope sD__law_net) .none kV14 dc14 pm14 an14 cd14 ct14), sl14⟩) (c14 : PySem.W.codeIn K cd14 "_law_net" = true) (k14 : PySem.W.keepIn K (.ref f14) = true)
    (a15 : PySem.W.nsIn K mainGlobals "_law_outcome" = some (some (.ref f15))) (l15 : K.lookup f15 = some ⟨oc15, od15, .func (PySem.W.fnOf "_law_outcome" "_law_outcome" (defArgs sD__law_outcome) (defBody sD__law_outcome) (defScope sD__law_outcome) .none kV15 dc15 pm15 an15 cd15 ct15), sl15⟩) (c15 : PySem.W.codeIn K cd15 "_law_outcome" = true) (k15 : PySem.W.keepIn K (.ref f15) = true)
    (a16 : PySem.W.nsIn K mainGlobals "law" = some (some (.ref f16))) (l16 : K.lookup f16 = some ⟨oc16, od16, .func (PySem.W.fnOf "law" "law" (defArgs sD_law) (defBody sD_law) (defScope sD_law) .none kV16 dc16 pm16 an16 cd16 ct16), sl16⟩) (c16 : PySem.W.codeIn K cd16 "law" = true) (k16 : PySem.W.keepIn K (.ref f16) = true)
    (aX_MainsError : PySem.W.nsIn K mainGlobals "MainsError" = some (some (.ref D_MainsError)))
    (aX_NoBalance : PySem.W.nsIn K mainGlobals "NoBalance" = some (some (.ref D_NoBalance)))
    (aX_NoDeed : PySem.W.nsIn K mainGlobals "NoDeed" = some (some (.ref D_NoDeed)))
    (aX_NoFraction : PySem.W.nsIn K mainGlobals "NoFraction" = some (some (.ref D_NoFraction)))
    (aX_NoHouse : PySem.W.nsIn K mainGlobals "NoHouse" = some (some (.ref D_NoHouse)))
    (aX_NoLine : PySem.W.nsIn K mainGlobals "NoLine" = some (some (.ref D_NoLine)))
    (aX_NoLoss : PySem.W.nsIn K mainGlobals "NoLoss" = some (some (.ref D_NoLoss)))
    (aX_NoMaking : PySem.W.nsIn K mainGlobals "NoMaking" = some (some (.ref D_NoMaking)))
    (aX_NoNumber : PySem.W.nsIn K mainGlobals "NoNumber" = some (some (.ref D_NoNumber)))
    (aX_NoPaper : PySem.W.nsIn K mainGlobals "NoPaper" = some (some (.ref D_NoPaper)))
    (aX_NoPuts : PySem.W.nsIn K mainGlobals "NoPuts" = some (some (.ref D_NoPuts)))
    (aX_NoRow : PySem.W.nsIn K mainGlobals "NoRow" = some (some (.ref D_NoRow)))
    (aX_NoText : PySem.W.nsIn K mainGlobals "NoText" = some (some (.ref D_NoText)))
    (kX_NoLine : PySem.W.keepIn K (.ref D_NoLine) = true) (xX_NoLine : PySem.W.excIn K D_NoLine [.type "ValueError", .type "Exception", .type "BaseException", .type "object"] "ValueError.__new__" = true) (bX_NoLine : PySem.W.subIn K (.ref D_NoLine) (.type "BaseException") = some true) (tX_NoLine : PySem.W.typeIn K (.ref D_NoLine) = some (.type "type"))
    (g1_NoLine : PySem.W.findIn K (.ref D_NoLine) "__getattribute__" = some (some (.builtin "BaseException.__getattribute__"))) (g2_NoLine : PySem.W.findIn K (.ref D_NoLine) "__getattr__" = some none) (g3_NoLine : PySem.W.hasDictIn K D_NoLine = true) (g4_NoLine : PySem.W.findIn K (.ref D_NoLine) "__class__" = some (some (.builtin "object.__class__"))) (g5_NoLine : PySem.W.mroIn K D_NoLine (.type "object") = some true)
    (i_NoLine_NoBalance : PySem.W.subIn K (.ref D_NoLine) (.ref D_NoBalance) = some false)
    (i_NoLine_NoDeed : PySem.W.subIn K (.ref D_NoLine) (.ref D_NoDeed) = some false)
    (i_NoLine_NoFraction : PySem.W.subIn K (.ref D_NoLine) (.ref D_NoFraction) = some false)
    (i_NoLine_NoHouse : PySem.W.subIn K (.ref D_NoLine) (.ref D_NoHouse) = some false)
    (i_NoLine_NoLine : PySem.W.subIn K (.ref D_NoLine) (.ref D_NoLine) = some true)
    (i_NoLine_NoLoss : PySem.W.subIn K (.ref D_NoLine) (.ref D_NoLoss) = some false)
    (i_NoLine_NoMaking : PySem.W.subIn K (.ref D_NoLine) (.ref D_NoMaking) = some false)
    (i_NoLine_NoNumber : PySem.W.subIn K (.ref D_NoLine) (.ref D_NoNumber) = some false)
    (i_NoLine_NoPaper : PySem.W.subIn K (.ref D_NoLine) (.ref D_NoPaper) = some false)
    (i_NoLine_NoPuts : PySem.W.subIn K (.ref D_NoLine) (.ref D_NoPuts) = some false)
    (i_NoLine_NoRow : PySem.W.subIn K (.ref D_NoLine) (.ref D_NoRow) = some false)
    (i_NoLine_NoText : PySem.W.subIn K (.ref D_NoLine) (.ref D_NoText) = some false)
    (i_NoLine_ValueError : PySem.W.subIn K (.ref D_NoLine) (.type "ValueError") = some true)
    (j_NoLine_MainsError : PySem.W.subIn K (.ref D_NoLine) (.ref D_MainsError) = some true)
    (kX_NoLoss : PySem.W.keepIn K (.ref D_NoLoss) = true) (xX_NoLoss : PySem.W.excIn K D_NoLoss [.type "ValueError", .type "Exception", .type "BaseException", .type "object"] "ValueError.__new__" = true) (bX_NoLoss : PySem.W.subIn K (.ref D_NoLoss) (.type "BaseException") = some true) (tX_NoLoss : PySem.W.typeIn K (.ref D_NoLoss) = some (.type "type"))
    (g1_NoLoss : PySem.W.findIn K (.ref D_NoLoss) "__getattribute__" = some (some (.builtin "BaseException.__getattribute__"))) (g2_NoLoss : PySem.W.findIn K (.ref D_NoLoss) "__getattr__" = some none) (g3_NoLoss : PySem.W.hasDictIn K D_NoLoss = true) (g4_NoLoss : PySem.W.findIn K (.ref D_NoLoss) "__class__" = some (some (.builtin "object.__class__"))) (g5_NoLoss : PySem.W.mroIn K D_NoLoss (.type "object") = some true)
    (i_NoLoss_NoBalance : PySem.W.subIn K (.ref D_NoLoss) (.ref D_NoBalance) = some false)
    (i_NoLoss_NoDeed : PySem.W.subIn K (.ref D_NoLoss) (.ref D_NoDeed) = some false)
    (i_NoLoss_NoFraction : PySem.W.subIn K (.ref D_NoLoss) (.ref D_NoFraction) = some false)
    (i_NoLoss_NoHouse : PySem.W.subIn K (.ref D_NoLoss) (.ref D_NoHouse) = some false)
    (i_NoLoss_NoLine : PySem.W.subIn K (.ref D_NoLoss) (.ref D_NoLine) = some false)
    (i_NoLoss_NoLoss : PySem.W.subIn K (.ref D_NoLoss) (.ref D_NoLoss) = some true)
    (i_NoLoss_NoMaking : PySem.W.subIn K (.ref D_NoLoss) (.ref D_NoMaking) = some false)
    (i_NoLoss_NoNumber : PySem.W.subIn K (.ref D_NoLoss) (.ref D_NoNumber) = some false)
    (i_NoLoss_NoPaper : PySem.W.subIn K (.ref D_NoLoss) (.ref D_NoPaper) = some false)
    (i_NoLoss_NoPuts : PySem.W.subIn K (.ref D_NoLoss) (.ref D_NoPuts) = some false)
    (i_NoLoss_NoRow : PySem.W.subIn K (.ref D_NoLoss) (.ref D_NoRow) = some false)
    (i_NoLoss_NoText : PySem.W.subIn K (.ref D_NoLoss) (.ref D_NoText) = some false)
    (i_NoLoss_ValueError : PySem.W.subIn K (.ref D_NoLoss) (.type "ValueError") = some true)
    (j_NoLoss_MainsError : PySem.W.subIn K (.ref D_NoLoss) (.ref D_MainsError) = some true)
    (ss_NoLine : PySem.W.subIn K (.ref D_NoLine) (.ref D_NoLine) = some true)
    (ss_NoLoss : PySem.W.subIn K (.ref D_NoLoss) (.ref D_NoLoss) = some true)
    (u1_MainsError : PySem.W.isClsIn K D_MainsError = true) (u2_MainsError : PySem.W.typeIn K (.ref D_MainsError) = some (.type "type"))
    (u1_NoBalance : PySem.W.isClsIn K D_NoBalance = true) (u2_NoBalance : PySem.W.typeIn K (.ref D_NoBalance) = some (.type "type"))
    (u1_NoDeed : PySem.W.isClsIn K D_NoDeed = true) (u2_NoDeed : PySem.W.typeIn K (.ref D_NoDeed) = some (.type "type"))
    (u1_NoFraction : PySem.W.isClsIn K D_NoFraction = true) (u2_NoFraction : PySem.W.typeIn K (.ref D_NoFraction) = some (.type "type"))
    (u1_NoHouse : PySem.W.isClsIn K D_NoHouse = true) (u2_NoHouse : PySem.W.typeIn K (.ref D_NoHouse) = some (.type "type"))
    (u1_NoLine : PySem.W.isClsIn K D_NoLine = true) (u2_NoLine : PySem.W.typeIn K (.ref D_NoLine) = some (.type "type"))
    (u1_NoLoss : PySem.W.isClsIn K D_NoLoss = true) (u2_NoLoss : PySem.W.typeIn K (.ref D_NoLoss) = some (.type "type"))
    (u1_NoMaking : PySem.W.isClsIn K D_NoMaking = true) (u2_NoMaking : PySem.W.typeIn K (.ref D_NoMaking) = some (.type "type"))
    (u1_NoNumber : PySem.W.isClsIn K D_NoNumber = true) (u2_NoNumber : PySem.W.typeIn K (.ref D_NoNumber) = some (.type "type"))
    (u1_NoPaper : PySem.W.isClsIn K D_NoPaper = true) (u2_NoPaper : PySem.W.typeIn K (.ref D_NoPaper) = some (.type "type"))
    (u1_NoPuts : PySem.W.isClsIn K D_NoPuts = true) (u2_NoPuts : PySem.W.typeIn K (.ref D_NoPuts) = some (.type "type"))
    (u1_NoRow : PySem.W.isClsIn K D_NoRow = true) (u2_NoRow : PySem.W.typeIn K (.ref D_NoRow) = some (.type "type"))
    (u1_NoText : PySem.W.isClsIn K D_NoText = true) (u2_NoText : PySem.W.typeIn K (.ref D_NoText) = some (.type "type"))
    (bX_MainsError : PySem.W.subIn K (.ref D_MainsError) (.type "BaseException") = some true) (g3_MainsError : PySem.W.hasDictIn K D_MainsError = true)
    (s0 : PySem.W.specialIn K (.builtin "object.__class__") "__get__" = some (some (.builtin "getset_descriptor.__get__"))) (s1 : PySem.W.takesIn K (.builtin "object.__class__") = some true)
    (z_ValueError : PySem.W.nsIn K mainGlobals "ValueError" = some none)
    (z_abs : PySem.W.nsIn K mainGlobals "abs" = some none)
    (z_bool : PySem.W.nsIn K mainGlobals "bool" = some none)
    (z_int : PySem.W.nsIn K mainGlobals "int" = some none)
    (z_isinstance : PySem.W.nsIn K mainGlobals "isinstance" = some none)
    (z_len : PySem.W.nsIn K mainGlobals "len" = some none)
    (z_list : PySem.W.nsIn K mainGlobals "list" = some none)
    (z_max : PySem.W.nsIn K mainGlobals "max" = some none)
    (z_min : PySem.W.nsIn K mainGlobals "min" = some none)
    (z_range : PySem.W.nsIn K mainGlobals "range" = some none)
    (z_tuple : PySem.W.nsIn K mainGlobals "tuple" = some none)
    : ∃ fd : FuncData, (∀ (s : Shared) (v : Value), BindsTo s fd ⟨[v], []⟩ [("_law_script", v)]) ∧ ∀ base : Heap, K.In base → base.Ns mainGlobals mg → base.NoSeer → FnOk l.prog w K mg base CX0 45 fa fd ["_law_script"] (liftSp K sp_law) := by
  have e := hfa.symm.trans (PySem.W.mg_of X G a16)
  cases e
  have m_ValueError : mg "ValueError" = none := PySem.W.mg_none_of X G z_ValueError
  have m_abs : mg "abs" = none := PySem.W.mg_none_of X G z_abs
  have m_bool : mg "bool" = none := PySem.W.mg_none_of X G z_bool
  have m_int : mg "int" = none := PySem.W.mg_none_of X G z_int
  have m_isinstance : mg "isinstance" = none := PySem.W.mg_none_of X G z_isinstance
  have m_len : mg "len" = none := PySem.W.mg_none_of X G z_len
  have m_list : mg "list" = none := PySem.W.mg_none_of X G z_list
  have m_max : mg "max" = none := PySem.W.mg_none_of X G z_max
  have m_min : mg "min" = none := PySem.W.mg_none_of X G z_min
  have m_range : mg "range" = none := PySem.W.mg_none_of X G z_range
  have m_tuple : mg "tuple" = none := PySem.W.mg_none_of X G z_tuple
  have gT_MainsError : mg "MainsError" = some (.ref D_MainsError) := PySem.W.mg_of X G aX_MainsError
  have gT_NoBalance : mg "NoBalance" = some (.ref D_NoBalance) := PySem.W.mg_of X G aX_NoBalance
  have gT_NoDeed : mg "NoDeed" = some (.ref D_NoDeed) := PySem.W.mg_of X G aX_NoDeed
  have gT_NoFraction : mg "NoFraction" = some (.ref D_NoFraction) := PySem.W.mg_of X G aX_NoFraction
  have gT_NoHouse : mg "NoHouse" = some (.ref D_NoHouse) := PySem.W.mg_of X G aX_NoHouse
  have gT_NoLine : mg "NoLine" = some (.ref D_NoLine) := PySem.W.mg_of X G aX_NoLine
  have gT_NoLoss : mg "NoLoss" = some (.ref D_NoLoss) := PySem.W.mg_of X G aX_NoLoss
  have gT_NoMaking : mg "NoMaking" = some (.ref D_NoMaking) := PySem.W.mg_of X G aX_NoMaking
  have gT_NoNumber : mg "NoNumber" = some (.ref D_NoNumber) := PySem.W.mg_of X G aX_NoNumber
  have gT_NoPaper : mg "NoPaper" = some (.ref D_NoPaper) := PySem.W.mg_of X G aX_NoPaper
  have gT_NoPuts : mg "NoPuts" = some (.ref D_NoPuts) := PySem.W.mg_of X G aX_NoPuts
  have gT_NoRow : mg "NoRow" = some (.ref D_NoRow) := PySem.W.mg_of X G aX_NoRow
  have gT_NoText : mg "NoText" = some (.ref D_NoText) := PySem.W.mg_of X G aX_NoText
  have e_NoLine : Err K mg "NoLine" := ⟨_, gT_NoLine, aX_NoLine, kX_NoLine, xX_NoLine, bX_NoLine, tX_NoLine⟩
  have e_NoLoss : Err K mg "NoLoss" := ⟨_, gT_NoLoss, aX_NoLoss, kX_NoLoss, xX_NoLoss, bX_NoLoss, tX_NoLoss⟩
  have kT_NoBalance : ErrT K ["NoLine", "NoLoss"] "NoBalance" (.ref D_NoBalance) := fun nm hm C cA => by
    simp only [List.mem_cons, List.not_mem_nil, or_false] at hm
    rcases hm with rfl | rfl
    · have e := ClsA.one aX_NoLine cA; subst e; exact kit_ref u1_NoBalance u2_NoBalance i_NoLine_NoBalance ss_NoLine
    · have e := ClsA.one aX_NoLoss cA; subst e; exact kit_ref u1_NoBalance u2_NoBalance i_NoLoss_NoBalance ss_NoLoss
  have kT_NoDeed : ErrT K ["NoLine", "NoLoss"] "NoDeed" (.ref D_NoDeed) := fun nm hm C cA => by
    simp only [List.mem_cons, List.not_mem_nil, or_false] at hm
    rcases hm with rfl | rfl
    · have e := ClsA.one aX_NoLine cA; subst e; exact kit_ref u1_NoDeed u2_NoDeed i_NoLine_NoDeed ss_NoLine
    · have e := ClsA.one aX_NoLoss cA; subst e; exact kit_ref u1_NoDeed u2_NoDeed i_NoLoss_NoDeed ss_NoLoss
  have kT_NoFraction : ErrT K ["NoLine", "NoLoss"] "NoFraction" (.ref D_NoFraction) := fun nm hm C cA => by
    simp only [List.mem_cons, List.not_mem_nil, or_false] at hm
    rcases hm with rfl | rfl
    · have e := ClsA.one aX_NoLine cA; subst e; exact kit_ref u1_NoFraction u2_NoFraction i_NoLine_NoFraction ss_NoLine
    · have e := ClsA.one aX_NoLoss cA; subst e; exact kit_ref u1_NoFraction u2_NoFraction i_NoLoss_NoFraction ss_NoLoss
  have kT_NoHouse : ErrT K ["NoLine", "NoLoss"] "NoHouse" (.ref D_NoHouse) := fun nm hm C cA => by
    simp only [List.mem_cons, List.not_mem_nil, or_false] at hm
    rcases hm with rfl | rfl
    · have e := ClsA.one aX_NoLine cA; subst e; exact kit_ref u1_NoHouse u2_NoHouse i_NoLine_NoHouse ss_NoLine
    · have e := ClsA.one aX_NoLoss cA; subst e; exact kit_ref u1_NoHouse u2_NoHouse i_NoLoss_NoHouse ss_NoLoss
  have kT_NoLine : ErrT K ["NoLine", "NoLoss"] "NoLine" (.ref D_NoLine) := fun nm hm C cA => by
    simp only [List.mem_cons, List.not_mem_nil, or_false] at hm
    rcases hm with rfl | rfl
    · have e := ClsA.one aX_NoLine cA; subst e; exact kit_ref u1_NoLine u2_NoLine i_NoLine_NoLine ss_NoLine
    · have e := ClsA.one aX_NoLoss cA; subst e; exact kit_ref u1_NoLine u2_NoLine i_NoLoss_NoLine ss_NoLoss
  have kT_NoLoss : ErrT K ["NoLine", "NoLoss"] "NoLoss" (.ref D_NoLoss) := fun nm hm C cA => by
    simp only [List.mem_cons, List.not_mem_nil, or_false] at hm
    rcases hm with rfl | rfl
    · have e := ClsA.one aX_NoLine cA; subst e; exact kit_ref u1_NoLoss u2_NoLoss i_NoLine_NoLoss ss_NoLine
    · have e := ClsA.one aX_NoLoss cA; subst e; exact kit_ref u1_NoLoss u2_NoLoss i_NoLoss_NoLoss ss_NoLoss
  have kT_NoMaking : ErrT K ["NoLine", "NoLoss"] "NoMaking" (.ref D_NoMaking) := fun nm hm C cA => by
    simp only [List.mem_cons, List.not_mem_nil, or_false] at hm
    rcases hm with rfl | rfl
    · have e := ClsA.one aX_NoLine cA; subst e; exact kit_ref u1_NoMaking u2_NoMaking i_NoLine_NoMaking ss_NoLine
    · have e := ClsA.one aX_NoLoss cA; subst e; exact kit_ref u1_NoMaking u2_NoMaking i_NoLoss_NoMaking ss_NoLoss
  have kT_NoNumber : ErrT K ["NoLine", "NoLoss"] "NoNumber" (.ref D_NoNumber) := fun nm hm C cA => by
    simp only [List.mem_cons, List.not_mem_nil, or_false] at hm
    rcases hm with rfl | rfl
    · have e := ClsA.one aX_NoLine cA; subst e; exact kit_ref u1_NoNumber u2_NoNumber i_NoLine_NoNumber ss_NoLine
    · have e := ClsA.one aX_NoLoss cA; subst e; exact kit_ref u1_NoNumber u2_NoNumber i_NoLoss_NoNumber ss_NoLoss
  have kT_NoPaper : ErrT K ["NoLine", "NoLoss"] "NoPaper" (.ref D_NoPaper) := fun nm hm C cA => by
    simp only [List.mem_cons, List.not_mem_nil, or_false] at hm
    rcases hm with rfl | rfl
    · have e := ClsA.one aX_NoLine cA; subst e; exact kit_ref u1_NoPaper u2_NoPaper i_NoLine_NoPaper ss_NoLine
    · have e := ClsA.one aX_NoLoss cA; subst e; exact kit_ref u1_NoPaper u2_NoPaper i_NoLoss_NoPaper ss_NoLoss
  have kT_NoPuts : ErrT K ["NoLine", "NoLoss"] "NoPuts" (.ref D_NoPuts) := fun nm hm C cA => by
    simp only [List.mem_cons, List.not_mem_nil, or_false] at hm
    rcases hm with rfl | rfl
    · have e := ClsA.one aX_NoLine cA; subst e; exact kit_ref u1_NoPuts u2_NoPuts i_NoLine_NoPuts ss_NoLine
    · have e := ClsA.one aX_NoLoss cA; subst e; exact kit_ref u1_NoPuts u2_NoPuts i_NoLoss_NoPuts ss_NoLoss
  have kT_NoRow : ErrT K ["NoLine", "NoLoss"] "NoRow" (.ref D_NoRow) := fun nm hm C cA => by
    simp only [List.mem_cons, List.not_mem_nil, or_false] at hm
    rcases hm with rfl | rfl
    · have e := ClsA.one aX_NoLine cA; subst e; exact kit_ref u1_NoRow u2_NoRow i_NoLine_NoRow ss_NoLine
    · have e := ClsA.one aX_NoLoss cA; subst e; exact kit_ref u1_NoRow u2_NoRow i_NoLoss_NoRow ss_NoLoss
  have kT_NoText : ErrT K ["NoLine", "NoLoss"] "NoText" (.ref D_NoText) := fun nm hm C cA => by
    simp only [List.mem_cons, List.not_mem_nil, or_false] at hm
    rcases hm with rfl | rfl
    · have e := ClsA.one aX_NoLine cA; subst e; exact kit_ref u1_NoText u2_NoText i_NoLine_NoText ss_NoLine
    · have e := ClsA.one aX_NoLoss cA; subst e; exact kit_ref u1_NoText u2_NoText i_NoLoss_NoText ss_NoLoss
  have kT_ValueError : ErrT K ["NoLine", "NoLoss"] "ValueError" (.type "ValueError") := fun nm hm C cA => by
    simp only [List.mem_cons, List.not_mem_nil, or_false] at hm
    rcases hm with rfl | rfl
    · have e := ClsA.one aX_NoLine cA; subst e; exact kit_typ (by decide +kernel) i_NoLine_ValueError
    · have e := ClsA.one aX_NoLoss cA; subst e; exact kit_typ (by decide +kernel) i_NoLoss_ValueError
  have mM_MainsError : ErrM K ["NoLine", "NoLoss"] "MainsError" (.ref D_MainsError) := fun nm hm C cA => by
    simp only [List.mem_cons, List.not_mem_nil, or_false] at hm
    rcases hm with rfl | rfl
    · have e := ClsA.one aX_NoLine cA; subst e; exact PySem.W.exm_ref bX_MainsError g3_MainsError u2_MainsError j_NoLine_MainsError
    · have e := ClsA.one aX_NoLoss cA; subst e; exact PySem.W.exm_ref bX_MainsError g3_MainsError u2_MainsError j_NoLoss_MainsError
  have eC : ErrC K ["NoLine", "NoLoss"] := fun nm hm C cA => by
    simp only [List.mem_cons, List.not_mem_nil, or_false] at hm
    rcases hm with rfl | rfl
    · have e := ClsA.one aX_NoLine cA; subst e; exact ⟨g1_NoLine, g2_NoLine, bX_NoLine, g3_NoLine, g4_NoLine, s0, s1, g5_NoLine⟩
    · have e := ClsA.one aX_NoLoss cA; subst e; exact ⟨g1_NoLoss, g2_NoLoss, bX_NoLoss, g3_NoLoss, g4_NoLoss, s0, s1, g5_NoLoss⟩
  have F0 := fun_mk (st := sD_is_whole) l0 c0 k0
  have F1 := fun_mk (st := sD_hangs_together) l1 c1 k1
  have F2 := fun_mk (st := sD_left_lines) l2 c2 k2
  have F3 := fun_mk (st := sD__law_bag) l3 c3 k3
  have F4 := fun_mk (st := sD__law_take) l4 c4 k4
  have F5 := fun_mk (st := sD__law_whole) l5 c5 k5
  have F6 := fun_mk (st := sD__law_joined) l6 c6 k6
  have F7 := fun_mk (st := sD__law_refused) l7 c7 k7
  have F8 := fun_mk (st := sD_is_from) l8 c8 k8
  have F9 := fun_mk (st := sD_losable) l9 c9 k9
  have F10 := fun_mk (st := sD__law_far) l10 c10 k10
  have F11 := fun_mk (st := sD__law_line) l11 c11 k11
  have F12 := fun_mk (st := sD__law_due) l12 c12 k12
  have F13 := fun_mk (st := sD_without) l13 c13 k13
  have F14 := fun_mk (st := sD__law_net) l14 c14 k14
  have F15 := fun_mk (st := sD__law_outcome) l15 c15 k15
  have F16 := fun_mk (st := sD_law) l16 c16 k16
  exact ⟨_, fun s v => .of_eq rfl, fun base _ _ seer => by
    have c_is_whole : Cal l.prog w K mg base CX0 41 "is_whole" sp_is_whole := ⟨_, _, _, ok_is_whole F0 seer tree m_isinstance m_int m_bool, PySem.W.mg_of X G a0, k0, F0.binds (ps := ["thing"]) fun _ _ _ _ _ _ us hl => match us, hl with | [_], _ => rfl⟩
    have c_hangs_together : Cal l.prog w K mg base CX0 41 "hangs_together" sp_hangs_together := ⟨_, _, _, ok_hangs_together F1 seer tree m_len, PySem.W.mg_of X G a1, k1, F1.binds (ps := ["many", "lines"]) fun _ _ _ _ _ _ us hl => match us, hl with | [_, _], _ => rfl⟩
    have c_left_lines : Cal l.prog w K mg base CX0 41 "left_lines" sp_left_lines := ⟨_, _, _, ok_left_lines F2 seer tree, PySem.W.mg_of X G a2, k2, F2.binds (ps := ["net", "line"]) fun _ _ _ _ _ _ us hl => match us, hl with | [_, _], _ => rfl⟩
    have c__law_bag : Cal l.prog w K mg base CX0 41 "_law_bag" sp__law_bag := ⟨_, _, _, ok__law_bag F3 seer tree m_len m_abs m_range m_min, PySem.W.mg_of X G a3, k3, F3.binds (ps := ["_law_script", "_law_at"]) fun _ _ _ _ _ _ us hl => match us, hl with | [_, _], _ => rfl⟩
    have c__law_take : Cal l.prog w K mg base CX0 41 "_law_take" sp__law_take := ⟨_, _, _, ok__law_take F4 seer tree, PySem.W.mg_of X G a4, k4, F4.binds (ps := ["_law_bag_here", "_law_many"]) fun _ _ _ _ _ _ us hl => match us, hl with | [_, _], _ => rfl⟩
    have c__law_whole : Cal l.prog w K mg base CX0 41 "_law_whole" sp__law_whole := ⟨_, _, _, ok__law_whole F5 seer tree m_isinstance m_int m_bool, PySem.W.mg_of X G a5, k5, F5.binds (ps := ["_law_thing"]) fun _ _ _ _ _ _ us hl => match us, hl with | [_], _ => rfl⟩
    have c__law_joined : Cal l.prog w K mg base CX0 41 "_law_joined" sp__law_joined := ⟨_, _, _, ok__law_joined F6 seer tree m_list m_range m_min m_max m_int, PySem.W.mg_of X G a6, k6, F6.binds (ps := ["_law_many", "_law_lines"]) fun _ _ _ _ _ _ us hl => match us, hl with | [_, _], _ => rfl⟩
    have c__law_refused : CalE l.prog w K mg base ["NoLine", "NoLoss"] 41 "_law_refused" sp__law_refused := ⟨_, _, _, ok__law_refused F7 m_isinstance m_len m_ValueError gT_NoBalance gT_NoDeed gT_NoFraction gT_NoHouse gT_NoLine gT_NoLoss gT_NoMaking gT_NoNumber gT_NoPaper gT_NoPuts gT_NoRow gT_NoText kT_NoFraction kT_NoPuts kT_NoBalance kT_NoLine kT_NoLoss kT_NoDeed kT_NoNumber kT_NoRow kT_NoHouse kT_NoText kT_NoMaking kT_NoPaper kT_ValueError eC, PySem.W.mg_of X G a7, k7, F7.binds (ps := ["_law_e"]) fun _ _ _ _ _ _ us hl => match us, hl with | [_], _ => rfl⟩
    have c_is_from : Cal l.prog w K mg base CX0 42 "is_from" sp_is_from := ⟨_, _, _, ok_is_from F8 seer tree c_is_whole, PySem.W.mg_of X G a8, k8, F8.binds (ps := ["thing", "least", "most"]) fun _ _ _ _ _ _ us hl => match us, hl with | [_, _, _], _ => rfl⟩
    have c_losable : Cal l.prog w K mg base CX0 42 "losable" sp_losable := ⟨_, _, _, ok_losable F9 seer tree c_hangs_together c_left_lines m_range m_len, PySem.W.mg_of X G a9, k9, F9.binds (ps := ["net"]) fun _ _ _ _ _ _ us hl => match us, hl with | [_], _ => rfl⟩
    have c__law_far : Cal l.prog w K mg base CX0 42 "_law_far" sp__law_far := ⟨_, _, _, ok__law_far F10 seer tree c__law_take m_range, PySem.W.mg_of X G a10, k10, F10.binds (ps := ["_law_bag_here", "_law_sixes"]) fun _ _ _ _ _ _ us hl => match us, hl with | [_, _], _ => rfl⟩
    have c__law_line : Cal l.prog w K mg base CX0 42 "_law_line" sp__law_line := ⟨_, _, _, ok__law_line F11 seer tree c__law_take, PySem.W.mg_of X G a11, k11, F11.binds (ps := ["_law_bag_here", "_law_one", "_law_other"]) fun _ _ _ _ _ _ us hl => match us, hl with | [_, _, _], _ => rfl⟩
    have c__law_due : Cal l.prog w K mg base CX0 42 "_law_due" sp__law_due := ⟨_, _, _, ok__law_due F12 seer tree c__law_whole c__law_joined m_len, PySem.W.mg_of X G a12, k12, F12.binds (ps := ["_law_net_here", "_law_line_here"]) fun _ _ _ _ _ _ us hl => match us, hl with | [_, _], _ => rfl⟩
    have c_without : Cal l.prog w K mg base (L2N.CX l.prog w) 43 "without" sp_without := ⟨_, _, _, ok_without F13 seer tree c_is_from c_hangs_together c_left_lines m_len e_NoLine e_NoLoss, PySem.W.mg_of X G a13, k13, F13.binds (ps := ["net", "line"]) fun _ _ _ _ _ _ us hl => match us, hl with | [_, _], _ => rfl⟩
    have c__law_net : Cal l.prog w K mg base CX0 43 "_law_net" sp__law_net := ⟨_, _, _, ok__law_net F14 seer tree c__law_take c__law_line m_range m_len m_int m_tuple, PySem.W.mg_of X G a14, k14, F14.binds (ps := ["_law_bag_here"]) fun _ _ _ _ _ _ us hl => match us, hl with | [_], _ => rfl⟩
    have c__law_outcome : Cal l.prog w K mg base CX0 44 "_law_outcome" sp__law_outcome := ⟨_, _, _, ok__law_outcome F15 seer tree c_without c__law_refused gT_MainsError mM_MainsError, PySem.W.mg_of X G a15, k15, F15.binds (ps := ["_law_net_here", "_law_line_here"]) fun _ _ _ _ _ _ us hl => match us, hl with | [_, _], _ => rfl⟩
    exact ok_law F16 seer tree c__law_bag c__law_net c__law_far c__law_take c__law_due c__law_outcome c_losable m_range m_max m_min m_len m_list m_isinstance m_tuple⟩
end WL
open PySem PySem.W PyProof.Rows
set_option maxHeartbeats 0 in
theorem PySem.Challenge.cw_mainskeep_k17_lines_refused_holds : PySem.Challenge.rw_mainskeep_k17_lines_refused.Holds := by
  w_on; o_law; k_head; (case hw => w_witness2)
  k_fill
  refine WL.walk_deep (l := PySem.Challenge.rw_mainskeep_k17_lines_refused) (n := 63) (k := 45) (x := "_law_script") (sp := fun w => WL.liftSp _ WL.sp_law) rfl (by decide) rfl ⟨rfl, by decide, by decide⟩ (by decide +kernel) (fun w h Y => PySem.W.kIn_of Y) ?F (fun _ _ _ _ hl hO hS => WL.law_sp hl hO hS)
  case F =>
    intro w mg fa h KX G hmg
    refine' WL.all_mk KX G rfl hmg ?a0 ?l0 ?c0 ?k0 ?a1 ?l1 ?c1 ?k1 ?a2 ?l2 ?c2 ?k2 ?a3 ?l3 ?c3 ?k3 ?a4 ?l4 ?c4 ?k4 ?a5 ?l5 ?c5 ?k5 ?a6 ?l6 ?c6 ?k6 ?a7 ?l7 ?c7 ?k7 ?a8 ?l8 ?c8 ?k8 ?a9 ?l9 ?c9 ?k9 ?a10 ?l10 ?c10 ?k10 ?a11 ?l11 ?c11 ?k11 ?a12 ?l12 ?c12 ?k12 ?a13 ?l13 ?c13 ?k13 ?a14 ?l14 ?c14 ?k14 ?a15 ?l15 ?c15 ?k15 ?a16 ?l16 ?c16 ?k16 ?aX_MainsError ?aX_NoBalance ?aX_NoDeed ?aX_NoFraction ?aX_NoHouse ?aX_NoLine ?aX_NoLoss ?aX_NoMaking ?aX_NoNumber ?aX_NoPaper ?aX_NoPuts ?aX_NoRow ?aX_NoText ?kX_NoLine ?xX_NoLine ?bX_NoLine ?tX_NoLine ?g1_NoLine ?g2_NoLine ?g3_NoLine ?g4_NoLine ?g5_NoLine ?i_NoLine_NoBalance ?i_NoLine_NoDeed ?i_NoLine_NoFraction ?i_NoLine_NoHouse ?i_NoLine_NoLine ?i_NoLine_NoLoss ?i_NoLine_NoMaking ?i_NoLine_NoNumber ?i_NoLine_NoPaper ?i_NoLine_NoPuts ?i_NoLine_NoRow ?i_NoLine_NoText ?i_NoLine_ValueError ?j_NoLine_MainsError ?kX_NoLoss ?xX_NoLoss ?bX_NoLoss ?tX_NoLoss ?g1_NoLoss ?g2_NoLoss ?g3_NoLoss ?g4_NoLoss ?g5_NoLoss ?i_NoLoss_NoBalance ?i_NoLoss_NoDeed ?i_NoLoss_NoFraction ?i_NoLoss_NoHouse ?i_NoLoss_NoLine ?i_NoLoss_NoLoss ?i_NoLoss_NoMaking ?i_NoLoss_NoNumber ?i_NoLoss_NoPaper ?i_NoLoss_NoPuts ?i_NoLoss_NoRow ?i_NoLoss_NoText ?i_NoLoss_ValueError ?j_NoLoss_MainsError ?ss_NoLine ?ss_NoLoss ?u1_MainsError ?u2_MainsError ?u1_NoBalance ?u2_NoBalance ?u1_NoDeed ?u2_NoDeed ?u1_NoFraction ?u2_NoFraction ?u1_NoHouse ?u2_NoHouse ?u1_NoLine ?u2_NoLine ?u1_NoLoss ?u2_NoLoss ?u1_NoMaking ?u2_NoMaking ?u1_NoNumber ?u2_NoNumber ?u1_NoPaper ?u2_NoPaper ?u1_NoPuts ?u2_NoPuts ?u1_NoRow ?u2_NoRow ?u1_NoText ?u2_NoText ?bX_MainsError ?g3_MainsError ?s0 ?s1 ?z_ValueError ?z_abs ?z_bool ?z_int ?z_isinstance ?z_len ?z_list ?z_max ?z_min ?z_range ?z_tuple
    (case aX_MainsError => k_is); (case aX_NoBalance => k_is); (case aX_NoDeed => k_is); (case aX_NoFraction => k_is); (case aX_NoHouse => k_is); (case aX_NoLine => k_is); (case aX_NoLoss => k_is); (case aX_NoMaking => k_is); (case aX_NoNumber => k_is); (case aX_NoPaper => k_is); (case aX_NoPuts => k_is); (case aX_NoRow => k_is); (case aX_NoText => k_is); (case a0 => k_is); (case l0 => k_is); (case c0 => k_is); (case k0 => k_is); (case a1 => k_is); (case l1 => k_is); (case c1 => k_is); (case k1 => k_is); (case a2 => k_is); (case l2 => k_is); (case c2 => k_is); (case k2 => k_is); (case a3 => k_is); (case l3 => k_is); (case c3 => k_is); (case k3 => k_is); (case a4 => k_is); (case l4 => k_is); (case c4 => k_is); (case k4 => k_is); (case a5 => k_is); (case l5 => k_is); (case c5 => k_is); (case k5 => k_is); (case a6 => k_is); (case l6 => k_is); (case c6 => k_is); (case k6 => k_is); (case a7 => k_is); (case l7 => k_is); (case c7 => k_is); (case k7 => k_is); (case a8 => k_is); (case l8 => k_is); (case c8 => k_is); (case k8 => k_is); (case a9 => k_is); (case l9 => k_is); (case c9 => k_is); (case k9 => k_is); (case a10 => k_is); (case l10 => k_is); (case c10 => k_is); (case k10 => k_is); (case a11 => k_is); (case l11 => k_is); (case c11 => k_is); (case k11 => k_is); (case a12 => k_is); (case l12 => k_is); (case c12 => k_is); (case k12 => k_is); (case a13 => k_is); (case l13 => k_is); (case c13 => k_is); (case k13 => k_is); (case a14 => k_is); (case l14 => k_is); (case c14 => k_is); (case k14 => k_is); (case a15 => k_is); (case l15 => k_is); (case c15 => k_is); (case k15 => k_is); (case a16 => k_is); (case l16 => k_is); (case c16 => k_is); (case k16 => k_is); (case kX_NoLine => k_is); (case xX_NoLine => k_exc); (case bX_NoLine => k_is); (case tX_NoLine => k_is); (case g1_NoLine => k_is); (case g2_NoLine => k_is); (case g3_NoLine => k_is); (case g4_NoLine => k_is); (case g5_NoLine => k_is); (case i_NoLine_NoBalance => k_is); (case i_NoLine_NoDeed => k_is); (case i_NoLine_NoFraction => k_is); (case i_NoLine_NoHouse => k_is); (case i_NoLine_NoLine => k_is); (case i_NoLine_NoLoss => k_is); (case i_NoLine_NoMaking => k_is); (case i_NoLine_NoNumber => k_is); (case i_NoLine_NoPaper => k_is); (case i_NoLine_NoPuts => k_is); (case i_NoLine_NoRow => k_is); (case i_NoLine_NoText => k_is); (case i_NoLine_ValueError => k_is); (case j_NoLine_MainsError => k_is); (case kX_NoLoss => k_is); (case xX_NoLoss => k_exc); (case bX_NoLoss => k_is); (case tX_NoLoss => k_is); (case g1_NoLoss => k_is); (case g2_NoLoss => k_is); (case g3_NoLoss => k_is); (case g4_NoLoss => k_is); (case g5_NoLoss => k_is); (case i_NoLoss_NoBalance => k_is); (case i_NoLoss_NoDeed => k_is); (case i_NoLoss_NoFraction => k_is); (case i_NoLoss_NoHouse => k_is); (case i_NoLoss_NoLine => k_is); (case i_NoLoss_NoLoss => k_is); (case i_NoLoss_NoMaking => k_is); (case i_NoLoss_NoNumber => k_is); (case i_NoLoss_NoPaper => k_is); (case i_NoLoss_NoPuts => k_is); (case i_NoLoss_NoRow => k_is); (case i_NoLoss_NoText => k_is); (case i_NoLoss_ValueError => k_is); (case j_NoLoss_MainsError => k_is); (case ss_NoLine => k_is); (case ss_NoLoss => k_is); (case u1_MainsError => k_is); (case u2_MainsError => k_is); (case u1_NoBalance => k_is); (case u2_NoBalance => k_is); (case u1_NoDeed => k_is); (case u2_NoDeed => k_is); (case u1_NoFraction => k_is); (case u2_NoFraction => k_is); (case u1_NoHouse => k_is); (case u2_NoHouse => k_is); (case u1_NoLine => k_is); (case u2_NoLine => k_is); (case u1_NoLoss => k_is); (case u2_NoLoss => k_is); (case u1_NoMaking => k_is); (case u2_NoMaking => k_is); (case u1_NoNumber => k_is); (case u2_NoNumber => k_is); (case u1_NoPaper => k_is); (case u2_NoPaper => k_is); (case u1_NoPuts => k_is); (case u2_NoPuts => k_is); (case u1_NoRow => k_is); (case u2_NoRow => k_is); (case u1_NoText => k_is); (case u2_NoText => k_is); (case bX_MainsError => k_is); (case g3_MainsError => k_is); (case s0 => k_is); (case s1 => k_is); (case z_ValueError => k_is); (case z_abs => k_is); (case z_bool => k_is); (case z_int => k_is); (case z_isinstance => k_is); (case z_len => k_is); (case z_list => k_is); (case z_max => k_is); (case z_min => k_is); (case z_range => k_is); (case z_tuple => k_is)
