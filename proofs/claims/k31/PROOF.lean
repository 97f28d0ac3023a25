import PyProof.Rows.All
import Wide.All
import OpenK.AllK
import Wide.FinOn
import HandS.ForMost
import HandS.ForExc
import HandS.Wide
import HandS.IsInst
import HandS.Walk
import KE.KeyNested
import HandS.TupAny
import HandS.Zip
import HandS.Iter
import HandS.More
import HandS.Conv
import HandS.Style
import KE.GoesEnum
import KE.SortCalls
import KE.DataCmp
import HandS.CallLocal
import HandS.Deep
import HandS.TupMul
import HandS.ExcInit
import PySem.Challenge.RW_mainskeep_k31_what_weights_show
set_option Elab.async false
set_option linter.all false
set_option maxRecDepth 100000
set_option maxHeartbeats 4000000
/-! The layer of plain values: tuples and frozen lists by value, a small heap of what may still change. -/
namespace WL
open PySem PySem.Spec PyProof.Rows L2
inductive W where
  | non | bl (b : Bool) | int (i : Int) | str (x : Str)
  | tup (ws : List W) | lst (ws : List W) | scr (ws : List W) | ins (C : Str) (fs : List (Str × W)) | ref (a : Addr) | ty (n : String) | dic (kvs : List (NestedKey × W))
inductive GO where
  | lst (ws : List W) | ins (C : Str) (fs : List (Str × W)) | dic (kvs : List (NestedKey × W))
abbrev Gp := Addr → Option GO
abbrev Zp := Addr → Prop
def gup (G : Gp) (a : Addr) (o : GO) : Gp := fun b => if b = a then some o else G b
def gdel (G : Gp) (a : Addr) : Gp := fun b => if b = a then none else G b
theorem gup_same {G : Gp} {a : Addr} {o : GO} : gup G a o a = some o := by unfold gup; rw [if_pos rfl]
theorem gup_ne {G : Gp} {a b : Addr} {o : GO} (h : b ≠ a) : gup G a o b = G b := by unfold gup; rw [if_neg h]
theorem gup_gup {G : Gp} {a : Addr} {o u : GO} : gup (gup G a o) a u = gup G a u := by funext b; unfold gup; split <;> rfl
theorem gdel_same {G : Gp} {a : Addr} : gdel G a a = none := by unfold gdel; rw [if_pos rfl]
theorem gdel_ne {G : Gp} {a b : Addr} (h : b ≠ a) : gdel G a b = G b := by unfold gdel; rw [if_neg h]
theorem gdel_gup {G : Gp} {a : Addr} {o : GO} (h : G a = none) : gdel (gup G a o) a = G := by
  funext b; unfold gdel gup
  by_cases e : b = a
  · rw [if_pos e, e, h]
  · rw [if_neg e, if_neg e]
theorem gup_self {G : Gp} {a : Addr} {o : GO} (h : G a = some o) : gup G a o = G := by
  funext b; unfold gup
  by_cases e : b = a
  · rw [if_pos e, e, h]
  · rw [if_neg e]
/-- a list that is not ours: the script -/
def SqF (K : PySem.W.Frag) (H : Hp) (p : Addr) (vs : List V) : Prop := (∃ o, H p = some (.frz o (.lst vs))) ∨ SqL K (fun _ => none) p vs
theorem SqF.sq {K : PySem.W.Frag} {H : Hp} {p : Addr} {vs : List V} (h : SqF K H p vs) : SqL K H p vs := by
  rcases h with h | (h | ⟨o, h⟩) | h
  · exact .inl (.inr h)
  · cases h
  · cases h
  · exact .inr h
/-- a plain key as one of any depth -/
def nk : Key → NestedKey
  | .inl n => .num n
  | .inr s => .text s
theorem nk_inj {a b : Key} (h : nk a = nk b) : a = b := by
  cases a <;> cases b <;> simp only [nk, NestedKey.num.injEq, NestedKey.text.injEq, reduceCtorEq] at h <;> rw [h]
/-- the class of a name of the module -/
def ClsA (K : PySem.W.Frag) (nm : Str) (C : Addr) : Prop := PySem.W.nsIn K mainGlobals nm = some (some (.ref C))
theorem ClsA.one {K : PySem.W.Frag} {nm : Str} {C D : Addr} (h : ClsA K nm C) (h' : ClsA K nm D) : C = D := by
  unfold ClsA at h h'
  rw [h] at h'
  simpa using h'
mutual
inductive Rw (K : PySem.W.Frag) (Z : Zp) (H : Hp) : W → V → Prop
  | non : Rw K Z H .non .non
  | bl {b} : Rw K Z H (.bl b) (.bl b)
  | int {i} : Rw K Z H (.int i) (.int i)
  | str {x} : Rw K Z H (.str x) (.str x)
  | ref {a} : Rw K Z H (.ref a) (.ref a)
  | tup {p ws vs} : SqT K H p vs → RwL K Z H ws vs → Rw K Z H (.tup ws) (.ref p)
  | lst {p ws vs} : Z p → H p = some (.lst vs) → RwL K Z H ws vs → Rw K Z H (.lst ws) (.ref p)
  | scr {p ws vs} : SqF K H p vs → RwL K Z H ws vs → Rw K Z H (.scr ws) (.ref p)
  | ty {n} : Rw K Z H (.ty n) (.ty n)
  | ins {p nm C dx fs gs} : ClsA K nm C → Z p → H p = some (.ins C dx gs) → RwF K Z H fs gs → Rw K Z H (.ins nm fs) (.ref p)
  | dic {p kvs us} : Z p → H p = some (.dK us) → RwD K Z H kvs us → Rw K Z H (.dic kvs) (.ref p)
inductive RwL (K : PySem.W.Frag) (Z : Zp) (H : Hp) : List W → List V → Prop
  | nil : RwL K Z H [] []
  | cons {w v ws vs} : Rw K Z H w v → RwL K Z H ws vs → RwL K Z H (w :: ws) (v :: vs)
inductive RwF (K : PySem.W.Frag) (Z : Zp) (H : Hp) : List (Str × W) → List (Str × V) → Prop
  | nil : RwF K Z H [] []
  | cons {f w v ws vs} : Rw K Z H w v → RwF K Z H ws vs → RwF K Z H ((f, w) :: ws) ((f, v) :: vs)
inductive RwD (K : PySem.W.Frag) (Z : Zp) (H : Hp) : List (NestedKey × W) → List (Key × V) → Prop
  | nil : RwD K Z H [] []
  | cons {k w v ws vs} : Rw K Z H w v → RwD K Z H ws vs → RwD K Z H ((nk k, w) :: ws) ((k, v) :: vs)
end
inductive Rgo (K : PySem.W.Frag) (Z : Zp) (H : Hp) : GO → HO → Prop
  | lst {ws vs} : RwL K Z H ws vs → Rgo K Z H (.lst ws) (.lst vs)
  | ins {nm C dx fs gs} : ClsA K nm C → RwF K Z H fs gs → Rgo K Z H (.ins nm fs) (.ins C dx gs)
  | dic {kvs us} : RwD K Z H kvs us → Rgo K Z H (.dic kvs) (.dK us)
structure HRel (K : PySem.W.Frag) (Z : Zp) (G : Gp) (H : Hp) : Prop where
  z : ∀ p, Z p → G p = none ∧ H p ≠ none
  g : ∀ p o, G p = some o → ∃ u, H p = some u ∧ Rgo K Z H o u
structure Ext (Z : Zp) (G : Gp) (H : Hp) (Z' : Zp) (G' : Gp) (H' : Hp) : Prop where
  z : ∀ p, Z p → Z' p
  f : ∀ p u, H p = some u → G p = none → H' p = some u ∧ G' p = none
  n : ∀ p, H p ≠ none → G p = none → Z' p → Z p
theorem Ext.refl {Z : Zp} {G : Gp} {H : Hp} : Ext Z G H Z G H := ⟨fun _ h => h, fun _ _ h g => ⟨h, g⟩, fun _ _ _ z => z⟩
theorem Ext.trans {Z1 Z2 Z3 : Zp} {G1 G2 G3 : Gp} {H1 H2 H3 : Hp} (a : Ext Z1 G1 H1 Z2 G2 H2) (b : Ext Z2 G2 H2 Z3 G3 H3) : Ext Z1 G1 H1 Z3 G3 H3 :=
  ⟨fun p h => b.z p (a.z p h), fun p u h g => let ⟨x, y⟩ := a.f p u h g; b.f p u x y, fun p h g z => by
    obtain ⟨u, e⟩ := Option.ne_none_iff_exists'.mp h
    obtain ⟨x, y⟩ := a.f p u e g
    exact a.n p h g (b.n p (by rw [x]; simp) y z)⟩
/-- what values lean on is kept -/
structure Keep (Z : Zp) (H : Hp) (Z' : Zp) (H' : Hp) : Prop where
  z : ∀ p, Z p → Z' p
  k : ∀ p u, H p = some u → Z p → H' p = some u
  t : ∀ p vs, H p = some (.tup vs) → H' p = some (.tup vs)
  o : ∀ p ob u, H p = some (.frz ob u) → H' p = some (.frz ob u)
section
variable {K : PySem.W.Frag} {Z Z' : Zp} {G G' : Gp} {H H' : Hp}
theorem HRel.nog (h : HRel K Z G H) {p : Addr} {u : HO} (e : H p = some u) (n : ∀ o, ¬ Rgo K Z H o u) : G p = none := by
  cases q : G p with
  | none => rfl
  | some o =>
    obtain ⟨u', e', r⟩ := h.g p o q
    rw [e] at e'; cases e'
    exact absurd r (n o)
theorem HRel.fresh (h : HRel K Z G H) {p : Addr} (e : H p = none) : G p = none := by
  cases q : G p with
  | none => rfl
  | some o =>
    obtain ⟨u', e', r⟩ := h.g p o q
    rw [e] at e'; cases e'
theorem HRel.freshZ (h : HRel K Z G H) {p : Addr} (e : H p = none) : ¬ Z p := fun z => (h.z p z).2 e
theorem Ext.keep (h : HRel K Z G H) (x : Ext Z G H Z' G' H') : Keep Z H Z' H' :=
  ⟨x.z, fun p u e z => (x.f p u e (h.z p z).1).1, fun p vs e => (x.f p _ e (h.nog e fun o r => by cases r)).1, fun p ob u e => (x.f p _ e (h.nog e fun o r => by cases r)).1⟩
/-- a list that is hidden changes -/
theorem Keep.hid {D : Addr} {xs : List V} {o : HO} (e : H D = some (.lst xs)) (z : ¬ Z D) : Keep Z H Z (upd H D o) :=
  ⟨fun _ z => z, fun p u e' zp => by rw [upd_ne (fun c => z (by rw [← c]; exact zp))]; exact e', fun p vs e' => by rw [upd_ne (fun c => by rw [c, e] at e'; cases e')]; exact e', fun p ob u e' => by rw [upd_ne (fun c => by rw [c, e] at e'; cases e')]; exact e'⟩
theorem SqT.keep {p : Addr} {vs : List V} (x : Keep Z H Z' H') (s : SqT K H p vs) : SqT K H' p vs := by
  rcases s with (s | ⟨o, s⟩) | s
  · exact .inl (.inl (x.t p _ s))
  · exact .inl (.inr ⟨o, x.o p _ _ s⟩)
  · exact .inr s
theorem SqF.keep {p : Addr} {vs : List V} (x : Keep Z H Z' H') (s : SqF K H p vs) : SqF K H' p vs := by
  rcases s with ⟨o, s⟩ | s
  · exact .inl ⟨o, x.o p _ _ s⟩
  · exact .inr s
mutual
theorem Rw.keep (x : Keep Z H Z' H') : ∀ {w : W} {v : V}, Rw K Z H w v → Rw K Z' H' w v
  | _, _, .non => .non
  | _, _, .bl => .bl
  | _, _, .int => .int
  | _, _, .str => .str
  | _, _, .ref => .ref
  | _, _, .tup s r => .tup (SqT.keep x s) (RwL.keep x r)
  | _, _, .lst z e r => .lst (x.z _ z) (x.k _ _ e z) (RwL.keep x r)
  | _, _, .scr s r => .scr (SqF.keep x s) (RwL.keep x r)
  | _, _, .ty => .ty
  | _, _, .ins c z e r => .ins c (x.z _ z) (x.k _ _ e z) (RwF.keep x r)
  | _, _, .dic z e r => .dic (x.z _ z) (x.k _ _ e z) (RwD.keep x r)
theorem RwL.keep (x : Keep Z H Z' H') : ∀ {ws : List W} {vs : List V}, RwL K Z H ws vs → RwL K Z' H' ws vs
  | _, _, .nil => .nil
  | _, _, .cons r t => .cons (Rw.keep x r) (RwL.keep x t)
theorem RwF.keep (x : Keep Z H Z' H') : ∀ {ws : List (Str × W)} {vs : List (Str × V)}, RwF K Z H ws vs → RwF K Z' H' ws vs
  | _, _, .nil => .nil
  | _, _, .cons r t => .cons (Rw.keep x r) (RwF.keep x t)
theorem RwD.keep (x : Keep Z H Z' H') : ∀ {ws : List (NestedKey × W)} {vs : List (Key × V)}, RwD K Z H ws vs → RwD K Z' H' ws vs
  | _, _, .nil => .nil
  | _, _, .cons r t => .cons (Rw.keep x r) (RwD.keep x t)
end
theorem SqT.ext {p : Addr} {vs : List V} (h : HRel K Z G H) (x : Ext Z G H Z' G' H') (s : SqT K H p vs) : SqT K H' p vs := SqT.keep (x.keep h) s
theorem SqF.ext {p : Addr} {vs : List V} (h : HRel K Z G H) (x : Ext Z G H Z' G' H') (s : SqF K H p vs) : SqF K H' p vs := SqF.keep (x.keep h) s
theorem Rw.ext (h : HRel K Z G H) (x : Ext Z G H Z' G' H') {w : W} {v : V} (r : Rw K Z H w v) : Rw K Z' H' w v := r.keep (x.keep h)
theorem RwL.ext (h : HRel K Z G H) (x : Ext Z G H Z' G' H') {w : List W} {v : List V} (r : RwL K Z H w v) : RwL K Z' H' w v := r.keep (x.keep h)
theorem RwF.ext (h : HRel K Z G H) (x : Ext Z G H Z' G' H') {w : List (Str × W)} {v : List (Str × V)} (r : RwF K Z H w v) : RwF K Z' H' w v := r.keep (x.keep h)
theorem Rgo.keep (x : Keep Z H Z' H') {o : GO} {u : HO} (r : Rgo K Z H o u) : Rgo K Z' H' o u := by
  cases r with
  | lst r => exact .lst (r.keep x)
  | ins c r => exact .ins c (r.keep x)
  | dic r => exact .dic (r.keep x)
theorem Rgo.ext (h : HRel K Z G H) (x : Ext Z G H Z' G' H') {o : GO} {u : HO} (r : Rgo K Z H o u) : Rgo K Z' H' o u := by
  cases r with
  | lst r => exact .lst (r.ext h x)
  | ins c r => exact .ins c (r.ext h x)
  | dic r => exact .dic (r.keep (x.keep h))
theorem RwL.length : ∀ {ws : List W} {vs : List V}, RwL K Z H ws vs → ws.length = vs.length
  | _, _, .nil => rfl
  | _, _, .cons _ t => by rw [List.length_cons, List.length_cons, RwL.length t]
theorem RwL.get : ∀ {ws : List W} {vs : List V} (i : Nat) {w : W}, RwL K Z H ws vs → ws[i]? = some w → ∃ v, vs[i]? = some v ∧ Rw K Z H w v
  | _, _, _, _, .nil, e => by simp at e
  | _, _, 0, _, .cons r _, e => by simp at e; subst e; exact ⟨_, rfl, r⟩
  | _, _, i + 1, w, .cons _ t, e => by
    obtain ⟨v, h1, h2⟩ := RwL.get i (w := w) t (by simpa using e)
    exact ⟨v, by simpa using h1, h2⟩
theorem RwL.get' : ∀ {ws : List W} {vs : List V} (i : Nat) {v : V}, RwL K Z H ws vs → vs[i]? = some v → ∃ w, ws[i]? = some w ∧ Rw K Z H w v
  | _, _, _, _, .nil, e => by simp at e
  | _, _, 0, _, .cons r _, e => by simp at e; subst e; exact ⟨_, rfl, r⟩
  | _, _, i + 1, w, .cons _ t, e => by
    obtain ⟨v, h1, h2⟩ := RwL.get' i t (by simpa using e)
    exact ⟨v, by simpa using h1, h2⟩
theorem RwL.append : ∀ {ws ws' : List W} {vs vs' : List V}, RwL K Z H ws vs → RwL K Z H ws' vs' → RwL K Z H (ws ++ ws') (vs ++ vs')
  | _, _, _, _, .nil, s => s
  | _, _, _, _, .cons r t, s => .cons r (RwL.append t s)
theorem RwL.set {w : W} {v : V} (r : Rw K Z H w v) : ∀ {ws : List W} {vs : List V} (i : Nat), RwL K Z H ws vs → RwL K Z H (ws.set i w) (vs.set i v)
  | _, _, _, .nil => .nil
  | _, _, 0, .cons _ t => .cons r t
  | _, _, i + 1, .cons q t => .cons q (RwL.set r i t)
theorem RwL.take : ∀ {ws : List W} {vs : List V} (n : Nat), RwL K Z H ws vs → RwL K Z H (ws.take n) (vs.take n)
  | _, _, 0, _ => .nil
  | _, _, _ + 1, .nil => .nil
  | _, _, n + 1, .cons r t => .cons r (RwL.take n t)
theorem RwL.drop : ∀ {ws : List W} {vs : List V} (n : Nat), RwL K Z H ws vs → RwL K Z H (ws.drop n) (vs.drop n)
  | _, _, 0, r => r
  | _, _, _ + 1, .nil => .nil
  | _, _, n + 1, .cons _ t => RwL.drop n t
theorem RwL.dropLast : ∀ {ws : List W} {vs : List V}, RwL K Z H ws vs → RwL K Z H ws.dropLast vs.dropLast
  | _, _, .nil => .nil
  | _, _, .cons _ .nil => .nil
  | _, _, .cons r (.cons r2 t) => .cons r (RwL.dropLast (.cons r2 t))
theorem RwL.reverse : ∀ {ws : List W} {vs : List V}, RwL K Z H ws vs → RwL K Z H ws.reverse vs.reverse
  | _, _, .nil => .nil
  | _, _, .cons r t => by rw [List.reverse_cons, List.reverse_cons]; exact (RwL.reverse t).append (.cons r .nil)
theorem RwL.ints : ∀ (ns : List Int), RwL K Z H (ns.map W.int) (ns.map V.int)
  | [] => .nil
  | _ :: ns => .cons .int (RwL.ints ns)
theorem RwF.get : ∀ {ws : List (Str × W)} {vs : List (Str × V)} {f : Str} {w : W}, RwF K Z H ws vs → ws.lookup f = some w → ∃ v, vs.lookup f = some v ∧ Rw K Z H w v
  | _, _, _, _, .nil, e => by simp [List.lookup] at e
  | _, _, f, w, .cons (f := g) r t, e => by
    rw [List.lookup_cons] at e ⊢
    cases q : f == g with
    | true => rw [q] at e; simp only [Option.some.injEq] at e; subst e; exact ⟨_, rfl, r⟩
    | false => rw [q] at e; exact RwF.get t e
theorem RwF.none : ∀ {ws : List (Str × W)} {vs : List (Str × V)} {f : Str}, RwF K Z H ws vs → ws.lookup f = none → vs.lookup f = none
  | _, _, _, .nil, _ => rfl
  | _, _, f, .cons (f := g) r t, e => by
    rw [List.lookup_cons] at e ⊢
    cases q : f == g with
    | true => rw [q] at e; cases e
    | false => rw [q] at e; exact RwF.none t e
theorem RwF.length : ∀ {ws : List (Str × W)} {vs : List (Str × V)}, RwF K Z H ws vs → ws.length = vs.length
  | _, _, .nil => rfl
  | _, _, .cons _ t => by rw [List.length_cons, List.length_cons, RwF.length t]
end
/-! ### the names' values: none: not known -/
abbrev SW := List (Option W)
abbrev SV := L2.St
inductive RwS (K : PySem.W.Frag) (Z : Zp) (H : Hp) : SW → SV → Prop
  | nil : RwS K Z H [] []
  | skip {v ws vs} : RwS K Z H ws vs → RwS K Z H (Option.none :: ws) (v :: vs)
  | cons {w v ws vs} : Rw K Z H w v → RwS K Z H ws vs → RwS K Z H (some w :: ws) (some v :: vs)
def slot : SW → Nat → Option W
  | [], _ => none
  | a :: _, 0 => a
  | _ :: l, i + 1 => slot l i
def sset : SW → Nat → W → SW
  | [], _, _ => []
  | _ :: l, 0, w => some w :: l
  | a :: l, i + 1, w => a :: sset l i w
/-- the names of a list of places are forgotten -/
def skill : SW → List Bool → SW
  | a :: l, true :: ks => none :: skill l ks
  | a :: l, false :: ks => a :: skill l ks
  | l, _ => l
section
variable {K : PySem.W.Frag} {Z Z' : Zp} {G G' : Gp} {H H' : Hp}
theorem RwS.ext (h : HRel K Z G H) (x : Ext Z G H Z' G' H') : ∀ {ws : SW} {vs : SV}, RwS K Z H ws vs → RwS K Z' H' ws vs
  | _, _, .nil => .nil
  | _, _, .skip t => .skip (RwS.ext h x t)
  | _, _, .cons r t => .cons (r.ext h x) (RwS.ext h x t)
theorem RwS.get : ∀ {ws : SW} {vs : SV} (i : Nat) {w : W}, RwS K Z H ws vs → slot ws i = some w → ∃ v, vs[i]? = some (some v) ∧ Rw K Z H w v
  | _, _, _, _, .nil, e => by simp [slot] at e
  | _, _, 0, _, .skip _, e => by simp [slot] at e
  | _, _, 0, _, .cons r _, e => by simp [slot] at e; subst e; exact ⟨_, rfl, r⟩
  | _, _, i + 1, w, .skip t, e => by
    obtain ⟨v, h1, h2⟩ := RwS.get i (w := w) t (by simpa [slot] using e)
    exact ⟨v, by simpa using h1, h2⟩
  | _, _, i + 1, w, .cons _ t, e => by
    obtain ⟨v, h1, h2⟩ := RwS.get i (w := w) t (by simpa [slot] using e)
    exact ⟨v, by simpa using h1, h2⟩
theorem RwS.set {w : W} {v : V} (r : Rw K Z H w v) : ∀ {ws : SW} {vs : SV} (i : Nat), RwS K Z H ws vs → RwS K Z H (sset ws i w) (vs.set i (some v))
  | _, _, _, .nil => .nil
  | _, _, 0, .skip t => .cons r t
  | _, _, 0, .cons _ t => .cons r t
  | _, _, i + 1, .skip t => .skip (RwS.set r i t)
  | _, _, i + 1, .cons q t => .cons q (RwS.set r i t)
theorem RwS.kill : ∀ {ws : SW} {vs : SV} (ks : List Bool), RwS K Z H ws vs → RwS K Z H (skill ws ks) vs
  | _, _, [], .nil => .nil
  | _, _, [], .skip t => .skip t
  | _, _, [], .cons r t => .cons r t
  | _, _, true :: _, .nil => .nil
  | _, _, false :: _, .nil => .nil
  | _, _, true :: ks, .skip t => .skip (RwS.kill ks t)
  | _, _, true :: ks, .cons _ t => .skip (RwS.kill ks t)
  | _, _, false :: ks, .skip t => .skip (RwS.kill ks t)
  | _, _, false :: ks, .cons r t => .cons r (RwS.kill ks t)
end
def startW (N : List Str) (ws : List W) : SW := ws.map some ++ List.replicate (N.length - ws.length) none
section
variable {K : PySem.W.Frag} {Z : Zp} {H : Hp}
theorem RwS.repl : ∀ (n : Nat), RwS K Z H (List.replicate n none) (List.replicate n none)
  | 0 => .nil
  | n + 1 => by rw [List.replicate_succ, List.replicate_succ]; exact .skip (RwS.repl n)
theorem RwS.app : ∀ {ws : List W} {vs : List V} {s : SW} {t : SV}, RwL K Z H ws vs → RwS K Z H s t → RwS K Z H (ws.map some ++ s) (vs.map some ++ t)
  | _, _, _, _, .nil, r => r
  | _, _, _, _, .cons a b, r => .cons a (RwS.app b r)
theorem RwS.start {N : List Str} {ws : List W} {vs : List V} (r : RwL K Z H ws vs) : RwS K Z H (startW N ws) (L2.start N vs) := by
  unfold startW L2.start
  rw [r.length]
  exact RwS.app r (RwS.repl _)
end
end WL

namespace WL
open PySem PySem.Spec PyProof.Rows L2
abbrev QW := W → Gp → Prop
abbrev TEw := SW → Gp → QW → Prop
abbrev TTw := SW → Gp → (Bool → Gp → Prop) → Prop
abbrev TAw := SW → Gp → (List W → Gp → Prop) → Prop
abbrev TGw := W → SW → Gp → (SW → Gp → Prop) → Prop
abbrev TGsw := List W → SW → Gp → (SW → Gp → Prop) → Prop
structure EndsW where
  nx : SW → Gp → Prop
  rt : QW
  bk : SW → Gp → Prop := fun _ _ => False
  ct : SW → Gp → Prop := fun _ _ => False
  ex : Str → List (Str × W) → SW → Gp → Prop := fun _ _ _ _ => False
abbrev TSw := EndsW → SW → Gp → Prop
/-- what the small heap wants behind a step is what the great one wants -/
def KE (K : PySem.W.Frag) (Z : Zp) (G : Gp) (H : Hp) (Qw : QW) (Q : VK) : Prop := ∀ Z' G' H' w v, Ext Z G H Z' G' H' → HRel K Z' G' H' → Rw K Z' H' w v → Qw w G' → Q v H'
def KS (K : PySem.W.Frag) (Z : Zp) (G : Gp) (H : Hp) (Qw : SW → Gp → Prop) (Q : SV → Hp → Prop) : Prop := ∀ Z' G' H' σ' σ, Ext Z G H Z' G' H' → HRel K Z' G' H' → RwS K Z' H' σ' σ → Qw σ' G' → Q σ H'
/-- the weakest wish of an exception that X takes -/
def wishOf (X : Cx) : WX := fun cls d σ H => ∀ (a : Addr) (B : Heap) (sI : Shared) (pins : List (Addr × Obj)) (s' : Shared), Inv X pins σ H sI → (∀ b o, sI.heap.get? b = some o → b ∉ frs X.stack → B.get? b = some o) → sI.heap.UpToSlots s'.heap →
  Sky B X.stack a (Zc cls d) X.env.locals s'.heap → H a = none → s'.os = sI.os → AllBare s'.gens → X.xe (.ref a) s'
theorem takes_wish {X : Cx} : Takes X (wishOf X) := fun _ s' ⟨a, B, sI, pins, σ, H, cls, d, e, I, nb, up, sky, na, os, ag, w⟩ => by
  subst e
  exact w a B sI pins s' I nb up sky na os ag
theorem wish_of {X : Cx} {V : WX} (t : Takes X V) {cls : Value} {d : Option Addr} {σ : SV} {H : Hp} (h : V cls d σ H) : wishOf X cls d σ H := fun a B sI pins s' I nb up sky na os ag =>
  t _ s' ⟨a, B, sI, pins, σ, H, cls, d, rfl, I, nb, up, sky, na, os, ag, h⟩
/-- an exception's own attributes -/
def ExF (K : PySem.W.Frag) (Z : Zp) (H : Hp) (fs : List (Str × W)) (d : Option Addr) : Prop := fs = [] ∧ d = none ∨ ∃ a gs, d = some a ∧ H a = some (.xd gs) ∧ RwF K Z H fs gs
def KX (X : Cx) (Z : Zp) (G : Gp) (H : Hp) (Ew : Str → List (Str × W) → SW → Gp → Prop) : Prop := ∀ Z' G' H' σ' σ nm C fs d, Ext Z G H Z' G' H' → HRel X.K Z' G' H' → RwS X.K Z' H' σ' σ → ClsA X.K nm C → ExF X.K Z' H' fs d → Ew nm fs σ' G' → wishOf X (.ref C) d σ H'
structure EndsR (X : Cx) (Z : Zp) (G : Gp) (H : Hp) (Dw : EndsW) (D : Ends) : Prop where
  nx : KS X.K Z G H Dw.nx D.nx
  rt : KE X.K Z G H Dw.rt D.rt
  bk : KS X.K Z G H Dw.bk D.bk
  ct : KS X.K Z G H Dw.ct D.ct
  ex : KX X Z G H Dw.ex
def liftE (K : PySem.W.Frag) (t : TEw) : TE := fun σ H Q => ∃ Z σ' G Qw, RwS K Z H σ' σ ∧ HRel K Z G H ∧ t σ' G Qw ∧ KE K Z G H Qw Q
def liftT (K : PySem.W.Frag) (t : TTw) : TT := fun σ H Q => ∃ Z σ' G Qw, RwS K Z H σ' σ ∧ HRel K Z G H ∧ t σ' G Qw ∧ ∀ Z' G' H' b, Ext Z G H Z' G' H' → HRel K Z' G' H' → Qw b G' → Q b H'
def liftA (K : PySem.W.Frag) (t : TAw) : TA := fun σ H Q => ∃ Z σ' G Qw, RwS K Z H σ' σ ∧ HRel K Z G H ∧ t σ' G Qw ∧ ∀ Z' G' H' ws vs, Ext Z G H Z' G' H' → HRel K Z' G' H' → RwL K Z' H' ws vs → Qw ws G' → Q vs H'
def liftG (K : PySem.W.Frag) (t : TGw) : TG := fun v σ H Q => ∃ Z σ' G w Qw, RwS K Z H σ' σ ∧ HRel K Z G H ∧ Rw K Z H w v ∧ t w σ' G Qw ∧ KS K Z G H Qw Q
def liftGs (K : PySem.W.Frag) (t : TGsw) : TGs := fun vs σ H Q => ∃ Z σ' G ws Qw, RwS K Z H σ' σ ∧ HRel K Z G H ∧ RwL K Z H ws vs ∧ t ws σ' G Qw ∧ KS K Z G H Qw Q
def liftS (X : Cx) (t : TSw) : TS := fun D σ H => ∃ Z σ' G Dw, RwS X.K Z H σ' σ ∧ HRel X.K Z G H ∧ t Dw σ' G ∧ EndsR X Z G H Dw D
def PEw (X : Cx) (e : Expr) (t : TEw) : Prop := PE X e (liftE X.K t)
def PTw (X : Cx) (e : Expr) (t : TTw) : Prop := PT X e (liftT X.K t)
def PWw (X : Cx) (e : Expr) (t : TTw) : Prop := PW X e (liftT X.K t)
def PAw (X : Cx) (es : List Expr) (t : TAw) : Prop := PA X es (liftA X.K t)
def PGw (X : Cx) (e : Expr) (t : TGw) : Prop := PG X e (liftG X.K t)
def PGsw (X : Cx) (es : List Expr) (t : TGsw) : Prop := PGs X es (liftGs X.K t)
def PSw (X : Cx) (st : Stmt) (t : TSw) : Prop := PS X st (liftS X t)
def PSsw (X : Cx) (st : List Stmt) (t : TSw) : Prop := PSs X st (liftS X t)
section
variable {X : Cx}
theorem PE.imp {e : Expr} {t t' : TE} (h : PE X e t) (i : ∀ σ H Q, t' σ H Q → t σ H Q) : PE X e t' := ⟨fun pins s σ H Q I q => h.run pins s σ H Q I (i _ _ _ q)⟩
theorem PT.imp {e : Expr} {t t' : TT} (h : PT X e t) (i : ∀ σ H Q, t' σ H Q → t σ H Q) : PT X e t' := ⟨fun pins s σ H Q I q => h.run pins s σ H Q I (i _ _ _ q)⟩
theorem PW.imp {e : Expr} {t t' : TT} (h : PW X e t) (i : ∀ σ H Q, t' σ H Q → t σ H Q) : PW X e t' := ⟨fun whole pins s σ H Q I q => h.run whole pins s σ H Q I (i _ _ _ q)⟩
theorem PA.imp {es : List Expr} {t t' : TA} (h : PA X es t) (i : ∀ σ H Q, t' σ H Q → t σ H Q) : PA X es t' := ⟨fun pos pins s σ H Q I q => h.run pos pins s σ H Q I (i _ _ _ q)⟩
theorem PS.imp {st : Stmt} {t t' : TS} (h : PS X st t) (i : ∀ D σ H, t' D σ H → t D σ H) : PS X st t' := ⟨fun pins s σ H D I q => h.run pins s σ H D I (i _ _ _ q)⟩
theorem PSs.imp {st : List Stmt} {t t' : TS} (h : PSs X st t) (i : ∀ D σ H, t' D σ H → t D σ H) : PSs X st t' := ⟨fun pins s σ H D I q => h.run pins s σ H D I (i _ _ _ q)⟩
theorem PG.imp {e : Expr} {t t' : TG} (h : PG X e t) (i : ∀ v σ H Q, t' v σ H Q → t v σ H Q) : PG X e t' := ⟨fun pins s σ H v u Q I r q => h.run pins s σ H v u Q I r (i _ _ _ _ q)⟩
theorem PGs.imp {e : List Expr} {t t' : TGs} (h : PGs X e t) (i : ∀ v σ H Q, t' v σ H Q → t v σ H Q) : PGs X e t' := ⟨fun pins s σ H v u Q I r q => h.run pins s σ H v u Q I r (i _ _ _ _ q)⟩
end
section
variable {K : PySem.W.Frag} {Z Z' : Zp} {G G' : Gp} {H H' : Hp}
theorem KE.mono {Qw : QW} {Q : VK} (k : KE K Z G H Qw Q) (x : Ext Z G H Z' G' H') : KE K Z' G' H' Qw Q := fun Z2 G2 H2 w v x2 => k Z2 G2 H2 w v (x.trans x2)
theorem KS.mono {Qw : SW → Gp → Prop} {Q : SV → Hp → Prop} (k : KS K Z G H Qw Q) (x : Ext Z G H Z' G' H') : KS K Z' G' H' Qw Q := fun Z2 G2 H2 w v x2 => k Z2 G2 H2 w v (x.trans x2)
theorem KX.mono {X : Cx} {Ew : Str → List (Str × W) → SW → Gp → Prop} (k : KX X Z G H Ew) (x : Ext Z G H Z' G' H') : KX X Z' G' H' Ew := fun Z2 G2 H2 a b c d e f x2 => k Z2 G2 H2 a b c d e f (x.trans x2)
theorem EndsR.mono {X : Cx} {Dw : EndsW} {D : Ends} (k : EndsR X Z G H Dw D) (x : Ext Z G H Z' G' H') : EndsR X Z' G' H' Dw D := ⟨k.nx.mono x, k.rt.mono x, k.bk.mono x, k.ct.mono x, k.ex.mono x⟩
theorem KE.at {Qw : QW} {Q : VK} (k : KE K Z G H Qw Q) (h : HRel K Z G H) {w : W} {v : V} (r : Rw K Z H w v) (q : Qw w G) : Q v H := k Z G H w v Ext.refl h r q
/-- something new is laid: untracked by the small heap -/
theorem Ext.laid (h : HRel K Z G H) {p : Addr} {o : HO} (n : H p = none) : Ext Z G H Z G (upd H p o) :=
  ⟨fun _ z => z, fun q u e g => ⟨by rw [upd_ne (ne_of_none e n)]; exact e, g⟩, fun _ _ _ z => z⟩
theorem HRel.laid (h : HRel K Z G H) {p : Addr} {o : HO} (n : H p = none) : HRel K Z G (upd H p o) := by
  have x : Ext Z G H Z G (upd H p o) := Ext.laid h n
  refine ⟨fun q z => ⟨(h.z q z).1, ?_⟩, fun q g e => ?_⟩
  · by_cases e : q = p
    · rw [e, upd_same]; simp
    · rw [upd_ne e]; exact (h.z q z).2
  · obtain ⟨u, e', r⟩ := h.g q g e
    exact ⟨u, by rw [upd_ne (ne_of_none e' n)]; exact e', r.ext h x⟩
/-- what is laid and tracked -/
theorem HRel.track (h : HRel K Z G H) {p : Addr} {o : GO} {u : HO} (e : H p = some u) (nz : ¬ Z p) (r : Rgo K Z H o u) : HRel K Z (gup G p o) H := by
  refine ⟨fun q z => ⟨?_, (h.z q z).2⟩, fun q g e' => ?_⟩
  · rw [gup_ne (show q ≠ p from fun c => nz (by rw [← c]; exact z))]; exact (h.z q z).1
  · by_cases c : q = p
    · rw [c, gup_same] at e'; cases e'; exact ⟨u, c ▸ e, r⟩
    · rw [gup_ne c] at e'; exact h.g q g e'
/-- frozen: read as a value from now on -/
theorem HRel.frz (h : HRel K Z G H) {p : Addr} (e : H p ≠ none) : HRel K (fun q => Z q ∨ q = p) (gdel G p) H ∧ Keep Z H (fun q => Z q ∨ q = p) H := by
  have x : Keep Z H (fun q => Z q ∨ q = p) H := ⟨fun q z => .inl z, fun _ _ e _ => e, fun _ _ e => e, fun _ _ _ e => e⟩
  refine ⟨⟨fun q z => ?_, fun q g e' => ?_⟩, x⟩
  · rcases z with z | z
    · refine ⟨?_, (h.z q z).2⟩
      unfold gdel; split
      · rfl
      · exact (h.z q z).1
    · subst z; exact ⟨gdel_same, e⟩
  · have e2 : G q = some g := by
      by_cases c : q = p
      · rw [c, gdel_same] at e'; cases e'
      · rw [gdel_ne c] at e'; exact e'
    obtain ⟨u, e3, r⟩ := h.g q g e2
    exact ⟨u, e3, Rgo.keep x r⟩
theorem HRel.freeze (h : HRel K Z G H) {p : Addr} (g : G p ≠ none) : HRel K (fun q => Z q ∨ q = p) (gdel G p) H ∧ Ext Z G H (fun q => Z q ∨ q = p) (gdel G p) H := by
  have e : H p ≠ none := by
    obtain ⟨o, go⟩ := Option.ne_none_iff_exists'.mp g
    obtain ⟨u, e, _⟩ := h.g p o go
    rw [e]; simp
  refine ⟨(h.frz e).1, fun q z => .inl z, fun q u e g => ⟨e, ?_⟩, fun q _ gq z => ?_⟩
  · unfold gdel; split
    · rfl
    · exact g
  · rcases z with z | z
    · exact z
    · rw [z] at gq; exact absurd gq g
theorem new_tup (h : HRel K Z G H) {p : Addr} {ws : List W} {vs : List V} (n : H p = none) (r : RwL K Z H ws vs) :
    HRel K Z G (upd H p (.tup vs)) ∧ Ext Z G H Z G (upd H p (.tup vs)) ∧ Rw K Z (upd H p (.tup vs)) (.tup ws) (.ref p) :=
  ⟨h.laid n, Ext.laid h n, .tup (.inl (.inl upd_same)) (r.ext h (Ext.laid h n))⟩
theorem new_lst (h : HRel K Z G H) {p : Addr} {ws : List W} {vs : List V} (n : H p = none) (r : RwL K Z H ws vs) :
    G p = none ∧ HRel K Z (gup G p (.lst ws)) (upd H p (.lst vs)) ∧ Ext Z G H Z (gup G p (.lst ws)) (upd H p (.lst vs)) := by
  have x : Ext Z G H Z G (upd H p (.lst vs)) := Ext.laid h n
  refine ⟨h.fresh n, (h.laid n).track upd_same (h.freshZ n) (.lst (r.ext h x)), ⟨fun _ z => z, fun q u e g => ?_, fun _ _ _ z => z⟩⟩
  have c : q ≠ p := ne_of_none e n
  exact ⟨by rw [upd_ne c]; exact e, by rw [gup_ne c]; exact g⟩
theorem new_frz (h : HRel K Z G H) {p : Addr} {ws : List W} {vs : List V} (n : H p = none) (r : RwL K Z H ws vs) :
    HRel K (fun q => Z q ∨ q = p) G (upd H p (.lst vs)) ∧ Ext Z G H (fun q => Z q ∨ q = p) G (upd H p (.lst vs)) ∧ Rw K (fun q => Z q ∨ q = p) (upd H p (.lst vs)) (.lst ws) (.ref p) := by
  have x : Ext Z G H Z G (upd H p (.lst vs)) := Ext.laid h n
  have h1 := h.laid (o := .lst vs) n
  obtain ⟨h2, x2⟩ := h1.frz (p := p) (by rw [upd_same]; simp)
  have e2 : gdel G p = G := by
    funext b; unfold gdel; split
    · rename_i c; rw [c, h.fresh n]
    · rfl
  rw [e2] at h2
  refine ⟨h2, ⟨fun q z => .inl z, x.f, fun q e _ z => ?_⟩, .lst (.inr rfl) upd_same ((r.ext h x).keep x2)⟩
  rcases z with z | z
  · exact z
  · rw [z] at e; exact absurd n e
/-- a list that stands in the small heap is changed -/
theorem chg_lst (h : HRel K Z G H) {p : Addr} {ws ws' : List W} {vs' : List V} (e : G p = some (.lst ws)) (r : RwL K Z H ws' vs') :
    HRel K Z (gup G p (.lst ws')) (upd H p (.lst vs')) ∧ Ext Z G H Z (gup G p (.lst ws')) (upd H p (.lst vs')) := by
  have x : Ext Z G H Z (gup G p (.lst ws')) (upd H p (.lst vs')) := ⟨fun _ z => z, fun q u e' g => by
    have c : q ≠ p := fun c => by rw [c, e] at g; cases g
    exact ⟨by rw [upd_ne c]; exact e', by rw [gup_ne c]; exact g⟩, fun _ _ _ z => z⟩
  refine ⟨⟨fun q z => ?_, fun q g e' => ?_⟩, x⟩
  · have c : q ≠ p := fun c => by
      have := (h.z q z).1
      rw [c, e] at this; cases this
    exact ⟨by rw [gup_ne c]; exact (h.z q z).1, by rw [upd_ne c]; exact (h.z q z).2⟩
  · by_cases c : q = p
    · rw [c, gup_same] at e'; cases e'
      exact ⟨_, by rw [c]; exact upd_same, .lst (r.ext h x)⟩
    · rw [gup_ne c] at e'
      obtain ⟨u, e2, r2⟩ := h.g q g e'
      exact ⟨u, by rw [upd_ne c]; exact e2, r2.ext h x⟩
theorem HRel.lst (h : HRel K Z G H) {p : Addr} {ws : List W} (e : G p = some (.lst ws)) : ∃ vs, H p = some (.lst vs) ∧ RwL K Z H ws vs := by
  obtain ⟨u, e', r⟩ := h.g p _ e
  cases r with
  | lst r => exact ⟨_, e', r⟩
/-- what is read as a list: frozen, or in the small heap -/
def asL (G : Gp) : W → Option (List W)
  | .lst ws => some ws
  | .scr ws => some ws
  | .ref p => match G p with
    | some (.lst ws) => some ws
    | _ => none
  | _ => none
theorem asL_sq (h : HRel K Z G H) {w : W} {v : V} {ws : List W} (r : Rw K Z H w v) (e : asL G w = some ws) : ∃ p vs, v = .ref p ∧ SqL K H p vs ∧ RwL K Z H ws vs := by
  cases r with
  | lst _ s t => simp only [asL, Option.some.injEq] at e; subst e; exact ⟨_, _, rfl, SqL.of s, t⟩
  | scr s t => simp only [asL, Option.some.injEq] at e; subst e; exact ⟨_, _, rfl, s.sq, t⟩
  | @ref a =>
    simp only [asL] at e
    cases q : G a with
    | none => rw [q] at e; cases e
    | some o =>
      rw [q] at e
      cases o with
      | lst us =>
        simp only [Option.some.injEq] at e; subst e
        obtain ⟨vs, e', t⟩ := h.lst q
        exact ⟨_, _, rfl, SqL.of e', t⟩
      | ins _ _ => cases e
      | dic _ => cases e
  | _ => cases e
end
/-! ### two values and one -/
abbrev RW2 := W → W → Gp → QW → Prop
def Sim2 (K : PySem.W.Frag) (r : R2) (wr : RW2) : Prop := ∀ Z G H x y v u Qw Q, HRel K Z G H → Rw K Z H x v → Rw K Z H y u → wr x y G Qw → KE K Z G H Qw Q → r v u H Q
def Sim1 (K : PySem.W.Frag) (r : V → Hp → VK → Prop) (wr : W → Gp → QW → Prop) : Prop := ∀ Z G H x v Qw Q, HRel K Z G H → Rw K Z H x v → wr x G Qw → KE K Z G H Qw Q → r v H Q
def SimN (K : PySem.W.Frag) (r : List V → Hp → VK → Prop) (wr : List W → Gp → QW → Prop) : Prop := ∀ Z G H ws vs Qw Q, HRel K Z G H → RwL K Z H ws vs → wr ws G Qw → KE K Z G H Qw Q → r vs H Q
def wOp (wr : RW2) (ta tb : TEw) : TEw := fun σ G Q => ta σ G fun x G1 => tb σ G1 fun y G2 => wr x y G2 Q
def wUn (wr : W → Gp → QW → Prop) (ta : TEw) : TEw := fun σ G Q => ta σ G fun x G1 => wr x G1 Q
def wCB (wr : List W → Gp → QW → Prop) (t : TAw) : TEw := fun σ G Q => t σ G fun ws G1 => wr ws G1 Q
/-- it is there, and then -/
def isS {α : Type} (o : Option α) (P : α → Prop) : Prop := match o with
  | some w => P w
  | none => False
theorem isS_some {α : Type} {a : α} {P : α → Prop} : isS (some a) P = P a := rfl
theorem isS_ex {α : Type} {o : Option α} {P : α → Prop} (h : isS o P) : ∃ w, o = some w ∧ P w := by
  cases o with
  | none => exact h.elim
  | some w => exact ⟨w, rfl, h⟩
/-- a list of the small heap -/
def isG (o : Option GO) (P : List W → Prop) : Prop := match o with
  | some (.lst ws) => P ws
  | _ => False
theorem isG_lst {ws : List W} {P : List W → Prop} : isG (some (.lst ws)) P = P ws := rfl
theorem isG_ex {o : Option GO} {P : List W → Prop} (h : isG o P) : ∃ ws, o = some (.lst ws) ∧ P ws := by
  cases o with
  | none => exact h.elim
  | some g =>
    cases g with
    | lst ws => exact ⟨ws, rfl, h⟩
    | ins _ _ => exact h.elim
    | dic _ => exact h.elim
def wVar (i : Nat) : TEw := fun σ G Q => isS (slot σ i) fun w => Q w G
def wC (w : W) : TEw := fun _ G Q => Q w G
def wNil : TAw := fun _ G Q => Q [] G
def wCons (ta : TEw) (t : TAw) : TAw := fun σ G Q => ta σ G fun x G1 => t σ G1 fun xs G2 => Q (x :: xs) G2
section
variable {X : Cx} {K : PySem.W.Frag}
theorem lift2 {r : R2} {wr : RW2} (hs : Sim2 K r wr) {ta tb : TEw} {σ : SV} {H : Hp} {Q : VK} (h : liftE K (wOp wr ta tb) σ H Q) : tOp r (liftE K ta) (liftE K tb) σ H Q := by
  obtain ⟨Z, σ', G, Qw, e, hr, t, k⟩ := h
  refine ⟨Z, σ', G, _, e, hr, t, fun Z1 G1 H1 x v x1 h1 r1 t1 => ?_⟩
  refine ⟨Z1, σ', G1, _, e.ext hr x1, h1, t1, fun Z2 G2 H2 y u x2 h2 r2 t2 => ?_⟩
  exact hs Z2 G2 H2 x y v u Qw Q h2 (r1.ext h1 x2) r2 t2 (k.mono (x1.trans x2))
theorem lift1 {r : V → Hp → VK → Prop} {wr : W → Gp → QW → Prop} (hs : Sim1 K r wr) {ta : TEw} {σ : SV} {H : Hp} {Q : VK} (h : liftE K (wUn wr ta) σ H Q) : tUn r (liftE K ta) σ H Q := by
  obtain ⟨Z, σ', G, Qw, e, hr, t, k⟩ := h
  exact ⟨Z, σ', G, _, e, hr, t, fun Z1 G1 H1 x v x1 h1 r1 t1 => hs Z1 G1 H1 x v Qw Q h1 r1 t1 (k.mono x1)⟩
theorem liftN {r : List V → Hp → VK → Prop} {wr : List W → Gp → QW → Prop} (hs : SimN K r wr) {ta : TAw} {σ : SV} {H : Hp} {Q : VK} (h : liftE K (wCB wr ta) σ H Q) : tCB r (liftA K ta) σ H Q := by
  obtain ⟨Z, σ', G, Qw, e, hr, t, k⟩ := h
  exact ⟨Z, σ', G, _, e, hr, t, fun Z1 G1 H1 ws vs x1 h1 r1 t1 => hs Z1 G1 H1 ws vs Qw Q h1 r1 t1 (k.mono x1)⟩
theorem lvar {i : Nat} {σ : SV} {H : Hp} {Q : VK} (h : liftE K (wVar i) σ H Q) : tVar i σ H Q := by
  obtain ⟨Z, σ', G, Qw, e, hr, q, k⟩ := h
  obtain ⟨w, t, q⟩ := isS_ex q
  obtain ⟨v, ev, r⟩ := e.get i t
  exact ⟨v, ev, k.at hr r q⟩
theorem qv (i : Nat) {x : Str} {pos : Pos} (hN : X.N[i]? = some x := by rfl) (hv : Vis X.env.scope x := by first | exact Or.inl rfl | exact Or.inr (Or.inl rfl) | exact Or.inr (Or.inr rfl)) (hd : (x == ("__debug__" : Str)) = false := by decide)
    (hcd : (x == ("__classdict__" : Str)) = false := by decide) : PEw X (.Name x pos) (wVar i) := PE.imp (pe_var hN hv hd hcd) fun _ _ _ h => lvar h
theorem lC {w : W} {v : V} (r : ∀ Z H, Rw K Z H w v) {σ : SV} {H : Hp} {Q : VK} (h : liftE K (wC w) σ H Q) : tC v σ H Q := by
  obtain ⟨Z, σ', G, Qw, e, hr, q, k⟩ := h
  exact k.at hr (r Z H) q
theorem qint {i j pos} : PEw X (.Constant (.int i) j pos) (wC (.int i)) := PE.imp pe_int fun _ _ _ h => lC (fun _ _ => .int) h
theorem qbl {b j pos} : PEw X (.Constant (.bool b) j pos) (wC (.bl b)) := PE.imp pe_bl fun _ _ _ h => lC (fun _ _ => .bl) h
theorem qnon {j pos} : PEw X (.Constant .none j pos) (wC .non) := PE.imp pe_non fun _ _ _ h => lC (fun _ _ => .non) h
theorem qstr {x j pos} : PEw X (.Constant (.str x) j pos) (wC (.str x)) := PE.imp pe_str fun _ _ _ h => lC (fun _ _ => .str) h
theorem qop {op : Operator} {r : R2} {wr : RW2} {a b : Expr} {ta tb : TEw} {pos : Pos} (ho : OpR X (binaryOp op) r) (hs : Sim2 X.K r wr) (ha : PEw X a ta) (hb : PEw X b tb) : PEw X (.BinOp a op b pos) (wOp wr ta tb) :=
  PE.imp (pe_op ho ha hb) fun _ _ _ h => lift2 hs h
theorem qcmp {op : CmpOp} {r : R2} {wr : RW2} {a b : Expr} {ta tb : TEw} {pos : Pos} (ho : OpR X (compareOp op) r) (hs : Sim2 X.K r wr) (ha : PEw X a ta) (hb : PEw X b tb) (hm : behindInMarks op b = false) : PEw X (.Compare a [op] [b] pos) (wOp wr ta tb) :=
  PE.imp (pe_cmpR ho ha hb hm) fun _ _ _ h => lift2 hs h
/-- a test: the value is a truth -/
def wTest (t : TEw) : TTw := fun σ G Q => t σ G fun x G1 => ∃ k, x = .bl k ∧ Q k G1
theorem ltest {te : TEw} {t : TE} {σ : SV} {H : Hp} {Q : Bool → Hp → Prop} (i : ∀ σ H Q, liftE K te σ H Q → t σ H Q) (h : liftT K (wTest te) σ H Q) : tTest t σ H Q := by
  obtain ⟨Z, σ', G, Qw, e, hr, t', k⟩ := h
  refine i _ _ _ ⟨Z, σ', G, _, e, hr, t', fun Z1 G1 H1 w v x1 h1 r1 t1 => ?_⟩
  obtain ⟨b, rfl, q⟩ := t1
  cases r1
  exact ⟨b, rfl, k Z1 G1 H1 b x1 h1 q⟩
theorem qtcmp {op : CmpOp} {r : R2} {wr : RW2} {a b : Expr} {ta tb : TEw} {pos : Pos} (ho : OpR X (compareOp op) r) (hs : Sim2 X.K r wr) (ha : PEw X a ta) (hb : PEw X b tb) (hm : behindInMarks op b = false) : PTw X (.Compare a [op] [b] pos) (wTest (wOp wr ta tb)) :=
  PT.imp (pt_cmpR ho ha hb hm) fun _ _ _ h => ltest (fun _ _ _ => lift2 hs) h
theorem lA_nil {σ : SV} {H : Hp} {Q} (h : liftA K wNil σ H Q) : tNil σ H Q := by
  obtain ⟨Z, σ', G, Qw, e, hr, t, k⟩ := h
  exact k Z G H _ _ Ext.refl hr .nil t
theorem qa_nil : PAw X [] wNil := PA.imp pa_nil fun _ _ _ h => lA_nil h
theorem qa_cons {e : Expr} {es : List Expr} {te : TEw} {t : TAw} (h1 : PEw X e te) (h2 : PAw X es t)
    (hs : starEach (e :: es) X.env = (false, eval e X.env) :: starEach es X.env := by rfl) : PAw X (e :: es) (wCons te t) :=
  PA.imp (pa_cons h1 h2 hs) fun σ H Q h => by
    obtain ⟨Z, σ', G, Qw, e, hr, t', k⟩ := h
    refine ⟨Z, σ', G, _, e, hr, t', fun Z1 G1 H1 x v x1 h1 r1 t1 => ?_⟩
    refine ⟨Z1, σ', G1, _, e.ext hr x1, h1, t1, fun Z2 G2 H2 xs vs x2 h2 r2 t2 => ?_⟩
    exact k Z2 G2 H2 _ _ (x1.trans x2) h2 (.cons (r1.ext h1 x2) r2) t2
end
end WL

namespace WL
open PySem PySem.Spec PyProof.Rows L2
/-! ### operators -/
def wI2 (C : Int → Int → Prop) (g : Int → Int → W) : RW2 := fun x y G Q => match x, y with
  | .int i, .int j => C i j ∧ Q (g i j) G
  | _, _ => False
def wII (g : Int → Int → W) : RW2 := fun x y G Q => match x, y with
  | .int i, .int j => Q (g i j) G
  | _, _ => False
def wI1 (g : Int → W) : W → Gp → QW → Prop := fun x G Q => match x with
  | .int i => Q (g i) G
  | _ => False
/-- the place where a body runs lets great divisions be -/
structure Deep (X : Cx) : Prop where
  seer : X.base.NoSeer
  tree : X.prog.given.tree = none
  room : X.A.depth + Builtin.pylongFrames < recursionLimit
  frame : ∃ env l, X.stack = env :: l ∧ env.scope.isGenerator = false ∧ env.scope.isCoroutine = false ∧ env.builtins = builtinsNs ∧ env.globals = mainGlobals
/-- the sizes of a product -/
def CMulX (i j : Int) : Prop := i.natAbs.log2 + j.natAbs.log2 < 134217000
def wAdd : RW2 := fun x y G Q => match x, y with
  | .int i, .int j => Q (.int (i + j)) G
  | .str a, .str b => a.length + b.length ≤ sizeLine ∧ Q (.str (a ++ b)) G
  | .tup a, .tup b => a.length + b.length ≤ sizeLine ∧ Q (.tup (a ++ b)) G
  | .lst a, .lst b => a.length + b.length ≤ sizeLine ∧ Q (.lst (a ++ b)) G
  | _, _ => False
abbrev wSub : RW2 := wII fun i j => .int (i - j)
abbrev wMod : RW2 := wI2 (fun _ j => j ≠ 0) fun i j => .int (i.fmod j)
abbrev wFdiv : RW2 := wI2 (fun _ j => j ≠ 0) fun i j => .int (i.fdiv j)
abbrev wMul : RW2 := wI2 CMulX fun i j => .int (i * j)
abbrev wPow : RW2 := wI2 CPow fun i j => .int (i ^ j.toNat)
abbrev wLt : RW2 := wII fun i j => .bl (decide (i < j))
abbrev wLe : RW2 := wII fun i j => .bl (decide (i ≤ j))
abbrev wGt : RW2 := wII fun i j => .bl (decide (j < i))
abbrev wGe : RW2 := wII fun i j => .bl (decide (j ≤ i))
section
variable {X : Cx} {K : PySem.W.Frag}
theorem op_fdivX (hd : Deep X) : OpR X (binaryOp .FloorDiv) (rI (fun _ j => j ≠ 0) fun i j => .int (i.fdiv j)) := by
  intro pins s σ H x y v u Q I rx ry h
  obtain ⟨i, j, rfl, rfl, c, q⟩ := h
  obtain ⟨t, rfl⟩ := rx
  obtain ⟨t', rfl⟩ := ry
  obtain ⟨env, l, e1, e2, e3, e4, e5⟩ := hd.frame
  exact floordiv_int c ⟨.int _, H, I.tok _, ⟨_, rfl⟩, q⟩ (.inr (PylongRoom.of I.nolimit hd.room (SeerAt.of (hd.seer.keeps I.bk) hd.tree (I.ok.frames.trans (by rw [e1])) e2 e3 e4 e5)))
theorem CMulX.ok {i j : Int} (h : CMulX i j) : IntMulOk i j := by
  have b : ∀ x : Int, Builtin.Int.intBits x ≤ x.natAbs.log2 + 1 := fun x => by
    show (if (x == 0) = true then 0 else x.natAbs.log2 + 1) ≤ _
    split <;> omega
  have h1 := b i
  have h2 := b j
  have hz : i.natAbs.log2 + j.natAbs.log2 < 134217000 := h
  have hb : bitsLine = 134217728 := by decide
  intro z
  simp only [Builtin.Int.intTooBig, Bool.and_eq_true, decide_eq_true_eq, hb] at z
  omega
theorem op_mulX : OpR X (binaryOp .Mult) (rI CMulX fun i j => .int (i * j)) := opI fun _ _ _ _ _ _ _ hc q => mul_int q hc.ok
theorem sim_I {C : Int → Int → Prop} {g : Int → Int → W} {g' : Int → Int → V} (hg : ∀ i j Z H, Rw K Z H (g i j) (g' i j)) : Sim2 K (rI C g') (wI2 C g) := by
  intro Z G H x y v u Qw Q h rx ry t k
  cases rx <;> cases ry <;> first
    | exact False.elim t
    | exact ⟨_, _, rfl, rfl, t.1, k.at h (hg _ _ Z H) t.2⟩
theorem sim_II {g : Int → Int → W} {g' : Int → Int → V} (hg : ∀ i j Z H, Rw K Z H (g i j) (g' i j)) : Sim2 K (rI0 g') (wII g) := by
  intro Z G H x y v u Qw Q h rx ry t k
  cases rx <;> cases ry <;> first
    | exact False.elim t
    | exact ⟨_, _, rfl, rfl, k.at h (hg _ _ Z H) t⟩
theorem sim_U {g : Int → W} {g' : Int → V} (hg : ∀ i Z H, Rw K Z H (g i) (g' i)) : Sim1 K (rU g') (wI1 g) := by
  intro Z G H x v Qw Q h rx t k
  cases rx <;> first
    | exact False.elim t
    | exact ⟨_, rfl, k.at h (hg _ Z H) t⟩
def rAddU (K : PySem.W.Frag) : R2 := fun x y H Q => (rI0 fun i j => .int (i + j)) x y H Q ∨ (∃ i j, x = .str i ∧ y = .str j ∧ i.length + j.length ≤ sizeLine ∧ Q (.str (i ++ j)) H) ∨ rCatA K x y H Q ∨ rCat x y H Q
theorem op_addU : OpR X (binaryOp .Add) (rAddU X.K) := OpR.or op_add (OpR.or op_add_str (OpR.or op_catA op_cat))
theorem sim_add : Sim2 K (rAddU K) wAdd := by
  intro Z G H x y v u Qw Q h rx ry t k
  cases rx with
  | int =>
    cases ry <;> first
      | exact False.elim t
      | exact .inl ⟨_, _, rfl, rfl, k.at h .int t⟩
  | str =>
    cases ry <;> first
      | exact False.elim t
      | exact .inr (.inl ⟨_, _, rfl, rfl, t.1, k.at h .str t.2⟩)
  | @tup p a vs s1 r1 =>
    cases ry with
    | @tup p2 b us s2 r2 =>
      obtain ⟨t2, t3⟩ := t
      refine .inr (.inr (.inl ⟨_, _, vs, us, rfl, rfl, s1, s2, ?_, fun z => ?_, fun _ z => ?_, fun _ z q n => ?_⟩))
      · rw [← r1.length, ← r2.length]; exact t2
      · subst z
        cases r1
        exact k.at h (.tup s2 r2) t3
      · subst z
        cases r2
        rw [List.append_nil] at t3
        exact k.at h (.tup s1 r1) t3
      · obtain ⟨h2, x2, r⟩ := new_tup h n (r1.append r2)
        exact k Z G _ _ _ x2 h2 r t3
    | _ => exact False.elim t
  | @lst p a vs z1 s1 r1 =>
    cases ry with
    | @lst p2 b us z2 s2 r2 =>
      obtain ⟨t2, t3⟩ := t
      refine .inr (.inr (.inr ⟨_, _, vs, us, rfl, rfl, s1, s2, ?_, fun q n => ?_⟩))
      · rw [← r1.length, ← r2.length]; exact t2
      · obtain ⟨h2, x2, r⟩ := new_frz h n (r1.append r2)
        exact k _ G _ _ _ x2 h2 r t3
    | _ => exact False.elim t
  | _ => exact False.elim t
variable {a b : Expr} {ta tb : TEw} {pos : Pos}
theorem qadd (ha : PEw X a ta) (hb : PEw X b tb) : PEw X (.BinOp a .Add b pos) (wOp wAdd ta tb) := qop op_addU sim_add ha hb
theorem qsub (ha : PEw X a ta) (hb : PEw X b tb) : PEw X (.BinOp a .Sub b pos) (wOp wSub ta tb) := qop op_sub (sim_II fun _ _ _ _ => .int) ha hb
theorem qmul (ha : PEw X a ta) (hb : PEw X b tb) : PEw X (.BinOp a .Mult b pos) (wOp wMul ta tb) := qop op_mulX (sim_I fun _ _ _ _ => .int) ha hb
theorem qmod (ha : PEw X a ta) (hb : PEw X b tb) : PEw X (.BinOp a .Mod b pos) (wOp wMod ta tb) := qop op_modN (sim_I fun _ _ _ _ => .int) ha hb
theorem qfdiv (hd : Deep X) (ha : PEw X a ta) (hb : PEw X b tb) : PEw X (.BinOp a .FloorDiv b pos) (wOp wFdiv ta tb) := qop (op_fdivX hd) (sim_I fun _ _ _ _ => .int) ha hb
theorem qpow (ha : PEw X a ta) (hb : PEw X b tb) : PEw X (.BinOp a .Pow b pos) (wOp wPow ta tb) := qop op_pow (sim_I fun _ _ _ _ => .int) ha hb
abbrev wNeg (ta : TEw) : TEw := wUn (wI1 fun i => .int (-i)) ta
theorem qneg (ha : PEw X a ta) : PEw X (.UnaryOp .USub a pos) (wNeg ta) := PE.imp (pe_un un_neg ha) fun _ _ _ h => lift1 (sim_U fun _ _ _ => .int) h
/-! ### comparisons -/
theorem qlt (ha : PEw X a ta) (hb : PEw X b tb) : PEw X (.Compare a [.Lt] [b] pos) (wOp wLt ta tb) := qcmp op_lt (sim_II fun _ _ _ _ => .bl) ha hb (nomark _)
theorem qle (ha : PEw X a ta) (hb : PEw X b tb) : PEw X (.Compare a [.LtE] [b] pos) (wOp wLe ta tb) := qcmp op_le (sim_II fun _ _ _ _ => .bl) ha hb (nomark _)
theorem qgt (ha : PEw X a ta) (hb : PEw X b tb) : PEw X (.Compare a [.Gt] [b] pos) (wOp wGt ta tb) := qcmp op_gt (sim_II fun _ _ _ _ => .bl) ha hb (nomark _)
theorem qge (ha : PEw X a ta) (hb : PEw X b tb) : PEw X (.Compare a [.GtE] [b] pos) (wOp wGe ta tb) := qcmp op_ge (sim_II fun _ _ _ _ => .bl) ha hb (nomark _)
theorem qtlt (ha : PEw X a ta) (hb : PEw X b tb) : PTw X (.Compare a [.Lt] [b] pos) (wTest (wOp wLt ta tb)) := qtcmp op_lt (sim_II fun _ _ _ _ => .bl) ha hb (nomark _)
theorem qtle (ha : PEw X a ta) (hb : PEw X b tb) : PTw X (.Compare a [.LtE] [b] pos) (wTest (wOp wLe ta tb)) := qtcmp op_le (sim_II fun _ _ _ _ => .bl) ha hb (nomark _)
theorem qtgt (ha : PEw X a ta) (hb : PEw X b tb) : PTw X (.Compare a [.Gt] [b] pos) (wTest (wOp wGt ta tb)) := qtcmp op_gt (sim_II fun _ _ _ _ => .bl) ha hb (nomark _)
theorem qtge (ha : PEw X a ta) (hb : PEw X b tb) : PTw X (.Compare a [.GtE] [b] pos) (wTest (wOp wGe ta tb)) := qtcmp op_ge (sim_II fun _ _ _ _ => .bl) ha hb (nomark _)
end
/-! ### == by data -/
mutual
def wdat : W → PyData
  | .non => .none
  | .bl b => .bool b
  | .int i => .int i
  | .str x => .str x
  | .tup ws => .tuple (wdats ws)
  | .lst ws => .list (wdats ws)
  | .scr ws => .list (wdats ws)
  | _ => .none
def wdats : List W → List PyData
  | [] => []
  | w :: ws => wdat w :: wdats ws
end
mutual
/-- data all through -/
def wpure : W → Bool
  | .ins _ _ => false
  | .dic _ => false
  | .ref _ => false
  | .ty _ => false
  | .tup ws => wpures ws
  | .lst ws => wpures ws
  | .scr ws => wpures ws
  | _ => true
def wpures : List W → Bool
  | [] => true
  | w :: ws => wpure w && wpures ws
end
def wder (G : Gp) : W → W
  | .ref p => match G p with
    | some (.lst ws) => .lst ws
    | _ => .ref p
  | w => w
def weqb (x y : W) : Bool := PyData.eqv (wdat x) (wdat y)
def wOk (w : W) : Prop := wpure w = true ∧ SeqAt.shaped (wdat w) = true
def wEq : RW2 := fun x y G Q => match x, y with
  | .int i, .int j => Q (.bl (decide (i = j))) G
  | .str i, .str j => Q (.bl (decide (i = j))) G
  | x, y => wOk (wder G x) ∧ wOk (wder G y) ∧ Q (.bl (weqb (wder G x) (wder G y))) G
def wNe : RW2 := fun x y G Q => match x, y with
  | .int i, .int j => Q (.bl (!decide (i = j))) G
  | .str i, .str j => Q (.bl (!decide (i = j))) G
  | x, y => wOk (wder G x) ∧ wOk (wder G y) ∧ Q (.bl (!weqb (wder G x) (wder G y))) G
section
variable {X : Cx} {K : PySem.W.Frag} {Z : Zp} {G : Gp} {H : Hp}
mutual
theorem Rw.dp : ∀ {w : W} {v : V}, Rw K Z H w v → wpure w = true → Dp K H v (wdat w)
  | _, _, .non, _ => by simp only [wdat]; exact .non
  | _, _, .bl, _ => by simp only [wdat]; exact .bl _
  | _, _, .int, _ => by simp only [wdat]; exact .int _
  | _, _, .str, _ => by simp only [wdat]; exact .str _
  | _, _, .ref, p => by simp [wpure] at p
  | _, _, .ty, p => by simp [wpure] at p
  | _, _, .ins _ _ _ _, p => by simp [wpure] at p
  | _, _, .dic _ _ _, p => by simp [wpure] at p
  | _, _, .tup s r, p => by simp only [wdat]; exact .tup s (RwL.dp r (by simpa [wpure] using p))
  | _, _, .lst _ s r, p => by simp only [wdat]; exact .lst (SqL.of s) (RwL.dp r (by simpa [wpure] using p))
  | _, _, .scr s r, p => by simp only [wdat]; exact .lst s.sq (RwL.dp r (by simpa [wpure] using p))
theorem RwL.dp : ∀ {ws : List W} {vs : List V}, RwL K Z H ws vs → wpures ws = true → DpAll K H vs (wdats ws)
  | _, _, .nil, _ => by simp only [wdats]; exact .nil
  | _, _, .cons r t, p => by
    simp only [wpures, Bool.and_eq_true] at p
    simp only [wdats]
    exact .cons (Rw.dp r p.1) (RwL.dp t p.2)
end
theorem dp_der (h : HRel K Z G H) {w : W} {v : V} (r : Rw K Z H w v) (p : wpure (wder G w) = true) : Dp K H v (wdat (wder G w)) := by
  cases r with
  | @ref a =>
    simp only [wder] at p ⊢
    cases q : G a with
    | none => rw [q] at p; simp [wpure] at p
    | some o =>
      rw [q] at p
      cases o with
      | lst ws =>
        simp only [wpure] at p
        simp only [wdat]
        obtain ⟨vs, e, t⟩ := h.lst q
        exact .lst (SqL.of e) (RwL.dp t p)
      | ins _ _ => simp [wpure] at p
      | dic _ => simp [wpure] at p
  | _ => first
    | exact Rw.dp (Z := Z) (by constructor <;> assumption) p
    | exact Rw.dp (Z := Z) (by constructor) p
def rEqU (K : PySem.W.Frag) : R2 := fun x y H Q => rEq x y H Q ∨ rEqD K x y H Q
def rNeU (K : PySem.W.Frag) : R2 := fun x y H Q => rNe x y H Q ∨ rNeD K x y H Q
theorem sim_eq : Sim2 K (rEqU K) wEq := by
  intro Z G H x y v u Qw Q h rx ry t k
  have gen : (wOk (wder G x) ∧ wOk (wder G y) ∧ Qw (.bl (weqb (wder G x) (wder G y))) G) → rEqU K v u H Q := fun t =>
    .inr ⟨_, _, dp_der h rx t.1.1, dp_der h ry t.2.1.1, t.1.2, t.2.1.2, k.at h .bl t.2.2⟩
  cases rx with
  | @int i =>
    cases ry with
    | @int j =>
      refine .inl ⟨rfl, ?_⟩
      rw [show decide (V.int i = V.int j) = decide (i = j) by simp]
      exact k.at h .bl t
    | _ => exact gen t
  | @str i =>
    cases ry with
    | @str j =>
      refine .inl ⟨rfl, ?_⟩
      rw [show decide (V.str i = V.str j) = decide (i = j) by simp]
      exact k.at h .bl t
    | _ => exact gen t
  | _ => exact gen t
theorem sim_ne : Sim2 K (rNeU K) wNe := by
  intro Z G H x y v u Qw Q h rx ry t k
  have gen : (wOk (wder G x) ∧ wOk (wder G y) ∧ Qw (.bl (!weqb (wder G x) (wder G y))) G) → rNeU K v u H Q := fun t =>
    .inr ⟨_, _, dp_der h rx t.1.1, dp_der h ry t.2.1.1, t.1.2, t.2.1.2, k.at h .bl t.2.2⟩
  cases rx with
  | @int i =>
    cases ry with
    | @int j =>
      refine .inl ⟨rfl, ?_⟩
      rw [show decide (V.int i = V.int j) = decide (i = j) by simp]
      exact k.at h .bl t
    | _ => exact gen t
  | @str i =>
    cases ry with
    | @str j =>
      refine .inl ⟨rfl, ?_⟩
      rw [show decide (V.str i = V.str j) = decide (i = j) by simp]
      exact k.at h .bl t
    | _ => exact gen t
  | _ => exact gen t
variable {a b : Expr} {ta tb : TEw} {pos : Pos}
theorem hu64 {A : Around} {k : Nat} (hr : Room k A) : A.units + 64 < cLine := by have := hr.un; omega
theorem qeq {k : Nat} (hr : Room k X.A) (ha : PEw X a ta) (hb : PEw X b tb) : PEw X (.Compare a [.Eq] [b] pos) (wOp wEq ta tb) := qcmp (OpR.or op_eq (op_eqD (hu64 hr))) sim_eq ha hb (nomark _)
theorem qne {k : Nat} (hr : Room k X.A) (ha : PEw X a ta) (hb : PEw X b tb) : PEw X (.Compare a [.NotEq] [b] pos) (wOp wNe ta tb) := qcmp (OpR.or op_ne (op_neD (hu64 hr))) sim_ne ha hb (nomark _)
theorem qteq {k : Nat} (hr : Room k X.A) (ha : PEw X a ta) (hb : PEw X b tb) : PTw X (.Compare a [.Eq] [b] pos) (wTest (wOp wEq ta tb)) := qtcmp (OpR.or op_eq (op_eqD (hu64 hr))) sim_eq ha hb (nomark _)
theorem qtne {k : Nat} (hr : Room k X.A) (ha : PEw X a ta) (hb : PEw X b tb) : PTw X (.Compare a [.NotEq] [b] pos) (wTest (wOp wNe ta tb)) := qtcmp (OpR.or op_ne (op_neD (hu64 hr))) sim_ne ha hb (nomark _)
/-! ### is None -/
def isNon : W → Bool
  | .non => true
  | _ => false
def wIsN (ta : TEw) : TEw := wUn (fun x G Q => Q (.bl (isNon x)) G) ta
def wNotN (ta : TEw) : TEw := wUn (fun x G Q => Q (.bl (!isNon x)) G) ta
theorem Rw.isNon {w : W} {v : V} (r : Rw K Z H w v) : decide (v = .non) = isNon w := by
  cases r <;> simp [WL.isNon]
theorem qisN {j p2} (ha : PEw X a ta) : PEw X (.Compare a [.Is] [.Constant .none j p2] pos) (wIsN ta) := PE.imp (pe_cmp (pc_isN ha) rfl) fun σ H Q h => by
  obtain ⟨Z, σ', G, Qw, e, hr, t, k⟩ := h
  exact ⟨Z, σ', G, _, e, hr, t, fun Z1 G1 H1 x v x1 h1 r1 t1 => by show Q (V.bl (decide (v = .non))) H1; rw [r1.isNon]; exact k Z1 G1 H1 _ _ x1 h1 .bl t1⟩
theorem qnotN {j p2} (ha : PEw X a ta) : PEw X (.Compare a [.IsNot] [.Constant .none j p2] pos) (wNotN ta) := PE.imp (pe_cmp (pc_notN ha) rfl) fun σ H Q h => by
  obtain ⟨Z, σ', G, Qw, e, hr, t, k⟩ := h
  exact ⟨Z, σ', G, _, e, hr, t, fun Z1 G1 H1 x v x1 h1 r1 t1 => by show Q (V.bl (!decide (v = .non))) H1; rw [r1.isNon]; exact k Z1 G1 H1 _ _ x1 h1 .bl t1⟩
end
/-! ### tests, truths -/
section
variable {X : Cx} {K : PySem.W.Frag} {a b c : Expr} {ta tb : TEw} {t u : TTw} {rest : List Expr} {pos : Pos}
theorem qtv (ha : PEw X a ta) (he : ∀ whole, isTrue a X.env whole = (do let v ← whole; standAt a.pos; holding [v] (truthy v)) := by intro _; rfl) : PTw X a (wTest ta) :=
  PT.imp (pt_val ha he) fun σ H Q h => by
    obtain ⟨Z, σ', G, Qw, e, hr, t', k⟩ := h
    refine ⟨Z, σ', G, _, e, hr, t', fun Z1 G1 H1 w v x1 h1 r1 t1 => ?_⟩
    obtain ⟨b, rfl, q⟩ := t1
    cases r1
    exact ⟨b, rfl, k Z1 G1 H1 b x1 h1 q⟩
def wAnd (t u : TTw) : TTw := fun σ G Q => t σ G fun c G1 => if c = true then u σ G1 Q else Q false G1
def wOr (t u : TTw) : TTw := fun σ G Q => t σ G fun c G1 => if c = true then Q true G1 else u σ G1 Q
def wNot (t : TTw) : TTw := fun σ G Q => t σ G fun c G1 => Q (!c) G1
theorem qand1 (ha : PTw X a t) : PWw X (.BoolOp .And [a] pos) t := pw_and1 ha
theorem qor1 (ha : PTw X a t) : PWw X (.BoolOp .Or [a] pos) t := pw_or1 ha
theorem qand (ha : PTw X a t) (hb : PWw X (.BoolOp .And (b :: rest) pos) u) : PWw X (.BoolOp .And (a :: b :: rest) pos) (wAnd t u) :=
  PW.imp (pw_and ha hb) fun σ H Q h => by
    obtain ⟨Z, σ', G, Qw, e, hr, t', k⟩ := h
    refine ⟨Z, σ', G, _, e, hr, t', fun Z1 G1 H1 b x1 h1 t1 => ?_⟩
    cases b with
    | true => exact ⟨Z1, σ', G1, Qw, e.ext hr x1, h1, t1, fun Z2 G2 H2 b x2 => k Z2 G2 H2 b (x1.trans x2)⟩
    | false => exact k Z1 G1 H1 _ x1 h1 t1
theorem qor (ha : PTw X a t) (hb : PWw X (.BoolOp .Or (b :: rest) pos) u) : PWw X (.BoolOp .Or (a :: b :: rest) pos) (wOr t u) :=
  PW.imp (pw_or ha hb) fun σ H Q h => by
    obtain ⟨Z, σ', G, Qw, e, hr, t', k⟩ := h
    refine ⟨Z, σ', G, _, e, hr, t', fun Z1 G1 H1 b x1 h1 t1 => ?_⟩
    cases b with
    | false => exact ⟨Z1, σ', G1, Qw, e.ext hr x1, h1, t1, fun Z2 G2 H2 b x2 => k Z2 G2 H2 b (x1.trans x2)⟩
    | true => exact k Z1 G1 H1 _ x1 h1 t1
theorem qwt (h : PWw X a t) : PTw X a t := PW.pt h
theorem qnot (ha : PTw X a t) : PTw X (.UnaryOp .Not a pos) (wNot t) :=
  PT.imp (pt_not ha) fun σ H Q h => by
    obtain ⟨Z, σ', G, Qw, e, hr, t', k⟩ := h
    exact ⟨Z, σ', G, _, e, hr, t', fun Z1 G1 H1 b x1 h1 t1 => k Z1 G1 H1 _ x1 h1 t1⟩
/-- and, or, not as values -/
def wAndV (ta tb : TEw) : TEw := fun σ G Q => ta σ G fun x G1 => ∃ c, x = .bl c ∧ if c = true then tb σ G1 Q else Q (.bl false) G1
def wOrV (ta tb : TEw) : TEw := fun σ G Q => ta σ G fun x G1 => ∃ c, x = .bl c ∧ if c = true then Q (.bl true) G1 else tb σ G1 Q
def wNotV (ta : TEw) : TEw := fun σ G Q => ta σ G fun x G1 => ∃ c, x = .bl c ∧ Q (.bl (!c)) G1
theorem qone {op} (ha : PEw X a ta) : PEw X (.BoolOp op [a] pos) ta := pe_one ha
theorem qandV (ha : PEw X a ta) (hb : PEw X (.BoolOp .And (b :: rest) pos) tb) : PEw X (.BoolOp .And (a :: b :: rest) pos) (wAndV ta tb) :=
  PE.imp (pe_and ha hb) fun σ H Q h => by
    obtain ⟨Z, σ', G, Qw, e, hr, t', k⟩ := h
    refine ⟨Z, σ', G, _, e, hr, t', fun Z1 G1 H1 x v x1 h1 r1 t1 => ?_⟩
    obtain ⟨c, rfl, t1⟩ := t1
    cases r1
    refine ⟨c, rfl, ?_⟩
    cases c with
    | true => exact ⟨Z1, σ', G1, Qw, e.ext hr x1, h1, t1, k.mono x1⟩
    | false => exact k Z1 G1 H1 _ _ x1 h1 .bl t1
theorem qorV (ha : PEw X a ta) (hb : PEw X (.BoolOp .Or (b :: rest) pos) tb) : PEw X (.BoolOp .Or (a :: b :: rest) pos) (wOrV ta tb) :=
  PE.imp (pe_or ha hb) fun σ H Q h => by
    obtain ⟨Z, σ', G, Qw, e, hr, t', k⟩ := h
    refine ⟨Z, σ', G, _, e, hr, t', fun Z1 G1 H1 x v x1 h1 r1 t1 => ?_⟩
    obtain ⟨c, rfl, t1⟩ := t1
    cases r1
    refine ⟨c, rfl, ?_⟩
    cases c with
    | false => exact ⟨Z1, σ', G1, Qw, e.ext hr x1, h1, t1, k.mono x1⟩
    | true => exact k Z1 G1 H1 _ _ x1 h1 .bl t1
theorem qnotV (ha : PEw X a ta) : PEw X (.UnaryOp .Not a pos) (wNotV ta) :=
  PE.imp (pe_not ha) fun σ H Q h => by
    obtain ⟨Z, σ', G, Qw, e, hr, t', k⟩ := h
    refine ⟨Z, σ', G, _, e, hr, t', fun Z1 G1 H1 x v x1 h1 r1 t1 => ?_⟩
    obtain ⟨c, rfl, t1⟩ := t1
    cases r1
    exact ⟨c, rfl, k Z1 G1 H1 _ _ x1 h1 .bl t1⟩
def wIf (t : TTw) (ta tb : TEw) : TEw := fun σ G Q => t σ G fun c G1 => if c = true then ta σ G1 Q else tb σ G1 Q
theorem qifExp (hc : PTw X c t) (ha : PEw X a ta) (hb : PEw X b tb) : PEw X (.IfExp c a b pos) (wIf t ta tb) :=
  PE.imp (pe_ifExp hc ha hb) fun σ H Q h => by
    obtain ⟨Z, σ', G, Qw, e, hr, t', k⟩ := h
    refine ⟨Z, σ', G, _, e, hr, t', fun Z1 G1 H1 b x1 h1 t1 => ?_⟩
    cases b with
    | true => exact ⟨Z1, σ', G1, Qw, e.ext hr x1, h1, t1, k.mono x1⟩
    | false => exact ⟨Z1, σ', G1, Qw, e.ext hr x1, h1, t1, k.mono x1⟩
/-- a < b < c -/
def wChain (r r' : RW2) (ta tb tc : TEw) : TEw := fun σ G Q => ta σ G fun x G1 => tb σ G1 fun y G2 => r x y G2 fun z G3 => ∃ k, z = .bl k ∧ (if k = true then tc σ G3 fun w G4 => r' y w G4 Q else Q (.bl false) G3)
theorem lchain {r r' : R2} {wr wr' : RW2} {tc : TEw} (hs : Sim2 K r wr) (hs' : Sim2 K r' wr') {σ : SV} {H : Hp} {Q : VK} (h : liftE K (wChain wr wr' ta tb tc) σ H Q) : tChain r r' (liftE K ta) (liftE K tb) (liftE K tc) σ H Q := by
  obtain ⟨Z, σ', G, Qw, e, hr, t, k⟩ := h
  refine ⟨Z, σ', G, _, e, hr, t, fun Z1 G1 H1 x v x1 h1 r1 t1 => ?_⟩
  refine ⟨Z1, σ', G1, _, e.ext hr x1, h1, t1, fun Z2 G2 H2 y u x2 h2 r2 t2 => ?_⟩
  refine hs Z2 G2 H2 x y v u _ _ h2 (r1.ext h1 x2) r2 t2 fun Z3 G3 H3 z zv x3 h3 r3 t3 => ?_
  obtain ⟨b, rfl, t3⟩ := t3
  cases r3
  refine ⟨b, rfl, ?_⟩
  cases b with
  | false => exact k Z3 G3 H3 _ _ ((x1.trans x2).trans x3) h3 .bl t3
  | true =>
    refine ⟨Z3, σ', G3, _, e.ext hr ((x1.trans x2).trans x3), h3, t3, fun Z4 G4 H4 w wv x4 h4 r4 t4 => ?_⟩
    exact hs' Z4 G4 H4 y w u wv Qw Q h4 (r2.ext h2 (x3.trans x4)) r4 t4 (k.mono (((x1.trans x2).trans x3).trans x4))
theorem qchain {op op' : CmpOp} {r r' : R2} {wr wr' : RW2} {tc : TEw} (ho : OpR X (compareOp op) r) (ho' : OpR X (compareOp op') r') (hs : Sim2 X.K r wr) (hs' : Sim2 X.K r' wr') (ha : PEw X a ta) (hb : PEw X b tb) (hc : PEw X c tc)
    (hm : lastMarks [op, op'] [b, c] = false := by with_unfolding_all rfl) : PEw X (.Compare a [op, op'] [b, c] pos) (wChain wr wr' ta tb tc) := PE.imp (pe_chain ho ho' ha hb hc hm) fun _ _ _ h => lchain hs hs' h
theorem qtchain {op op' : CmpOp} {r r' : R2} {wr wr' : RW2} {tc : TEw} (ho : OpR X (compareOp op) r) (ho' : OpR X (compareOp op') r') (hs : Sim2 X.K r wr) (hs' : Sim2 X.K r' wr') (ha : PEw X a ta) (hb : PEw X b tb) (hc : PEw X c tc)
    (hm : lastMarks [op, op'] [b, c] = false := by with_unfolding_all rfl) : PTw X (.Compare a [op, op'] [b, c] pos) (wTest (wChain wr wr' ta tb tc)) := PT.imp (pt_chain ho ho' ha hb hc hm) fun _ _ _ h => ltest (fun _ _ _ => lchain hs hs') h
theorem qlele {tc : TEw} (ha : PEw X a ta) (hb : PEw X b tb) (hc : PEw X c tc) (hm : lastMarks [.LtE, .LtE] [b, c] = false := by with_unfolding_all rfl) : PEw X (.Compare a [.LtE, .LtE] [b, c] pos) (wChain wLe wLe ta tb tc) :=
  qchain op_le op_le (sim_II fun _ _ _ _ => .bl) (sim_II fun _ _ _ _ => .bl) ha hb hc hm
theorem qtlele {tc : TEw} (ha : PEw X a ta) (hb : PEw X b tb) (hc : PEw X c tc) (hm : lastMarks [.LtE, .LtE] [b, c] = false := by with_unfolding_all rfl) : PTw X (.Compare a [.LtE, .LtE] [b, c] pos) (wTest (wChain wLe wLe ta tb tc)) :=
  qtchain op_le op_le (sim_II fun _ _ _ _ => .bl) (sim_II fun _ _ _ _ => .bl) ha hb hc hm
end
end WL

namespace WL
open PySem PySem.Spec PyProof.Rows L2
/-! ### tuples, lists -/
def wTup (t : TAw) : TEw := fun σ G Q => t σ G fun ws G1 => ws.length ≤ sizeLine ∧ Q (.tup ws) G1
/-- a new list, frozen at once -/
def wLst (t : TAw) : TEw := fun σ G Q => t σ G fun ws G1 => ws.length ≤ sizeLine ∧ Q (.lst ws) G1
/-- a new list that may be changed -/
def wLstM (t : TAw) : TEw := fun σ G Q => t σ G fun ws G1 => ws.length ≤ sizeLine ∧ ∀ p, G1 p = none → Q (.ref p) (gup G1 p (.lst ws))
def wIx : RW2 := fun x y G Q => match x, y with
  | .tup ws, .int i => isS (atI ws i) fun w => Q w G
  | .str z, .int i => z.length ≤ sizeLine ∧ isS (atI z.cps.toList i) fun c => Q (.str ⟨#[c]⟩) G
  | x, .int i => isS (asL G x) fun ws => isS (atI ws i) fun w => Q w G
  | _, _ => False
theorem ixN_len {n m : Nat} (e : n = m) (i : Int) : ixN n i = ixN m i := by rw [e]
section
variable {X : Cx} {K : PySem.W.Frag} {Z : Zp} {G : Gp} {H : Hp}
theorem RwL.atI {ws : List W} {vs : List V} (r : RwL K Z H ws vs) {i : Int} {w : W} (e : L2.atI ws i = some w) : ∃ v, L2.atI vs i = some v ∧ Rw K Z H w v := by
  unfold L2.atI at e ⊢
  rw [← r.length]
  cases q : ixN ws.length i with
  | none => rw [q] at e; cases e
  | some j =>
    rw [q] at e
    exact r.get j e
theorem sim_ix : Sim2 K (rIx K) wIx := by
  intro Z G H x y v u Qw Q h rx ry t k
  have gen : ∀ {i : Int}, (isS (asL G x) fun ws => isS (L2.atI ws i) fun w => Qw w G) → rIx K v (.int i) H Q := fun q => by
    obtain ⟨ws, e, q⟩ := isS_ex q
    obtain ⟨w, a, q⟩ := isS_ex q
    obtain ⟨p, vs, rfl, s, r⟩ := asL_sq h rx e
    obtain ⟨v', a', r'⟩ := r.atI a
    exact .inl ⟨p, vs, _, v', rfl, rfl, s, a', k.at h r' q⟩
  cases ry with
  | @int i =>
    cases rx with
    | @tup p ws vs s r =>
      obtain ⟨w, a, q⟩ := isS_ex t
      obtain ⟨v', a', r'⟩ := r.atI a
      exact .inr (.inl ⟨p, vs, _, v', rfl, rfl, s, a', k.at h r' q⟩)
    | str =>
      obtain ⟨l, t⟩ := t
      obtain ⟨c, a, q⟩ := isS_ex t
      exact .inr (.inr ⟨_, _, c, rfl, rfl, l, a, k.at h .str q⟩)
    | _ => exact gen t
  | _ => cases rx <;> exact False.elim t
variable {a b : Expr} {ta tb : TEw} {es : List Expr} {t : TAw} {pos : Pos}
theorem qtup {x1} (h : PAw X es t) : PEw X (.Tuple es x1 pos) (wTup t) := PE.imp (pe_tup h) fun σ H Q h => by
  obtain ⟨Z, σ', G, Qw, e, hr, t', k⟩ := h
  refine ⟨Z, σ', G, _, e, hr, t', fun Z1 G1 H1 ws vs x1 h1 r1 t1 => ⟨by rw [← r1.length]; exact t1.1, fun p n => ?_⟩⟩
  obtain ⟨h2, x2, r2⟩ := new_tup h1 n r1
  exact k Z1 G1 _ _ _ (x1.trans x2) h2 r2 t1.2
theorem qlst (h : PAw X es t) : PEw X (.List es pos) (wLst t) := PE.imp (pe_lst h) fun σ H Q h => by
  obtain ⟨Z, σ', G, Qw, e, hr, t', k⟩ := h
  refine ⟨Z, σ', G, _, e, hr, t', fun Z1 G1 H1 ws vs x1 h1 r1 t1 => ⟨by rw [← r1.length]; exact t1.1, fun p n => ?_⟩⟩
  obtain ⟨h2, x2, r2⟩ := new_frz h1 n r1
  exact k _ G1 _ _ _ (x1.trans x2) h2 r2 t1.2
theorem qlstM (h : PAw X es t) : PEw X (.List es pos) (wLstM t) := PE.imp (pe_lst h) fun σ H Q h => by
  obtain ⟨Z, σ', G, Qw, e, hr, t', k⟩ := h
  refine ⟨Z, σ', G, _, e, hr, t', fun Z1 G1 H1 ws vs x1 h1 r1 t1 => ⟨by rw [← r1.length]; exact t1.1, fun p n => ?_⟩⟩
  obtain ⟨g, h2, x2⟩ := new_lst h1 n r1
  exact k Z1 _ _ _ _ (x1.trans x2) h2 .ref (t1.2 p g)
theorem qix (ha : PEw X a ta) (hb : PEw X b tb) (hp : PlainIx b := by exact fun _ _ => rfl) : PEw X (.Subscript a b pos) (wOp wIx ta tb) := PE.imp (pe_ix ix_seq ha hb hp) fun _ _ _ h => lift2 sim_ix h
/-! ### calls of the built-in -/
def wLen : List W → Gp → QW → Prop := fun ws G Q => match ws with
  | [.tup us] => Q (.int us.length) G
  | [.str z] => z.length ≤ sizeLine ∧ Q (.int z.length) G
  | [x] => isS (asL G x) fun us => Q (.int us.length) G
  | _ => False
theorem sim_len : SimN K (fun xs H Q => ∃ x n, xs = [x] ∧ LenV K x H n ∧ Q (.int n) H) wLen := by
  intro Z G H ws vs Qw Q h r t k
  cases r with
  | nil => exact False.elim t
  | @cons w v ws vs rx rr =>
    cases rr with
    | cons _ _ => cases rx <;> exact False.elim t
    | nil =>
      have gen : (isS (asL G w) fun us => Qw (.int us.length) G) → ∃ x n, [v] = [x] ∧ LenV K x H n ∧ Q (.int n) H := fun q => by
        obtain ⟨us, e, q⟩ := isS_ex q
        obtain ⟨p, vs, rfl, s, r⟩ := asL_sq h rx e
        exact ⟨_, vs.length, rfl, .inl ⟨vs, s, rfl⟩, by rw [← r.length]; exact k.at h .int q⟩
      cases rx with
      | @tup p us vs s r => exact ⟨_, vs.length, rfl, .inr ⟨vs, s, rfl⟩, by rw [← r.length]; exact k.at h .int t⟩
      | str => exact ⟨_, _, rfl, ⟨t.1, rfl⟩, k.at h .int t.2⟩
      | _ => exact gen t
def wI1N (g : Int → W) : List W → Gp → QW → Prop := fun ws G Q => match ws with
  | [.int i] => Q (g i) G
  | _ => False
def wI2N (g : Int → Int → W) : List W → Gp → QW → Prop := fun ws G Q => match ws with
  | [.int i, .int j] => Q (g i j) G
  | _ => False
theorem sim_1N {g : Int → W} {g' : Int → V} (hg : ∀ i Z H, Rw K Z H (g i) (g' i)) : SimN K (fun xs H Q => ∃ i, xs = [.int i] ∧ Q (g' i) H) (wI1N g) := by
  intro Z G H ws vs Qw Q h r t k
  cases r with
  | nil => exact False.elim t
  | cons rx rr =>
    cases rr with
    | cons _ _ => cases rx <;> exact False.elim t
    | nil => cases rx <;> first
      | exact False.elim t
      | exact ⟨_, rfl, k.at h (hg _ _ _) t⟩
theorem sim_2N {g : Int → Int → W} {g' : Int → Int → V} (hg : ∀ i j Z H, Rw K Z H (g i j) (g' i j)) : SimN K (fun xs H Q => ∃ i j, xs = [.int i, .int j] ∧ Q (g' i j) H) (wI2N g) := by
  intro Z G H ws vs Qw Q h r t k
  cases r with
  | nil => exact False.elim t
  | cons rx rr =>
    cases rr with
    | nil => cases rx <;> exact False.elim t
    | cons ry rr =>
      cases rr with
      | cons _ _ => cases rx <;> cases ry <;> exact False.elim t
      | nil => cases rx <;> cases ry <;> first
        | exact False.elim t
        | exact ⟨_, _, rfl, k.at h (hg _ _ _ _) t⟩
variable {x : Str} {p : Pos} {e : Expr}
theorem qlen (hg : Gl X "len") (hm : X.mg "len" = none) (ha : PAw X (e :: es) t) (he : starEach (e :: es) X.env = (false, eval e X.env) :: starEach es X.env := by rfl) (hpl : (backTo pos (starEach es X.env)).any (·.1) = false := by rfl) :
    PEw X (.Call (.Name "len" p) (e :: es) [] pos) (wCB wLen t) := PE.imp (pe_callB call_len hg hm PySem.boot_len ha (by decide) (by decide) he hpl) fun _ _ _ h => liftN sim_len h
theorem qabs (hg : Gl X "abs") (hm : X.mg "abs" = none) (ha : PAw X (e :: es) t) (he : starEach (e :: es) X.env = (false, eval e X.env) :: starEach es X.env := by rfl) (hpl : (backTo pos (starEach es X.env)).any (·.1) = false := by rfl) :
    PEw X (.Call (.Name "abs" p) (e :: es) [] pos) (wCB (wI1N fun i => .int (if i < 0 then -i else i)) t) := PE.imp (pe_callB call_abs hg hm (by decide +kernel) ha (by decide) (by decide) he hpl) fun _ _ _ h => liftN (sim_1N fun _ _ _ => .int) h
theorem qmin2 (hc : X.calm = true) (hg : Gl X "min") (hm : X.mg "min" = none) (ha : PAw X (e :: es) t) (he : starEach (e :: es) X.env = (false, eval e X.env) :: starEach es X.env := by rfl) (hpl : (backTo pos (starEach es X.env)).any (·.1) = false := by rfl) :
    PEw X (.Call (.Name "min" p) (e :: es) [] pos) (wCB (wI2N fun i j => .int (if j < i then j else i)) t) := PE.imp (pe_callB (call_min2 hc) hg hm (by decide +kernel) ha (by decide) (by decide) he hpl) fun _ _ _ h => liftN (sim_2N fun _ _ _ _ => .int) h
theorem qmax2 (hc : X.calm = true) (hg : Gl X "max") (hm : X.mg "max" = none) (ha : PAw X (e :: es) t) (he : starEach (e :: es) X.env = (false, eval e X.env) :: starEach es X.env := by rfl) (hpl : (backTo pos (starEach es X.env)).any (·.1) = false := by rfl) :
    PEw X (.Call (.Name "max" p) (e :: es) [] pos) (wCB (wI2N fun i j => .int (if j > i then j else i)) t) := PE.imp (pe_callB (call_max2 hc) hg hm (by decide +kernel) ha (by decide) (by decide) he hpl) fun _ _ _ h => liftN (sim_2N fun _ _ _ _ => .int) h
def wInt : List W → Gp → QW → Prop := fun ws G Q => match ws with
  | [.int i] => Q (.int i) G
  | [.bl b] => Q (.int (if b then 1 else 0)) G
  | _ => False
theorem sim_int : SimN K (fun xs H Q => (∃ i, xs = [.int i] ∧ Q (.int i) H) ∨ ∃ k, xs = [.bl k] ∧ Q (.int (if k then 1 else 0)) H) wInt := by
  intro Z G H ws vs Qw Q h r t k
  cases r with
  | nil => exact False.elim t
  | cons rx rr =>
    cases rr with
    | cons _ _ => cases rx <;> exact False.elim t
    | nil => cases rx <;> first
      | exact False.elim t
      | exact .inl ⟨_, rfl, k.at h .int t⟩
      | exact .inr ⟨_, rfl, k.at h .int t⟩
theorem qint1 (hg : Gl X "int") (hm : X.mg "int" = none) (ha : PAw X (e :: es) t) (he : starEach (e :: es) X.env = (false, eval e X.env) :: starEach es X.env := by rfl) (hpl : (backTo pos (starEach es X.env)).any (·.1) = false := by rfl) :
    PEw X (.Call (.Name "int" p) (e :: es) [] pos) (wCB wInt t) := PE.imp (pe_callTy call_int1 hg hm (by decide +kernel) ha (by decide) (by decide) he hpl) fun _ _ _ h => liftN sim_int h
def wStrI : List W → Gp → QW → Prop := fun ws G Q => match ws with
  | [.int i] => i.natAbs.log2 < 1920 ∧ Q (.str (Str.ofString (toString i))) G
  | _ => False
theorem sim_strI : SimN K (fun xs H Q => ∃ i, xs = [V.int i] ∧ i.natAbs.log2 < 1920 ∧ Q (V.str (Str.ofString (toString i))) H) wStrI := by
  intro Z G H ws vs Qw Q h r t k
  cases r with
  | nil => exact False.elim t
  | cons rx rr =>
    cases rr with
    | cons _ _ => cases rx <;> exact False.elim t
    | nil => cases rx <;> first
      | exact False.elim t
      | exact ⟨_, rfl, t.1, k.at h .str t.2⟩
theorem qstrI (hg : Gl X "str") (hm : X.mg "str" = none) (ha : PAw X (e :: es) t) (he : starEach (e :: es) X.env = (false, eval e X.env) :: starEach es X.env := by rfl) (hpl : (backTo pos (starEach es X.env)).any (·.1) = false := by rfl) :
    PEw X (.Call (.Name "str" p) (e :: es) [] pos) (wCB wStrI t) := PE.imp (pe_callTy call_str_int hg hm (by decide +kernel) ha (by decide) (by decide) he hpl) fun _ _ _ h => liftN sim_strI h
end
/-! ### statements -/
def wNext : TSw := fun D σ G => D.nx σ G
def wSeq (t u : TSw) : TSw := fun D σ G => t { D with nx := u D } σ G
def wBreak : TSw := fun D σ G => D.bk σ G
def wCont : TSw := fun D σ G => D.ct σ G
def wDrop (te : TEw) : TSw := fun D σ G => te σ G fun _ G1 => D.nx σ G1
def wRet (te : TEw) : TSw := fun D σ G => te σ G D.rt
def wRetN : TSw := fun D _ G => D.rt .non G
def wIfS (c : TTw) (t u : TSw) : TSw := fun D σ G => c σ G fun b G1 => if b = true then t D σ G1 else u D σ G1
def wNever : TSw := fun _ _ _ => False
def gN (i : Nat) : TGw := fun w σ G Q => Q (sset σ i w) G
def gsN : TGsw := fun ws σ G Q => match ws with
  | [] => Q σ G
  | _ => False
def gsC (t : TGw) (u : TGsw) : TGsw := fun ws σ G Q => match ws with
  | w :: r => t w σ G fun σ1 G1 => u r σ1 G1 Q
  | [] => False
def gT (n : Nat) (t : TGsw) : TGw := fun w σ G Q => match w with
  | .tup ws => ws.length = n ∧ t ws σ G Q
  | .lst ws => ws.length = n ∧ t ws σ G Q
  | .ref p => isG (G p) fun ws => ws.length = n ∧ t ws σ G Q
  | _ => False
def setIx (o i w : W) (G : Gp) (Q : Gp → Prop) : Prop := match o, i with
  | .ref p, .int k => isG (G p) fun ws => isS (ixN ws.length k) fun j => Q (gup G p (.lst (ws.set j w)))
  | _, _ => False
theorem setIx_ex {o i w : W} {G : Gp} {Q : Gp → Prop} (h : setIx o i w G Q) : ∃ p k ws j, o = .ref p ∧ i = .int k ∧ G p = some (.lst ws) ∧ ixN ws.length k = some j ∧ Q (gup G p (.lst (ws.set j w))) := by
  unfold setIx at h
  split at h
  · obtain ⟨ws, g, h⟩ := isG_ex h
    obtain ⟨j, e, h⟩ := isS_ex h
    exact ⟨_, _, ws, j, rfl, rfl, g, e, h⟩
  · exact h.elim
def gIx (to ti : TEw) : TGw := fun w σ G Q => to σ G fun o G1 => ti σ G1 fun i G2 => setIx o i w G2 (Q σ)
def wAsg (te : TEw) (g : TGw) : TSw := fun D σ G => te σ G fun w G1 => g w σ G1 D.nx
def wPar (i j : Nat) (t : TAw) : TSw := fun D σ G => t σ G fun ws G1 => match ws with
  | [a, b] => D.nx (sset (sset σ i a) j b) G1
  | _ => False
def wAug (i : Nat) (te : TEw) (r : RW2) : TSw := fun D σ G => isS (slot σ i) fun x => te σ G fun y G1 => r x y G1 fun z G2 => D.nx (sset σ i z) G2
section
variable {X : Cx} {K : PySem.W.Frag} {st : Stmt} {rest : List Stmt} {t u : TSw} {e : Expr} {te : TEw} {pos : Pos}
theorem qs_nil : PSsw X [] wNext := PSs.imp pss_nil fun D σ H h => by
  obtain ⟨Z, σ', G, Dw, e, hr, t, k⟩ := h
  exact k.nx Z G H σ' σ Ext.refl hr e t
theorem qs_cons (h1 : PSw X st t) (h2 : PSsw X rest u) : PSsw X (st :: rest) (wSeq t u) := PSs.imp (pss_cons h1 h2) fun D σ H h => by
  obtain ⟨Z, σ', G, Dw, e, hr, t, k⟩ := h
  exact ⟨Z, σ', G, _, e, hr, t, ⟨fun Z1 G1 H1 s1 s2 x1 h1 r1 q => ⟨Z1, s1, G1, Dw, r1, h1, q, k.mono x1⟩, k.rt, k.bk, k.ct, k.ex⟩⟩
theorem qs_one (h1 : PSw X st t) : PSsw X [st] t := pss_one h1
theorem qpass : PSw X (.Pass pos) wNext := PS.imp ps_pass fun D σ H h => by
  obtain ⟨Z, σ', G, Dw, e, hr, t, k⟩ := h
  exact k.nx Z G H σ' σ Ext.refl hr e t
theorem qdoc {x j pos pos'} : PSw X (.Expr (.Constant (.str x) j pos) pos') wNext := PS.imp ps_doc fun D σ H h => by
  obtain ⟨Z, σ', G, Dw, e, hr, t, k⟩ := h
  exact k.nx Z G H σ' σ Ext.refl hr e t
theorem qbreak : PSw X (.Break pos) wBreak := PS.imp ps_break fun D σ H h => by
  obtain ⟨Z, σ', G, Dw, e, hr, t, k⟩ := h
  exact k.bk Z G H σ' σ Ext.refl hr e t
theorem qcont : PSw X (.Continue pos) wCont := PS.imp ps_continue fun D σ H h => by
  obtain ⟨Z, σ', G, Dw, e, hr, t, k⟩ := h
  exact k.ct Z G H σ' σ Ext.refl hr e t
theorem qexpr (he : PEw X e te) (hs : swapsWith e none pos.line X.env = pure false := by rfl) : PSw X (.Expr e pos) (wDrop te) := PS.imp (ps_expr he hs) fun D σ H h => by
  obtain ⟨Z, σ', G, Dw, e, hr, t, k⟩ := h
  exact ⟨Z, σ', G, _, e, hr, t, fun Z1 G1 H1 w v x1 h1 r1 q => k.nx Z1 G1 H1 σ' σ x1 h1 (e.ext hr x1) q⟩
theorem qret (he : PEw X e te) : PSw X (.Return (some e) pos) (wRet te) := PS.imp (ps_ret he) fun D σ H h => by
  obtain ⟨Z, σ', G, Dw, e, hr, t, k⟩ := h
  exact ⟨Z, σ', G, _, e, hr, t, k.rt⟩
theorem qretN : PSw X (.Return none pos) wRetN := PS.imp ps_retN fun D σ H h => by
  obtain ⟨Z, σ', G, Dw, e, hr, t, k⟩ := h
  exact k.rt.at hr .non t
theorem qif {c : Expr} {a b : List Stmt} {tc : TTw} (hc : PTw X c tc) (ha : PSsw X a t) (hb : PSsw X b u) : PSw X (.If c a b pos) (wIfS tc t u) := PS.imp (ps_if hc ha hb) fun D σ H h => by
  obtain ⟨Z, σ', G, Dw, e, hr, t, k⟩ := h
  refine ⟨Z, σ', G, _, e, hr, t, fun Z1 G1 H1 b x1 h1 q => ?_⟩
  cases b with
  | true => exact ⟨Z1, σ', G1, Dw, e.ext hr x1, h1, q, k.mono x1⟩
  | false => exact ⟨Z1, σ', G1, Dw, e.ext hr x1, h1, q, k.mono x1⟩
theorem qnever : PSw X st wNever := PS.imp ps_never fun D σ H h => by
  obtain ⟨Z, σ', G, Dw, e, hr, t, k⟩ := h
  exact t
theorem qs_never {sts : List Stmt} : PSsw X sts wNever := PSs.imp pss_never fun D σ H h => by
  obtain ⟨Z, σ', G, Dw, e, hr, t, k⟩ := h
  exact t
theorem lgN {i : Nat} {v : V} {σ : SV} {H : Hp} {Q : SV → Hp → Prop} (h : liftG K (gN i) v σ H Q) : gName i v σ H Q := by
  obtain ⟨Z, σ', G, w, Qw, e, hr, r, t, k⟩ := h
  exact k Z G H _ _ Ext.refl hr (e.set r i) t
theorem qgN {i : Nat} {x : Str} (hN : X.N.Nodup) (hi : X.N[i]? = some x) (hx : Loc X.env.scope x := by first | exact Or.inl rfl | exact Or.inr rfl) (hf : X.fn x = true ∨ X.env.scope.names.lookup x = some .local := by first | exact .inl rfl | exact .inr rfl | assumption) : PGw X (.Name x pos) (gN i) :=
  PG.imp (pg_name hN hi hx hf) fun _ _ _ _ h => lgN h
theorem qgs_nil : PGsw X [] gsN := PGs.imp pgs_nil fun vs σ H Q h => by
  obtain ⟨Z, σ', G, ws, Qw, e, hr, r, t, k⟩ := h
  cases r with
  | nil => exact ⟨rfl, k Z G H _ _ Ext.refl hr e t⟩
  | cons _ _ => exact False.elim t
theorem qgs_cons {e : Expr} {es : List Expr} {t : TGw} {u : TGsw} (h1 : PGw X e t) (h2 : PGsw X es u)
    (hs : (assignEach (e :: es) X.env).map (·.2) = assign e X.env :: (assignEach es X.env).map (·.2) := by rfl) : PGsw X (e :: es) (gsC t u) := PGs.imp (pgs_cons h1 h2 hs) fun vs σ H Q h => by
  obtain ⟨Z, σ', G, ws, Qw, e, hr, r, t, k⟩ := h
  cases r with
  | nil => exact False.elim t
  | @cons w v us vs r rr =>
    refine ⟨_, _, rfl, Z, σ', G, w, _, e, hr, r, t, fun Z1 G1 H1 s1 s2 x1 h1 r1 q1 => ?_⟩
    exact ⟨Z1, s1, G1, us, Qw, r1, h1, rr.ext hr x1, q1, k.mono x1⟩
theorem PG.or {e : Expr} {t u : TG} (h1 : PG X e t) (h2 : PG X e u) : PG X e (fun v σ H Q => t v σ H Q ∨ u v σ H Q) := ⟨fun pins s σ H v x Q I r q => q.elim (fun q => h1.run pins s σ H v x Q I r q) (fun q => h2.run pins s σ H v x Q I r q)⟩
theorem qgT {es : List Expr} {k : Nat} {t : TGsw} {n : Nat} (hc : X.calm = true) (h : PGsw X es t)
    (hn : (assignEach es X.env).length = n := by rfl) (hst : (assignEach es X.env).findIdx? (·.1) = none := by rfl) : PGw X (.Tuple es k pos) (gT n t) := PG.imp (PG.or (pg_tup hc h hn hst) (pg_lst hc h hn hst)) fun v σ H Q h => by
  obtain ⟨Z, σ', G, w, Qw, e, hr, r, t, k⟩ := h
  cases r with
  | tup s r => exact .inl ⟨_, _, rfl, s, by rw [← r.length]; exact t.1, Z, σ', G, _, Qw, e, hr, r, t.2, k⟩
  | lst z s r => exact .inr ⟨_, _, rfl, SqL.of s, by rw [← r.length]; exact t.1, Z, σ', G, _, Qw, e, hr, r, t.2, k⟩
  | @ref p =>
    obtain ⟨ws, g, t1, t2⟩ := isG_ex t
    obtain ⟨vs, s, r⟩ := hr.lst g
    exact .inr ⟨_, _, rfl, SqL.of s, by rw [← r.length]; exact t1, Z, σ', G, _, Qw, e, hr, r, t2, k⟩
  | _ => exact False.elim t
theorem qgIx {o i : Expr} {to ti : TEw} (ho : PEw X o to) (hi : PEw X i ti)
    (ha : ∀ v, assign (.Subscript o i pos) X.env v = (do
      let ov ← holding [v] (eval o X.env)
      let iv ← holding [v, ov] (eval i X.env)
      standAt pos
      holding [v, ov, iv] (setItem ov iv v)
      release [v, ov, iv] []) := by intro _; rfl) : PGw X (.Subscript o i pos) (gIx to ti) := PG.imp (pg_sub ho hi set_list ha) fun v σ H Q h => by
  obtain ⟨Z, σ', G, w, Qw, e, hr, r, t, k⟩ := h
  refine ⟨Z, σ', G, _, e, hr, t, fun Z1 G1 H1 ow ov x1 h1 r1 t1 => ⟨Z1, σ', G1, _, e.ext hr x1, h1, t1, fun Z2 G2 H2 iw iv x2 h2 r2 t2 => ?_⟩⟩
  obtain ⟨p, kk, ws, j, rfl, rfl, g, l, q⟩ := setIx_ex t2
  cases r1
  cases r2
  obtain ⟨vs, e2, rr⟩ := h2.lst g
  obtain ⟨h3, x3⟩ := chg_lst h2 g (((r.ext hr (x1.trans x2)) : Rw _ _ _ w v) |> fun r => RwL.set r j rr)
  refine ⟨p, vs, kk, j, rfl, rfl, e2, by rw [← rr.length]; exact l, ?_⟩
  exact k Z2 _ _ _ _ ((x1.trans x2).trans x3) h3 ((e.ext hr (x1.trans x2)).ext h2 x3) q
theorem qasg {tg : Expr} {g : TGw} (he : PEw X e te) (hg : PGw X tg g) (hs : swapsWithSole [tg] e pos.line X.env = pure false := by rfl) (hw : swappedStores [tg] e X.env = pure none := by rfl)
    (h1 : (assignEach [tg] X.env).map (·.2) = [assign tg X.env] := by rfl) : PSw X (.Assign [tg] e pos) (wAsg te g) := PS.imp (ps_asg he hg hs hw h1) fun D σ H h => by
  obtain ⟨Z, σ', G, Dw, e, hr, t, k⟩ := h
  exact ⟨Z, σ', G, _, e, hr, t, fun Z1 G1 H1 w v x1 h1 r1 q => ⟨Z1, σ', G1, w, _, e.ext hr x1, h1, r1, q, k.nx.mono x1⟩⟩
theorem qset {i : Nat} {x : Str} {pos' : Pos} (hN : X.N.Nodup) (hi : X.N[i]? = some x) (hx : Loc X.env.scope x := by first | exact Or.inl rfl | exact Or.inr rfl) (he : PEw X e te) (hs : swapsWith e (some (.Name x pos')) pos.line X.env = pure false := by rfl) (hf : X.fn x = true ∨ X.env.scope.names.lookup x = some .local := by first | exact .inl rfl | exact .inr rfl | assumption) :
    PSw X (.Assign [.Name x pos'] e pos) (wAsg te (gN i)) := PS.imp (ps_set hN hi hx he hs hf) fun D σ H h => by
  obtain ⟨Z, σ', G, Dw, e, hr, t, k⟩ := h
  exact ⟨Z, σ', G, _, e, hr, t, fun Z1 G1 H1 w v x1 h1 r1 q => lgN ⟨Z1, σ', G1, w, _, e.ext hr x1, h1, r1, q, k.nx.mono x1⟩⟩
theorem qpar {i j : Nat} {x y : Str} {a b : Expr} {ta : TAw} {px py pt : Pos} {kt k2 pt2} (hc : X.calm = true) (hN : X.N.Nodup) (hi : X.N[i]? = some x) (hj : X.N[j]? = some y) (hij : i ≠ j)
    (hx : X.env.scope.names.lookup x = some .local) (hy : X.env.scope.names.lookup y = some .local) (ha : PAw X [a, b] ta)
    (hw : swappedStores [.Tuple [.Name x px, .Name y py] kt pt] (.Tuple [a, b] k2 pt2) X.env = pure (some [x, y]))
    (hs : swapsWithSole [.Tuple [.Name x px, .Name y py] kt pt] (.Tuple [a, b] k2 pt2) pos.line X.env = pure false := by rfl) :
    PSw X (.Assign [.Tuple [.Name x px, .Name y py] kt pt] (.Tuple [a, b] k2 pt2) pos) (wPar i j ta) := PS.imp (ps_par hc hN hi hj hij hx hy ha hw hs) fun D σ H h => by
  obtain ⟨Z, σ', G, Dw, e, hr, t, k⟩ := h
  refine ⟨Z, σ', G, _, e, hr, t, fun Z1 G1 H1 ws vs x1 h1 r1 q => ?_⟩
  cases r1 with
  | nil => exact False.elim q
  | cons ra r1 =>
    cases r1 with
    | nil => exact False.elim q
    | cons rb r1 =>
      cases r1 with
      | cons _ _ => exact False.elim q
      | nil =>
      exact ⟨_, _, rfl, k.nx Z1 G1 H1 _ _ x1 h1 (((e.ext hr x1).set ra i).set rb j) q⟩
/-- name op= e -/
theorem qaug {i : Nat} {x : Str} {op : Operator} {ti : TIp} {wr : RW2} {pos' : Pos} (hN : X.N.Nodup) (hi : X.N[i]? = some x) (hx : Loc X.env.scope x := by first | exact Or.inl rfl | exact Or.inr rfl) (he : PEw X e te) (ho : PIp X op ti) (hs : Sim2 X.K ti wr) (hf : X.fn x = true ∨ X.env.scope.names.lookup x = some .local := by first | exact .inl rfl | exact .inr rfl | assumption) :
    PSw X (.AugAssign (.Name x pos') op e pos) (wAug i te wr) := PS.imp (ps_aug hN hi hx he ho hf) fun D σ H h => by
  obtain ⟨Z, σ', G, Dw, e, hr, t, k⟩ := h
  obtain ⟨xw, es, t⟩ := isS_ex t
  obtain ⟨xv, ev, rx⟩ := e.get i es
  refine ⟨xv, ev, Z, σ', G, _, e, hr, t, fun Z1 G1 H1 w v x1 h1 r1 q => ?_⟩
  exact hs Z1 G1 H1 xw w xv v _ _ h1 (rx.ext hr x1) r1 q fun Z2 G2 H2 z zv x2 h2 r2 q2 => k.nx Z2 G2 H2 _ _ (x1.trans x2) h2 ((e.ext hr (x1.trans x2)).set r2 i) q2
abbrev wAddI : RW2 := wII fun i j => .int (i + j)
theorem sim_ip {g : Int → Int → Int} : Sim2 K (ipI g) (wII fun i j => .int (g i j)) := by
  intro Z G H x y v u Qw Q h rx ry t k
  cases rx <;> cases ry <;> first
    | exact False.elim t
    | exact ⟨_, _, rfl, rfl, k.at h .int t⟩
theorem qaugA {i : Nat} {x : Str} {pos' : Pos} (hN : X.N.Nodup) (hi : X.N[i]? = some x) (hx : Loc X.env.scope x := by first | exact Or.inl rfl | exact Or.inr rfl) (he : PEw X e te) (hf : X.fn x = true ∨ X.env.scope.names.lookup x = some .local := by first | exact .inl rfl | exact .inr rfl | assumption) : PSw X (.AugAssign (.Name x pos') .Add e pos) (wAug i te wAddI) := qaug hN hi hx he ip_add sim_ip hf
theorem qaugS {i : Nat} {x : Str} {pos' : Pos} (hN : X.N.Nodup) (hi : X.N[i]? = some x) (hx : Loc X.env.scope x := by first | exact Or.inl rfl | exact Or.inr rfl) (he : PEw X e te) (hf : X.fn x = true ∨ X.env.scope.names.lookup x = some .local := by first | exact .inl rfl | exact .inr rfl | assumption) : PSw X (.AugAssign (.Name x pos') .Sub e pos) (wAug i te wSub) := qaug hN hi hx he ip_sub sim_ip hf
end
end WL

namespace WL
open PySem PySem.Spec PyProof.Rows L2
/-! ### while -/
def wWhile (ks : List Bool) (c : TTw) (tb : TSw) : TSw := fun D σ G => ∃ P : Nat → SW → Gp → Prop, (∃ m, P m (skill σ ks) G) ∧ ∀ m σ G, P m σ G →
  c σ G fun b G1 => if b = true then tb { nx := fun σ' G' => ∃ m', m' < m ∧ P m' (skill σ' ks) G', ct := fun σ' G' => ∃ m', m' < m ∧ P m' (skill σ' ks) G', bk := D.nx, rt := D.rt, ex := D.ex } σ G1 else D.nx σ G1
section
variable {X : Cx} {K : PySem.W.Frag} {pos : Pos}
theorem lwhile {ks : List Bool} {c : TTw} {tb : TSw} {D : Ends} {σ : SV} {H : Hp} (h : liftS X (wWhile ks c tb) D σ H) : tWhile (liftT X.K c) (liftS X tb) D σ H := by
  obtain ⟨Z, σ', G, Dw, e, hr, ⟨P, ⟨m0, p0⟩, step⟩, k⟩ := h
  refine ⟨fun m σ1 H1 => ∃ Z1 σ1' G1, Ext Z G H Z1 G1 H1 ∧ HRel X.K Z1 G1 H1 ∧ RwS X.K Z1 H1 σ1' σ1 ∧ P m σ1' G1, ⟨m0, Z, _, G, Ext.refl, hr, e.kill ks, p0⟩, ?_⟩
  rintro m σ1 H1 ⟨Z1, σ1', G1, x1, h1, e1, p1⟩
  refine ⟨Z1, σ1', G1, _, e1, h1, step m σ1' G1 p1, fun Z2 G2 H2 b x2 h2 q => ?_⟩
  cases b with
  | false => exact k.nx Z2 G2 H2 _ _ (x1.trans x2) h2 (e1.ext h1 x2) q
  | true =>
    refine iteT ⟨fun σ' H' => ∃ m', m' < m ∧ ∃ Z1 σ1' G1, Ext Z G H Z1 G1 H' ∧ HRel X.K Z1 G1 H' ∧ RwS X.K Z1 H' σ1' σ' ∧ P m' σ1' G1, fun σ' H' n => n, ?_⟩
    refine ⟨Z2, σ1', G2, _, e1.ext h1 x2, h2, q, ⟨fun Z3 G3 H3 s3 t3 x3 h3 e3 q3 => ?_, k.rt.mono (x1.trans x2), k.nx.mono (x1.trans x2), fun Z3 G3 H3 s3 t3 x3 h3 e3 q3 => ?_, k.ex.mono (x1.trans x2)⟩⟩
    · obtain ⟨m', hm, p3⟩ := q3
      exact ⟨m', hm, Z3, _, G3, (x1.trans x2).trans x3, h3, e3.kill ks, p3⟩
    · obtain ⟨m', hm, p3⟩ := q3
      exact ⟨m', hm, Z3, _, G3, (x1.trans x2).trans x3, h3, e3.kill ks, p3⟩
theorem qwhile {ks : List Bool} {c : Expr} {body : List Stmt} {tc : TTw} {tb : TSw} (hp : PassesOwn (model X.prog X.w) X.A X.env X.xe) (hc : PTw X c tc) (hb : PSsw X body tb) : PSw X (.While c body [] pos) (wWhile ks tc tb) :=
  PS.imp (ps_while hp hc hb) fun _ _ _ h => lwhile h
end
/-! ### for -/
/-- the turns bring these values, whatever the loop does to what is tracked -/
def WalkW (K : PySem.W.Frag) (J : It) (Z : Zp) (G : Gp) (H : Hp) (ws : List W) : Prop := ∃ (Gd : Hp → Prop) (Y : Nat → Hp → V → Hp → Prop), Walk J ws.length Gd Y ∧
  ∀ Z' G' H', Ext Z G H Z' G' H' → HRel K Z' G' H' → Gd H' ∧ ∀ i v H'', i < ws.length → Y i H' v H'' → ∃ w, ws[i]? = some w ∧ Rw K Z' H'' w v ∧ Ext Z' G' H' Z' G' H'' ∧ HRel K Z' G' H''
abbrev TIw := SW → Gp → (List W → Gp → Prop) → Prop
def liftI (K : PySem.W.Frag) (t : TIw) : TI := fun σ H R => ∃ Z σ' G Rw', RwS K Z H σ' σ ∧ HRel K Z G H ∧ t σ' G Rw' ∧ ∀ Z' G' H' ws J, Ext Z G H Z' G' H' → HRel K Z' G' H' → WalkW K J Z' G' H' ws → Rw' ws G' → R J H'
def PIw (X : Cx) (tg iter : Expr) (t : TIw) : Prop := PI X tg iter (liftI X.K t)
def forW (ks : List Bool) (g : TGw) (tb : TSw) : List W → TSw
  | [], D, σ, G => D.nx σ G
  | w :: ws, D, σ, G => g w σ G fun σ1 G1 => tb { nx := fun σ2 G2 => forW ks g tb ws D (skill σ2 ks) G2, ct := fun σ2 G2 => forW ks g tb ws D (skill σ2 ks) G2, bk := D.nx, rt := D.rt, ex := D.ex } σ1 G1
def wFor (ks : List Bool) (ti : TIw) (g : TGw) (tb : TSw) : TSw := fun D σ G => ti σ G fun ws G1 => forW ks g tb ws D (skill σ ks) G1
section
variable {X : Cx} {K : PySem.W.Frag} {pos : Pos}
theorem PI.imp {tg iter : Expr} {t t' : TI} (h : PI X tg iter t) (i : ∀ σ H R, t' σ H R → t σ H R) : PI X tg iter t' := ⟨fun pins s σ H R I q => h.run pins s σ H R I (i _ _ _ q)⟩
theorem lfor {ks : List Bool} {ti : TIw} {g : TGw} {tb : TSw} {D : Ends} {σ : SV} {H : Hp} (h : liftS X (wFor ks ti g tb) D σ H) : tFor (liftI X.K ti) (liftG X.K g) (liftS X tb) D σ H := by
  obtain ⟨Z, σ', G, Dw, e, hr, t, k⟩ := h
  refine ⟨Z, σ', G, _, e, hr, t, fun Z1 G1 H1 ws J x1 h1 ⟨Gd, Y, wk, hY⟩ t1 => ?_⟩
  refine for_it wk (fun i σ2 H2 => ∃ Z2 σ2' G2, Ext Z1 G1 H1 Z2 G2 H2 ∧ HRel X.K Z2 G2 H2 ∧ RwS X.K Z2 H2 σ2' σ2 ∧ forW ks g tb (ws.drop i) Dw σ2' G2) ?_ ?_ ?_ ?_
  · exact ⟨Z1, _, G1, Ext.refl, h1, (e.ext hr x1).kill ks, t1⟩
  · rintro i σ2 H2 _ ⟨Z2, σ2', G2, x2, h2, _, _⟩
    exact (hY Z2 G2 H2 x2 h2).1
  · rintro i v σ2 H2 H3 hi ⟨Z2, σ2', G2, x2, h2, e2, t2⟩ y
    obtain ⟨w, ew, rw', x3, h3⟩ := (hY Z2 G2 H2 x2 h2).2 i v H3 hi y
    have ed : ws.drop i = w :: ws.drop (i + 1) := by
      obtain ⟨hl, e⟩ := List.getElem?_eq_some_iff.mp ew
      rw [← e]; exact List.drop_eq_getElem_cons hl
    rw [ed] at t2
    refine ⟨Z2, σ2', G2, w, _, e2.ext h2 x3, h3, rw', t2, fun Z4 G4 H4 s4 t4 x4 h4 e4 q4 => ?_⟩
    have x24 := (x2.trans x3).trans x4
    have xx := x1.trans x24
    exact ⟨Z4, s4, G4, _, e4, h4, q4, ⟨fun Z5 G5 H5 s5 t5 x5 h5 e5 q5 => ⟨Z5, _, G5, x24.trans x5, h5, e5.kill ks, q5⟩, k.rt.mono xx, k.nx.mono xx, fun Z5 G5 H5 s5 t5 x5 h5 e5 q5 => ⟨Z5, _, G5, x24.trans x5, h5, e5.kill ks, q5⟩, k.ex.mono xx⟩⟩
  · rintro σ2 H2 ⟨Z2, σ2', G2, x2, h2, e2, t2⟩
    rw [List.drop_length] at t2
    exact k.nx Z2 G2 H2 _ _ (x1.trans x2) h2 e2 t2
theorem qfor {ks : List Bool} {tg iter : Expr} {body : List Stmt} {ti : TIw} {g : TGw} {tb : TSw} (hp : PassesOwn (model X.prog X.w) X.A X.env X.xe) (hc : X.calm = true) (hi : PIw X tg iter ti) (hg : PGw X tg g) (hb : PSsw X body tb)
    (hs : ∀ x, foldedSetIterable iter X.env x = pure x := by intro _; rfl) : PSw X (.For tg iter body [] pos) (wFor ks ti g tb) := PS.imp (ps_for hp hc hi hg hb hs) fun _ _ _ h => lfor h
/-! what is walked -/
variable {tg : Expr} {te : TEw} {ta : TAw}
/-- a tuple or a list that stays as it is (a list of the small heap is frozen) -/
def iSeqW (te : TEw) : TIw := fun σ G R => te σ G fun w G1 => match w with
  | .tup ws => R ws G1
  | .lst ws => R ws G1
  | .scr ws => R ws G1
  | .ref p => isG (G1 p) fun ws => R ws (gdel G1 p)
  | _ => False
def iSeq (K : PySem.W.Frag) (tl : TE) : TI := fun σ H R => tl σ H fun x H1 => (∃ a, x = .ref a ∧ (∃ xs, SqL K H1 a xs) ∧ R (Itl K a) H1) ∨ (∃ a, x = .ref a ∧ (∃ xs, SqT K H1 a xs) ∧ R (Itt K a) H1)
theorem pi_seq {l : Expr} {tl : TE} (hl : PE X l tl) : PI X tg l (iSeq X.K tl) := by
  refine ⟨fun pins s σ H R I h => ?_⟩
  have two : ∀ v s1, EP X pins σ (fun x H1 => (∃ a, x = .ref a ∧ (∃ xs, SqL X.K H1 a xs) ∧ R (Itl X.K a) H1) ∨ (∃ a, x = .ref a ∧ (∃ xs, SqT X.K H1 a xs) ∧ R (Itt X.K a) H1)) v s1 →
      EP X pins σ (fun x H1 => ∃ a, x = .ref a ∧ (∃ xs, SqL X.K H1 a xs) ∧ R (Itl X.K a) H1) v s1 ∨ EP X pins σ (fun x H1 => ∃ a, x = .ref a ∧ (∃ xs, SqT X.K H1 a xs) ∧ R (Itt X.K a) H1) v s1 := fun v s1 ⟨x, H1, I1, r1, q⟩ => by
    rcases q with q | q
    · exact .inl ⟨x, H1, I1, r1, q⟩
    · exact .inr ⟨x, H1, I1, r1, q⟩
  -- the two rules of the layer, each over an expression that is already evaluated
  refine thn (hl.run pins s σ H _ I h) fun v s1 q => ?_
  rcases two v s1 q with ⟨x, H1, I1, r1, a, rfl, ⟨xs, hq⟩, q1⟩ | ⟨x, H1, I1, r1, a, rfl, ⟨xs, hq⟩, q1⟩
  · cases r1
    obtain ⟨its, _, pl, _⟩ := I1.list hq
    refine wpAny_pyIter_list pl.isList ⟨_, [s1.heap.objs.size], _, _, H1, rfl, I1.kept (t' := s1.toks) (fun b o e => Heap.get?_push_of_some _ e), turn_list a _, ⟨_, Heap.get?_push_size _ rfl, rfl, rfl⟩, ?_, q1⟩
    intro b hb
    rw [List.mem_singleton.mp hb]
    exact I1.fpOk (Nat.le_refl _) (I1.hok.fresh (Nat.le_refl _))
  · cases r1
    obtain ⟨its, _, pl, _⟩ := I1.tuple hq
    refine wpAny_pyIter_tuple (show s1.heap.IsTuple a its.toArray from pl) ⟨_, [s1.heap.objs.size], _, _, H1, rfl, I1.kept (t' := s1.toks) (fun b o e => Heap.get?_push_of_some _ e), turn_tuple a _, ⟨_, Heap.get?_push_size _ rfl, rfl, rfl⟩, ?_, q1⟩
    intro b hb
    rw [List.mem_singleton.mp hb]
    exact I1.fpOk (Nat.le_refl _) (I1.hok.fresh (Nat.le_refl _))
theorem walkT {Z : Zp} {G : Gp} {H : Hp} {a : Addr} {ws : List W} {vs : List V} (h : HRel K Z G H) (s : SqT K H a vs) (r : RwL K Z H ws vs) : WalkW K (Itt K a) Z G H ws := by
  refine ⟨_, _, by rw [r.length]; exact walk_tup (K := K) (a := a) (xs := vs), fun Z' G' H' x h' => ⟨SqT.ext h x s, fun i v H'' hi y => ?_⟩⟩
  obtain ⟨rfl, ev⟩ := y
  obtain ⟨w, ew, rw'⟩ := (r.ext h x).get' i ev
  exact ⟨w, ew, rw', Ext.refl, h'⟩
theorem walkL {Z : Zp} {G : Gp} {H : Hp} {a : Addr} {ws : List W} {vs : List V} (h : HRel K Z G H) (z : Z a) (s : H a = some (.lst vs)) (r : RwL K Z H ws vs) : WalkW K (Itl K a) Z G H ws := by
  refine ⟨_, _, by rw [r.length]; exact walk_list (K := K) (a := a) (xs := vs), fun Z' G' H' x h' => ⟨SqL.of (x.f a _ s (h.z a z).1).1, fun i v H'' hi y => ?_⟩⟩
  obtain ⟨rfl, ev⟩ := y
  obtain ⟨w, ew, rw'⟩ := (r.ext h x).get' i ev
  exact ⟨w, ew, rw', Ext.refl, h'⟩
theorem walkS {Z : Zp} {G : Gp} {H : Hp} {a : Addr} {ws : List W} {vs : List V} (h : HRel K Z G H) (s : SqF K H a vs) (r : RwL K Z H ws vs) : WalkW K (Itl K a) Z G H ws := by
  refine ⟨_, _, by rw [r.length]; exact walk_list (K := K) (a := a) (xs := vs), fun Z' G' H' x h' => ⟨(s.ext h x).sq, fun i v H'' hi y => ?_⟩⟩
  obtain ⟨rfl, ev⟩ := y
  obtain ⟨w, ew, rw'⟩ := (r.ext h x).get' i ev
  exact ⟨w, ew, rw', Ext.refl, h'⟩
theorem qiseq {l : Expr} (hl : PEw X l te) : PIw X tg l (iSeqW te) := PI.imp (pi_seq hl) fun σ H R h => by
  obtain ⟨Z, σ', G, Qw, e, hr, t, k⟩ := h
  refine ⟨Z, σ', G, _, e, hr, t, fun Z1 G1 H1 w v x1 h1 r1 t1 => ?_⟩
  cases r1 with
  | tup s r => exact .inr ⟨_, rfl, ⟨_, s⟩, k Z1 G1 H1 _ _ x1 h1 (walkT h1 s r) t1⟩
  | lst z s r => exact .inl ⟨_, rfl, ⟨_, SqL.of s⟩, k Z1 G1 H1 _ _ x1 h1 (walkL h1 z s r) t1⟩
  | scr s r => exact .inl ⟨_, rfl, ⟨_, s.sq⟩, k Z1 G1 H1 _ _ x1 h1 (walkS h1 s r) t1⟩
  | @ref p =>
    obtain ⟨ws, g, q⟩ := isG_ex t1
    obtain ⟨vs, s, r⟩ := h1.lst g
    obtain ⟨h2, x2⟩ := h1.freeze (p := p) (by rw [g]; simp)
    exact .inl ⟨_, rfl, ⟨_, SqL.of s⟩, k _ _ H1 _ _ (x1.trans x2) h2 (walkL h2 (.inr rfl) s (r.ext h1 x2)) q⟩
  | _ => exact False.elim t1
def rangeW (lo : Int) (n : Nat) : List W := (List.range n).map fun i => W.int (lo + (i : Nat))
theorem walkR {Z : Zp} {G : Gp} {H : Hp} {lo : Int} {n : Nat} : WalkW K (Itr lo n) Z G H (rangeW lo n) := by
  refine ⟨_, _, by unfold rangeW; rw [List.length_map, List.length_range]; exact walk_range, fun Z' G' H' x h' => ⟨trivial, fun i v H'' hi y => ?_⟩⟩
  obtain ⟨rfl, rfl⟩ := y
  unfold rangeW at hi ⊢
  rw [List.length_map, List.length_range] at hi
  exact ⟨.int (lo + i), by rw [List.getElem?_map, List.getElem?_range hi]; rfl, .int, Ext.refl, h'⟩
def rng1 (ws : List W) (G : Gp) (R : List W → Gp → Prop) : Prop := match ws with
  | [.int j] => j < 4611686018427387904 ∧ -4611686018427387904 ≤ j ∧ R (rangeW 0 j.toNat) G
  | _ => False
def rng2 (ws : List W) (G : Gp) (R : List W → Gp → Prop) : Prop := match ws with
  | [.int i, .int j] => (-4611686018427387904 ≤ i ∧ i < 4611686018427387904 ∧ -4611686018427387904 ≤ j ∧ j < 4611686018427387904) ∧ R (rangeW i (j - i).toNat) G
  | _ => False
theorem rng1_int {j : Int} {G : Gp} {R : List W → Gp → Prop} : rng1 [.int j] G R = (j < 4611686018427387904 ∧ -4611686018427387904 ≤ j ∧ R (rangeW 0 j.toNat) G) := rfl
theorem rng2_int {i j : Int} {G : Gp} {R : List W → Gp → Prop} : rng2 [.int i, .int j] G R = ((-4611686018427387904 ≤ i ∧ i < 4611686018427387904 ∧ -4611686018427387904 ≤ j ∧ j < 4611686018427387904) ∧ R (rangeW i (j - i).toNat) G) := rfl
def iR1 (ta : TAw) : TIw := fun σ G R => ta σ G fun ws G1 => rng1 ws G1 R
def iR2 (ta : TAw) : TIw := fun σ G R => ta σ G fun ws G1 => rng2 ws G1 R
theorem qrange1 {a : Expr} {p pos : Pos} (hg : Gl X "range") (hm : X.mg "range" = none) (ha : PAw X [a] ta) (hs : starEach [a] X.env = [(false, eval a X.env)] := by rfl) : PIw X tg (.Call (.Name "range" p) [a] [] pos) (iR1 ta) :=
  PI.imp (pi_range1 hg hm ha hs) fun σ H R h => by
    obtain ⟨Z, σ', G, Qw, e, hr, t, k⟩ := h
    refine ⟨Z, σ', G, _, e, hr, t, fun Z1 G1 H1 ws vs x1 h1 r1 t1 => ?_⟩
    cases r1 with
    | nil => exact False.elim t1
    | cons ra rr =>
      cases rr with
      | cons _ _ => cases ra <;> exact False.elim t1
      | nil => cases ra <;> first
        | exact False.elim t1
        | exact ⟨_, rfl, t1.2.1, t1.1, k Z1 G1 H1 _ _ x1 h1 walkR t1.2.2⟩
theorem qrange2 {a b : Expr} {p pos : Pos} (hg : Gl X "range") (hm : X.mg "range" = none) (ha : PAw X [a, b] ta) (hs : starEach [a, b] X.env = [(false, eval a X.env), (false, eval b X.env)] := by rfl) (hs2 : starEach [b] X.env = [(false, eval b X.env)] := by rfl) :
    PIw X tg (.Call (.Name "range" p) [a, b] [] pos) (iR2 ta) :=
  PI.imp (pi_range2 hg hm ha hs hs2) fun σ H R h => by
    obtain ⟨Z, σ', G, Qw, e, hr, t, k⟩ := h
    refine ⟨Z, σ', G, _, e, hr, t, fun Z1 G1 H1 ws vs x1 h1 r1 t1 => ?_⟩
    cases r1 with
    | nil => exact False.elim t1
    | cons ra rr =>
      cases rr with
      | nil => cases ra <;> exact False.elim t1
      | cons rb rr =>
        cases rr with
        | cons _ _ => cases ra <;> cases rb <;> exact False.elim t1
        | nil => cases ra <;> cases rb <;> first
          | exact False.elim t1
          | exact ⟨_, _, rfl, t1.1, k Z1 G1 H1 _ _ x1 h1 walkR t1.2⟩
end
/-! ### what a def promises -/
/-- the arguments, the small heap, the wanted end, the wanted exception: its class, its own attributes -/
abbrev EXw := Str → List (Str × W) → Gp → Prop
abbrev Spw := List W → Gp → QW → EXw → Prop
def KXE (K : PySem.W.Frag) (Z : Zp) (G : Gp) (H : Hp) (Ew : EXw) (E : XK) : Prop := ∀ Z' G' H' nm C fs d, Ext Z G H Z' G' H' → HRel K Z' G' H' → ClsA K nm C → ExF K Z' H' fs d → Ew nm fs G' → E (.ref C) d H'
def liftSp (K : PySem.W.Frag) (sp : Spw) : Sp := fun vs H Q E => ∃ Z ws G Qw Ew, RwL K Z H ws vs ∧ HRel K Z G H ∧ sp ws G Qw Ew ∧ KE K Z G H Qw Q ∧ KXE K Z G H Ew E
/-- what a body's end may do besides: freeze what is told, forget what is left -/
def Cl0 (Q : QW) : QW := fun w G => Q w G ∨ ∃ p ws, w = .ref p ∧ G p = some (.lst ws) ∧ Q (.lst ws) (gdel G p)
def Cl (Q : QW) : QW := fun w G => Q w G ∨ ∃ ps : List Addr, Cl0 Q w (ps.foldl gdel G)
theorem KE.cl0 {K : PySem.W.Frag} {Z : Zp} {G : Gp} {H : Hp} {Qw : QW} {Q : VK} (k : KE K Z G H Qw Q) : KE K Z G H (Cl0 Qw) Q := by
  intro Z1 G1 H1 w v x1 h1 r1 q
  rcases q with q | ⟨p, ws, rfl, g, q⟩
  · exact k Z1 G1 H1 w v x1 h1 r1 q
  · cases r1
    obtain ⟨vs, s, r⟩ := h1.lst g
    obtain ⟨h2, x2⟩ := h1.freeze (p := p) (by rw [g]; simp)
    exact k _ _ H1 (.lst ws) _ (x1.trans x2) h2 (.lst (.inr rfl) s (r.ext h1 x2)) q
theorem KE.drops {K : PySem.W.Frag} {Qw : QW} {Q : VK} : ∀ (ps : List Addr) {Z : Zp} {G : Gp} {H : Hp}, KE K Z G H Qw Q → ∀ Z1 G1 w v, Ext Z G H Z1 G1 H → HRel K Z1 G1 H → Rw K Z1 H w v → Qw w (ps.foldl gdel G1) → Q v H
  | [], Z, G, H, k, Z1, G1, w, v, x1, h1, r1, q => k Z1 G1 H w v x1 h1 r1 q
  | p :: ps, Z, G, H, k, Z1, G1, w, v, x1, h1, r1, q => by
    by_cases c : G1 p = none
    · have e : gdel G1 p = G1 := by
        funext b; unfold gdel; split
        · rename_i z; rw [z, c]
        · rfl
      rw [List.foldl_cons, e] at q
      exact KE.drops ps k Z1 G1 w v x1 h1 r1 q
    · obtain ⟨h2, x2⟩ := h1.freeze (p := p) c
      exact KE.drops ps k _ _ w v (x1.trans x2) h2 (r1.ext h1 x2) q
theorem KE.cl {K : PySem.W.Frag} {Z : Zp} {G : Gp} {H : Hp} {Qw : QW} {Q : VK} (k : KE K Z G H Qw Q) : KE K Z G H (Cl Qw) Q := by
  intro Z1 G1 H1 w v x1 h1 r1 q
  rcases q with q | ⟨ps, q⟩
  · exact k Z1 G1 H1 w v x1 h1 r1 q
  · exact KE.drops ps (k.cl0.mono x1) Z1 G1 w v Ext.refl h1 r1 q
/-- one list forgotten -/
theorem Cl.drop {Q : QW} {w : W} {G : Gp} {p : Addr} {o : GO} (n : G p = none) (q : Q w G) : Cl Q w (gup G p o) := .inr ⟨[p], .inl (by show Q w (gdel (gup G p o) p); rw [gdel_gup n]; exact q)⟩
/-- a list told by a def: the caller's own, or frozen -/
def tellL (ws : List W) (Q : QW) (G : Gp) : Prop := Q (.lst ws) G ∨ ∀ p, G p = none → Q (.ref p) (gup G p (.lst ws))
theorem tellL.cl {ws : List W} {Q : QW} {G : Gp} (h : tellL ws Q G) {p : Addr} (n : G p = none) : Cl Q (.ref p) (gup G p (.lst ws)) := by
  rcases h with h | h
  · exact .inr ⟨[], .inr ⟨p, ws, rfl, gup_same, by show Q (.lst ws) (gdel (gup G p (.lst ws)) p); rw [gdel_gup n]; exact h⟩⟩
  · exact .inl (h p n)
/-- a def called by its name in the module -/
structure Cal (P : Program) (w : World) (K : PySem.W.Frag) (mg : Str → Option Value) (base : Heap) (CX : CXT) (k : Nat) (x : Str) (sp : Spw) : Prop where
  ex : ∃ f fd ps, FnOk P w K mg base CX k f fd ps (liftSp K sp) ∧ mg x = some (.ref f) ∧ PySem.W.keepIn K (.ref f) = true ∧ Binds K fd ps []
def E0w : EXw := fun _ _ _ => False
def wCall (sp : Spw) (t : TAw) : TEw := fun σ G Q => t σ G fun ws G1 => sp ws G1 Q E0w
section
variable {X : Cx} {K : PySem.W.Frag} {x : Str} {p pos : Pos} {e : Expr} {es : List Expr} {t : TAw} {sp : Spw} {k : Nat}
theorem lcall {σ : SV} {H : Hp} {Q : VK} (h : liftE K (wCall sp t) σ H Q) : tCall (liftSp K sp) [] E0 (liftA K t) σ H Q := by
  obtain ⟨Z, σ', G, Qw, e, hr, t, k⟩ := h
  refine ⟨Z, σ', G, _, e, hr, t, fun Z1 G1 H1 ws vs x1 h1 r1 t1 => ?_⟩
  show liftSp K sp (vs ++ []) H1 Q E0
  rw [List.append_nil]
  exact ⟨Z1, ws, G1, Qw, E0w, r1, h1, t1, k.mono x1, fun _ _ _ _ _ _ _ _ _ _ _ z => z.elim⟩
theorem qcall (c : Cal X.prog X.w X.K X.mg X.base CX0 k x sp) (hr : Room k X.A) (hg : Gl X x) (ha : PAw X (e :: es) t) (hdb : (x == ("__debug__" : Str)) = false := by decide)
    (he : starEach (e :: es) X.env = (false, eval e X.env) :: starEach es X.env := by rfl) (hpl : (backTo pos (starEach es X.env)).any (·.1) = false := by rfl) : PEw X (.Call (.Name x p) (e :: es) [] pos) (wCall sp t) := by
  obtain ⟨f, fd, ps, F, m, kp, b⟩ := c.ex
  exact PE.imp (pe_call F hr hg m kp b .nil pass0 ha hdb he hpl) fun _ _ _ h => lcall h
theorem qcall0 (c : Cal X.prog X.w X.K X.mg X.base CX0 k x sp) (hr : Room k X.A) (hg : Gl X x) (hdb : (x == ("__debug__" : Str)) = false := by decide) : PEw X (.Call (.Name x p) [] [] pos) (wCall sp wNil) := by
  obtain ⟨f, fd, ps, F, m, kp, b⟩ := c.ex
  refine PE.imp (pe_call0 F hr hg m kp b .nil pass0 hdb) fun σ H Q h => ?_
  obtain ⟨Z, σ', G, Qw, e, hr, t, k⟩ := h
  exact ⟨Z, [], G, Qw, E0w, .nil, hr, t, k, fun _ _ _ _ _ _ _ _ _ _ _ z => z.elim⟩
end
section
variable {P : Program} {w : World} {K : PySem.W.Frag} {mg : Str → Option Value} {base : Heap}
/-- THE RULE for a def that raises nothing -/
theorem okW {x qual : Str} {st : Stmt} {f : Addr} {fd : FuncData} {N ps : List Str} {k : Nat} {sp : Spw} (F : Fun K x qual st f fd) (S : FnScope N ps (defScope st)) (seer : base.NoSeer) (tree : P.given.tree = none) (big : 32 ≤ k) (len : ∀ ws G Q E, sp ws G Q E → ws.length = ps.length)
    (hbody : ∀ (cdv : Value) (A : Around) (outer : List Env) (s : Shared) (H : Hp) (E : XK), Room k (A.deeper (envOfC qual (defScope st) s.heap.objs.size f cdv)) → Deep (cxOf CX0 P w K mg base N qual (defScope st) f cdv A outer s H E).nox →
      ∃ t, PSsw (cxOf CX0 P w K mg base N qual (defScope st) f cdv A outer s H E).nox (defBody st) t ∧ ∀ ws G Q E, sp ws G Q E → t { nx := fun _ G' => Q .non G', rt := Cl Q } (startW N ws) G) :
    FnOk P w K mg base CX0 (k + 1) f fd ps (liftSp K sp) := by
  refine F.ok S (fun vs H Q E h => ?_) fun cdv A outer s H vs Q E hr h => ?_
  · obtain ⟨Z, ws, G, Qw, Ew, r, _, s, _⟩ := h
    rw [← r.length]
    exact len _ _ _ _ s
  · obtain ⟨Z, ws, G, Qw, Ew, r, hh, s1, kq, ke⟩ := h
    have dp : Deep (cxOf CX0 P w K mg base N qual (defScope st) f cdv A outer s H E).nox := ⟨seer, tree, by
      have h1 := hr.dp
      have h2 : Builtin.pylongFrames = 100 := rfl
      show (A.deeper (envOfC qual (defScope st) s.heap.objs.size f cdv)).depth + _ < _
      omega, _, _, rfl, S.gen, S.co, rfl, rfl⟩
    obtain ⟨t, ht, q⟩ := hbody cdv A outer s H E hr dp
    exact ⟨_, ht, Z, _, G, _, RwS.start r, hh, q ws G Qw Ew s1, ⟨fun Z1 G1 H1 _ _ x1 h1 _ q1 => kq Z1 G1 H1 _ _ x1 h1 .non q1, kq.cl, fun _ _ _ _ _ _ _ _ z => z.elim, fun _ _ _ _ _ _ _ _ z => z.elim, fun _ _ _ _ _ _ _ _ _ _ _ _ _ _ z => z.elim⟩⟩
/-- the rule for a def that may raise -/
theorem okWX {x qual : Str} {st : Stmt} {f : Addr} {fd : FuncData} {N ps : List Str} {k : Nat} {sp : Spw} (F : Fun K x qual st f fd) (S : FnScope N ps (defScope st)) (seer : base.NoSeer) (tree : P.given.tree = none) (big : 32 ≤ k) (len : ∀ ws G Q E, sp ws G Q E → ws.length = ps.length)
    (hbody : ∀ (cdv : Value) (A : Around) (outer : List Env) (s : Shared) (H : Hp) (E : XK), Room k (A.deeper (envOfC qual (defScope st) s.heap.objs.size f cdv)) → Deep (cxOf (L2.CX P w) P w K mg base N qual (defScope st) f cdv A outer s H E) →
      PassesOwn (model P w) (A.deeper (envOfC qual (defScope st) s.heap.objs.size f cdv)) (envOfC qual (defScope st) s.heap.objs.size f cdv) (cxOf (L2.CX P w) P w K mg base N qual (defScope st) f cdv A outer s H E).xe →
      ∃ t, PSsw (cxOf (L2.CX P w) P w K mg base N qual (defScope st) f cdv A outer s H E) (defBody st) t ∧ ∀ ws G Q E, sp ws G Q E → t { nx := fun _ G' => Q .non G', rt := Cl Q, ex := fun nm fs _ G' => E nm fs G' } (startW N ws) G) :
    FnOk P w K mg base (L2.CX P w) (k + 1) f fd ps (liftSp K sp) := by
  refine F.okX S (fun vs H Q E h => ?_) fun cdv A outer s H vs Q E hr h => ?_
  · obtain ⟨Z, ws, G, Qw, Ew, r, _, s, _⟩ := h
    rw [← r.length]
    exact len _ _ _ _ s
  · obtain ⟨Z, ws, G, Qw, Ew, r, hh, s1, kq, ke⟩ := h
    have dp : Deep (cxOf (L2.CX P w) P w K mg base N qual (defScope st) f cdv A outer s H E) := ⟨seer, tree, by
      have h1 := hr.dp
      have h2 : Builtin.pylongFrames = 100 := rfl
      show (A.deeper (envOfC qual (defScope st) s.heap.objs.size f cdv)).depth + _ < _
      omega, _, _, rfl, S.gen, S.co, rfl, rfl⟩
    obtain ⟨t, ht, q⟩ := hbody cdv A outer s H E hr dp (passes_of (X := cxOf (L2.CX P w) P w K mg base N qual (defScope st) f cdv A outer s H E) rfl)
    refine ⟨_, ht, Z, _, G, _, RwS.start r, hh, q ws G Qw Ew s1, ⟨fun Z1 G1 H1 _ _ x1 h1 _ q1 => kq Z1 G1 H1 _ _ x1 h1 .non q1, kq.cl, fun _ _ _ _ _ _ _ _ z => z.elim, fun _ _ _ _ _ _ _ _ z => z.elim, fun Z1 G1 H1 σ' σ nm C fs d x1 h1 r1 c1 f1 q1 => ?_⟩⟩
    exact wish_of (takes_of (X := cxOf (L2.CX P w) P w K mg base N qual (defScope st) f cdv A outer s H E) (E := E) rfl rfl rfl rfl) (ke Z1 G1 H1 nm C fs d x1 h1 c1 f1 q1)
end
/-! ### methods of lists -/
abbrev RWM := W → List W → Gp → QW → Prop
def SimM (K : PySem.W.Frag) (r : V → List V → Hp → VK → Prop) (wr : RWM) : Prop := ∀ Z G H x v ws vs Qw Q, HRel K Z G H → Rw K Z H x v → RwL K Z H ws vs → wr x ws G Qw → KE K Z G H Qw Q → r v vs H Q
def wBM (wr : RWM) (to : TEw) (t : TAw) : TEw := fun σ G Q => to σ G fun o G1 => (asL G1 o).isSome = true ∧ t σ G1 fun ws G2 => wr o ws G2 Q
def wBM0 (wr : RWM) (to : TEw) : TEw := fun σ G Q => to σ G fun o G1 => (asL G1 o).isSome = true ∧ wr o [] G1 Q
section
variable {X : Cx} {K : PySem.W.Frag} {o e : Expr} {es : List Expr} {to : TEw} {t : TAw} {cpos apos : Pos}
theorem lbm {r : V → List V → Hp → VK → Prop} {wr : RWM} (hs : SimM K r wr) {σ : SV} {H : Hp} {Q : VK} (h : liftE K (wBM wr to t) σ H Q) : tBM K "list" r (liftE K to) (liftA K t) σ H Q := by
  obtain ⟨Z, σ', G, Qw, ev, hr, t, k⟩ := h
  refine ⟨Z, σ', G, _, ev, hr, t, fun Z1 G1 H1 w v x1 h1 r1 t1 => ?_⟩
  obtain ⟨eu, t1⟩ := t1
  obtain ⟨us, eu⟩ := Option.isSome_iff_exists.mp eu
  obtain ⟨p, vs, rfl, s, _⟩ := asL_sq h1 r1 eu
  refine ⟨.inl ⟨rfl, vs, s⟩, Z1, σ', G1, _, ev.ext hr x1, h1, t1, fun Z2 G2 H2 ws us x2 h2 r2 t2 => ?_⟩
  exact hs Z2 G2 H2 w _ ws us Qw Q h2 (r1.ext h1 x2) r2 t2 (k.mono (x1.trans x2))
theorem lbm0 {r : V → List V → Hp → VK → Prop} {wr : RWM} (hs : SimM K r wr) {σ : SV} {H : Hp} {Q : VK} (h : liftE K (wBM0 wr to) σ H Q) : tBM0 K "list" r (liftE K to) σ H Q := by
  obtain ⟨Z, σ', G, Qw, ev, hr, t, k⟩ := h
  refine ⟨Z, σ', G, _, ev, hr, t, fun Z1 G1 H1 w v x1 h1 r1 t1 => ?_⟩
  obtain ⟨eu, t1⟩ := t1
  obtain ⟨us, eu⟩ := Option.isSome_iff_exists.mp eu
  obtain ⟨p, vs, rfl, s, _⟩ := asL_sq h1 r1 eu
  exact ⟨.inl ⟨rfl, vs, s⟩, hs Z1 G1 H1 w _ [] [] Qw Q h1 r1 .nil t1 (k.mono x1)⟩
def wAppend : RWM := fun o ws G Q => match o, ws with
  | .ref p, [w] => isG (G p) fun us => us.length < sizeLine ∧ Q .non (gup G p (.lst (us ++ [w])))
  | _, _ => False
theorem sim_append : SimM K rAppend wAppend := by
  intro Z G H x v ws vs Qw Q h rx rs t k
  cases rx with
  | @ref p =>
    cases rs with
    | nil => exact False.elim t
    | cons r1 rs =>
      cases rs with
      | cons _ _ => exact False.elim t
      | nil =>
        obtain ⟨us, g, l, q⟩ := isG_ex t
        obtain ⟨xs, s, r⟩ := h.lst g
        obtain ⟨h2, x2⟩ := chg_lst h g (r.append (.cons r1 .nil))
        exact ⟨p, xs, _, rfl, rfl, s, by rw [← r.length]; exact l, k _ _ _ _ _ x2 h2 .non q⟩
  | _ => exact False.elim t
def wPop : RWM := fun o ws G Q => match o, ws with
  | .ref p, [] => isG (G p) fun us => isS us[us.length - 1]? fun w => Q w (gup G p (.lst us.dropLast))
  | _, _ => False
theorem sim_pop : SimM K rPop wPop := by
  intro Z G H x v ws vs Qw Q h rx rs t k
  cases rx with
  | @ref p =>
    cases rs with
    | cons _ _ => exact False.elim t
    | nil =>
      obtain ⟨us, g, t⟩ := isG_ex t
      obtain ⟨w, l, q⟩ := isS_ex t
      obtain ⟨xs, s, r⟩ := h.lst g
      obtain ⟨y, ey, ry⟩ := r.get _ l
      obtain ⟨h2, x2⟩ := chg_lst h g r.dropLast
      exact ⟨p, xs, y, rfl, rfl, s, by rw [← r.length]; exact ey, k _ _ _ _ _ x2 h2 (ry.ext h x2) q⟩
  | _ => exact False.elim t
def wExtend : RWM := fun o ws G Q => match o, ws with
  | .ref p, [.lst zs] => isG (G p) fun us => us.length + zs.length ≤ sizeLine ∧ Q .non (gup G p (.lst (us ++ zs)))
  | _, _ => False
theorem sim_extend : SimM K rExtend wExtend := by
  intro Z G H x v ws vs Qw Q h rx rs t k
  cases rx with
  | @ref p =>
    cases rs with
    | nil => exact False.elim t
    | cons r1 rs =>
      cases rs with
      | cons _ _ => cases r1 <;> exact False.elim t
      | nil =>
        cases r1 with
        | lst z s1 r1 =>
          obtain ⟨us, g, l, q⟩ := isG_ex t
          obtain ⟨xs, s, r⟩ := h.lst g
          obtain ⟨h2, x2⟩ := chg_lst h g (r.append r1)
          exact ⟨p, _, xs, _, rfl, rfl, s, s1, by rw [← r.length, ← r1.length]; exact l, k _ _ _ _ _ x2 h2 .non q⟩
        | _ => exact False.elim t
  | _ => exact False.elim t
theorem qbm {nm : Str} {id : String} {r : V → List V → Hp → VK → Prop} {wr : RWM} (slot : Slot "list" nm id) (hty : typeOf (.builtin id) = pure (.type "method_descriptor")) (hm : MtR X id r) (hs : SimM X.K r wr) (ho : PEw X o to) (ha : PAw X (e :: es) t)
    (hbase : attributeBase o nm X.env (eval o X.env) = eval o X.env := by rfl)
    (hfew : ((backTo cpos (starEach (e :: es) X.env)).all (fun x => !x.1) && (backToKw cpos (keywordEach [] X.env)).all (fun x => x.1.isSome)
      && decide ((e :: es).length + ([] : List Keyword).length + (if ([] : List Keyword).isEmpty then 0 else 1) < 30)) = true := by rfl)
    (hline : (apos.endLine == cpos.line) = true := by rfl) (h1 : starEach (e :: es) X.env = (false, eval e X.env) :: starEach es X.env := by rfl) (h2 : (backTo cpos (starEach es X.env)).any (·.1) = false := by rfl) :
    PEw X (.Call (.Attribute o nm apos) (e :: es) [] cpos) (wBM wr to t) := PE.imp (pe_bm PySem.F.plainAttrs_list slot hty hm ho ha hbase hfew hline h1 h2) fun _ _ _ h => lbm hs h
end
end WL

namespace WL
open PySem PySem.Spec PyProof.Rows L2
section
variable {α : Type} {a b c d e f g h : α} {l : List α} {n : Nat}
theorem at0 : atI (a :: l) 0 = some a := atI_nat (j := 0) rfl
theorem at1 : atI (a :: b :: l) 1 = some b := atI_nat (j := 1) rfl
theorem at2 : atI (a :: b :: c :: l) 2 = some c := atI_nat (j := 2) rfl
theorem at3 : atI (a :: b :: c :: d :: l) 3 = some d := atI_nat (j := 3) rfl
theorem at4 : atI (a :: b :: c :: d :: e :: l) 4 = some e := atI_nat (j := 4) rfl
theorem at5 : atI (a :: b :: c :: d :: e :: f :: l) 5 = some f := atI_nat (j := 5) rfl
theorem at6 : atI (a :: b :: c :: d :: e :: f :: g :: l) 6 = some g := atI_nat (j := 6) rfl
theorem at7 : atI (a :: b :: c :: d :: e :: f :: g :: h :: l) 7 = some h := atI_nat (j := 7) rfl
theorem ixK {k : Nat} (h : k < n) : ixN n (k : Int) = some k := by
  unfold ixN
  rw [if_pos (by omega), if_pos (by omega)]
  rfl
theorem ix0 : ixN (n + 1) 0 = some 0 := ixK (k := 0) (by omega)
theorem ix1 : ixN (n + 1 + 1) 1 = some 1 := ixK (k := 1) (by omega)
theorem ix2 : ixN (n + 1 + 1 + 1) 2 = some 2 := ixK (k := 2) (by omega)
theorem ix3 : ixN (n + 1 + 1 + 1 + 1) 3 = some 3 := ixK (k := 3) (by omega)
theorem ix4 : ixN (n + 1 + 1 + 1 + 1 + 1) 4 = some 4 := ixK (k := 4) (by omega)
theorem ix5 : ixN (n + 1 + 1 + 1 + 1 + 1 + 1) 5 = some 5 := ixK (k := 5) (by omega)
theorem at_nat {k : Nat} {v : α} (h : l[k]? = some v) : atI l (k : Int) = some v := atI_nat h
/-- a drawn place of a written list -/
theorem at_in {i : Int} (h0 : 0 ≤ i) (h1 : i < l.length) : ∃ v, atI l i = some v ∧ v ∈ l := by
  obtain ⟨k, rfl⟩ : ∃ k : Nat, i = (k : Int) := ⟨i.toNat, by omega⟩
  have hk : k < l.length := by omega
  exact ⟨l[k], atI_nat (List.getElem?_eq_getElem hk), List.getElem_mem hk⟩
end
/-! ### the readings of values, where their kinds are known -/
section
variable {G : Gp} {Q : QW} {i j : Int} {ws us : List W} {x y : Str} {p : Addr} {a b w : W}
theorem asL_lst : asL G (.lst ws) = some ws := rfl
theorem asL_scr : asL G (.scr ws) = some ws := rfl
theorem asL_ref (h : G p = some (.lst ws)) : asL G (.ref p) = some ws := by simp only [asL, h]
theorem asL_gup : asL (gup G p (.lst ws)) (.ref p) = some ws := asL_ref gup_same
theorem wIx_tup : wIx (.tup ws) (.int i) G Q = isS (atI ws i) fun w => Q w G := rfl
theorem wIx_lst : wIx (.lst ws) (.int i) G Q = isS (atI ws i) fun w => Q w G := rfl
theorem wIx_scr : wIx (.scr ws) (.int i) G Q = isS (atI ws i) fun w => Q w G := rfl
theorem wIx_ref : wIx (.ref p) (.int i) G Q = isS (asL G (.ref p)) fun ws => isS (atI ws i) fun w => Q w G := rfl
theorem wIx_str : wIx (.str x) (.int i) G Q = (x.length ≤ sizeLine ∧ isS (atI x.cps.toList i) fun c => Q (.str ⟨#[c]⟩) G) := rfl
theorem wAdd_int : wAdd (.int i) (.int j) G Q = Q (.int (i + j)) G := rfl
theorem wAdd_str : wAdd (.str x) (.str y) G Q = (x.length + y.length ≤ sizeLine ∧ Q (.str (x ++ y)) G) := rfl
theorem wAdd_tup : wAdd (.tup ws) (.tup us) G Q = (ws.length + us.length ≤ sizeLine ∧ Q (.tup (ws ++ us)) G) := rfl
theorem wAdd_lst : wAdd (.lst ws) (.lst us) G Q = (ws.length + us.length ≤ sizeLine ∧ Q (.lst (ws ++ us)) G) := rfl
theorem wII_int {g : Int → Int → W} : wII g (.int i) (.int j) G Q = Q (g i j) G := rfl
theorem wI2_int {C : Int → Int → Prop} {g : Int → Int → W} : wI2 C g (.int i) (.int j) G Q = (C i j ∧ Q (g i j) G) := rfl
theorem wI1_int {g : Int → W} : wI1 g (.int i) G Q = Q (g i) G := rfl
theorem wI1N_int {g : Int → W} : wI1N g [.int i] G Q = Q (g i) G := rfl
theorem wI2N_int {g : Int → Int → W} : wI2N g [.int i, .int j] G Q = Q (g i j) G := rfl
theorem wLen_tup : wLen [.tup us] G Q = Q (.int us.length) G := rfl
theorem wLen_lst : wLen [.lst us] G Q = Q (.int us.length) G := rfl
theorem wLen_scr : wLen [.scr us] G Q = Q (.int us.length) G := rfl
theorem wLen_ref : wLen [.ref p] G Q = isS (asL G (.ref p)) fun us => Q (.int us.length) G := rfl
theorem wLen_str : wLen [.str x] G Q = (x.length ≤ sizeLine ∧ Q (.int x.length) G) := rfl
theorem wInt_int : wInt [.int i] G Q = Q (.int i) G := rfl
theorem wInt_bl {c : Bool} : wInt [.bl c] G Q = Q (.int (if c then 1 else 0)) G := rfl
theorem wStrI_int : wStrI [.int i] G Q = (i.natAbs.log2 < 1920 ∧ Q (.str (Str.ofString (toString i))) G) := rfl
theorem wEq_int : wEq (.int i) (.int j) G Q = Q (.bl (decide (i = j))) G := rfl
theorem wEq_str : wEq (.str x) (.str y) G Q = Q (.bl (decide (x = y))) G := rfl
theorem wNe_int : wNe (.int i) (.int j) G Q = Q (.bl (!decide (i = j))) G := rfl
theorem wNe_str : wNe (.str x) (.str y) G Q = Q (.bl (!decide (x = y))) G := rfl
theorem wEq_tup : wEq (.tup ws) (.tup us) G Q = (wOk (.tup ws) ∧ wOk (.tup us) ∧ Q (.bl (weqb (.tup ws) (.tup us))) G) := rfl
theorem wNe_tup : wNe (.tup ws) (.tup us) G Q = (wOk (.tup ws) ∧ wOk (.tup us) ∧ Q (.bl (!weqb (.tup ws) (.tup us))) G) := rfl
theorem wEq_lst : wEq (.lst ws) (.lst us) G Q = (wOk (.lst ws) ∧ wOk (.lst us) ∧ Q (.bl (weqb (.lst ws) (.lst us))) G) := rfl
theorem wNe_lst : wNe (.lst ws) (.lst us) G Q = (wOk (.lst ws) ∧ wOk (.lst us) ∧ Q (.bl (!weqb (.lst ws) (.lst us))) G) := rfl
theorem setIx_ref {P : Gp → Prop} : setIx (.ref p) (.int i) w G P = isG (G p) fun ws => isS (ixN ws.length i) fun j => P (gup G p (.lst (ws.set j w))) := rfl
theorem gT_tup {n : Nat} {t : TGsw} {σ : SW} {P : SW → Gp → Prop} : gT n t (.tup ws) σ G P = (ws.length = n ∧ t ws σ G P) := rfl
theorem gT_lst {n : Nat} {t : TGsw} {σ : SW} {P : SW → Gp → Prop} : gT n t (.lst ws) σ G P = (ws.length = n ∧ t ws σ G P) := rfl
theorem gT_ref {n : Nat} {t : TGsw} {σ : SW} {P : SW → Gp → Prop} : gT n t (.ref p) σ G P = isG (G p) fun ws => ws.length = n ∧ t ws σ G P := rfl
theorem gsC_cons {t : TGw} {u : TGsw} {σ : SW} {P : SW → Gp → Prop} : gsC t u (w :: ws) σ G P = t w σ G fun σ1 G1 => u ws σ1 G1 P := rfl
theorem gsN_nil {σ : SW} {P : SW → Gp → Prop} : gsN [] σ G P = P σ G := rfl
theorem wAppend_ref : wAppend (.ref p) [w] G Q = isG (G p) fun us => us.length < sizeLine ∧ Q .non (gup G p (.lst (us ++ [w]))) := rfl
theorem wPop_ref : wPop (.ref p) [] G Q = isG (G p) fun us => isS us[us.length - 1]? fun w => Q w (gup G p (.lst us.dropLast)) := rfl
theorem wExtend_ref : wExtend (.ref p) [.lst ws] G Q = isG (G p) fun us => us.length + ws.length ≤ sizeLine ∧ Q .non (gup G p (.lst (us ++ ws))) := rfl
theorem seq_tup {R : List W → Gp → Prop} {σ : SW} : iSeqW (wC (.tup ws)) σ G R = R ws G := rfl
end
/-- what is walked, by its kind -/
def seqOf (w : W) (G : Gp) (R : List W → Gp → Prop) : Prop := match w with
  | .tup ws => R ws G
  | .lst ws => R ws G
  | .scr ws => R ws G
  | .ref p => isG (G p) fun ws => R ws (gdel G p)
  | _ => False
theorem iSeqW_eq {te : TEw} {σ : SW} {G : Gp} {R : List W → Gp → Prop} : iSeqW te σ G R = te σ G fun w G1 => seqOf w G1 R := rfl
section
variable {G : Gp} {ws : List W} {p : Addr} {R : List W → Gp → Prop}
theorem seqOf_tup : seqOf (.tup ws) G R = R ws G := rfl
theorem seqOf_lst : seqOf (.lst ws) G R = R ws G := rfl
theorem seqOf_scr : seqOf (.scr ws) G R = R ws G := rfl
theorem seqOf_ref : seqOf (.ref p) G R = isG (G p) fun ws => R ws (gdel G p) := rfl
end
theorem log2_lt_pow {m : Nat} {b : Nat} (h : m < 2 ^ b) (h0 : 0 < b) : m.log2 < b := PySem.Flt.log2_lt_of h0 h
theorem cmX {i j : Int} {a b : Nat} (ha : i.natAbs < 2 ^ a) (hb : j.natAbs < 2 ^ b) (h0 : 0 < a) (h1 : 0 < b) (h : a + b ≤ 134217000) : CMulX i j := by
  have x := log2_lt_pow ha h0
  have y := log2_lt_pow hb h1
  unfold CMulX
  omega
theorem cm64 {i j : Int} (h1 : -18446744073709551616 < i ∧ i < 18446744073709551616) (h2 : -18446744073709551616 < j ∧ j < 18446744073709551616) : CMulX i j :=
  cmX (a := 64) (b := 64) (by omega) (by omega) (by decide) (by decide) (by decide)
theorem cp64 {i j : Int} (h1 : -18446744073709551616 < i ∧ i < 18446744073709551616) (h2 : 0 ≤ j ∧ j ≤ 1000000) : CPow i j := ⟨h2.1, h2.2, by omega⟩
theorem fmodP {i j : Int} (h : 0 ≤ j := by decide) : i.fmod j = i % j := Int.fmod_eq_emod_of_nonneg i h
theorem fdivP {i j : Int} (h : 0 ≤ j := by decide) : i.fdiv j = i / j := Int.fdiv_eq_ediv_of_nonneg i h
/-! ### loops -/
/-- a loop that carries nothing but what stands in P -/
theorem forW_inv {ks : List Bool} {g : TGw} {tb : TSw} {D : EndsW} (P : SW → Gp → Prop) : ∀ (items : List W) (σ : SW) (G : Gp), P σ G →
    (∀ w ∈ items, ∀ σ G (N : SW → Gp → Prop), P σ G → (∀ σ' G', P (skill σ' ks) G' → N σ' G') → g w σ G fun σ1 G1 => tb { nx := N, ct := N, bk := D.nx, rt := D.rt, ex := D.ex } σ1 G1) →
    (∀ σ G, P σ G → D.nx σ G) → forW ks g tb items D σ G
  | [], σ, G, p, _, hd => hd σ G p
  | w :: ws, σ, G, p, hs, hd => hs w (.head _) σ G _ p fun σ' G' p' => forW_inv P ws _ G' p' (fun w' hw => hs w' (.tail _ hw)) hd
/-- a loop that carries a state a: step by step -/
theorem forW_fold {α : Type} {ks : List Bool} {g : TGw} {tb : TSw} {D : EndsW} (P : α → SW → Gp → Prop) (step : α → W → α) : ∀ (items : List W) (a : α) (σ : SW) (G : Gp), P a σ G →
    (∀ w ∈ items, ∀ a σ G (N : SW → Gp → Prop), P a σ G → (∀ σ' G', P (step a w) (skill σ' ks) G' → N σ' G') → g w σ G fun σ1 G1 => tb { nx := N, ct := N, bk := D.nx, rt := D.rt, ex := D.ex } σ1 G1) →
    (∀ σ G, P (items.foldl step a) σ G → D.nx σ G) → forW ks g tb items D σ G
  | [], a, σ, G, p, _, hd => hd σ G p
  | w :: ws, a, σ, G, p, hs, hd => hs w (.head _) a σ G _ p fun σ' G' p' => forW_fold P step ws _ _ G' p' (fun w' hw => hs w' (.tail _ hw)) hd
theorem rangeW_mem {lo : Int} {n : Nat} {w : W} (h : w ∈ rangeW lo n) : ∃ i : Nat, i < n ∧ w = .int (lo + i) := by
  unfold rangeW at h
  obtain ⟨i, hi, e⟩ := List.mem_map.mp h
  exact ⟨i, List.mem_range.mp hi, e.symm⟩
/-! ### the law's bag: a list of a cell and a mixed number -/
abbrev bagO (c x : Int) : GO := .lst [.int c, .int x]
def sp__law_take : Spw := fun ws G Q _ => ∃ p m c x, ws = [.ref p, .int m] ∧ G p = some (bagO c x) ∧ 0 ≤ c ∧ 0 ≤ x ∧ x < 2147483648 ∧ 0 < m ∧
  ∀ d c' x', 0 ≤ d → d < m → 0 ≤ c' → 0 ≤ x' → x' < 2147483648 → Q (.int d) (gup G p (bagO c' x'))
def sp__law_bag : Spw := fun ws G Q _ => ∃ (ns : List Int) (k : Int), ws = [.scr (ns.map W.int), .int k] ∧ ns.length ≤ 63 ∧ 0 ≤ k ∧ k < 1000 ∧
  ∀ p c x, G p = none → 0 ≤ c → 0 ≤ x → x < 2147483648 → Q (.ref p) (gup G p (bagO c x))
/-! ### the law's own head -/
def sp_law : Spw := fun ws _ Q _ => ∃ ns : List Int, ws = [.scr (ns.map W.int)] ∧ ns.length ≤ 63 ∧ ∀ G', Q (.bl true) G'
theorem law_sp {K : PySem.W.Frag} {H : Hp} {a : Addr} {ns : List Int} (hl : ns.length ≤ 63) (hO : Only H) (hS : SqL K H a (ns.map V.int)) : liftSp K sp_law [.ref a] H (fun v _ => v = .bl true) fun _ _ _ => False := by
  have hF : SqF K H a (ns.map V.int) := by
    rcases hS with (hS | ⟨o, hS⟩) | hS
    · rcases hO a with z | ⟨o, xs, z⟩
      · rw [z] at hS; cases hS
      · rw [z] at hS; cases hS
    · exact .inl ⟨o, hS⟩
    · exact .inr (.inr hS)
  refine ⟨fun _ => False, [.scr (ns.map W.int)], fun _ => none, fun w _ => w = .bl true, E0w, .cons (.scr hF (RwL.ints ns)) .nil, ⟨fun _ z => z.elim, fun _ _ z => (by cases z)⟩, ⟨ns, rfl, hl, fun _ => rfl⟩, fun Z' G' H' w v _ _ r e => ?_, fun _ _ _ _ _ _ _ _ _ _ _ z => z.elim⟩
  subst e
  cases r
  rfl
end WL

namespace WL
open PySem PySem.Spec PyProof.Rows L2
/-! ### isinstance -/
inductive Kd where | non | bool | int | str | tuple | list
  deriving DecidableEq
def kdName : Kd → String
  | .non => "NoneType" | .bool => "bool" | .int => "int" | .str => "str" | .tuple => "tuple" | .list => "list"
def kdIs : Kd → Kd → Bool
  | .bool, .bool => true | .bool, .int => true | .int, .int => true | .str, .str => true | .tuple, .tuple => true | .list, .list => true
  | _, _ => false
theorem kd_kit : ∀ d k : Kd, k ≠ .non → kitB (kdName d) (kdName k) = some (kdIs d k) := by
  intro d k h
  cases d <;> cases k <;> first
    | exact absurd rfl h
    | decide +kernel
def wIsi (k : Kd) : W → Gp → QW → Prop := fun x G Q => match x with
  | .non => Q (.bl (kdIs .non k)) G
  | .bl _ => Q (.bl (kdIs .bool k)) G
  | .int _ => Q (.bl (kdIs .int k)) G
  | .str _ => Q (.bl (kdIs .str k)) G
  | .tup _ => Q (.bl (kdIs .tuple k)) G
  | .lst _ => Q (.bl (kdIs .list k)) G
  | .scr _ => Q (.bl (kdIs .list k)) G
  | .ref p => isG (G p) fun _ => Q (.bl (kdIs .list k)) G
  | _ => False
section
variable {k : Kd} {G : Gp} {Q : QW} {b : Bool} {i : Int} {x : Str} {ws : List W} {p : Addr}
theorem wIsi_non : wIsi k .non G Q = Q (.bl (kdIs .non k)) G := rfl
theorem wIsi_bl : wIsi k (.bl b) G Q = Q (.bl (kdIs .bool k)) G := rfl
theorem wIsi_int : wIsi k (.int i) G Q = Q (.bl (kdIs .int k)) G := rfl
theorem wIsi_str : wIsi k (.str x) G Q = Q (.bl (kdIs .str k)) G := rfl
theorem wIsi_tup : wIsi k (.tup ws) G Q = Q (.bl (kdIs .tuple k)) G := rfl
theorem wIsi_lst : wIsi k (.lst ws) G Q = Q (.bl (kdIs .list k)) G := rfl
theorem wIsi_ref : wIsi k (.ref p) G Q = isG (G p) fun _ => Q (.bl (kdIs .list k)) G := rfl
end
def wIsiN (k : Kd) : List W → Gp → QW → Prop := fun ws G Q => match ws with
  | [x, .ty n] => n = kdName k ∧ wIsi k x G Q
  | _ => False
section
variable {X : Cx} {K : PySem.W.Frag}
theorem sim_isi {k : Kd} (hk : k ≠ .non) : SimN K (rIsi K) (wIsiN k) := by
  intro Z G H ws vs Qw Q h r t kq
  cases r with
  | nil => exact False.elim t
  | @cons w v ws vs rx rr =>
    cases rr with
    | nil => cases rx <;> exact False.elim t
    | cons ry rr =>
      cases rr with
      | cons _ _ => cases ry <;> exact False.elim t
      | nil =>
        cases ry with
        | @ty n =>
          obtain ⟨rfl, t⟩ := t
          have fin : ∀ d, TyX K H v (.type (kdName d)) → Qw (.bl (kdIs d k)) G → rIsi K [v, .ty (kdName k)] H Q := fun d ty q =>
            ⟨v, _, _, _, _, rfl, .ty _, ty, kit_ty (kd_kit d k hk), kq.at h .bl q⟩
          cases rx with
          | non => exact fin .non (.base .non) t
          | bl => exact fin .bool (.base (.bl _)) t
          | int => exact fin .int (.base (.int _)) t
          | str => exact fin .str (.base (.str _)) t
          | tup s r =>
            refine fin .tuple ?_ t
            rcases s with (s | ⟨o, s⟩) | ⟨o, its, n, e, c, _⟩
            · exact .base (.tup s)
            · exact .fTuple s
            · exact .kTuple e c
          | lst z s r => exact fin .list (.base (.lst s)) t
          | scr s r =>
            refine fin .list ?_ t
            rcases s with ⟨o, s⟩ | (s | ⟨o, s⟩) | ⟨o, its, n, e, c, _⟩
            · exact .base (.frz s)
            · cases s
            · cases s
            · exact .kList e c
          | @ref p =>
            obtain ⟨us, g, q⟩ := isG_ex t
            obtain ⟨vs, s, _⟩ := h.lst g
            exact fin .list (.base (.lst s)) q
          | _ => exact False.elim t
        | _ => exact False.elim t
variable {e : Expr} {te : TEw} {p p2 pos : Pos}
theorem qisi {k : Kd} {T : Str} (hk : k ≠ .non) (hb : bootBuiltins T = some (.type (kdName k))) (hn : T ≠ "__name__") (hd : (T == ("__debug__" : Str)) = false) (hg : Gl X "isinstance") (hm : X.mg "isinstance" = none) (hg2 : Gl X T) (hm2 : X.mg T = none) (he : PEw X e te)
    (h1 : starEach [e, .Name T p2] X.env = (false, eval e X.env) :: starEach [.Name T p2] X.env := by rfl) (h2 : (backTo pos (starEach [.Name T p2] X.env)).any (·.1) = false := by rfl) (h3 : starEach [.Name T p2] X.env = (false, eval (.Name T p2) X.env) :: starEach [] X.env := by rfl) :
    PEw X (.Call (.Name "isinstance" p) [e, .Name T p2] [] pos) (wUn (wIsi k) te) := by
  have ht : PEw X (.Name T p2) (wC (.ty (kdName k))) := PE.imp (pe_bltn hg2 hm2 hb (show RelV (.ty (kdName k)) (.type (kdName k)) from rfl) hn hd) fun _ _ _ h => lC (fun _ _ => .ty) h
  refine PE.imp (pe_callB call_isi hg hm (by decide +kernel) (qa_cons he (qa_cons ht qa_nil h3) h1) (by decide) (by decide) h1 h2) fun σ H Q h => liftN (sim_isi (k := k) hk) (wr := wIsiN k) ?_
  obtain ⟨Z, σ', G, Qw, ev, hr, t, kk⟩ := h
  exact ⟨Z, σ', G, Qw, ev, hr, (show te σ' G _ from by
    have t' : te σ' G fun x G1 => wIsi k x G1 Qw := t
    simpa only [wCons, wC, wNil, wIsiN, true_and] using t'), kk⟩
end
/-! ### is None as a test -/
section
variable {X : Cx} {K : PySem.W.Frag} {a : Expr} {ta : TEw} {pos : Pos}
theorem qtisN {j p2} (ha : PEw X a ta) : PTw X (.Compare a [.Is] [.Constant .none j p2] pos) (wTest (wIsN ta)) := PT.imp (pt_cmpR op_isN ha (pe_non (j := j) (pos := p2)) (nomark _)) fun σ H Q h => by
  obtain ⟨Z, σ', G, Qw, e, hr, t, k⟩ := h
  refine ⟨Z, σ', G, _, e, hr, t, fun Z1 G1 H1 x v x1 h1 r1 t1 => ?_⟩
  obtain ⟨b, eb, q⟩ := t1
  refine ⟨rfl, b, ?_, k Z1 G1 H1 b x1 h1 q⟩
  rw [r1.isNon]
  injection eb with eb
  rw [eb]
theorem qtnotN {j p2} (ha : PEw X a ta) : PTw X (.Compare a [.IsNot] [.Constant .none j p2] pos) (wTest (wNotN ta)) := PT.imp (pt_cmpR op_notN ha (pe_non (j := j) (pos := p2)) (nomark _)) fun σ H Q h => by
  obtain ⟨Z, σ', G, Qw, e, hr, t, k⟩ := h
  refine ⟨Z, σ', G, _, e, hr, t, fun Z1 G1 H1 x v x1 h1 r1 t1 => ?_⟩
  obtain ⟨b, eb, q⟩ := t1
  refine ⟨rfl, b, ?_, k Z1 G1 H1 b x1 h1 q⟩
  rw [r1.isNon]
  injection eb with eb
  rw [eb]
end
/-! ### all, any, sum, tuple, list -/
def wAll : List W → Gp → QW → Prop := fun ws G Q => match ws with
  | [x] => isS (asL G x) fun us => ∃ bs : List Bool, us = bs.map W.bl ∧ Q (.bl (bs.all id)) G
  | _ => False
def wAny : List W → Gp → QW → Prop := fun ws G Q => match ws with
  | [x] => isS (asL G x) fun us => ∃ bs : List Bool, us = bs.map W.bl ∧ Q (.bl (bs.any id)) G
  | _ => False
def wSum : List W → Gp → QW → Prop := fun ws G Q => match ws with
  | [x] => isS (asL G x) fun us => ∃ ns : List Int, us = ns.map W.int ∧ Q (.int ns.sum) G
  | _ => False
def wTuple : List W → Gp → QW → Prop := fun ws G Q => match ws with
  | [.tup us] => Q (.tup us) G
  | [x] => isS (asL G x) fun us => Q (.tup us) G
  | _ => False
def wList : List W → Gp → QW → Prop := fun ws G Q => match ws with
  | [.tup us] => Q (.lst us) G
  | [x] => isS (asL G x) fun us => Q (.lst us) G
  | _ => False
def wListM : List W → Gp → QW → Prop := fun ws G Q => match ws with
  | [.tup us] => ∀ p, G p = none → Q (.ref p) (gup G p (.lst us))
  | [x] => isS (asL G x) fun us => ∀ p, G p = none → Q (.ref p) (gup G p (.lst us))
  | _ => False
section
variable {K : PySem.W.Frag} {Z : Zp} {H : Hp} {G : Gp} {Q : QW} {us : List W} {p : Addr}
theorem wAll_lst : wAll [.lst us] G Q = ∃ bs : List Bool, us = bs.map W.bl ∧ Q (.bl (bs.all id)) G := rfl
theorem wAny_lst : wAny [.lst us] G Q = ∃ bs : List Bool, us = bs.map W.bl ∧ Q (.bl (bs.any id)) G := rfl
theorem wSum_lst : wSum [.lst us] G Q = ∃ ns : List Int, us = ns.map W.int ∧ Q (.int ns.sum) G := rfl
theorem wTuple_tup : wTuple [.tup us] G Q = Q (.tup us) G := rfl
theorem wTuple_lst : wTuple [.lst us] G Q = Q (.tup us) G := rfl
theorem wList_tup : wList [.tup us] G Q = Q (.lst us) G := rfl
theorem wList_lst : wList [.lst us] G Q = Q (.lst us) G := rfl
theorem wList_ref : wList [.ref p] G Q = isS (asL G (.ref p)) fun us => Q (.lst us) G := rfl
theorem wListM_tup : wListM [.tup us] G Q = ∀ p, G p = none → Q (.ref p) (gup G p (.lst us)) := rfl
theorem wListM_lst : wListM [.lst us] G Q = ∀ p, G p = none → Q (.ref p) (gup G p (.lst us)) := rfl
theorem RwL.unbl : ∀ {bs : List Bool} {vs : List V}, RwL K Z H (bs.map W.bl) vs → vs = bs.map V.bl
  | [], _, r => by cases r; rfl
  | b :: bs, _, r => by
    rw [List.map_cons] at r
    cases r with
    | cons r t => cases r; rw [RwL.unbl t]; rfl
theorem RwL.unint : ∀ {ns : List Int} {vs : List V}, RwL K Z H (ns.map W.int) vs → vs = ns.map V.int
  | [], _, r => by cases r; rfl
  | n :: ns, _, r => by
    rw [List.map_cons] at r
    cases r with
    | cons r t => cases r; rw [RwL.unint t]; rfl
theorem sim_all : SimN K (rAll K) wAll := by
  intro Z G H ws vs Qw Q h r t k
  cases r with
  | nil => exact False.elim t
  | cons rx rr =>
    cases rr with
    | cons _ _ => exact False.elim t
    | nil =>
      obtain ⟨us, e, bs, rfl, q⟩ := isS_ex t
      obtain ⟨p, vs, rfl, s, r⟩ := asL_sq h rx e
      cases r.unbl
      exact ⟨p, bs, rfl, s, k.at h .bl q⟩
theorem sim_any : SimN K (rAny K) wAny := by
  intro Z G H ws vs Qw Q h r t k
  cases r with
  | nil => exact False.elim t
  | cons rx rr =>
    cases rr with
    | cons _ _ => exact False.elim t
    | nil =>
      obtain ⟨us, e, bs, rfl, q⟩ := isS_ex t
      obtain ⟨p, vs, rfl, s, r⟩ := asL_sq h rx e
      cases r.unbl
      exact ⟨p, bs, rfl, s, k.at h .bl q⟩
theorem sim_sum : SimN K (rSum K) wSum := by
  intro Z G H ws vs Qw Q h r t k
  cases r with
  | nil => exact False.elim t
  | cons rx rr =>
    cases rr with
    | cons _ _ => exact False.elim t
    | nil =>
      obtain ⟨us, e, ns, rfl, q⟩ := isS_ex t
      obtain ⟨p, vs, rfl, s, r⟩ := asL_sq h rx e
      cases r.unint
      exact ⟨p, ns, rfl, s, k.at h .int q⟩
theorem sim_tuple : SimN K (fun xs H Q => ∃ p ys, xs = [.ref p] ∧ ((SqL K H p ys ∧ ∀ l, H l = none → Q (.ref l) (upd H l (.tup ys))) ∨ (SqT K H p ys ∧ Q (.ref p) H))) wTuple := by
  intro Z G H ws vs Qw Q h r t k
  cases r with
  | nil => exact False.elim t
  | @cons w v ws vs rx rr =>
    cases rr with
    | cons _ _ => cases rx <;> exact False.elim t
    | nil =>
      have gen : (isS (asL G w) fun us => Qw (.tup us) G) → ∃ p ys, [v] = [.ref p] ∧ ((SqL K H p ys ∧ ∀ l, H l = none → Q (.ref l) (upd H l (.tup ys))) ∨ (SqT K H p ys ∧ Q (.ref p) H)) := fun t => by
        obtain ⟨us, e, q⟩ := isS_ex t
        obtain ⟨p, vs, rfl, s, r⟩ := asL_sq h rx e
        refine ⟨p, vs, rfl, .inl ⟨s, fun l n => ?_⟩⟩
        obtain ⟨h2, x2, r2⟩ := new_tup h n r
        exact k _ _ _ _ _ x2 h2 r2 q
      cases rx with
      | tup s r => exact ⟨_, _, rfl, .inr ⟨s, k.at h (.tup s r) t⟩⟩
      | _ => exact gen t
theorem sim_list : SimN K (fun xs H Q => ∃ p ys, xs = [.ref p] ∧ (SqL K H p ys ∨ SqT K H p ys) ∧ ∀ l, H l = none → Q (.ref l) (upd H l (.lst ys))) wList := by
  intro Z G H ws vs Qw Q h r t k
  cases r with
  | nil => exact False.elim t
  | @cons w v ws vs rx rr =>
    cases rr with
    | cons _ _ => cases rx <;> exact False.elim t
    | nil =>
      have gen : (isS (asL G w) fun us => Qw (.lst us) G) → ∃ p ys, [v] = [.ref p] ∧ (SqL K H p ys ∨ SqT K H p ys) ∧ ∀ l, H l = none → Q (.ref l) (upd H l (.lst ys)) := fun t => by
        obtain ⟨us, e, q⟩ := isS_ex t
        obtain ⟨p, vs, rfl, s, r⟩ := asL_sq h rx e
        refine ⟨p, vs, rfl, .inl s, fun l n => ?_⟩
        obtain ⟨h2, x2, r2⟩ := new_frz h n r
        exact k _ _ _ _ _ x2 h2 r2 q
      cases rx with
      | tup s r =>
        refine ⟨_, _, rfl, .inr s, fun l n => ?_⟩
        obtain ⟨h2, x2, r2⟩ := new_frz h n r
        exact k _ _ _ _ _ x2 h2 r2 t
      | _ => exact gen t
theorem sim_listM : SimN K (fun xs H Q => ∃ p ys, xs = [.ref p] ∧ (SqL K H p ys ∨ SqT K H p ys) ∧ ∀ l, H l = none → Q (.ref l) (upd H l (.lst ys))) wListM := by
  intro Z G H ws vs Qw Q h r t k
  cases r with
  | nil => exact False.elim t
  | @cons w v ws vs rx rr =>
    cases rr with
    | cons _ _ => cases rx <;> exact False.elim t
    | nil =>
      have gen : (isS (asL G w) fun us => ∀ p, G p = none → Qw (.ref p) (gup G p (.lst us))) → ∃ p ys, [v] = [.ref p] ∧ (SqL K H p ys ∨ SqT K H p ys) ∧ ∀ l, H l = none → Q (.ref l) (upd H l (.lst ys)) := fun t => by
        obtain ⟨us, e, q⟩ := isS_ex t
        obtain ⟨p, vs, rfl, s, r⟩ := asL_sq h rx e
        refine ⟨p, vs, rfl, .inl s, fun l n => ?_⟩
        obtain ⟨g, h2, x2⟩ := new_lst h n r
        exact k _ _ _ _ _ x2 h2 .ref (q l g)
      cases rx with
      | tup s r =>
        refine ⟨_, _, rfl, .inr s, fun l n => ?_⟩
        obtain ⟨g, h2, x2⟩ := new_lst h n r
        exact k _ _ _ _ _ x2 h2 .ref (t l g)
      | _ => exact gen t
variable {X : Cx} {e : Expr} {es : List Expr} {t : TAw} {p pos : Pos}
theorem qall (hc : X.calm = true) (hg : Gl X "all") (hm : X.mg "all" = none) (ha : PAw X (e :: es) t) (he : starEach (e :: es) X.env = (false, eval e X.env) :: starEach es X.env := by rfl) (hpl : (backTo pos (starEach es X.env)).any (·.1) = false := by rfl) :
    PEw X (.Call (.Name "all" p) (e :: es) [] pos) (wCB wAll t) := PE.imp (pe_callB (cr_all hc) hg hm (by decide +kernel) ha (by decide) (by decide) he hpl) fun _ _ _ h => liftN sim_all h
theorem qany (hc : X.calm = true) (hg : Gl X "any") (hm : X.mg "any" = none) (ha : PAw X (e :: es) t) (he : starEach (e :: es) X.env = (false, eval e X.env) :: starEach es X.env := by rfl) (hpl : (backTo pos (starEach es X.env)).any (·.1) = false := by rfl) :
    PEw X (.Call (.Name "any" p) (e :: es) [] pos) (wCB wAny t) := PE.imp (pe_callB (cr_any hc) hg hm (by decide +kernel) ha (by decide) (by decide) he hpl) fun _ _ _ h => liftN sim_any h
theorem qsum (hc : X.calm = true) (hg : Gl X "sum") (hm : X.mg "sum" = none) (ha : PAw X (e :: es) t) (he : starEach (e :: es) X.env = (false, eval e X.env) :: starEach es X.env := by rfl) (hpl : (backTo pos (starEach es X.env)).any (·.1) = false := by rfl) :
    PEw X (.Call (.Name "sum" p) (e :: es) [] pos) (wCB wSum t) := PE.imp (pe_callB (cr_sum hc) hg hm (by decide +kernel) ha (by decide) (by decide) he hpl) fun _ _ _ h => liftN sim_sum h
theorem qtuple (hg : Gl X "tuple") (hm : X.mg "tuple" = none) (ha : PAw X (e :: es) t) (he : starEach (e :: es) X.env = (false, eval e X.env) :: starEach es X.env := by rfl) (hpl : (backTo pos (starEach es X.env)).any (·.1) = false := by rfl) :
    PEw X (.Call (.Name "tuple" p) (e :: es) [] pos) (wCB wTuple t) := PE.imp (pe_callTy call_tuple_of hg hm (by decide +kernel) ha (by decide) (by decide) he hpl) fun _ _ _ h => liftN sim_tuple h
theorem qlist (hg : Gl X "list") (hm : X.mg "list" = none) (ha : PAw X (e :: es) t) (he : starEach (e :: es) X.env = (false, eval e X.env) :: starEach es X.env := by rfl) (hpl : (backTo pos (starEach es X.env)).any (·.1) = false := by rfl) :
    PEw X (.Call (.Name "list" p) (e :: es) [] pos) (wCB wList t) := PE.imp (pe_callTy call_list_of hg hm (by decide +kernel) ha (by decide) (by decide) he hpl) fun _ _ _ h => liftN sim_list h
theorem qlistM (hg : Gl X "list") (hm : X.mg "list" = none) (ha : PAw X (e :: es) t) (he : starEach (e :: es) X.env = (false, eval e X.env) :: starEach es X.env := by rfl) (hpl : (backTo pos (starEach es X.env)).any (·.1) = false := by rfl) :
    PEw X (.Call (.Name "list" p) (e :: es) [] pos) (wCB wListM t) := PE.imp (pe_callTy call_list_of hg hm (by decide +kernel) ha (by decide) (by decide) he hpl) fun _ _ _ h => liftN sim_listM h
end
end WL

namespace WL
open PySem PySem.Spec PyProof.Rows L2 RZ
/-! ### slices -/
abbrev TOw := SW → Gp → (Option Int → Gp → Prop) → Prop
def liftO (K : PySem.W.Frag) (t : TOw) : TO := fun σ H Q => ∃ Z σ' G Qw, RwS K Z H σ' σ ∧ HRel K Z G H ∧ t σ' G Qw ∧ ∀ Z' G' H' o, Ext Z G H Z' G' H' → HRel K Z' G' H' → Qw o G' → Q o H'
def POw (X : Cx) (e : Option Expr) (t : TOw) : Prop := PO X e (liftO X.K t)
def wpNone : TOw := fun _ G Q => Q none G
def wpSome (t : TEw) : TOw := fun σ G Q => t σ G fun w G1 => match w with
  | .int i => Q (some i) G1
  | _ => False
def cutW (xs : List W) (lo hi : Option Int) : List W := (xs.drop (HT.sIx xs.length 0 lo)).take (HT.sIx xs.length xs.length hi - HT.sIx xs.length 0 lo)
def wCut (x : W) (lo hi : Option Int) (G : Gp) (Q : QW) : Prop := match x with
  | .tup ws => Q (.tup (cutW ws lo hi)) G
  | .str z => z.length ≤ sizeLine ∧ Q (.str (cutS z lo hi)) G
  | x => isS (asL G x) fun ws => Q (.lst (cutW ws lo hi)) G
def wSlice (t : TEw) (lo hi : TOw) : TEw := fun σ G Q => t σ G fun x G1 => lo σ G1 fun l G2 => hi σ G2 fun h G3 => wCut x l h G3 Q
def wCutM (x : W) (lo hi : Option Int) (G : Gp) (Q : QW) : Prop := isS (asL G x) fun ws => ∀ p, G p = none → Q (.ref p) (gup G p (.lst (cutW ws lo hi)))
def wSliceM (t : TEw) (lo hi : TOw) : TEw := fun σ G Q => t σ G fun x G1 => lo σ G1 fun l G2 => hi σ G2 fun h G3 => wCutM x l h G3 Q
section
variable {K : PySem.W.Frag} {Z : Zp} {G : Gp} {H : Hp} {ws : List W} {lo hi : Option Int} {Q : QW} {p : Addr} {z : Str}
theorem wCut_tup : wCut (.tup ws) lo hi G Q = Q (.tup (cutW ws lo hi)) G := rfl
theorem wCut_lst : wCut (.lst ws) lo hi G Q = Q (.lst (cutW ws lo hi)) G := rfl
theorem wCut_ref : wCut (.ref p) lo hi G Q = isS (asL G (.ref p)) fun ws => Q (.lst (cutW ws lo hi)) G := rfl
theorem wCut_str : wCut (.str z) lo hi G Q = (z.length ≤ sizeLine ∧ Q (.str (cutS z lo hi)) G) := rfl
theorem wpSome_int {i : Int} {σ : SW} {P : Option Int → Gp → Prop} : wpSome (wC (.int i)) σ G P = P (some i) G := rfl
theorem RwL.cut {vs : List V} (r : RwL K Z H ws vs) : RwL K Z H (cutW ws lo hi) (cutV vs lo hi) := by
  unfold cutW cutV
  rw [← r.length]
  exact (r.drop _).take _
end
section
variable {X : Cx} {K : PySem.W.Frag} {e : Expr} {te : TEw} {lo hi : Option Expr} {tl th : TOw} {pos p2 : Pos}
theorem qp_none : POw X none wpNone := by
  refine ⟨fun pins s σ H Q I h => ?_⟩
  obtain ⟨Z, σ', G, Qw, ev, hr, t, k⟩ := h
  exact po_none.run pins s σ H Q I (k Z G H none Ext.refl hr t)
theorem qp_some (h : PEw X e te) : POw X (some e) (wpSome te) := by
  refine ⟨fun pins s σ H Q I h2 => (po_some h).run pins s σ H Q I ?_⟩
  obtain ⟨Z, σ', G, Qw, ev, hr, t, k⟩ := h2
  refine ⟨Z, σ', G, _, ev, hr, t, fun Z1 G1 H1 w v x1 h1 r1 t1 => ?_⟩
  cases r1 with
  | int => exact ⟨_, rfl, k Z1 G1 H1 _ x1 h1 t1⟩
  | _ => exact False.elim t1
def rSlU (K : PySem.W.Frag) : V → Option Int → Option Int → Hp → VK → Prop := fun x lo hi H Q => rSlL K x lo hi H Q ∨ rSlA K x lo hi H Q ∨ rSlS x lo hi H Q
theorem lslice {r : V → Option Int → Option Int → Hp → VK → Prop} {wr : W → Option Int → Option Int → Gp → QW → Prop} {σ : SV} {H : Hp} {Q : VK}
    (hs : ∀ Z G H x v lo hi Qw Q, HRel K Z G H → Rw K Z H x v → wr x lo hi G Qw → KE K Z G H Qw Q → r v lo hi H Q)
    (h : liftE K (fun σ G Q => te σ G fun x G1 => tl σ G1 fun l G2 => th σ G2 fun h G3 => wr x l h G3 Q) σ H Q) : tSl r (liftE K te) (liftO K tl) (liftO K th) σ H Q := by
  obtain ⟨Z, σ', G, Qw, e, hr, t, k⟩ := h
  refine ⟨Z, σ', G, _, e, hr, t, fun Z1 G1 H1 x v x1 h1 r1 t1 => ?_⟩
  refine ⟨Z1, σ', G1, _, e.ext hr x1, h1, t1, fun Z2 G2 H2 l x2 h2 t2 => ?_⟩
  refine ⟨Z2, σ', G2, _, e.ext hr (x1.trans x2), h2, t2, fun Z3 G3 H3 u x3 h3 t3 => ?_⟩
  exact hs Z3 G3 H3 x v l u Qw Q h3 (r1.ext h1 (x2.trans x3)) t3 (k.mono ((x1.trans x2).trans x3))
theorem qslice (he : PEw X e te) (hl : POw X lo tl) (hh : POw X hi th) : PEw X (.Subscript e (.Slice lo hi none p2) pos) (wSlice te tl th) :=
  PE.imp (pe_slice (SlR.or sl_list (SlR.or sl_tupA sl_str)) he hl hh) fun σ H Q h => lslice (wr := wCut) (fun Z G H x v lo hi Qw Q h rx t k => by
    have gen : (isS (asL G x) fun ws => Qw (.lst (cutW ws lo hi)) G) → rSlU X.K v lo hi H Q := fun t => by
      obtain ⟨us, e, q⟩ := isS_ex t
      obtain ⟨p, vs, rfl, s, r⟩ := asL_sq h rx e
      refine .inl ⟨p, vs, rfl, s, fun l n => ?_⟩
      obtain ⟨h2, x2, r2⟩ := new_frz h n (r.cut (lo := lo) (hi := hi))
      exact k _ _ _ _ _ x2 h2 r2 q
    cases rx with
    | @tup p ws vs s r =>
      refine .inr (.inl ⟨_, _, rfl, s, fun hw => ?_, fun _ l n => ?_⟩)
      · have e : cutW ws lo hi = ws := by
          unfold cutW
          rw [r.length, hw.1, hw.2, List.drop_zero, Nat.sub_zero, ← r.length, List.take_length]
        have t' : Qw (.tup (cutW ws lo hi)) G := t
        rw [e] at t'
        exact k.at h (.tup s r) t'
      · obtain ⟨h2, x2, r2⟩ := new_tup h n (r.cut (lo := lo) (hi := hi))
        exact k _ _ _ _ _ x2 h2 r2 t
    | str => exact .inr (.inr ⟨_, rfl, t.1, k.at h .str t.2⟩)
    | _ => exact gen t) h
theorem qsliceM (he : PEw X e te) (hl : POw X lo tl) (hh : POw X hi th) : PEw X (.Subscript e (.Slice lo hi none p2) pos) (wSliceM te tl th) :=
  PE.imp (pe_slice sl_list he hl hh) fun σ H Q h => lslice (wr := wCutM) (fun Z G H x v lo hi Qw Q h rx t k => by
      obtain ⟨us, e, q⟩ := isS_ex t
      obtain ⟨p, vs, rfl, s, r⟩ := asL_sq h rx e
      refine ⟨p, vs, rfl, s, fun l n => ?_⟩
      obtain ⟨g, h2, x2⟩ := new_lst h n (r.cut (lo := lo) (hi := hi))
      exact k _ _ _ _ _ x2 h2 .ref (q l g)) h
end
/-! ### in -/
def flatW : W → Bool
  | .non => true | .bl _ => true | .int _ => true | .str _ => true
  | _ => false
def eqW : W → W → Bool
  | .non, .non => true
  | .bl a, .bl b => a == b
  | .bl a, .int b => (if a then 1 else 0) == b
  | .int a, .bl b => a == (if b then 1 else 0)
  | .int a, .int b => a == b
  | .str a, .str b => a == b
  | _, _ => false
def inW (x : W) (xs : List W) : Bool := xs.any fun y => eqW y x
def seqs (G : Gp) : W → Option (List W)
  | .tup ws => some ws
  | w => asL G w
def wIn (neg : Bool) : RW2 := fun x y G Q => isS (seqs G y) fun ws => flatW x = true ∧ ws.all flatW = true ∧ Q (.bl (if neg then !inW x ws else inW x ws)) G
section
variable {X : Cx} {K : PySem.W.Frag} {Z : Zp} {H : Hp}
theorem Rw.flat {w : W} {v : V} (r : Rw K Z H w v) (f : flatW w = true) : flatV v = true := by cases r <;> first | rfl | cases f
theorem RwL.flat : ∀ {ws : List W} {vs : List V}, RwL K Z H ws vs → ws.all flatW = true → vs.all flatV = true
  | _, _, .nil, _ => rfl
  | _, _, .cons r t, f => by
    rw [List.all_cons, Bool.and_eq_true] at f ⊢
    exact ⟨r.flat f.1, RwL.flat t f.2⟩
theorem Rw.eqv {w w' : W} {v v' : V} (r : Rw K Z H w v) (r' : Rw K Z H w' v') (f : flatW w = true) (f' : flatW w' = true) : eqV v v' = eqW w w' := by
  cases r <;> cases r' <;> first | rfl | cases f | cases f'
theorem RwL.inv {w : W} {v : V} (r : Rw K Z H w v) (f : flatW w = true) : ∀ {ws : List W} {vs : List V}, RwL K Z H ws vs → ws.all flatW = true → inV v vs = inW w ws
  | _, _, .nil, _ => rfl
  | _, _, .cons q t, g => by
    rw [List.all_cons, Bool.and_eq_true] at g
    have ih := RwL.inv r f t g.2
    unfold inV inW at ih ⊢
    rw [List.any_cons, List.any_cons, ih, q.eqv r g.1 f]
theorem seqs_sq {G : Gp} (h : HRel K Z G H) {w : W} {v : V} {ws : List W} (r : Rw K Z H w v) (e : seqs G w = some ws) : ∃ p vs, v = .ref p ∧ (SqL K H p vs ∨ SqT K H p vs) ∧ RwL K Z H ws vs := by
  have gen : asL G w = some ws → ∃ p vs, v = .ref p ∧ (SqL K H p vs ∨ SqT K H p vs) ∧ RwL K Z H ws vs := fun e => by
    obtain ⟨p, vs, e1, s, t⟩ := asL_sq h r e
    exact ⟨p, vs, e1, .inl s, t⟩
  cases w with
  | tup us =>
    cases e
    cases r with
    | tup s r => exact ⟨_, _, rfl, .inr s, r⟩
  | _ => exact gen e
theorem sim_in {neg : Bool} : Sim2 K (rIn K neg) (wIn neg) := by
  intro Z G H x y v u Qw Q h rx ry t k
  obtain ⟨ws, e, f, g, q⟩ := isS_ex t
  obtain ⟨p, vs, e1, s, r⟩ := seqs_sq h ry e
  refine ⟨p, vs, e1, s, rx.flat f, r.flat g, ?_⟩
  rw [r.inv rx f g]
  exact k.at h .bl q
variable {a b : Expr} {ta tb : TEw} {pos : Pos}
theorem qin (ha : PEw X a ta) (hb : PEw X b tb) (hm : behindInMarks .In b = false := by rfl) : PEw X (.Compare a [.In] [b] pos) (wOp (wIn false) ta tb) := qcmp op_in_seq sim_in ha hb hm
theorem qnin (ha : PEw X a ta) (hb : PEw X b tb) (hm : behindInMarks .NotIn b = false := by rfl) : PEw X (.Compare a [.NotIn] [b] pos) (wOp (wIn true) ta tb) := qcmp op_notIn_seq sim_in ha hb hm
theorem qtin (ha : PEw X a ta) (hb : PEw X b tb) (hm : behindInMarks .In b = false := by rfl) : PTw X (.Compare a [.In] [b] pos) (wTest (wOp (wIn false) ta tb)) := qtcmp op_in_seq sim_in ha hb hm
theorem qtnin (ha : PEw X a ta) (hb : PEw X b tb) (hm : behindInMarks .NotIn b = false := by rfl) : PTw X (.Compare a [.NotIn] [b] pos) (wTest (wOp (wIn true) ta tb)) := qtcmp op_notIn_seq sim_in ha hb hm
end
/-! ### a list so many times -/
def repW (k : Int) (ws : List W) : List W := (List.replicate k.toNat ws).flatten
def CRep (n : Nat) (k : Int) : Prop := -9223372036854775808 ≤ k ∧ k < 9223372036854775808 ∧ n * k.toNat ≤ sizeLine
def wRep : RW2 := fun x y G Q => match x, y with
  | .lst ws, .int k => CRep ws.length k ∧ Q (.lst (repW k ws)) G
  | _, _ => False
def wRepM : RW2 := fun x y G Q => match x, y with
  | .lst ws, .int k => CRep ws.length k ∧ ∀ p, G p = none → Q (.ref p) (gup G p (.lst (repW k ws)))
  | _, _ => False
section
variable {X : Cx} {K : PySem.W.Frag} {Z : Zp} {H : Hp}
theorem wRep_lst {ws : List W} {k : Int} {G : Gp} {Q : QW} : wRep (.lst ws) (.int k) G Q = (CRep ws.length k ∧ Q (.lst (repW k ws)) G) := rfl
theorem wRepM_lst {ws : List W} {k : Int} {G : Gp} {Q : QW} : wRepM (.lst ws) (.int k) G Q = (CRep ws.length k ∧ ∀ p, G p = none → Q (.ref p) (gup G p (.lst (repW k ws)))) := rfl
theorem RwL.rep {ws : List W} {vs : List V} (r : RwL K Z H ws vs) : ∀ n : Nat, RwL K Z H (List.replicate n ws).flatten (List.replicate n vs).flatten
  | 0 => .nil
  | n + 1 => by
    rw [List.replicate_succ, List.replicate_succ, List.flatten_cons, List.flatten_cons]
    exact r.append (RwL.rep r n)
theorem sim_rep : Sim2 K rRep wRep := by
  intro Z G H x y v u Qw Q h rx ry t k
  cases rx with
  | @lst p a vs z1 s1 r1 =>
    cases ry with
    | int =>
      obtain ⟨c, q⟩ := t
      refine ⟨_, _, vs, rfl, rfl, s1, by have := c.1; omega, by have := c.2.1; omega, by rw [← r1.length]; exact c.2.2, fun l n => ?_⟩
      obtain ⟨h2, x2, r2⟩ := new_frz h n (r1.rep _)
      exact k _ _ _ _ _ x2 h2 r2 q
    | _ => exact False.elim t
  | _ => exact False.elim t
theorem sim_repM : Sim2 K rRep wRepM := by
  intro Z G H x y v u Qw Q h rx ry t k
  cases rx with
  | @lst p a vs z1 s1 r1 =>
    cases ry with
    | int =>
      obtain ⟨c, q⟩ := t
      refine ⟨_, _, vs, rfl, rfl, s1, by have := c.1; omega, by have := c.2.1; omega, by rw [← r1.length]; exact c.2.2, fun l n => ?_⟩
      obtain ⟨g, h2, x2⟩ := new_lst h n (r1.rep _)
      exact k _ _ _ _ _ x2 h2 .ref (q l g)
    | _ => exact False.elim t
  | _ => exact False.elim t
variable {a b : Expr} {ta tb : TEw} {pos : Pos}
theorem qrep (ha : PEw X a ta) (hb : PEw X b tb) : PEw X (.BinOp a .Mult b pos) (wOp wRep ta tb) := qop op_rep sim_rep ha hb
theorem qrepM (ha : PEw X a ta) (hb : PEw X b tb) : PEw X (.BinOp a .Mult b pos) (wOp wRepM ta tb) := qop op_rep sim_repM ha hb
end
/-! ### the module's constants -/
inductive GlobW (K : PySem.W.Frag) (mg : Str → Option Value) (x : Str) : W → Prop
  | int {i : Int} {t : Tok} : mg x = some (.int i t) → GlobW K mg x (.int i)
  | str {z : Str} {t : Tok} : mg x = some (.str z t) → GlobW K mg x (.str z)
  | tup {a : Addr} {ws : List W} {vs : List V} : mg x = some (.ref a) → SqT K (fun _ => none) a vs → RwL K (fun _ => False) (fun _ => none) ws vs → GlobW K mg x (.tup ws)
mutual
theorem Rw.none {K : PySem.W.Frag} {Z : Zp} {H : Hp} : ∀ {w : W} {v : V}, Rw K (fun _ => False) (fun _ => none) w v → Rw K Z H w v
  | _, _, .non => .non
  | _, _, .bl => .bl
  | _, _, .int => .int
  | _, _, .str => .str
  | _, _, .ref => .ref
  | _, _, .ty => .ty
  | _, _, .tup s r => .tup (by
      rcases s with (s | ⟨o, s⟩) | s
      · cases s
      · cases s
      · exact .inr s) (RwL.none r)
  | _, _, .lst z _ _ => z.elim
  | _, _, .ins _ z _ _ => z.elim
  | _, _, .dic z _ _ => z.elim
  | _, _, .scr s r => .scr (by
      rcases s with ⟨o, s⟩ | s
      · cases s
      · exact .inr s) (RwL.none r)
theorem RwL.none {K : PySem.W.Frag} {Z : Zp} {H : Hp} : ∀ {ws : List W} {vs : List V}, RwL K (fun _ => False) (fun _ => none) ws vs → RwL K Z H ws vs
  | _, _, .nil => .nil
  | _, _, .cons r t => .cons (Rw.none r) (RwL.none t)
end
section
variable {X : Cx} {x : Str} {w : W} {pos : Pos}
theorem qglob (hg : Gl X x) (c : GlobW X.K X.mg x w) (hd : (x == ("__debug__" : Str)) = false := by decide) : PEw X (.Name x pos) (wC w) := by
  cases c with
  | @int i t m => exact PE.imp (pe_glob (v := .int i) hg m ⟨_, rfl⟩ hd) fun _ _ _ h => lC (fun _ _ => .int) h
  | @str z t m => exact PE.imp (pe_glob (v := .str z) hg m ⟨_, rfl⟩ hd) fun _ _ _ h => lC (fun _ _ => .str) h
  | @tup a ws vs m s r =>
    refine PE.imp (pe_glob (v := .ref a) hg m rfl hd) fun _ _ _ h => lC (fun Z H => .tup ?_ r.none) h
    rcases s with (s | ⟨o, s⟩) | s
    · cases s
    · cases s
    · exact .inr s
end
/-! ### a[i] op= e -/
def wGet (o i : W) (G : Gp) (Q : QW) : Prop := match o, i with
  | .ref p, .int k => 0 ≤ k ∧ isG (G p) fun ws => ws.length ≤ sizeLine ∧ isS ws[k.toNat]? fun w => Q w G
  | _, _ => False
theorem wGet_ref {p : Addr} {k : Int} {G : Gp} {Q : QW} : wGet (.ref p) (.int k) G Q = (0 ≤ k ∧ isG (G p) fun ws => ws.length ≤ sizeLine ∧ isS ws[k.toNat]? fun w => Q w G) := rfl
def wAugIx (to ti te : TEw) (r : RW2) : TSw := fun D σ G => to σ G fun o G1 => ti σ G1 fun i G2 => wGet o i G2 fun x G3 => te σ G3 fun y G4 => r x y G4 fun z G5 => setIx o i z G5 fun G6 => D.nx σ G6
section
variable {X : Cx} {K : PySem.W.Frag} {o i e : Expr} {to ti te : TEw} {tpos pos : Pos}
def rGetL (K : PySem.W.Frag) : V → V → Hp → VK → Prop := fun o i H Q => ∃ p xs k v, o = .ref p ∧ i = .int k ∧ 0 ≤ k ∧ xs.length ≤ sizeLine ∧ SqL K H p xs ∧ xs[k.toNat]? = some v ∧ Q v H
theorem get_list : PGet X (rGetL X.K) := by
  intro pins s σ H o i ov iv Q I r1 r2 q
  obtain ⟨p, xs, k, v, rfl, rfl, k0, l, s1, e, q⟩ := q
  cases r1
  obtain ⟨t, rfl⟩ := r2
  obtain ⟨its, r, pl, _⟩ := I.list s1
  obtain ⟨w, ew, rw'⟩ := r.get e
  have hs : sizeLine = 16777216 := by decide
  have hk : k.toNat < xs.length := (List.getElem?_eq_some_iff.mp e).1
  exact wpAny_getItem_list pl.isList k0 (by omega) (by simpa using ew) ⟨v, H, I, rw', q⟩
theorem laugix {r : TIp} {wr : RW2} (hs : Sim2 X.K r wr) {D : Ends} {σ : SV} {H : Hp} (h : liftS X (wAugIx to ti te wr) D σ H) : tAugS (liftE X.K to) (liftE X.K ti) (liftE X.K te) (rGetL X.K) r rSetL D σ H := by
  obtain ⟨Z, σ', G, Dw, e, hr, t, k⟩ := h
  refine ⟨Z, σ', G, _, e, hr, t, fun Z1 G1 H1 ow ov x1 h1 r1 t1 => ?_⟩
  refine ⟨Z1, σ', G1, _, e.ext hr x1, h1, t1, fun Z2 G2 H2 iw iv x2 h2 r2 t2 => ?_⟩
  have t3 : ∃ p kk, ow = .ref p ∧ iw = .int kk ∧ 0 ≤ kk ∧ isG (G2 p) fun ws => ws.length ≤ sizeLine ∧ isS ws[kk.toNat]? fun w => te σ' G2 fun y G4 => wr w y G4 fun z G5 => setIx ow iw z G5 fun G6 => Dw.nx σ' G6 := by
    cases ow <;> cases iw <;> first
      | exact False.elim t2
      | exact ⟨_, _, rfl, rfl, t2⟩
  obtain ⟨p, kk, rfl, rfl, k0, t3⟩ := t3
  obtain ⟨ws, g, l, t3⟩ := isG_ex t3
  obtain ⟨xw, ex, t3⟩ := isS_ex t3
  cases r1
  cases r2
  obtain ⟨vs, s, r⟩ := h2.lst g
  obtain ⟨xv, exv, rx⟩ := r.get _ ex
  refine ⟨p, vs, kk, xv, rfl, rfl, k0, by rw [← r.length]; exact l, SqL.of s, exv, ?_⟩
  refine ⟨Z2, σ', G2, _, (e.ext hr x1).ext h1 x2, h2, t3, fun Z3 G3 H3 y yv x3 h3 r3 t4 => ?_⟩
  refine hs Z3 G3 H3 xw y xv yv _ _ h3 (rx.ext h2 x3) r3 t4 fun Z4 G4 H4 z zv x4 h4 r4 t5 => ?_
  obtain ⟨p', kk', us, j, e1, e2, g', l', q⟩ := setIx_ex t5
  cases e1
  cases e2
  obtain ⟨us', s', ru⟩ := h4.lst g'
  obtain ⟨h5, x5⟩ := chg_lst h4 g' (RwL.set r4 j ru)
  refine ⟨p, us', kk, j, rfl, rfl, s', by rw [← ru.length]; exact l', ?_⟩
  have xx := (((x1.trans x2).trans x3).trans x4).trans x5
  exact k.nx _ _ _ _ _ xx h5 (e.ext hr xx) q
theorem qaugAIx (ho : PEw X o to) (hi : PEw X i ti) (he : PEw X e te)
    (ha : ∀ ov iv new, augStore i ov iv new = (do holding [new, ov, iv] (setItem ov iv new); release [new, ov, iv] []; pure .next) := by intros; rfl) : PSw X (.AugAssign (.Subscript o i tpos) .Add e pos) (wAugIx to ti te wAddI) :=
  PS.imp (ps_augS ho hi get_list he ip_add set_list ha) fun _ _ _ h => laugix sim_ip h
theorem qaugSIx (ho : PEw X o to) (hi : PEw X i ti) (he : PEw X e te)
    (ha : ∀ ov iv new, augStore i ov iv new = (do holding [new, ov, iv] (setItem ov iv new); release [new, ov, iv] []; pure .next) := by intros; rfl) : PSw X (.AugAssign (.Subscript o i tpos) .Sub e pos) (wAugIx to ti te wSub) :=
  PS.imp (ps_augS ho hi get_list he ip_sub set_list ha) fun _ _ _ h => laugix sim_ip h
end
/-! ### zip, enumerate -/
def tup2 (x y : W) : W := .tup [x, y]
theorem walkP {K : PySem.W.Frag} {J : It} {Z : Zp} {G : Gp} {H : Hp} {ws us : List W} {vs ts : List V} {Gd : Hp → Prop} (n : Nat) (hn : n = (ws.zipWith tup2 us).length)
    (wk : Walk J n Gd (YPair (fun i => vs[i]?) (fun i => ts[i]?))) (hg : ∀ Z' G' H', Ext Z G H Z' G' H' → HRel K Z' G' H' → Gd H') (h : HRel K Z G H) (r : RwL K Z H ws vs) (r2 : RwL K Z H us ts) : WalkW K J Z G H (ws.zipWith tup2 us) := by
  refine ⟨Gd, YPair (fun i => vs[i]?) (fun i => ts[i]?), by rw [← hn]; exact wk, fun Z' G' H' x h' => ⟨hg Z' G' H' x h', fun i v H'' hi y => ?_⟩⟩
  obtain ⟨T, a, b, rfl, nT, rfl, e1, e2⟩ := y
  obtain ⟨w, ew, rw'⟩ := (r.ext h x).get' i e1
  obtain ⟨u, eu, ru⟩ := (r2.ext h x).get' i e2
  obtain ⟨h2, x2, r3⟩ := new_tup h' nT (.cons rw' (.cons ru .nil))
  exact ⟨tup2 w u, by rw [List.getElem?_zipWith, ew, eu], r3, x2, h2⟩
theorem walk_zipT {K : PySem.W.Frag} {a b : Addr} {xs ys : List V} {n : Nat} (hn : n = min xs.length ys.length) : Walk (ItzT K a b) n (fun H => SqT K H a xs ∧ SqT K H b ys) (YPair (fun i => xs[i]?) (fun i => ys[i]?)) := by
  subst hn
  refine ⟨fun i H hi q => ?_, fun H q => ⟨xs, ys, q.1, q.2, by omega⟩, fun i H v H' hi q y => ?_⟩
  · have h1 : i < xs.length := Nat.lt_of_lt_of_le hi (Nat.min_le_left _ _)
    have h2 : i < ys.length := Nat.lt_of_lt_of_le hi (Nat.min_le_right _ _)
    exact ⟨xs, ys, _, _, q.1, q.2, List.getElem?_eq_getElem h1, List.getElem?_eq_getElem h2⟩
  · obtain ⟨T, x, z, e1, e2, e3, f1, f2⟩ := y
    exact ⟨T, x, z, e1, e2, e3, f1 xs q.1, f2 ys q.2⟩
/-- what zip takes: both lists, or both tuples -/
def zipOf (ws : List W) (G : Gp) (R : List W → Gp → Prop) : Prop := match ws with
  | [.tup a, .tup b] => R (a.zipWith tup2 b) G
  | [.lst a, .lst b] => R (a.zipWith tup2 b) G
  | _ => False
def i_zip2 (ta : TAw) : TIw := fun σ G R => ta σ G fun ws G1 => zipOf ws G1 R
section
variable {X : Cx} {K : PySem.W.Frag} {ta : TAw} {p pos tpos : Pos} {elts : List Expr} {kk : Nat}
theorem zipOf_tup {a b : List W} {G : Gp} {R : List W → Gp → Prop} : zipOf [.tup a, .tup b] G R = R (a.zipWith tup2 b) G := rfl
theorem zipOf_lst {a b : List W} {G : Gp} {R : List W → Gp → Prop} : zipOf [.lst a, .lst b] G R = R (a.zipWith tup2 b) G := rfl
theorem qizip2 {e e2 : Expr} (hg : Gl X "zip") (hm : X.mg "zip" = none) (ha : PAw X [e, e2] ta)
    (hs : starEach [e, e2] X.env = (false, eval e X.env) :: starEach [e2] X.env := by rfl) (hpl : (backTo pos (starEach [e2] X.env)).any (·.1) = false := by rfl) :
    PIw X (.Tuple elts kk tpos) (.Call (.Name "zip" p) [e, e2] [] pos) (i_zip2 ta) := PI.imp (pi_zipA hg hm ha hs hpl) fun σ H R h => by
  obtain ⟨Z, σ', G, Qw, ev, hr, t, k⟩ := h
  refine ⟨Z, σ', G, _, ev, hr, t, fun Z1 G1 H1 ws vs x1 h1 r1 t1 => ?_⟩
  cases r1 with
  | nil => exact False.elim t1
  | cons ra rr =>
    cases rr with
    | nil => cases ra <;> exact False.elim t1
    | cons rb rr =>
      cases rr with
      | cons _ _ => cases ra <;> cases rb <;> exact False.elim t1
      | nil =>
        cases ra with
        | tup sa qa =>
          cases rb with
          | tup sb qb => exact ⟨_, _, _, _, rfl, .inr ⟨sa, sb, k Z1 G1 H1 _ _ x1 h1 (walkP _ (by rw [List.length_zipWith, qa.length, qb.length]) (walk_zipT rfl) (fun Z' G' H' x h' => ⟨SqT.ext h1 x sa, SqT.ext h1 x sb⟩) h1 qa qb) t1⟩⟩
          | _ => exact False.elim t1
        | lst za sa qa =>
          cases rb with
          | lst zb sb qb => exact ⟨_, _, _, _, rfl, .inl ⟨SqL.of sa, SqL.of sb, k Z1 G1 H1 _ _ x1 h1 (walkP _ (by rw [List.length_zipWith, qa.length, qb.length]) (walk_zip rfl) (fun Z' G' H' x h' => ⟨SqL.of (x.f _ _ sa (h1.z _ za).1).1, SqL.of (x.f _ _ sb (h1.z _ zb).1).1⟩) h1 qa qb) t1⟩⟩
          | _ => exact False.elim t1
        | _ => cases rb <;> exact False.elim t1
end
/-- enumerate of a list -/
def enumFrom (n : Nat) : List W → List W
  | [] => []
  | w :: ws => tup2 (.int (n : Int)) w :: enumFrom (n + 1) ws
theorem enum_len : ∀ (n : Nat) (ws : List W), (enumFrom n ws).length = ws.length
  | _, [] => rfl
  | n, _ :: ws => by
    show (enumFrom (n + 1) ws).length + 1 = ws.length + 1
    rw [enum_len]
theorem enum_get : ∀ (n : Nat) (ws : List W) (i : Nat), (enumFrom n ws)[i]? = ws[i]?.map fun w => tup2 (.int ((n + i : Nat) : Int)) w
  | _, [], i => by simp [enumFrom]
  | n, w :: ws, 0 => rfl
  | n, w :: ws, i + 1 => by
    show (enumFrom (n + 1) ws)[i]? = ws[i]?.map _
    rw [enum_get (n + 1) ws i, show n + 1 + i = n + (i + 1) by omega]
def enumOf (ws : List W) (G : Gp) (R : List W → Gp → Prop) : Prop := match ws with
  | [x] => isS (asL G x) fun us => match x with
    | .ref p => R (enumFrom 0 us) (gdel G p)
    | _ => R (enumFrom 0 us) G
  | _ => False
def i_enum (ta : TAw) : TIw := fun σ G R => ta σ G fun ws G1 => enumOf ws G1 R
section
variable {K : PySem.W.Frag} {X : Cx} {ta : TAw} {p pos tpos : Pos} {elts : List Expr} {kk : Nat}
theorem enumOf_lst {a : List W} {G : Gp} {R : List W → Gp → Prop} : enumOf [.lst a] G R = R (enumFrom 0 a) G := rfl
theorem enumOf_scr {a : List W} {G : Gp} {R : List W → Gp → Prop} : enumOf [.scr a] G R = R (enumFrom 0 a) G := rfl
theorem walkE {Z : Zp} {G : Gp} {H : Hp} {a : Addr} {ws : List W} {vs : List V} (hs : ∀ Z' G' H', Ext Z G H Z' G' H' → SqL K H' a vs) (h : HRel K Z G H) (r : RwL K Z H ws vs) : WalkW K (Ite K a) Z G H (enumFrom 0 ws) := by
  refine ⟨_, _, by rw [enum_len, r.length]; exact walk_enum (K := K) (a := a) (xs := vs), fun Z' G' H' x h' => ⟨hs Z' G' H' x, fun i v H'' hi y => ?_⟩⟩
  obtain ⟨T, c, b, rfl, nT, rfl, e1, e2⟩ := y
  injection e1 with e1
  subst e1
  obtain ⟨w, ew, rw'⟩ := (r.ext h x).get' i e2
  obtain ⟨h2, x2, r3⟩ := new_tup h' nT (.cons (w := .int (i : Int)) .int (.cons rw' .nil))
  exact ⟨_, by rw [enum_get, ew, Nat.zero_add]; rfl, r3, x2, h2⟩
theorem qienum {e : Expr} (hg : Gl X "enumerate") (hm : X.mg "enumerate" = none) (ha : PAw X [e] ta) (hs : starEach [e] X.env = [(false, eval e X.env)] := by rfl) :
    PIw X (.Tuple elts kk tpos) (.Call (.Name "enumerate" p) [e] [] pos) (i_enum ta) := PI.imp (pi_enum hg hm ha hs) fun σ H R h => by
  obtain ⟨Z, σ', G, Qw, ev, hr, t, k⟩ := h
  refine ⟨Z, σ', G, _, ev, hr, t, fun Z1 G1 H1 ws vs x1 h1 r1 t1 => ?_⟩
  cases r1 with
  | nil => exact False.elim t1
  | @cons w v ws vs ra rr =>
    cases rr with
    | cons _ _ => exact False.elim t1
    | nil =>
      obtain ⟨us, e, q⟩ := isS_ex t1
      cases ra with
      | lst z s r => cases e; exact ⟨_, _, rfl, SqL.of s, k Z1 G1 H1 _ _ x1 h1 (walkE (fun Z' G' H' x => SqL.of (x.f _ _ s (h1.z _ z).1).1) h1 r) q⟩
      | scr s r => cases e; exact ⟨_, _, rfl, s.sq, k Z1 G1 H1 _ _ x1 h1 (walkE (fun Z' G' H' x => (s.ext h1 x).sq) h1 r) q⟩
      | @ref p =>
        obtain ⟨p', vs, e1, s, r⟩ := asL_sq (Z := Z1) h1 .ref e
        cases e1
        have g : ∃ us', G1 p = some (.lst us') := by
          simp only [asL] at e
          split at e
          · exact ⟨_, by assumption⟩
          · cases e
        obtain ⟨us', g⟩ := g
        obtain ⟨vs', s', r'⟩ := h1.lst g
        have eu : us' = us := by simpa [asL, g] using e
        subst eu
        obtain ⟨h2, x2⟩ := h1.freeze (p := p) (by rw [g]; simp)
        exact ⟨_, _, rfl, SqL.of s', k _ _ H1 _ _ (x1.trans x2) h2 (walkE (fun Z' G' H' x => SqL.of (x.f _ _ s' (h2.z p (.inr rfl)).1).1) h2 (r'.ext h1 x2)) q⟩
      | _ => cases e
end
/-! ### comprehensions -/
def wYes : TTw := fun _ G Q => Q true G
def swipe (σ : SW) : List Nat → SW
  | [] => σ
  | i :: vs => sforget (swipe σ vs) i
where sforget : SW → Nat → SW
  | [], _ => []
  | _ :: l, 0 => none :: l
  | a :: l, i + 1 => a :: sforget l i
def lcW (g : TGw) (tt : TTw) (te : TEw) (σ : SW) : List W → List W → Gp → (List W → Gp → Prop) → Prop
  | [], acc, G, Q => Q acc G
  | w :: ws, acc, G, Q => g w σ G fun σ1 G1 => tt σ1 G1 fun b G2 => if b = true then te σ1 G2 fun y G3 => lcW g tt te σ ws (acc ++ [y]) G3 Q else lcW g tt te σ ws acc G2 Q
def wLc (vs : List Nat) (ti : TIw) (g : TGw) (tt : TTw) (te : TEw) : TEw := fun σ G Q => ti σ G fun ws G1 => ws.length ≤ sizeLine ∧ lcW g tt te (swipe σ vs) ws [] G1 fun us G2 => Q (.lst us) G2
def wLcM (vs : List Nat) (ti : TIw) (g : TGw) (tt : TTw) (te : TEw) : TEw := fun σ G Q => ti σ G fun ws G1 => ws.length ≤ sizeLine ∧ lcW g tt te (swipe σ vs) ws [] G1 fun us G2 => ∀ p, G2 p = none → Q (.ref p) (gup G2 p (.lst us))
/-- a target that stores names of the block alone -/
inductive SetsIn (vs : List Nat) (σ : SV) : SV → Prop
  | refl : SetsIn vs σ σ
  | set {τ : SV} {i : Nat} {v : V} : SetsIn vs σ τ → i ∈ vs → SetsIn vs σ (τ.set i (some v))
theorem wipe_set {σ : SV} {i : Nat} {o : Option V} : ∀ {vs : List Nat}, i ∈ vs → L2.wipe (σ.set i o) vs = L2.wipe σ vs
  | [], h => by cases h
  | v :: vs, h => by
    unfold L2.wipe
    by_cases hv : i ∈ vs
    · rw [wipe_set hv]
    · have e : i = v := by
        rcases List.mem_cons.mp h with h | h
        · exact h
        · exact absurd h hv
      subst e
      have out : ∀ us : List Nat, i ∉ us → L2.wipe (σ.set i o) us = (L2.wipe σ us).set i o := by
        intro us hu
        induction us with
        | nil => rfl
        | cons u us ih =>
          unfold L2.wipe
          rw [ih fun z => hu (.tail _ z), List.set_comm]
          exact fun z => hu (by rw [z]; exact .head _)
      rw [out vs hv, List.set_set]
theorem SetsIn.wipe {vs : List Nat} {σ τ : SV} (h : SetsIn vs σ τ) : L2.wipe τ vs = L2.wipe σ vs := by
  induction h with
  | refl => rfl
  | set _ hi ih => rw [wipe_set hi, ih]
theorem wipe_wipe {σ : SV} : ∀ (vs us : List Nat), (∀ i ∈ us, i ∈ vs) → L2.wipe (L2.wipe σ us) vs = L2.wipe σ vs
  | vs, [], _ => rfl
  | vs, u :: us, h => by
    show L2.wipe ((L2.wipe σ us).set u none) vs = _
    rw [wipe_set (h u (.head _)), wipe_wipe vs us fun i hi => h i (.tail _ hi)]
section
variable {K : PySem.W.Frag} {Z : Zp} {H : Hp} {σ' : SW} {σ : SV}
theorem RwS.forget1 : ∀ {ws : SW} {vs : SV} (i : Nat) (o : Option V), RwS K Z H ws vs → RwS K Z H (swipe.sforget ws i) (vs.set i o)
  | _, _, _, _, .nil => .nil
  | _, _, 0, _, .skip t => .skip t
  | _, _, 0, _, .cons _ t => .skip t
  | _, _, i + 1, o, .skip t => .skip (RwS.forget1 i o t)
  | _, _, i + 1, o, .cons r t => .cons r (RwS.forget1 i o t)
theorem RwS.wipe (h : RwS K Z H σ' σ) : ∀ vs : List Nat, RwS K Z H (swipe σ' vs) (L2.wipe σ vs)
  | [] => h
  | i :: vs => (RwS.wipe h vs).forget1 i none
/-- a target's reading over both, storing names of the block alone -/
def SimG (K : PySem.W.Frag) (vs : List Nat) (g : TG) (gw : TGw) : Prop := ∀ Z G H σ' σ w v Qw Q, RwS K Z H σ' σ → HRel K Z G H → Rw K Z H w v → gw w σ' G Qw →
  (∀ τ' τ, RwS K Z H τ' τ → SetsIn vs σ τ → Qw τ' G → Q τ H) → g v σ H Q
theorem simg_name {vs : List Nat} {i : Nat} (hi : i ∈ vs) : SimG K vs (gName i) (gN i) := fun Z G H σ' σ w v Qw Q e h r t k => k _ _ (e.set r i) (.set .refl hi) t
def SimGs (K : PySem.W.Frag) (vs : List Nat) (g : TGs) (gw : TGsw) : Prop := ∀ Z G H σ' σ ws us Qw Q, RwS K Z H σ' σ → HRel K Z G H → RwL K Z H ws us → gw ws σ' G Qw →
  (∀ τ' τ, RwS K Z H τ' τ → SetsIn vs σ τ → Qw τ' G → Q τ H) → g us σ H Q
theorem simgs_nil {vs : List Nat} : SimGs K vs gNil gsN := fun Z G H σ' σ ws us Qw Q e h r t k => by
  cases r with
  | nil => exact ⟨rfl, k _ _ e .refl t⟩
  | cons _ _ => exact False.elim t
theorem SetsIn.trans {vs : List Nat} {a b c : SV} (h : SetsIn vs a b) (h' : SetsIn vs b c) : SetsIn vs a c := by
  induction h' with
  | refl => exact h
  | set _ hi ih => exact .set ih hi
theorem simgs_cons {vs : List Nat} {i : Nat} {g : TGs} {gw : TGsw} (hi : i ∈ vs) (hg : SimGs K vs g gw) : SimGs K vs (gCons (gName i) g) (gsC (gN i) gw) := fun Z G H σ' σ ws us Qw Q e h r t k => by
  cases r with
  | nil => exact False.elim t
  | cons r rr => exact ⟨_, _, rfl, hg Z G H _ _ _ _ Qw Q (e.set r i) h rr t fun τ' τ e' s q => k τ' τ e' ((SetsIn.set .refl hi).trans s) q⟩
theorem simg_tup {vs : List Nat} {n : Nat} {g : TGs} {gw : TGsw} (hg : SimGs K vs g gw) : SimG K vs (fun v σ H Q => gTup K n g v σ H Q ∨ gLst K n g v σ H Q) (gT n gw) := fun Z G H σ' σ w v Qw Q e h r t k => by
  cases r with
  | tup s r => exact .inl ⟨_, _, rfl, s, by rw [← r.length]; exact t.1, hg Z G H _ _ _ _ Qw Q e h r t.2 k⟩
  | lst z s r => exact .inr ⟨_, _, rfl, SqL.of s, by rw [← r.length]; exact t.1, hg Z G H _ _ _ _ Qw Q e h r t.2 k⟩
  | @ref p =>
    obtain ⟨ws, g, t1, t2⟩ := isG_ex t
    obtain ⟨vs, s, r⟩ := h.lst g
    exact .inr ⟨_, _, rfl, SqL.of s, by rw [← r.length]; exact t1, hg Z G H _ _ _ _ Qw Q e h r t2 k⟩
  | _ => exact False.elim t
end
/-- the loop of a comprehension: D is the list that grows, known to the great heap alone -/
theorem llc {K : PySem.W.Frag} {vs : List Nat} {ti : TIw} {g : TG} {gw : TGw} {tt : TTw} {te : TEw} (sg : SimG K vs g gw) {σ : SV} {H : Hp} {Q : VK} {fin : List W → Gp → QW → Prop}
    (hfin : ∀ Z0 G0 H0 Z G H us xs D Qw, H0 D = none → Ext Z0 G0 H0 Z G H → HRel K Z G H → RwL K Z H us xs → H D = some (.lst xs) → G D = none → ¬ Z D → fin us G Qw → ∃ Z' G' w, Ext Z0 G0 H0 Z' G' H ∧ HRel K Z' G' H ∧ Rw K Z' H w (.ref D) ∧ Qw w G')
    (h : liftE K (fun σ G Q => ti σ G fun ws G1 => ws.length ≤ sizeLine ∧ lcW gw tt te (swipe σ vs) ws [] G1 fun us G2 => fin us G2 Q) σ H Q) : tLc (liftI K ti) g (liftT K tt) (liftE K te) vs σ H Q := by
  obtain ⟨Z, σ', G, Qw, e, hr, t, k⟩ := h
  refine ⟨Z, σ', G, _, e, hr, t, fun Z1 G1 H1 ws J x1 h1 ⟨Gd, Y, wk, hY⟩ t1 D hD => ?_⟩
  obtain ⟨hl, t1⟩ := t1
  have x0 : Ext Z1 G1 H1 Z1 G1 (upd H1 D (.lst [])) := Ext.laid h1 hD
  have h0 := h1.laid (o := .lst []) hD
  refine lc_it wk (fun i H2 => ∃ Z2 G2 us xs, Ext Z1 G1 H1 Z2 G2 H2 ∧ HRel K Z2 G2 H2 ∧ H2 D = some (.lst xs) ∧ G2 D = none ∧ ¬ Z2 D ∧ RwL K Z2 H2 us xs ∧ us.length ≤ i ∧ lcW gw tt te (swipe σ' vs) (ws.drop i) us G2 fun us G2 => fin us G2 Qw) ?_ ?_ ?_ ?_
  · exact ⟨Z1, G1, [], [], x0, h0, upd_same, h1.fresh hD, h1.freshZ hD, .nil, Nat.le_refl _, t1⟩
  · rintro i H2 _ ⟨Z2, G2, us, xs, x2, h2, _⟩
    exact (hY Z2 G2 H2 x2 h2).1
  · rintro i v H2 H3 hi ⟨Z2, G2, us, xs, x2, h2, eD, gD, zD, rus, lus, t2⟩ y
    obtain ⟨w, ew, rw', x3, h3⟩ := (hY Z2 G2 H2 x2 h2).2 i v H3 hi y
    have ed : ws.drop i = w :: ws.drop (i + 1) := by
      obtain ⟨hl, e⟩ := List.getElem?_eq_some_iff.mp ew
      rw [← e]; exact List.drop_eq_getElem_cons hl
    rw [ed] at t2
    have x23 := x2.trans x3
    have eσ : RwS K Z2 H3 (swipe σ' vs) (L2.wipe σ vs) := (e.ext hr (x1.trans x23)).wipe vs
    refine sg Z2 G2 H3 _ _ w v _ _ eσ h3 rw' t2 fun τ' τ eτ sτ t3 => ⟨?_, ?_⟩
    · rw [sτ.wipe, wipe_wipe vs vs fun i hi => hi]
    have eD3 := (x3.f D _ eD gD).1
    refine ⟨Z2, τ', G2, _, eτ, h3, t3, fun Z4 G4 H4 b x4 h4 t4 => ?_⟩
    have eD4 := x4.f D _ eD3 gD
    have zD4 : ¬ Z4 D := fun z => zD (x4.n D (by rw [eD3]; simp) gD z)
    have rus4 := (rus.ext h2 x3).ext h3 x4
    cases b with
    | false => exact ⟨Z4, G4, us, xs, x23.trans x4, h4, eD4.1, eD4.2, zD4, rus4, by omega, t4⟩
    | true =>
      refine ⟨Z4, τ', G4, _, eτ.ext h3 x4, h4, t4, fun Z5 G5 H5 yw yv x5 h5 r5 t5 => ?_⟩
      have eD5 := x5.f D _ eD4.1 eD4.2
      have zD5 : ¬ Z5 D := fun z => zD4 (x5.n D (by rw [eD4.1]; simp) eD4.2 z)
      have rus5 := rus4.ext h4 x5
      have kp : Keep Z5 H5 Z5 (upd H5 D (.lst (xs ++ [yv]))) := Keep.hid eD5.1 zD5
      have xx := (x23.trans x4).trans x5
      refine ⟨xs, eD5.1, by rw [← rus.length]; omega, Z5, G5, us ++ [yw], xs ++ [yv], ⟨xx.z, fun p u e' g' => ?_, xx.n⟩, ⟨fun p z => ?_, fun p o g' => ?_⟩, upd_same, eD5.2, zD5, (rus5.append (.cons r5 .nil)).keep kp, by simp; omega, t5⟩
      · rw [upd_ne (ne_of_none e' hD)]; exact xx.f p u e' g'
      · have := h5.z p z
        rw [upd_ne (fun c => zD5 (by rw [← c]; exact z))]
        exact this
      · obtain ⟨u, e', r⟩ := h5.g p o g'
        have c : p ≠ D := fun c => by rw [c, eD5.2] at g'; cases g'
        exact ⟨u, by rw [upd_ne c]; exact e', r.keep kp⟩
  · rintro H2 ⟨Z2, G2, us, xs, x2, h2, eD, gD, zD, rus, lus, t2⟩
    rw [List.drop_length] at t2
    obtain ⟨Z3, G3, w, x3, h3, r3, q⟩ := hfin Z1 G1 H1 Z2 G2 H2 us xs D Qw hD x2 h2 rus eD gD zD t2
    exact k Z3 G3 H2 w _ (x1.trans x3) h3 r3 q
theorem lc_frz {K : PySem.W.Frag} : ∀ Z0 G0 H0 Z G H us xs D (Qw : QW), H0 D = none → Ext Z0 G0 H0 Z G H → HRel K Z G H → RwL K Z H us xs → H D = some (.lst xs) → G D = none → ¬ Z D → Qw (.lst us) G → ∃ Z' G' w, Ext Z0 G0 H0 Z' G' H ∧ HRel K Z' G' H ∧ Rw K Z' H w (.ref D) ∧ Qw w G' := by
  intro Z0 G0 H0 Z G H us xs D Qw n x h r e g z q
  obtain ⟨h2, kp⟩ := h.frz (p := D) (by rw [e]; simp)
  have e2 : gdel G D = G := by
    funext b; unfold gdel; split
    · rename_i c; rw [c, g]
    · rfl
  rw [e2] at h2
  refine ⟨_, G, .lst us, ⟨fun q z => .inl (x.z q z), x.f, fun q e' g' z' => ?_⟩, h2, .lst (.inr rfl) e (r.keep kp), q⟩
  rcases z' with z' | z'
  · exact x.n q e' g' z'
  · rw [z'] at e'; exact absurd n e'
theorem lc_mut {K : PySem.W.Frag} : ∀ Z0 G0 H0 Z G H us xs D (Qw : QW), H0 D = none → Ext Z0 G0 H0 Z G H → HRel K Z G H → RwL K Z H us xs → H D = some (.lst xs) → G D = none → ¬ Z D → (∀ p, G p = none → Qw (.ref p) (gup G p (.lst us))) → ∃ Z' G' w, Ext Z0 G0 H0 Z' G' H ∧ HRel K Z' G' H ∧ Rw K Z' H w (.ref D) ∧ Qw w G' := by
  intro Z0 G0 H0 Z G H us xs D Qw n x h r e g z q
  refine ⟨Z, _, .ref D, ⟨x.z, fun p u e' g' => ?_, x.n⟩, h.track e z (.lst r), .ref, q D g⟩
  have c : p ≠ D := ne_of_none e' n
  have y := x.f p u e' g'
  exact ⟨y.1, by rw [gup_ne c]; exact y.2⟩
/-- a comprehension's tests, in the block -/
def PTsw (X : Cx) (ifs : List Expr) (t : TTw) : Prop := PTs X ifs (liftT X.K t)
theorem qts_nil {X : Cx} : PTsw X [] wYes := ⟨fun pins s σ H Q I h => by
  obtain ⟨Z, σ', G, Qw, e, hr, t, k⟩ := h
  exact pts_nil.run pins s σ H Q I (k Z G H true Ext.refl hr t)⟩
theorem qts_one {X : Cx} {c : Expr} {t : TTw} (h : PTw X c t) : PTsw X [c] t := pts_one h
/-- a comprehension's target -/
structure TgW (X : Cx) (vs : List Nat) (tg : Expr) (scope : Scope) (gw : TGw) : Prop where
  ex : ∃ g, (∀ (s : Shared) (H : Hp) (C : Addr) (cl : List (Str × Addr)) (fp : List Addr), PG (X.blk s H scope (compEnvC scope cl C X.env) fp) tg g) ∧ SimG X.K vs g gw
structure TgsW (X : Cx) (vs : List Nat) (tg : List Expr) (scope : Scope) (gw : TGsw) : Prop where
  ex : ∃ g, (∀ (s : Shared) (H : Hp) (C : Addr) (cl : List (Str × Addr)) (fp : List Addr), PGs (X.blk s H scope (compEnvC scope cl C X.env) fp) tg g) ∧ SimGs X.K vs g gw
section
variable {X : Cx} {vs : List Nat} {scope : Scope} {pos : Pos}
theorem gcN {i : Nat} {x : Str} (hN : X.N.Nodup) (hi : X.N[i]? = some x) (hv : i ∈ vs := by decide) (hx : ∀ (cl : List (Str × Addr)) (C : Addr), L2.Loc (compEnvC scope cl C X.env).scope x := by intro _ _; first | exact Or.inl rfl | exact Or.inr rfl) (hf : ∀ (cl : List (Str × Addr)) (C : Addr), (scope.names.lookup x == some .cell) = true ∨ (compEnvC scope cl C X.env).scope.names.lookup x = some .local := by intro _ _; first | exact .inl rfl | exact .inr rfl) : TgW X vs (.Name x pos) scope (gN i) :=
  ⟨_, fun s H C cl fp => pg_name hN hi (hx cl C) (hf cl C), simg_name hv⟩
theorem lookup_relabel {env : Env} {x : Str} : ∀ (names : List (Str × NameKind)), (names.map fun (n, k) => if (k == NameKind.free && env.scope.kind == .function && env.kindOf n == some .cell) then (n, NameKind.cell) else (n, k)).lookup x = (names.lookup x).map fun k => if (k == NameKind.free && env.scope.kind == .function && env.kindOf x == some .cell) then .cell else k
  | [] => rfl
  | (n, k) :: r => by
    have ih := lookup_relabel (env := env) (x := x) r
    show List.lookup x ((if (k == NameKind.free && env.scope.kind == .function && env.kindOf n == some .cell) = true then (n, NameKind.cell) else (n, k)) :: _) = _
    by_cases c : x = n
    · subst c
      have e : (x == x) = true := by simp
      split <;> rename_i h
      · rw [List.lookup_cons, List.lookup_cons]
        dsimp only
        rw [e]
        dsimp only
        rw [Option.map_some, if_pos h]
      · rw [List.lookup_cons, List.lookup_cons]
        dsimp only
        rw [e]
        dsimp only
        rw [Option.map_some, if_neg h]
    · have e : (x == n) = false := by simpa using c
      split <;> simp only [List.lookup_cons, e] <;> exact ih
/-- a comprehension within a comprehension -/
theorem blkOk_nest {N : List Str} {scope1 scope : Scope} {own : List (Str × Nat)} {cl : List (Str × Addr)} {C : Addr} {env : Env} (h : blkC N scope1 scope own = true) : BlkOk N (compEnvC scope1 cl C env).scope scope own := by
  obtain ⟨a, b, c, d, e⟩ := blkOk_by h
  refine ⟨a, b, c, fun y hy z => ?_, e⟩
  have l := lookup_relabel (env := env) (x := y.1) scope1.names
  have l' : (compEnvC scope1 cl C env).scope.names.lookup y.1 = (scope1.names.lookup y.1).map fun k => if (k == NameKind.free && env.scope.kind == .function && env.kindOf y.1 == some .cell) then .cell else k := l
  rw [l']
  rcases d y hy z with q | q
  · rw [q]; exact .inl rfl
  · rw [q, Option.map_some]
    split
    · exact .inl rfl
    · exact .inr rfl
theorem gcs_nil : TgsW X vs [] scope gsN := ⟨_, fun _ _ _ _ _ => pgs_nil, simgs_nil⟩
theorem gcs_cons {i : Nat} {x : Str} {es : List Expr} {gw : TGsw} (hN : X.N.Nodup) (hi : X.N[i]? = some x) (h2 : TgsW X vs es scope gw) (hv : i ∈ vs := by decide) (hx : ∀ (cl : List (Str × Addr)) (C : Addr), L2.Loc (compEnvC scope cl C X.env).scope x := by intro _ _; first | exact Or.inl rfl | exact Or.inr rfl) (hf : ∀ (cl : List (Str × Addr)) (C : Addr), (scope.names.lookup x == some .cell) = true ∨ (compEnvC scope cl C X.env).scope.names.lookup x = some .local := by intro _ _; first | exact .inl rfl | exact .inr rfl)
    (hs : ∀ (cl : List (Str × Addr)) (C : Addr), (assignEach (.Name x pos :: es) (compEnvC scope cl C X.env)).map (·.2) = assign (.Name x pos) (compEnvC scope cl C X.env) :: (assignEach es (compEnvC scope cl C X.env)).map (·.2) := by intro _ _; rfl) : TgsW X vs (.Name x pos :: es) scope (gsC (gN i) gw) := by
  obtain ⟨g, pg, sg⟩ := h2.ex
  exact ⟨_, fun s H C cl fp => pgs_cons (pg_name hN hi (hx cl C) (hf cl C)) (pg s H C cl fp) (hs cl C), simgs_cons hv sg⟩
theorem gcT {es : List Expr} {k : Nat} {gw : TGsw} {n : Nat} (hc : X.calm = true) (h : TgsW X vs es scope gw) (hn : ∀ (cl : List (Str × Addr)) (C : Addr), (assignEach es (compEnvC scope cl C X.env)).length = n := by intro _ _; rfl)
    (hst : ∀ (cl : List (Str × Addr)) (C : Addr), (assignEach es (compEnvC scope cl C X.env)).findIdx? (·.1) = none := by intro _ _; rfl) : TgW X vs (.Tuple es k pos) scope (gT n gw) := by
  obtain ⟨g, pg, sg⟩ := h.ex
  exact ⟨_, fun s H C cl fp => PG.or (pg_tup (X := X.blk s H scope (compEnvC scope cl C X.env) fp) hc (pg s H C cl fp) (hn cl C) (hst cl C)) (pg_lst (X := X.blk s H scope (compEnvC scope cl C X.env) fp) hc (pg s H C cl fp) (hn cl C) (hst cl C)), simg_tup sg⟩
variable {elt tg iter : Expr} {ifs : List Expr} {own : List (Str × Nat)} {ti : TIw} {gw : TGw} {tt : TTw} {te : TEw}
theorem qlc (hc : X.calm = true) (hN : X.N.Nodup) (hi : PIw X tg iter ti) (ok : BlkOk X.N X.env.scope scope own) (hg : TgW X (own.map (·.2)) tg scope gw)
    (ht : ∀ (s : Shared) (H : Hp) (C : Addr) (cl : List (Str × Addr)) (fp : List Addr), PTsw (X.blk s H scope (compEnvC scope cl C X.env) fp) ifs tt) (he : ∀ (s : Shared) (H : Hp) (C : Addr) (cl : List (Str × Addr)) (fp : List Addr), PEw (X.blk s H scope (compEnvC scope cl C X.env) fp) elt te)
    (hs : ∀ x, foldedSetIterable iter X.env x = pure x := by intro _; rfl) : PEw X (.ListComp elt [⟨tg, iter, ifs, 0⟩] scope pos) (wLc (own.map (·.2)) ti gw tt te) := by
  obtain ⟨g, pg, sg⟩ := hg.ex
  exact PE.imp (pe_lc (tt := liftT X.K tt) (te := liftE X.K te) hc hN hi ok pg ht he hs) fun _ _ _ h => llc (fin := fun us G Q => Q (.lst us) G) sg lc_frz h
theorem qlcM (hc : X.calm = true) (hN : X.N.Nodup) (hi : PIw X tg iter ti) (ok : BlkOk X.N X.env.scope scope own) (hg : TgW X (own.map (·.2)) tg scope gw)
    (ht : ∀ (s : Shared) (H : Hp) (C : Addr) (cl : List (Str × Addr)) (fp : List Addr), PTsw (X.blk s H scope (compEnvC scope cl C X.env) fp) ifs tt) (he : ∀ (s : Shared) (H : Hp) (C : Addr) (cl : List (Str × Addr)) (fp : List Addr), PEw (X.blk s H scope (compEnvC scope cl C X.env) fp) elt te)
    (hs : ∀ x, foldedSetIterable iter X.env x = pure x := by intro _; rfl) : PEw X (.ListComp elt [⟨tg, iter, ifs, 0⟩] scope pos) (wLcM (own.map (·.2)) ti gw tt te) := by
  obtain ⟨g, pg, sg⟩ := hg.ex
  exact PE.imp (pe_lc (tt := liftT X.K tt) (te := liftE X.K te) hc hN hi ok pg ht he hs) fun _ _ _ h => llc (fin := fun us G Q => ∀ p, G p = none → Q (.ref p) (gup G p (.lst us))) sg lc_mut h
variable {j : Nat} {y : Str} {py spos : Pos}
theorem lsetLc {g : TG} {tA : TEw} (hl : ∀ σ H Q, liftE X.K tA σ H Q → tLc (liftI X.K ti) g (liftT X.K tt) (liftE X.K te) (own.map (·.2)) σ H Q) {D : Ends} {σ : SV} {H : Hp} (h : liftS X (wAsg tA (gN j)) D σ H) :
    tAsg (tLc (liftI X.K ti) g (liftT X.K tt) (liftE X.K te) (own.map (·.2))) (gName j) D σ H := by
  obtain ⟨Z, σ', G, Dw, e, hr, t, k⟩ := h
  exact hl _ _ _ ⟨Z, σ', G, _, e, hr, t, fun Z1 G1 H1 w v x1 h1 r1 q => lgN ⟨Z1, σ', G1, w, _, e.ext hr x1, h1, r1, q, k.nx.mono x1⟩⟩
theorem qsetLc (hc : X.calm = true) (hN : X.N.Nodup) (hy : X.N[j]? = some y) (hyl : X.env.scope.names.lookup y = some .local) (hsw : swapsWith (.ListComp elt [⟨tg, iter, ifs, 0⟩] scope pos) (some (.Name y py)) spos.line X.env = pure true) (hi : PIw X tg iter ti) (ok : BlkOk X.N X.env.scope scope own) (hg : TgW X (own.map (·.2)) tg scope gw)
    (ht : ∀ (s : Shared) (H : Hp) (C : Addr) (cl : List (Str × Addr)) (fp : List Addr), PTsw (X.blk s H scope (compEnvC scope cl C X.env) fp) ifs tt) (he : ∀ (s : Shared) (H : Hp) (C : Addr) (cl : List (Str × Addr)) (fp : List Addr), PEw (X.blk s H scope (compEnvC scope cl C X.env) fp) elt te)
    (hs : ∀ x, foldedSetIterable iter X.env x = pure x := by intro _; rfl) : PSw X (.Assign [.Name y py] (.ListComp elt [⟨tg, iter, ifs, 0⟩] scope pos) spos) (wAsg (wLc (own.map (·.2)) ti gw tt te) (gN j)) := by
  obtain ⟨g, pg, sg⟩ := hg.ex
  exact PS.imp (ps_setLc (tt := liftT X.K tt) (te := liftE X.K te) hc hN hy hyl hsw hi ok pg ht he hs) fun _ _ _ h => lsetLc (fun _ _ _ h => llc (fin := fun us G Q => Q (.lst us) G) sg lc_frz h) h
theorem qsetLcM (hc : X.calm = true) (hN : X.N.Nodup) (hy : X.N[j]? = some y) (hyl : X.env.scope.names.lookup y = some .local) (hsw : swapsWith (.ListComp elt [⟨tg, iter, ifs, 0⟩] scope pos) (some (.Name y py)) spos.line X.env = pure true) (hi : PIw X tg iter ti) (ok : BlkOk X.N X.env.scope scope own) (hg : TgW X (own.map (·.2)) tg scope gw)
    (ht : ∀ (s : Shared) (H : Hp) (C : Addr) (cl : List (Str × Addr)) (fp : List Addr), PTsw (X.blk s H scope (compEnvC scope cl C X.env) fp) ifs tt) (he : ∀ (s : Shared) (H : Hp) (C : Addr) (cl : List (Str × Addr)) (fp : List Addr), PEw (X.blk s H scope (compEnvC scope cl C X.env) fp) elt te)
    (hs : ∀ x, foldedSetIterable iter X.env x = pure x := by intro _; rfl) : PSw X (.Assign [.Name y py] (.ListComp elt [⟨tg, iter, ifs, 0⟩] scope pos) spos) (wAsg (wLcM (own.map (·.2)) ti gw tt te) (gN j)) := by
  obtain ⟨g, pg, sg⟩ := hg.ex
  exact PS.imp (ps_setLc (tt := liftT X.K tt) (te := liftE X.K te) hc hN hy hyl hsw hi ok pg ht he hs) fun _ _ _ h => lsetLc (fun _ _ _ h => llc (fin := fun us G Q => ∀ p, G p = none → Q (.ref p) (gup G p (.lst us))) sg lc_mut h) h
end
/-! ### a comprehension whose parts are plain -/
theorem lcW_map {g : TGw} {te : TEw} {σ : SW} {G : Gp} (f : W → W) : ∀ (ws acc : List W) (Q : List W → Gp → Prop), (∀ w ∈ ws, ∀ P : QW, P (f w) G → g w σ G fun σ1 G1 => te σ1 G1 P) → Q (acc ++ ws.map f) G → lcW g wYes te σ ws acc G Q
  | [], acc, Q, _, q => by simpa [lcW] using q
  | w :: ws, acc, Q, h, q => by
    have h1 := h w (.head _) (fun y G3 => lcW g wYes te σ ws (acc ++ [y]) G3 Q) (lcW_map f ws (acc ++ [f w]) Q (fun w' hw => h w' (.tail _ hw)) (by simpa using q))
    simpa only [lcW, wYes, if_true] using h1
theorem lcW_filter {g : TGw} {tt : TTw} {te : TEw} {σ : SW} {G : Gp} (c : W → Bool) (f : W → W) : ∀ (ws acc : List W) (Q : List W → Gp → Prop),
    (∀ w ∈ ws, ∀ (R : QW) (P : Gp → Prop), (c w = true → R (f w) G) → (c w = false → P G) → g w σ G fun σ1 G1 => tt σ1 G1 fun b G2 => if b = true then te σ1 G2 R else P G2) → Q (acc ++ (ws.filter c).map f) G → lcW g tt te σ ws acc G Q
  | [], acc, Q, _, q => by simpa [lcW] using q
  | w :: ws, acc, Q, h, q => by
    have rest : ∀ acc', Q (acc' ++ (ws.filter c).map f) G → lcW g tt te σ ws acc' G Q := fun acc' q' => lcW_filter c f ws acc' Q (fun w' hw => h w' (.tail _ hw)) q'
    exact h w (.head _) (fun y G3 => lcW g tt te σ ws (acc ++ [y]) G3 Q) (fun G2 => lcW g tt te σ ws acc G2 Q) (fun e => rest _ (by simpa [List.filter_cons, e] using q)) (fun e => rest _ (by simpa [List.filter_cons, e] using q))
end WL

namespace WL
open PySem PySem.Spec PyProof.Rows L2 RZ
/-! ### methods of lists, by their names -/
section
variable {X : Cx} {K : PySem.W.Frag} {o e : Expr} {es : List Expr} {to : TEw} {t : TAw} {cpos apos : Pos}
theorem qbm0 {nm : Str} {id : String} {r : V → List V → Hp → VK → Prop} {wr : RWM} (slot : Slot "list" nm id) (hty : typeOf (.builtin id) = pure (.type "method_descriptor")) (hm : MtR X id r) (hs : SimM X.K r wr) (ho : PEw X o to)
    (hbase : attributeBase o nm X.env (eval o X.env) = eval o X.env := by rfl) (hline : (apos.endLine == cpos.line) = true := by rfl) :
    PEw X (.Call (.Attribute o nm apos) [] [] cpos) (wBM0 wr to) := PE.imp (pe_bm0 PySem.F.plainAttrs_list slot hty hm ho hbase hline) fun _ _ _ h => lbm0 hs h
def wPopAt : RWM := fun o ws G Q => match o, ws with
  | .ref p, [.int i] => isG (G p) fun us => -(2 ^ 63) ≤ i ∧ i < 2 ^ 63 ∧ isS (ixN us.length i) fun j => isS us[j]? fun w => Q w (gup G p (.lst (us.eraseIdx j)))
  | _, _ => False
theorem RwL.eraseIdx {K : PySem.W.Frag} {Z : Zp} {H : Hp} : ∀ {ws : List W} {vs : List V} (j : Nat), RwL K Z H ws vs → RwL K Z H (ws.eraseIdx j) (vs.eraseIdx j)
  | _, _, _, .nil => .nil
  | _, _, 0, .cons r rs => rs
  | _, _, j + 1, .cons r rs => .cons r (RwL.eraseIdx j rs)
theorem sim_popAt : SimM K rPopAt wPopAt := by
  intro Z G H x v ws vs Qw Q h rx rs t k
  cases rx with
  | @ref p =>
    cases rs with
    | nil => exact False.elim t
    | cons r1 rs =>
      cases r1 with
      | @int i =>
        cases rs with
        | cons _ _ => exact False.elim t
        | nil =>
          obtain ⟨us, g, h1, h2, t⟩ := isG_ex t
          obtain ⟨j, ej, t⟩ := isS_ex t
          obtain ⟨w, ew, q⟩ := isS_ex t
          obtain ⟨xs, s, r⟩ := h.lst g
          obtain ⟨y, ey, ry⟩ := r.get _ ew
          obtain ⟨h3, x3⟩ := chg_lst h g (r.eraseIdx j)
          refine ⟨p, xs, i, j, y, rfl, rfl, s, h1, h2, ?_, ey, k _ _ _ _ _ x3 h3 (ry.ext h x3) q⟩
          rw [← r.length]
          exact (ixN_seq ej).1
      | _ => exact False.elim t
  | _ => exact False.elim t
def wInsert : RWM := fun o ws G Q => match o, ws with
  | .ref p, [.int i, w] => isG (G p) fun us => us.length < sizeLine ∧ 0 ≤ i ∧ i < 2 ^ 63 ∧ Q .non (gup G p (.lst (us.take i.toNat ++ [w] ++ us.drop i.toNat)))
  | _, _ => False
theorem sim_insert : SimM K (fun x vs H Q => ∃ (l : Addr) (xs : List V) (i : Int) (y : V), x = .ref l ∧ vs = [.int i, y] ∧ H l = some (.lst xs) ∧ xs.length < sizeLine ∧ 0 ≤ i ∧ i < 2 ^ 63 ∧
    Q .non (upd H l (.lst (xs.take i.toNat ++ [y] ++ xs.drop i.toNat)))) wInsert := by
  intro Z G H x v ws vs Qw Q h rx rs t k
  cases rx with
  | @ref p =>
    cases rs with
    | nil => exact False.elim t
    | cons r1 rs =>
      cases r1 with
      | @int i =>
        cases rs with
        | nil => exact False.elim t
        | cons r2 rs =>
          cases rs with
          | cons _ _ => exact False.elim t
          | nil =>
            obtain ⟨us, g, l, h1, h2, q⟩ := isG_ex t
            obtain ⟨xs, s, r⟩ := h.lst g
            obtain ⟨h3, x3⟩ := chg_lst h g (((r.take i.toNat).append (.cons r2 .nil)).append (r.drop i.toNat))
            exact ⟨p, xs, i, _, rfl, rfl, s, by rw [← r.length]; exact l, h1, h2, k _ _ _ _ _ x3 h3 .non q⟩
      | _ => cases rs <;> exact False.elim t
  | _ => exact False.elim t
abbrev wM_append := wAppend
abbrev wM_extend := wExtend
abbrev wM_pop := wPop
abbrev wM_popAt := wPopAt
abbrev wM_insert := wInsert
section
variable (ho : PEw X o to) (ha : PAw X (e :: es) t)
    (hbase : ∀ nm, attributeBase o nm X.env (eval o X.env) = eval o X.env := by intro _; rfl)
    (hfew : ((backTo cpos (starEach (e :: es) X.env)).all (fun x => !x.1) && (backToKw cpos (keywordEach [] X.env)).all (fun x => x.1.isSome)
      && decide ((e :: es).length + ([] : List Keyword).length + (if ([] : List Keyword).isEmpty then 0 else 1) < 30)) = true := by rfl)
    (hline : (apos.endLine == cpos.line) = true := by rfl) (h1 : starEach (e :: es) X.env = (false, eval e X.env) :: starEach es X.env := by rfl) (h2 : (backTo cpos (starEach es X.env)).any (·.1) = false := by rfl)
include ho ha hbase hfew hline h1 h2
theorem qm_append : PEw X (.Call (.Attribute o "append" apos) (e :: es) [] cpos) (wBM wM_append to t) := qbm PySem.F.slot_list_append PySem.F.type_list_append mt_append sim_append ho ha (hbase _) hfew hline h1 h2
theorem qm_extend : PEw X (.Call (.Attribute o "extend" apos) (e :: es) [] cpos) (wBM wM_extend to t) := qbm PySem.F.slot_list_extend PySem.F.type_list_extend mt_extend sim_extend ho ha (hbase _) hfew hline h1 h2
theorem qm_popAt : PEw X (.Call (.Attribute o "pop" apos) (e :: es) [] cpos) (wBM wM_popAt to t) := qbm PySem.F.slot_list_pop PySem.F.type_list_pop mt_popAt sim_popAt ho ha (hbase _) hfew hline h1 h2
theorem qm_insert : PEw X (.Call (.Attribute o "insert" apos) (e :: es) [] cpos) (wBM wM_insert to t) := qbm PySem.F.slot_list_insert PySem.F.type_list_insert mt_insert sim_insert ho ha (hbase _) hfew hline h1 h2
end
theorem qm_pop (ho : PEw X o to) (hbase : attributeBase o "pop" X.env (eval o X.env) = eval o X.env := by rfl) (hline : (apos.endLine == cpos.line) = true := by rfl) : PEw X (.Call (.Attribute o "pop" apos) [] [] cpos) (wBM0 wM_pop to) :=
  qbm0 PySem.F.slot_list_pop PySem.F.type_list_pop mt_pop sim_pop ho hbase hline
end
theorem wPopAt_ref {p : Addr} {i : Int} {G : Gp} {Q : QW} : wPopAt (.ref p) [.int i] G Q = isG (G p) fun us => -(2 ^ 63) ≤ i ∧ i < 2 ^ 63 ∧ isS (ixN us.length i) fun j => isS us[j]? fun w => Q w (gup G p (.lst (us.eraseIdx j))) := rfl
theorem wInsert_ref {p : Addr} {i : Int} {w : W} {G : Gp} {Q : QW} : wInsert (.ref p) [.int i, w] G Q = isG (G p) fun us => us.length < sizeLine ∧ 0 ≤ i ∧ i < 2 ^ 63 ∧ Q .non (gup G p (.lst (us.take i.toNat ++ [w] ++ us.drop i.toNat))) := rfl
/-! ### a comprehension over a list that is still to be changed: it must stand at every turn -/
def lcR (p : Addr) (us : List W) (g : TGw) (tt : TTw) (te : TEw) (σ : SW) : List W → List W → Gp → (List W → Gp → Prop) → Prop
  | [], acc, G, Q => G p = some (.lst us) ∧ Q acc G
  | w :: ws, acc, G, Q => G p = some (.lst us) ∧ g w σ G fun σ1 G1 => tt σ1 G1 fun b G2 => if b = true then te σ1 G2 fun y G3 => lcR p us g tt te σ ws (acc ++ [y]) G3 Q else lcR p us g tt te σ ws acc G2 Q
def refR (w : W) (G : Gp) (R : Addr → List W → Gp → Prop) : Prop := match w with
  | .ref p => isG (G p) fun us => R p us G
  | _ => False
theorem refR_ref {p : Addr} {G : Gp} {R : Addr → List W → Gp → Prop} : refR (.ref p) G R = isG (G p) fun us => R p us G := rfl
def wLcR (vs : List Nat) (t0 : TEw) (g : TGw) (tt : TTw) (te : TEw) : TEw := fun σ G Q => t0 σ G fun w G1 => refR w G1 fun p us G1 => us.length ≤ sizeLine ∧ lcR p us g tt te (swipe σ vs) us [] G1 fun zs G2 => Q (.lst zs) G2
theorem lcR_map {p : Addr} {us : List W} {g : TGw} {te : TEw} {σ : SW} {G : Gp} (hp : G p = some (.lst us)) (f : W → W) : ∀ (ws acc : List W) (Q : List W → Gp → Prop), (∀ w ∈ ws, ∀ P : QW, P (f w) G → g w σ G fun σ1 G1 => te σ1 G1 P) → Q (acc ++ ws.map f) G → lcR p us g wYes te σ ws acc G Q
  | [], acc, Q, _, q => ⟨hp, by simpa using q⟩
  | w :: ws, acc, Q, h, q => by
    refine ⟨hp, ?_⟩
    have := h w (.head _) (fun y G3 => lcR p us g wYes te σ ws (acc ++ [y]) G3 Q) (lcR_map hp f ws _ Q (fun w' m => h w' (.tail _ m)) (by simpa using q))
    exact this
section
variable {K : PySem.W.Frag}
theorem walk_live {a : Addr} {n : Nat} : Walk (Itl K a) n (fun H => ∃ xs, SqL K H a xs ∧ xs.length = n) (fun i H x H' => H' = H ∧ ∀ xs, SqL K H a xs → xs[i]? = some x) :=
  ⟨fun i _ hi ⟨xs, q, e⟩ => ⟨xs, xs[i]'(by omega), q, by simp [e, hi]⟩, fun _ ⟨xs, q, e⟩ => ⟨xs, q, by omega⟩, fun _ _ _ _ _ q y => y⟩
theorem llcR {vs : List Nat} {t0 : TEw} {g : TG} {gw : TGw} {tt : TTw} {te : TEw} (sg : SimG K vs g gw) {σ : SV} {H : Hp} {Q : VK}
    (h : liftE K (wLcR vs t0 gw tt te) σ H Q) : tLc (iSeq K (liftE K t0)) g (liftT K tt) (liftE K te) vs σ H Q := by
  obtain ⟨Z, σ', G, Qw, e, hr, t, k⟩ := h
  refine ⟨Z, σ', G, _, e, hr, t, fun Z1 G1 H1 w v x1 h1 r1 t1 => ?_⟩
  cases r1 with
  | @ref p =>
    obtain ⟨ws, gp, hl, t1⟩ := isG_ex t1
    obtain ⟨vs0, s0, r0⟩ := h1.lst gp
    refine .inl ⟨p, rfl, ⟨_, SqL.of s0⟩, fun D hD => ?_⟩
    have x0 : Ext Z1 G1 H1 Z1 G1 (upd H1 D (.lst [])) := Ext.laid h1 hD
    have h0 := h1.laid (o := .lst []) hD
    refine lc_it (walk_live (K := K) (a := p) (n := ws.length)) (fun i H2 => ∃ Z2 G2 us xs, Ext Z1 G1 H1 Z2 G2 H2 ∧ HRel K Z2 G2 H2 ∧ H2 D = some (.lst xs) ∧ G2 D = none ∧ ¬ Z2 D ∧ RwL K Z2 H2 us xs ∧ us.length ≤ i ∧ lcR p ws gw tt te (swipe σ' vs) (ws.drop i) us G2 fun us G2 => Qw (.lst us) G2) ?_ ?_ ?_ ?_
    · exact ⟨Z1, G1, [], [], x0, h0, upd_same, h1.fresh hD, h1.freshZ hD, .nil, Nat.le_refl _, t1⟩
    · rintro i H2 _ ⟨Z2, G2, us, xs, x2, h2, _, _, _, _, _, t2⟩
      have g2 : G2 p = some (.lst ws) := by
        cases q : ws.drop i with
        | nil => rw [q] at t2; exact t2.1
        | cons _ _ => rw [q] at t2; exact t2.1
      obtain ⟨vs2, s2, r2⟩ := h2.lst g2
      exact ⟨vs2, SqL.of s2, r2.length.symm⟩
    · rintro i v H2 H3 hi ⟨Z2, G2, us, xs, x2, h2, eD, gD, zD, rus, lus, t2⟩ ⟨e3, y⟩
      subst e3
      have ed : ws.drop i = ws[i] :: ws.drop (i + 1) := List.drop_eq_getElem_cons hi
      rw [ed] at t2
      obtain ⟨g2, t2⟩ := t2
      obtain ⟨vs2, s2, r2⟩ := h2.lst g2
      obtain ⟨w, ew, rw'⟩ := r2.get' i (y _ (SqL.of s2))
      rw [List.getElem?_eq_getElem hi] at ew
      injection ew with ew
      have eσ : RwS K Z2 H3 (swipe σ' vs) (L2.wipe σ vs) := (e.ext hr (x1.trans x2)).wipe vs
      refine sg Z2 G2 H3 _ _ ws[i] v _ _ eσ h2 (by rw [ew]; exact rw') t2 fun τ' τ eτ sτ t3 => ⟨?_, ?_⟩
      · rw [sτ.wipe, wipe_wipe vs vs fun i hi => hi]
      refine ⟨Z2, τ', G2, _, eτ, h2, t3, fun Z4 G4 H4 b x4 h4 t4 => ?_⟩
      have eD4 := x4.f D _ eD gD
      have zD4 : ¬ Z4 D := fun z => zD (x4.n D (by rw [eD]; simp) gD z)
      have rus4 := rus.ext h2 x4
      cases b with
      | false => exact ⟨Z4, G4, us, xs, x2.trans x4, h4, eD4.1, eD4.2, zD4, rus4, by omega, t4⟩
      | true =>
        refine ⟨Z4, τ', G4, _, eτ.ext h2 x4, h4, t4, fun Z5 G5 H5 yw yv x5 h5 r5 t5 => ?_⟩
        have eD5 := x5.f D _ eD4.1 eD4.2
        have zD5 : ¬ Z5 D := fun z => zD4 (x5.n D (by rw [eD4.1]; simp) eD4.2 z)
        have rus5 := rus4.ext h4 x5
        have kp : Keep Z5 H5 Z5 (upd H5 D (.lst (xs ++ [yv]))) := Keep.hid eD5.1 zD5
        have xx := (x2.trans x4).trans x5
        refine ⟨xs, eD5.1, by rw [← rus.length]; omega, Z5, G5, us ++ [yw], xs ++ [yv], ⟨xx.z, fun p u e' g' => ?_, xx.n⟩, ⟨fun p z => ?_, fun p o g' => ?_⟩, upd_same, eD5.2, zD5, (rus5.append (.cons r5 .nil)).keep kp, by simp; omega, t5⟩
        · rw [upd_ne (ne_of_none e' hD)]; exact xx.f p u e' g'
        · have := h5.z p z
          rw [upd_ne (fun c => zD5 (by rw [← c]; exact z))]
          exact this
        · obtain ⟨u, e', r⟩ := h5.g p o g'
          have c : p ≠ D := fun c => by rw [c, eD5.2] at g'; cases g'
          exact ⟨u, by rw [upd_ne c]; exact e', r.keep kp⟩
    · rintro H2 ⟨Z2, G2, us, xs, x2, h2, eD, gD, zD, rus, lus, t2⟩
      rw [List.drop_length] at t2
      obtain ⟨_, t2⟩ := t2
      obtain ⟨Z3, G3, w, x3, h3, r3, q⟩ := lc_frz Z1 G1 H1 Z2 G2 H2 us xs D Qw hD x2 h2 rus eD gD zD t2
      exact k Z3 G3 H2 w _ (x1.trans x3) h3 r3 q
  | _ => exact False.elim t1
end
section
variable {X : Cx} {scope : Scope} {pos : Pos} {elt tg iter : Expr} {ifs : List Expr} {own : List (Str × Nat)} {t0 : TEw} {gw : TGw} {tt : TTw} {te : TEw}
theorem qlcR (hc : X.calm = true) (hN : X.N.Nodup) (hi : PEw X iter t0) (ok : BlkOk X.N X.env.scope scope own) (hg : TgW X (own.map (·.2)) tg scope gw)
    (ht : ∀ (s : Shared) (H : Hp) (C : Addr) (cl : List (Str × Addr)) (fp : List Addr), PTsw (X.blk s H scope (compEnvC scope cl C X.env) fp) ifs tt) (he : ∀ (s : Shared) (H : Hp) (C : Addr) (cl : List (Str × Addr)) (fp : List Addr), PEw (X.blk s H scope (compEnvC scope cl C X.env) fp) elt te)
    (hs : ∀ x, foldedSetIterable iter X.env x = pure x := by intro _; rfl) : PEw X (.ListComp elt [⟨tg, iter, ifs, 0⟩] scope pos) (wLcR (own.map (·.2)) t0 gw tt te) := by
  obtain ⟨g, pg, sg⟩ := hg.ex
  exact PE.imp (pe_lc (tt := liftT X.K tt) (te := liftE X.K te) hc hN (pi_seq hi) ok pg ht he hs) fun _ _ _ h => llcR sg h
end
/-! ### a loop over lists that are still to be changed: they must stand at every turn -/
def WalkP (K : PySem.W.Frag) (J : It) (I : Gp → Prop) (Z : Zp) (G : Gp) (H : Hp) (ws : List W) : Prop := ∃ (Gd : Hp → Prop) (Y : Nat → Hp → V → Hp → Prop), Walk J ws.length Gd Y ∧
  ∀ Z' G' H', Ext Z G H Z' G' H' → HRel K Z' G' H' → I G' → Gd H' ∧ ∀ i v H'', i < ws.length → Y i H' v H'' → ∃ w, ws[i]? = some w ∧ Rw K Z' H'' w v ∧ Ext Z' G' H' Z' G' H'' ∧ HRel K Z' G' H''
abbrev TIr := SW → Gp → (List W → (Gp → Prop) → Gp → Prop) → Prop
def liftIr (K : PySem.W.Frag) (t : TIr) : TI := fun σ H R => ∃ Z σ' G Rw', RwS K Z H σ' σ ∧ HRel K Z G H ∧ t σ' G Rw' ∧ ∀ Z' G' H' ws I J, Ext Z G H Z' G' H' → HRel K Z' G' H' → WalkP K J I Z' G' H' ws → Rw' ws I G' → R J H'
def PIr (X : Cx) (tg iter : Expr) (t : TIr) : Prop := PI X tg iter (liftIr X.K t)
def forR (I : Gp → Prop) (ks : List Bool) (g : TGw) (tb : TSw) : List W → TSw
  | [], D, σ, G => I G ∧ D.nx σ G
  | w :: ws, D, σ, G => I G ∧ g w σ G fun σ1 G1 => tb { nx := fun σ2 G2 => forR I ks g tb ws D (skill σ2 ks) G2, ct := fun σ2 G2 => forR I ks g tb ws D (skill σ2 ks) G2, bk := D.nx, rt := D.rt, ex := D.ex } σ1 G1
def wForR (ks : List Bool) (ti : TIr) (g : TGw) (tb : TSw) : TSw := fun D σ G => ti σ G fun ws I G1 => forR I ks g tb ws D (skill σ ks) G1
theorem forR_at {I : Gp → Prop} {ks : List Bool} {g : TGw} {tb : TSw} {ws : List W} {D : EndsW} {σ : SW} {G : Gp} (h : forR I ks g tb ws D σ G) : I G := by
  cases ws with
  | nil => exact h.1
  | cons _ _ => exact h.1
theorem forR_ix {I : Gp → Prop} {ks : List Bool} {g : TGw} {tb : TSw} {D : EndsW} (P : Nat → SW → Gp → Prop) (hI : ∀ i σ G, P i σ G → I G) : ∀ (items : List W) (k : Nat) (σ : SW) (G : Gp), P k σ G →
    (∀ i w, items[i]? = some w → ∀ σ G (N : SW → Gp → Prop), P (k + i) σ G → (∀ σ' G', P (k + i + 1) (skill σ' ks) G' → N σ' G') → g w σ G fun σ1 G1 => tb { nx := N, ct := N, bk := D.nx, rt := D.rt, ex := D.ex } σ1 G1) →
    (∀ σ G, P (k + items.length) σ G → D.nx σ G) → forR I ks g tb items D σ G
  | [], k, σ, G, p, _, hd => ⟨hI _ _ _ p, hd σ G p⟩
  | w :: ws, k, σ, G, p, hs, hd => ⟨hI _ _ _ p, hs 0 w rfl σ G _ p fun σ' G' p' => forR_ix P hI ws (k + 1) _ G' p' (fun i w' hw => by
      have h := hs (i + 1) w' hw
      rw [show k + (i + 1) = k + 1 + i by omega] at h
      exact h) (by
      have h := hd
      rw [show k + (w :: ws).length = k + 1 + ws.length by rw [List.length_cons]; omega] at h
      exact h)⟩
section
variable {X : Cx} {K : PySem.W.Frag} {pos : Pos}
theorem lforR {ks : List Bool} {ti : TIr} {g : TGw} {tb : TSw} {D : Ends} {σ : SV} {H : Hp} (h : liftS X (wForR ks ti g tb) D σ H) : tFor (liftIr X.K ti) (liftG X.K g) (liftS X tb) D σ H := by
  obtain ⟨Z, σ', G, Dw, e, hr, t, k⟩ := h
  refine ⟨Z, σ', G, _, e, hr, t, fun Z1 G1 H1 ws I J x1 h1 ⟨Gd, Y, wk, hY⟩ t1 => ?_⟩
  refine for_it wk (fun i σ2 H2 => ∃ Z2 σ2' G2, Ext Z1 G1 H1 Z2 G2 H2 ∧ HRel X.K Z2 G2 H2 ∧ RwS X.K Z2 H2 σ2' σ2 ∧ forR I ks g tb (ws.drop i) Dw σ2' G2) ?_ ?_ ?_ ?_
  · exact ⟨Z1, _, G1, Ext.refl, h1, (e.ext hr x1).kill ks, t1⟩
  · rintro i σ2 H2 _ ⟨Z2, σ2', G2, x2, h2, _, t2⟩
    exact (hY Z2 G2 H2 x2 h2 (forR_at t2)).1
  · rintro i v σ2 H2 H3 hi ⟨Z2, σ2', G2, x2, h2, e2, t2⟩ y
    obtain ⟨w, ew, rw', x3, h3⟩ := (hY Z2 G2 H2 x2 h2 (forR_at t2)).2 i v H3 hi y
    have ed : ws.drop i = w :: ws.drop (i + 1) := by
      obtain ⟨hl, e⟩ := List.getElem?_eq_some_iff.mp ew
      rw [← e]; exact List.drop_eq_getElem_cons hl
    rw [ed] at t2
    refine ⟨Z2, σ2', G2, w, _, e2.ext h2 x3, h3, rw', t2.2, fun Z4 G4 H4 s4 t4 x4 h4 e4 q4 => ?_⟩
    have x24 := (x2.trans x3).trans x4
    have xx := x1.trans x24
    exact ⟨Z4, s4, G4, _, e4, h4, q4, ⟨fun Z5 G5 H5 s5 t5 x5 h5 e5 q5 => ⟨Z5, _, G5, x24.trans x5, h5, e5.kill ks, q5⟩, k.rt.mono xx, k.nx.mono xx, fun Z5 G5 H5 s5 t5 x5 h5 e5 q5 => ⟨Z5, _, G5, x24.trans x5, h5, e5.kill ks, q5⟩, k.ex.mono xx⟩⟩
  · rintro σ2 H2 ⟨Z2, σ2', G2, x2, h2, e2, t2⟩
    rw [List.drop_length] at t2
    exact k.nx Z2 G2 H2 _ _ (x1.trans x2) h2 e2 t2.2
theorem qforR {ks : List Bool} {tg iter : Expr} {body : List Stmt} {ti : TIr} {g : TGw} {tb : TSw} (hp : PassesOwn (model X.prog X.w) X.A X.env X.xe) (hc : X.calm = true) (hi : PIr X tg iter ti) (hg : PGw X tg g) (hb : PSsw X body tb)
    (hs : ∀ x, foldedSetIterable iter X.env x = pure x := by intro _; rfl) : PSw X (.For tg iter body [] pos) (wForR ks ti g tb) := PS.imp (ps_for hp hc hi hg hb hs) fun _ _ _ h => lforR h
end
/-- what a live list must keep: itself -/
def pinOf (w : W) (us : List W) : Gp → Prop := match w with
  | .ref p => fun G => G p = some (.lst us)
  | _ => fun _ => True
theorem pin_at {K : PySem.W.Frag} {Z : Zp} {G : Gp} {H : Hp} (h : HRel K Z G H) {w : W} {v : V} {us : List W} (r : Rw K Z H w v) (e : asL G w = some us) :
    ∃ a, v = .ref a ∧ (∃ vs, SqL K H a vs) ∧ ∀ Z' G' H', Ext Z G H Z' G' H' → HRel K Z' G' H' → pinOf w us G' → ∃ vs, SqL K H' a vs ∧ RwL K Z' H' us vs := by
  cases r with
  | @ref p =>
    have g : G p = some (.lst us) := by
      simp only [asL] at e
      cases q : G p with
      | none => rw [q] at e; cases e
      | some o =>
        rw [q] at e
        cases o with
        | lst ws => simp only [Option.some.injEq] at e; rw [e]
        | ins _ _ => cases e
        | dic _ => cases e
    obtain ⟨vs, s, r⟩ := h.lst g
    refine ⟨p, rfl, ⟨vs, SqL.of s⟩, fun Z' G' H' x h' g' => ?_⟩
    obtain ⟨vs', s', r'⟩ := h'.lst g'
    exact ⟨vs', SqL.of s', r'⟩
  | lst z s r =>
    injection e with e
    subst e
    refine ⟨_, rfl, ⟨_, SqL.of s⟩, fun Z' G' H' x h' _ => ⟨_, SqL.of (x.f _ _ s (h.z _ z).1).1, r.ext h x⟩⟩
  | scr s r =>
    injection e with e
    subst e
    exact ⟨_, rfl, ⟨_, s.sq⟩, fun Z' G' H' x h' _ => ⟨_, (s.ext h x).sq, r.ext h x⟩⟩
  | _ => cases e
def iSeqR (te : TEw) : TIr := fun σ G R => te σ G fun w G1 => isS (asL G1 w) fun us => R us (pinOf w us) G1
theorem qiseqR {X : Cx} {tg l : Expr} {te : TEw} (hl : PEw X l te) : PIr X tg l (iSeqR te) := PI.imp (pi_seq hl) fun σ H R h => by
  obtain ⟨Z, σ', G, Qw, e, hr, t, k⟩ := h
  refine ⟨Z, σ', G, _, e, hr, t, fun Z1 G1 H1 w v x1 h1 r1 t1 => ?_⟩
  obtain ⟨us, eu, t1⟩ := isS_ex t1
  obtain ⟨a, rfl, s, pin⟩ := pin_at h1 r1 eu
  refine .inl ⟨a, rfl, s, k Z1 G1 H1 us _ _ x1 h1 ⟨_, _, walk_live (K := X.K) (a := a) (n := us.length), fun Z' G' H' x h' i' => ?_⟩ t1⟩
  obtain ⟨vs, s', r'⟩ := pin Z' G' H' x h' i'
  refine ⟨⟨vs, s', r'.length.symm⟩, fun i v H'' hi y => ?_⟩
  obtain ⟨rfl, y⟩ := y
  obtain ⟨w, ew, rw'⟩ := r'.get' i (y vs s')
  exact ⟨w, ew, rw', Ext.refl, h'⟩
theorem walk_zip_live {K : PySem.W.Frag} {a b : Addr} {n m : Nat} : Walk (Itz K a b) (min n m) (fun H => (∃ xs, SqL K H a xs ∧ xs.length = n) ∧ ∃ ys, SqL K H b ys ∧ ys.length = m)
    (fun i H v H' => ∃ T x y, v = .ref T ∧ H T = none ∧ H' = upd H T (.tup [x, y]) ∧ (∀ xs, SqL K H a xs → xs[i]? = some x) ∧ ∀ ys, SqL K H b ys → ys[i]? = some y) := by
  refine ⟨fun i H hi q => ?_, fun H q => ?_, fun i H v H' hi q y => ?_⟩
  · obtain ⟨⟨xs, q1, l1⟩, ys, q2, l2⟩ := q
    have h1 : i < xs.length := by omega
    have h2 : i < ys.length := by omega
    exact ⟨xs, ys, _, _, q1, q2, List.getElem?_eq_getElem h1, List.getElem?_eq_getElem h2⟩
  · obtain ⟨⟨xs, q1, l1⟩, ys, q2, l2⟩ := q
    exact ⟨xs, ys, q1, q2, by omega⟩
  · obtain ⟨T, x, z, e1, e2, e3, f1, f2⟩ := y
    exact ⟨T, x, z, e1, e2, e3, f1, f2⟩
def zipR (ws : List W) (G : Gp) (R : List W → (Gp → Prop) → Gp → Prop) : Prop := match ws with
  | [a, b] => isS (asL G a) fun xs => isS (asL G b) fun ys => R (xs.zipWith tup2 ys) (fun G => pinOf a xs G ∧ pinOf b ys G) G
  | _ => False
def i_zip2R (ta : TAw) : TIr := fun σ G R => ta σ G fun ws G1 => zipR ws G1 R
theorem qizip2R {X : Cx} {ta : TAw} {p pos tpos : Pos} {elts : List Expr} {kk : Nat} {e e2 : Expr} (hg : Gl X "zip") (hm : X.mg "zip" = none) (ha : PAw X [e, e2] ta)
    (hs : starEach [e, e2] X.env = (false, eval e X.env) :: starEach [e2] X.env := by rfl) (hpl : (backTo pos (starEach [e2] X.env)).any (·.1) = false := by rfl) :
    PIr X (.Tuple elts kk tpos) (.Call (.Name "zip" p) [e, e2] [] pos) (i_zip2R ta) := PI.imp (pi_zipA hg hm ha hs hpl) fun σ H R h => by
  obtain ⟨Z, σ', G, Qw, ev, hr, t, k⟩ := h
  refine ⟨Z, σ', G, _, ev, hr, t, fun Z1 G1 H1 ws vs x1 h1 r1 t1 => ?_⟩
  cases r1 with
  | nil => exact False.elim t1
  | cons ra rr =>
    cases rr with
    | nil => exact False.elim t1
    | cons rb rr =>
      cases rr with
      | cons _ _ => exact False.elim t1
      | nil =>
        obtain ⟨xs, ex, t1⟩ := isS_ex t1
        obtain ⟨ys, ey, t1⟩ := isS_ex t1
        obtain ⟨a, rfl, ⟨_, sa⟩, pa⟩ := pin_at h1 ra ex
        obtain ⟨b, rfl, ⟨_, sb⟩, pb⟩ := pin_at h1 rb ey
        refine ⟨_, _, _, _, rfl, .inl ⟨sa, sb, k Z1 G1 H1 _ _ _ x1 h1 ⟨_, _, by rw [List.length_zipWith]; exact walk_zip_live (K := X.K) (a := a) (b := b), fun Z' G' H' x h' i' => ?_⟩ t1⟩⟩
        obtain ⟨va, sa', ra'⟩ := pa Z' G' H' x h' i'.1
        obtain ⟨vb, sb', rb'⟩ := pb Z' G' H' x h' i'.2
        refine ⟨⟨⟨va, sa', ra'.length.symm⟩, vb, sb', rb'.length.symm⟩, fun i v H'' hi y => ?_⟩
        obtain ⟨T, u1, u2, rfl, nT, rfl, f1, f2⟩ := y
        obtain ⟨w, ew, rw'⟩ := ra'.get' i (f1 va sa')
        obtain ⟨u, eu, ru⟩ := rb'.get' i (f2 vb sb')
        obtain ⟨h2, x2, r3⟩ := new_tup h' nT (.cons rw' (.cons ru .nil))
        exact ⟨tup2 w u, by rw [List.getElem?_zipWith, ew, eu], r3, x2, h2⟩
/-! ### a slot's list, from here on unchanged -/
def wFz (i : Nat) (t : TSw) : TSw := fun D σ G => isS (slot σ i) fun w => match w with
  | .ref p => isG (G p) fun ws => t D (sset σ i (.lst ws)) (gdel G p)
  | _ => t D σ G
theorem qfz {X : Cx} {st : Stmt} {t : TSw} (i : Nat) (h : PSw X st t) : PSw X st (wFz i t) := PS.imp h fun D σ H h => by
  obtain ⟨Z, σ', G, Dw, e, hr, t1, k⟩ := h
  obtain ⟨w, ew, t1⟩ := isS_ex t1
  cases w with
  | ref p =>
    obtain ⟨ws, g, t1⟩ := isG_ex t1
    obtain ⟨v, ev, rv⟩ := e.get i ew
    cases rv
    obtain ⟨vs, s, r⟩ := hr.lst g
    obtain ⟨h2, x2⟩ := hr.freeze (p := p) (by rw [g]; simp)
    have e2 := (e.ext hr x2).set (w := .lst ws) (v := .ref p) (.lst (.inr rfl) s (r.ext hr x2)) i
    have es : σ.set i (some (V.ref p)) = σ := by
      obtain ⟨hl, ee⟩ := List.getElem?_eq_some_iff.mp ev
      rw [← ee]
      exact List.set_getElem_self hl
    rw [es] at e2
    exact ⟨_, _, _, Dw, e2, h2, t1, k.mono x2⟩
  | _ => exact ⟨Z, σ', G, Dw, e, hr, t1, k⟩
/-- a list's own lists, from here on unchanged -/
def fzL : List W → Gp → (List W → Gp → Prop) → Prop
  | [], G, R => R [] G
  | .ref p :: ws, G, R => isG (G p) fun us => fzL ws (gdel G p) fun zs G' => R (.lst us :: zs) G'
  | w :: ws, G, R => fzL ws G fun zs G' => R (w :: zs) G'
theorem fzL_ex {K : PySem.W.Frag} : ∀ {ws : List W} {vs : List V} {Z : Zp} {G : Gp} {H : Hp} {R : List W → Gp → Prop}, HRel K Z G H → RwL K Z H ws vs → fzL ws G R →
    ∃ Z' G' zs, HRel K Z' G' H ∧ Ext Z G H Z' G' H ∧ RwL K Z' H zs vs ∧ R zs G'
  | [], _, Z, G, H, R, h, .nil, t => ⟨Z, G, [], h, Ext.refl, .nil, t⟩
  | w :: ws, _, Z, G, H, R, h, .cons r rr, t => by
    have gen : (fzL ws G fun zs G' => R (w :: zs) G') → ∃ Z' G' zs, HRel K Z' G' H ∧ Ext Z G H Z' G' H ∧ RwL K Z' H zs (_ :: _) ∧ R zs G' := fun t => by
      obtain ⟨Z', G', zs, h', x, r', t'⟩ := fzL_ex h rr t
      exact ⟨Z', G', w :: zs, h', x, .cons (r.ext h x) r', t'⟩
    cases r with
    | @ref p =>
      obtain ⟨us, g, t⟩ := isG_ex t
      obtain ⟨vs, s, rv⟩ := h.lst g
      obtain ⟨h2, x2⟩ := h.freeze (p := p) (by rw [g]; simp)
      obtain ⟨Z', G', zs, h', x, r', t'⟩ := fzL_ex h2 (rr.ext h x2) t
      exact ⟨Z', G', .lst us :: zs, h', x2.trans x, .cons ((Rw.lst (.inr rfl) s (rv.ext h x2)).ext h2 x) r', t'⟩
    | non => exact gen t
    | bl => exact gen t
    | int => exact gen t
    | str => exact gen t
    | tup s r => exact gen t
    | lst z e r => exact gen t
    | scr s r => exact gen t
    | ty => exact gen t
    | ins c z e r => exact gen t
    | dic z e r => exact gen t
def wFzN (i : Nat) (t : TSw) : TSw := fun D σ G => isS (slot σ i) fun w => match w with
  | .lst ws => fzL ws G fun zs G' => t D (sset σ i (.lst zs)) G'
  | _ => t D σ G
theorem qfzN {X : Cx} {st : Stmt} {t : TSw} (i : Nat) (h : PSw X st t) : PSw X st (wFzN i t) := PS.imp h fun D σ H h => by
  obtain ⟨Z, σ', G, Dw, e, hr, t1, k⟩ := h
  obtain ⟨w, ew, t1⟩ := isS_ex t1
  cases w with
  | lst ws =>
    obtain ⟨v, ev, rv⟩ := e.get i ew
    cases rv with
    | @lst p _ vs z s r =>
      obtain ⟨Z', G', zs, h', x, r', t'⟩ := fzL_ex hr r t1
      have e2 := (e.ext hr x).set (w := .lst zs) (v := .ref p) (.lst (x.z p z) s r') i
      have es : σ.set i (some (V.ref p)) = σ := by
        obtain ⟨hl, ee⟩ := List.getElem?_eq_some_iff.mp ev
        rw [← ee]
        exact List.set_getElem_self hl
      rw [es] at e2
      exact ⟨_, _, _, Dw, e2, h', t', k.mono x⟩
  | _ => exact ⟨Z, σ', G, Dw, e, hr, t1, k⟩
/-! ### list(range(n)) -/
def rgO (w : W) (G : Gp) (Q : List W → Gp → Prop) : Prop := match w with
  | .int n => RgOk 0 n ∧ Q (rangeW 0 n.toNat) G
  | _ => False
theorem rgO_int {n : Int} {G : Gp} {Q : List W → Gp → Prop} : rgO (.int n) G Q = (RgOk 0 n ∧ Q (rangeW 0 n.toNat) G) := rfl
def wLstRg (te : TEw) : TEw := fun σ G Q => te σ G fun w G1 => rgO w G1 fun us G2 => Q (.lst us) G2
def wLstRgM (te : TEw) : TEw := fun σ G Q => te σ G fun w G1 => rgO w G1 fun us G2 => ∀ p, G2 p = none → Q (.ref p) (gup G2 p (.lst us))
theorem RwL.range {K : PySem.W.Frag} {Z : Zp} {H : Hp} {n : Int} : RwL K Z H (rangeW 0 n.toNat) (rgV 0 n) := by
  unfold rangeW rgV
  rw [Int.sub_zero]
  generalize List.range n.toNat = xs
  induction xs with
  | nil => exact .nil
  | cons x xs ih => exact .cons .int ih
section
variable {X : Cx} {K : PySem.W.Frag} {e : Expr} {te : TEw} {p p2 pos pos2 : Pos}
theorem qlstRg (hc : X.calm = true) (hg : Gl X "list") (hm : X.mg "list" = none) (hg2 : Gl X "range") (hm2 : X.mg "range" = none) (he : PEw X e te) (na : starEach [e] X.env = (false, eval e X.env) :: starEach [] X.env := by rfl)
    (nb : starEach [.Call (.Name "range" p2) [e] [] pos2] X.env = (false, eval (.Call (.Name "range" p2) [e] [] pos2) X.env) :: starEach [] X.env := by rfl) : PEw X (.Call (.Name "list" p) [.Call (.Name "range" p2) [e] [] pos2] [] pos) (wLstRg te) :=
  PE.imp (pe_listRg hc hg hm (prg_1 hg2 hm2 he na) nb) fun σ H Q h => by
    obtain ⟨Z, σ', G, Qw, ev, hr, t, k⟩ := h
    refine ⟨Z, σ', G, _, ev, hr, t, fun Z1 G1 H1 w v x1 h1 r1 t1 => ?_⟩
    cases r1 with
    | int =>
      refine ⟨_, rfl, t1.1, fun q n => ?_⟩
      obtain ⟨h2, x2, r2⟩ := new_frz h1 n RwL.range
      exact k _ _ _ _ _ (x1.trans x2) h2 r2 t1.2
    | _ => exact False.elim t1
theorem qlstRgM (hc : X.calm = true) (hg : Gl X "list") (hm : X.mg "list" = none) (hg2 : Gl X "range") (hm2 : X.mg "range" = none) (he : PEw X e te) (na : starEach [e] X.env = (false, eval e X.env) :: starEach [] X.env := by rfl)
    (nb : starEach [.Call (.Name "range" p2) [e] [] pos2] X.env = (false, eval (.Call (.Name "range" p2) [e] [] pos2) X.env) :: starEach [] X.env := by rfl) : PEw X (.Call (.Name "list" p) [.Call (.Name "range" p2) [e] [] pos2] [] pos) (wLstRgM te) :=
  PE.imp (pe_listRg hc hg hm (prg_1 hg2 hm2 he na) nb) fun σ H Q h => by
    obtain ⟨Z, σ', G, Qw, ev, hr, t, k⟩ := h
    refine ⟨Z, σ', G, _, ev, hr, t, fun Z1 G1 H1 w v x1 h1 r1 t1 => ?_⟩
    cases r1 with
    | int =>
      refine ⟨_, rfl, t1.1, fun q n => ?_⟩
      obtain ⟨g, h2, x2⟩ := new_lst h1 n RwL.range
      exact k _ _ _ _ _ (x1.trans x2) h2 .ref (t1.2 q g)
    | _ => exact False.elim t1
end
theorem wTuple_ref {p : Addr} {G : Gp} {Q : QW} : wTuple [.ref p] G Q = isS (asL G (.ref p)) fun us => Q (.tup us) G := rfl
/-! ### is True, reverse -/
def wIsB : RW2 := fun x y G Q => match x, y with
  | .bl a, .bl b => Q (.bl (decide (a = b))) G
  | _, _ => False
theorem wIsB_bl {a b : Bool} {G : Gp} {Q : QW} : wIsB (.bl a) (.bl b) G Q = Q (.bl (decide (a = b))) G := rfl
theorem sim_isB {K : PySem.W.Frag} : Sim2 K rIsB wIsB := by
  intro Z G H x y v u Qw Q h rx ry t k
  cases rx with
  | bl =>
    cases ry with
    | bl => exact ⟨_, _, rfl, rfl, k.at h .bl t⟩
    | _ => exact False.elim t
  | _ => cases ry <;> exact False.elim t
section
variable {X : Cx} {K : PySem.W.Frag} {a b o : Expr} {ta tb to : TEw} {pos apos cpos : Pos}
theorem qisB (ha : PEw X a ta) (hb : PEw X b tb) : PEw X (.Compare a [.Is] [b] pos) (wOp wIsB ta tb) := qcmp op_isBl sim_isB ha hb (nomark _)
theorem qtisB (ha : PEw X a ta) (hb : PEw X b tb) : PTw X (.Compare a [.Is] [b] pos) (wTest (wOp wIsB ta tb)) := qtcmp op_isBl sim_isB ha hb (nomark _)
def wReverse : RWM := fun o ws G Q => match o, ws with
  | .ref p, [] => isG (G p) fun us => Q .non (gup G p (.lst us.reverse))
  | _, _ => False
theorem wReverse_ref {p : Addr} {G : Gp} {Q : QW} : wReverse (.ref p) [] G Q = isG (G p) fun us => Q .non (gup G p (.lst us.reverse)) := rfl
abbrev wM_reverse := wReverse
theorem sim_reverse : SimM K rReverse wReverse := by
  intro Z G H x v ws vs Qw Q h rx rs t k
  cases rx with
  | @ref p =>
    cases rs with
    | cons _ _ => exact False.elim t
    | nil =>
      obtain ⟨us, g, q⟩ := isG_ex t
      obtain ⟨xs, s, r⟩ := h.lst g
      obtain ⟨h2, x2⟩ := chg_lst h g r.reverse
      exact ⟨p, xs, rfl, rfl, s, k _ _ _ _ _ x2 h2 .non q⟩
  | _ => exact False.elim t
theorem qm_reverse (ho : PEw X o to) (hbase : attributeBase o "reverse" X.env (eval o X.env) = eval o X.env := by rfl) (hline : (apos.endLine == cpos.line) = true := by rfl) : PEw X (.Call (.Attribute o "reverse" apos) [] [] cpos) (wBM0 wM_reverse to) :=
  qbm0 PySem.F.slot_list_reverse PySem.F.type_list_reverse mt_reverse sim_reverse ho hbase hline
end
/-! ### a comprehension over a list, still to be changed or not: it must stand at every turn -/
def lcP (I : Gp → Prop) (g : TGw) (tt : TTw) (te : TEw) (σ : SW) : List W → List W → Gp → (List W → Gp → Prop) → Prop
  | [], acc, G, Q => I G ∧ Q acc G
  | w :: ws, acc, G, Q => I G ∧ g w σ G fun σ1 G1 => tt σ1 G1 fun b G2 => if b = true then te σ1 G2 fun y G3 => lcP I g tt te σ ws (acc ++ [y]) G3 Q else lcP I g tt te σ ws acc G2 Q
def wLcP (vs : List Nat) (t0 : TEw) (g : TGw) (tt : TTw) (te : TEw) : TEw := fun σ G Q => t0 σ G fun w G1 => isS (asL G1 w) fun us => us.length ≤ sizeLine ∧ lcP (pinOf w us) g tt te (swipe σ vs) us [] G1 fun zs G2 => Q (.lst zs) G2
theorem lcP_at {I : Gp → Prop} {g : TGw} {tt : TTw} {te : TEw} {σ : SW} {ws acc : List W} {G : Gp} {Q : List W → Gp → Prop} (h : lcP I g tt te σ ws acc G Q) : I G := by
  cases ws with
  | nil => exact h.1
  | cons _ _ => exact h.1
section
variable {K : PySem.W.Frag}
theorem llcP {vs : List Nat} {t0 : TEw} {g : TG} {gw : TGw} {tt : TTw} {te : TEw} (sg : SimG K vs g gw) {σ : SV} {H : Hp} {Q : VK}
    (h : liftE K (wLcP vs t0 gw tt te) σ H Q) : tLc (iSeq K (liftE K t0)) g (liftT K tt) (liftE K te) vs σ H Q := by
  obtain ⟨Z, σ', G, Qw, e, hr, t, k⟩ := h
  refine ⟨Z, σ', G, _, e, hr, t, fun Z1 G1 H1 w v x1 h1 r1 t1 => ?_⟩
  obtain ⟨ws, ew0, hl, t1⟩ := isS_ex t1
  obtain ⟨p, rfl, s0, pin⟩ := pin_at h1 r1 ew0
  generalize pinOf w ws = I at t1 pin
  refine .inl ⟨p, rfl, s0, fun D hD => ?_⟩
  have x0 : Ext Z1 G1 H1 Z1 G1 (upd H1 D (.lst [])) := Ext.laid h1 hD
  have h0 := h1.laid (o := .lst []) hD
  refine lc_it (walk_live (K := K) (a := p) (n := ws.length)) (fun i H2 => ∃ Z2 G2 us xs, Ext Z1 G1 H1 Z2 G2 H2 ∧ HRel K Z2 G2 H2 ∧ H2 D = some (.lst xs) ∧ G2 D = none ∧ ¬ Z2 D ∧ RwL K Z2 H2 us xs ∧ us.length ≤ i ∧ lcP I gw tt te (swipe σ' vs) (ws.drop i) us G2 fun us G2 => Qw (.lst us) G2) ?_ ?_ ?_ ?_
  · exact ⟨Z1, G1, [], [], x0, h0, upd_same, h1.fresh hD, h1.freshZ hD, .nil, Nat.le_refl _, t1⟩
  · rintro i H2 _ ⟨Z2, G2, us, xs, x2, h2, _, _, _, _, _, t2⟩
    obtain ⟨vs2, s2, r2⟩ := pin Z2 G2 H2 x2 h2 (lcP_at t2)
    exact ⟨vs2, s2, r2.length.symm⟩
  · rintro i v H2 H3 hi ⟨Z2, G2, us, xs, x2, h2, eD, gD, zD, rus, lus, t2⟩ ⟨e3, y⟩
    subst e3
    obtain ⟨vs2, s2, r2⟩ := pin Z2 G2 H3 x2 h2 (lcP_at t2)
    have ed : ws.drop i = ws[i] :: ws.drop (i + 1) := List.drop_eq_getElem_cons hi
    rw [ed] at t2
    obtain ⟨g2, t2⟩ := t2
    obtain ⟨w, ew, rw'⟩ := r2.get' i (y _ s2)
    rw [List.getElem?_eq_getElem hi] at ew
    injection ew with ew
    have eσ : RwS K Z2 H3 (swipe σ' vs) (L2.wipe σ vs) := (e.ext hr (x1.trans x2)).wipe vs
    refine sg Z2 G2 H3 _ _ ws[i] v _ _ eσ h2 (by rw [ew]; exact rw') t2 fun τ' τ eτ sτ t3 => ⟨?_, ?_⟩
    · rw [sτ.wipe, wipe_wipe vs vs fun i hi => hi]
    refine ⟨Z2, τ', G2, _, eτ, h2, t3, fun Z4 G4 H4 b x4 h4 t4 => ?_⟩
    have eD4 := x4.f D _ eD gD
    have zD4 : ¬ Z4 D := fun z => zD (x4.n D (by rw [eD]; simp) gD z)
    have rus4 := rus.ext h2 x4
    cases b with
    | false => exact ⟨Z4, G4, us, xs, x2.trans x4, h4, eD4.1, eD4.2, zD4, rus4, by omega, t4⟩
    | true =>
      refine ⟨Z4, τ', G4, _, eτ.ext h2 x4, h4, t4, fun Z5 G5 H5 yw yv x5 h5 r5 t5 => ?_⟩
      have eD5 := x5.f D _ eD4.1 eD4.2
      have zD5 : ¬ Z5 D := fun z => zD4 (x5.n D (by rw [eD4.1]; simp) eD4.2 z)
      have rus5 := rus4.ext h4 x5
      have kp : Keep Z5 H5 Z5 (upd H5 D (.lst (xs ++ [yv]))) := Keep.hid eD5.1 zD5
      have xx := (x2.trans x4).trans x5
      refine ⟨xs, eD5.1, by rw [← rus.length]; omega, Z5, G5, us ++ [yw], xs ++ [yv], ⟨xx.z, fun p u e' g' => ?_, xx.n⟩, ⟨fun p z => ?_, fun p o g' => ?_⟩, upd_same, eD5.2, zD5, (rus5.append (.cons r5 .nil)).keep kp, by simp; omega, t5⟩
      · rw [upd_ne (ne_of_none e' hD)]; exact xx.f p u e' g'
      · have := h5.z p z
        rw [upd_ne (fun c => zD5 (by rw [← c]; exact z))]
        exact this
      · obtain ⟨u, e', r⟩ := h5.g p o g'
        have c : p ≠ D := fun c => by rw [c, eD5.2] at g'; cases g'
        exact ⟨u, by rw [upd_ne c]; exact e', r.keep kp⟩
  · rintro H2 ⟨Z2, G2, us, xs, x2, h2, eD, gD, zD, rus, lus, t2⟩
    rw [List.drop_length] at t2
    obtain ⟨_, t2⟩ := t2
    obtain ⟨Z3, G3, w, x3, h3, r3, q⟩ := lc_frz Z1 G1 H1 Z2 G2 H2 us xs D Qw hD x2 h2 rus eD gD zD t2
    exact k Z3 G3 H2 w _ (x1.trans x3) h3 r3 q
end
section
variable {X : Cx} {scope : Scope} {pos : Pos} {elt tg iter : Expr} {ifs : List Expr} {own : List (Str × Nat)} {t0 : TEw} {gw : TGw} {tt : TTw} {te : TEw}
theorem qlcP (hc : X.calm = true) (hN : X.N.Nodup) (hi : PEw X iter t0) (ok : BlkOk X.N X.env.scope scope own) (hg : TgW X (own.map (·.2)) tg scope gw)
    (ht : ∀ (s : Shared) (H : Hp) (C : Addr) (cl : List (Str × Addr)) (fp : List Addr), PTsw (X.blk s H scope (compEnvC scope cl C X.env) fp) ifs tt) (he : ∀ (s : Shared) (H : Hp) (C : Addr) (cl : List (Str × Addr)) (fp : List Addr), PEw (X.blk s H scope (compEnvC scope cl C X.env) fp) elt te)
    (hs : ∀ x, foldedSetIterable iter X.env x = pure x := by intro _; rfl) : PEw X (.ListComp elt [⟨tg, iter, ifs, 0⟩] scope pos) (wLcP (own.map (·.2)) t0 gw tt te) := by
  obtain ⟨g, pg, sg⟩ := hg.ex
  exact PE.imp (pe_lc (tt := liftT X.K tt) (te := liftE X.K te) hc hN (pi_seq hi) ok pg ht he hs) fun _ _ _ h => llcP sg h
end
/-! ### list + list, the caller's own -/
def wAddM : RW2 := fun x y G Q => match x, y with
  | .lst a, .lst b => a.length + b.length ≤ sizeLine ∧ ∀ p, G p = none → Q (.ref p) (gup G p (.lst (a ++ b)))
  | _, _ => False
theorem wAddM_lst {a b : List W} {G : Gp} {Q : QW} : wAddM (.lst a) (.lst b) G Q = (a.length + b.length ≤ sizeLine ∧ ∀ p, G p = none → Q (.ref p) (gup G p (.lst (a ++ b)))) := rfl
theorem sim_addM {K : PySem.W.Frag} : Sim2 K rCat wAddM := by
  intro Z G H x y v u Qw Q h rx ry t k
  cases rx with
  | @lst p a vs z1 s1 r1 =>
    cases ry with
    | @lst p2 b us z2 s2 r2 =>
      refine ⟨_, _, vs, us, rfl, rfl, s1, s2, by rw [← r1.length, ← r2.length]; exact t.1, fun q n => ?_⟩
      obtain ⟨g, h2, x2⟩ := new_lst h n (r1.append r2)
      exact k _ _ _ _ _ x2 h2 .ref (t.2 q g)
    | _ => exact False.elim t
  | _ => exact False.elim t
theorem qaddM {X : Cx} {a b : Expr} {ta tb : TEw} {pos : Pos} (ha : PEw X a ta) (hb : PEw X b tb) : PEw X (.BinOp a .Add b pos) (wOp wAddM ta tb) := qop op_cat sim_addM ha hb
end WL

/-! zip of two or three, enumerate: of tuples and lists in any mixture. -/
namespace WL
open PySem PySem.Spec PyProof.Rows L2
/-- a list (true) or a tuple (false) -/
def SqK (K : PySem.W.Frag) : Bool → Hp → Addr → List V → Prop
  | true => SqL K
  | false => SqT K
def ItK : Bool → Heap → Addr → Addr → Nat → Prop
  | true => fun h it a i => h.IsListIter it a i
  | false => fun h it a i => h.IsTupleIter it a i
def SeqK : Bool → Heap → Addr → Array Value → Prop
  | true => fun h a its => h.IsList a its
  | false => fun h a its => h.IsTuple a its
def oK : Bool → Addr → Obj
  | true => fun a => { cls := .type "list_iterator", data := .fields #[.ref a, .int 0 0] }
  | false => fun a => { cls := .type "tuple_iterator", data := .fields #[.ref a, .int 0 0] }
theorem drawsK {P : Program} {w : World} {A : Around} (hh : A.handled = none) (k : Bool) (it a : Addr) (hne : a ≠ it) (items : Array Value) :
    Draws P w A it [it, a] items.size (fun i v => items[i]? = some v) (fun i h => ItK k h it a i ∧ SeqK k h a items) := by
  cases k with
  | true => exact Draws.list hh it a hne items
  | false => exact Draws.tuple hh it a hne items
theorem beginsK (k : Bool) (a : Addr) (items : Array Value) : Begins (.ref a) (oK k a) (fun h => SeqK k h a items) := by
  cases k with
  | true => exact begins_list a items
  | false => exact begins_tuple a items
theorem itK_new {k : Bool} {h : Heap} {it a : Addr} (e : h.get? it = some (oK k a)) : ItK k h it a 0 := by
  cases k with
  | true => exact ⟨_, e, rfl, rfl⟩
  | false => exact ⟨_, e, rfl, rfl⟩
theorem itK_obj {k : Bool} {h : Heap} {it a : Addr} {i : Nat} (q : ItK k h it a i) : ∃ o, h.get? it = some o ∧ ∀ v, o.data ≠ .cell v := by
  cases k with
  | true => obtain ⟨o, e, _, d⟩ := q; exact ⟨o, e, fun v z => by rw [d] at z; cases z⟩
  | false => obtain ⟨o, e, _, d⟩ := q; exact ⟨o, e, fun v z => by rw [d] at z; cases z⟩
theorem itK_keep {k : Bool} {h h' : Heap} {it a : Addr} {i : Nat} (q : ItK k h it a i) (e : ∀ o, h.get? it = some o → h'.get? it = some o) : ItK k h' it a i := by
  cases k with
  | true => exact Heap.IsListIter.at q e
  | false => exact Heap.IsTupleIter.at q e
section
variable {X : Cx} {pins : List (Addr × Obj)} {σ : L2.St} {H : Hp} {s : Shared} {a : Addr} {xs ys : List V}
theorem Inv.sqk (I : Inv X pins σ H s) {k : Bool} (h : SqK X.K k H a xs) : ∃ its : List Value, Vals xs its ∧ SeqK k s.heap a its.toArray ∧ a < s.heap.objs.size := by
  cases k with
  | true =>
    obtain ⟨its, rv, p, _⟩ := I.list h
    exact ⟨its, rv, p.isList, p.lt⟩
  | false =>
    obtain ⟨its, rv, p, _⟩ := I.tuple h
    obtain ⟨o, ho, _⟩ := id p
    exact ⟨its, rv, p, Heap.lt_size ho⟩
theorem Inv.sqk_inj (I : Inv X pins σ H s) {k : Bool} (h : SqK X.K k H a xs) (h' : SqK X.K k H a ys) : xs = ys := by
  cases k with
  | true => exact I.list_inj h h'
  | false => exact I.tuple_inj h h'
end
/-! ### zip of two -/
def ItzG (K : PySem.W.Frag) (k1 k2 : Bool) (a b : Addr) : It :=
  ⟨fun i H => ∃ (xs ys : List V) (x y : V), SqK K k1 H a xs ∧ SqK K k2 H b ys ∧ xs[i]? = some x ∧ ys[i]? = some y,
    fun i H v H' => ∃ T x y, v = .ref T ∧ H T = none ∧ H' = upd H T (.tup [x, y]) ∧ (∀ xs, SqK K k1 H a xs → xs[i]? = some x) ∧ ∀ ys, SqK K k2 H b ys → ys[i]? = some y,
    fun i H => ∃ xs ys : List V, SqK K k1 H a xs ∧ SqK K k2 H b ys ∧ i ≤ xs.length ∧ i ≤ ys.length ∧ (i = xs.length ∨ i = ys.length)⟩
theorem turn_zipG {P : Program} {w : World} {K : PySem.W.Frag} {elts : List Expr} {kk : Nat} {tpos : Pos} {k1 k2 : Bool} {a b z TI TO i1 i2 : Addr} (D : ZipSep2 z TI TO i1 i2 [i1, a] [i2, b]) (n1 : a ≠ i1) (n2 : b ≠ i2) :
    Turn P w K (.Tuple elts kk tpos) (ItzG K k1 k2 a b) [z, TI, TO, i1, i2] z (fun i h => IsZip h z TI TO .none ∧ IsTupOf2 h TI (.ref i1) (.ref i2) ∧ (∃ x y, IsTupOf2 h TO x y) ∧ ItK k1 h i1 a i ∧ ItK k2 h i2 b i) where
  mem := by simp
  obj := fun i h st d hd => by
    obtain ⟨hz, hTI, ⟨x, y, hTO⟩, h1, h2⟩ := st
    have e' : d = z ∨ d = TI ∨ d = TO ∨ d = i1 ∨ d = i2 := by simpa using hd
    rcases e' with q | q | q | q | q
    · rw [q]; exact ⟨_, hz, fun v q => nomatch q⟩
    · rw [q]; exact ⟨_, hTI, fun v q => nomatch q⟩
    · rw [q]; exact ⟨_, hTO, fun v q => nomatch q⟩
    · rw [q]; exact itK_obj h1
    · rw [q]; exact itK_obj h2
  keep := fun i h h' st k => by
    obtain ⟨hz, hTI, ⟨x, y, hTO⟩, h1, h2⟩ := st
    exact ⟨k z (by simp) _ hz, k TI (by simp) _ hTI, ⟨x, y, k TO (by simp) _ hTO⟩, itK_keep h1 fun o q => k i1 (by simp) o q, itK_keep h2 fun o q => k i2 (by simp) o q⟩
  item := by
    intro X hP hw hK hc i pins s σ H E I hf st hg
    subst hP hw hK
    obtain ⟨hz, hTI, ⟨x0, y0, hTO⟩, h1, h2⟩ := st
    obtain ⟨xs, ys, x, y, q1, q2, g1, g2⟩ := hg
    obtain ⟨t1, rv1, p1, _⟩ := Inv.sqk I q1
    obtain ⟨t2, rv2, p2, _⟩ := Inv.sqk I q2
    obtain ⟨u1, hu1, ru1⟩ := rv1.get g1
    obtain ⟨u2, hu2, ru2⟩ := rv2.get g2
    have hzl : z < s.heap.objs.size := Heap.lt_size hz
    have hh := I.ok.hd hc
    have D1 := drawsK (P := X.prog) (w := X.w) (A := X.A.in1) hh k1 i1 a n1 t1.toArray
    have l1 : i < t1.toArray.size := by obtain ⟨z, _⟩ := List.getElem?_eq_some_iff.mp hu1; simpa using z
    have D2 := drawsK (P := X.prog) (w := X.w) (A := X.A.in1) hh k2 i2 b n2 t2.toArray
    have l2 : i < t2.toArray.size := by obtain ⟨z, _⟩ := List.getElem?_eq_some_iff.mp hu2; simpa using z
    refine wpAny_pyNext_zipD2_item D D1 D2 hz hTI hTO ⟨h1, p1⟩ ⟨h2, p2⟩ l1 l2 fun x1 x2 h' tk y1 y2 z' TO' s1 s2 hT hsz hk => ?_
    have e1 : x1 = u1 := by rw [show t1.toArray[i]? = t1[i]? by simp, hu1] at y1; injection y1 with y1; exact y1.symm
    have e2 : x2 = u2 := by rw [show t2.toArray[i]? = t2[i]? by simp, hu2] at y2; injection y2 with y2; exact y2.symm
    subst e1 e2
    refine ⟨_, rfl, wpAny_letOwnedTupleGo_zip (s := { s with heap := h', toks := tk }) z' fun h'' z'' sb => ?_⟩
    have hT2 : h''.get? s.heap.objs.size = some { cls := .type "tuple", data := .seq #[x1, x2] } := (sb.2 _ (Nat.ne_of_gt hzl)).trans hT
    have new : ObjOk X.prog X.w (upd H s.heap.objs.size (.tup [x, y])) h'' s.heap.objs.size (.tup [x, y]) :=
      ⟨by show 2 ≤ sizeLine; decide, [x1, x2], (.cons ru1 (.cons ru2 .nil)), ⟨_, hT2, rfl, _, rfl⟩⟩
    have I1 : Inv X pins σ (upd H s.heap.objs.size (.tup [x, y])) { s with heap := h'', toks := tk } :=
      I.turnedNew (ch := [z, TI, TO, i1, i2]) (fun c o hb q => (sb.2 c (fun q' => hb (by simp [q']))).trans (hk c o (fun q' => hb (by simp [q'])) (fun q' => hb (by simp [q'])) (fun q' => hb (by simp [q'])) (fun q' => hb (by simp [q'])) q)) hf (Nat.le_refl _) new
    refine ⟨.ref s.heap.objs.size, _, I1, rfl, ⟨_, x, y, rfl, I.hok.fresh (Nat.le_refl _), rfl, fun l hl => by rw [Inv.sqk_inj I hl q1]; exact g1, fun l hl => by rw [Inv.sqk_inj I hl q2]; exact g2⟩, ⟨z'', ?_, ⟨x1, x2, ?_⟩, ?_, ?_⟩, fun d hcm => ?_⟩
    · exact (sb.2 _ D.TIz).trans (hk _ _ D.TIz D.TITO D.TIi1 D.TIi2 hTI)
    · exact (sb.2 _ D.TOz).trans TO'
    · exact itK_keep s1.1 fun o q => (sb.2 _ (Ne.symm D.zi1)).trans q
    · exact itK_keep s2.1 fun o q => (sb.2 _ (Ne.symm D.zi2)).trans q
    · have hlt : d < s.heap.objs.size := by
        have e' : d = z ∨ d = TI ∨ d = TO ∨ d = i1 ∨ d = i2 := by simpa using hcm
        rcases e' with q | q | q | q | q
        · rw [q]; exact hzl
        · rw [q]; exact Heap.lt_size hTI
        · rw [q]; exact Heap.lt_size hTO
        · rw [q]; obtain ⟨_, e1, _⟩ := itK_obj h1; exact Heap.lt_size e1
        · rw [q]; obtain ⟨_, e1, _⟩ := itK_obj h2; exact Heap.lt_size e1
      rw [upd_ne (Nat.ne_of_lt hlt)]
      exact (hf d hcm).1
  done := by
    intro X hP hw hK hc i pins s σ H E I hf st hg
    subst hP hw hK
    obtain ⟨hz, hTI, ⟨x0, y0, hTO⟩, h1, h2⟩ := st
    obtain ⟨xs, ys, q1, q2, g1, g2, hend⟩ := hg
    obtain ⟨t1, rv1, p1, _⟩ := Inv.sqk I q1
    have e1 := rv1.length
    obtain ⟨t2, rv2, p2, _⟩ := Inv.sqk I q2
    have e2 := rv2.length
    have hh := I.ok.hd hc
    have D1 := drawsK (P := X.prog) (w := X.w) (A := X.A.in1) hh k1 i1 a n1 t1.toArray
    have D2 := drawsK (P := X.prog) (w := X.w) (A := X.A.in1) hh k2 i2 b n2 t2.toArray
    refine wpAny_pyNext_zipD2_end D D1 D2 hz hTI hTO ⟨h1, p1⟩ ⟨h2, p2⟩ (by simp only [List.size_toArray]; omega) (by simp only [List.size_toArray]; omega) (by simp only [List.size_toArray]; omega) fun h' tk hk => ⟨rfl, I.turnedL (ch := [z, TI, TO, i1, i2]) (fun c o hb q => hk c o (fun q' => hb (by simp [q'])) (fun q' => hb (by simp [q'])) (fun q' => hb (by simp [q'])) (fun q' => hb (by simp [q'])) q) hf⟩
  self := fun A i s Q E st h => wpAny_pyIter_zip st.1 h
def iZipG (K : PySem.W.Frag) (ta : TA) : TI := fun σ H R => ta σ H fun vs H1 => ∃ k1 k2 a b xs ys, vs = [.ref a, .ref b] ∧ SqK K k1 H1 a xs ∧ SqK K k2 H1 b ys ∧ R (ItzG K k1 k2 a b) H1
theorem pi_zipG {X : Cx} {e e2 : Expr} {ta : TA} {p pos tpos : Pos} {elts : List Expr} {kk : Nat} (hg : Gl X "zip") (hm : X.mg "zip" = none) (ha : PA X [e, e2] ta)
    (hs : starEach [e, e2] X.env = (false, eval e X.env) :: starEach [e2] X.env := by rfl) (hpl : (backTo pos (starEach [e2] X.env)).any (·.1) = false := by rfl) :
    PI X (.Tuple elts kk tpos) (.Call (.Name "zip" p) [e, e2] [] pos) (iZipG X.K ta) := by
  refine ⟨fun pins s σ H R I h => ?_⟩
  refine Call_ (ld_blt I hg hm PyProof.Rows.boot_zip (PyProof.Rows.callWith_type1 (thn (ha.run pos pins s σ H _ I h) fun us s1 ⟨vs, H1, I1, r1, q1⟩ => ?_) hs hpl))
  obtain ⟨k1, k2, a, b, xs, ys, ex, q1, q2, q⟩ := q1
  subst ex
  cases r1 with
  | cons r1' r1 =>
    cases r1 with
    | cons r2' r1 =>
      cases r1
      cases r1'
      cases r2'
      obtain ⟨t1, rv1, p1, lt1⟩ := Inv.sqk I1 q1
      obtain ⟨t2, rv2, p2, lt2⟩ := Inv.sqk I1 q2
      refine zip_begins2 (beginsK k1 a t1.toArray) (beginsK k2 b t2.toArray) p1 p2 fun h' hz hTI hTO b1 b2 hsz hk => wpAny_pyIter_zip hz ?_
      have I2 : Inv X pins σ H1 { s1 with heap := h' } := I1.kept (t' := s1.toks) hk
      refine ⟨s1.heap.objs.size + 4, [s1.heap.objs.size + 4, s1.heap.objs.size + 2, s1.heap.objs.size + 3, s1.heap.objs.size, s1.heap.objs.size + 1], _, _, H1, rfl, I2, turn_zipG (zip_sep2 (fun x hx => by rw [List.mem_singleton.mp hx]; exact lt1) (fun x hx => by rw [List.mem_singleton.mp hx]; exact lt2)) (Nat.ne_of_lt (Nat.lt_of_lt_of_le lt1 (Nat.le_refl _))) (Nat.ne_of_lt (Nat.lt_of_lt_of_le lt2 (Nat.le_add_right _ _))), ⟨hz, hTI, ⟨_, _, hTO⟩, itK_new b1, itK_new b2⟩, fun d hcm => ?_, q⟩
      have e' : d = s1.heap.objs.size + 4 ∨ d = s1.heap.objs.size + 2 ∨ d = s1.heap.objs.size + 3 ∨ d = s1.heap.objs.size ∨ d = s1.heap.objs.size + 1 := by simpa using hcm
      have hle : s1.heap.objs.size ≤ d := by
        rcases e' with z | z | z | z | z
        · rw [z]; exact Nat.le_add_right _ _
        · rw [z]; exact Nat.le_add_right _ _
        · rw [z]; exact Nat.le_add_right _ _
        · rw [z]; exact Nat.le_refl _
        · rw [z]; exact Nat.le_add_right _ _
      exact I1.fpOk hle (I1.hok.fresh hle)
/-! ### zip of three -/
def ItzG3 (K : PySem.W.Frag) (k1 k2 k3 : Bool) (a b c : Addr) : It :=
  ⟨fun i H => ∃ (xs ys us : List V) (x y t : V), SqK K k1 H a xs ∧ SqK K k2 H b ys ∧ SqK K k3 H c us ∧ xs[i]? = some x ∧ ys[i]? = some y ∧ us[i]? = some t,
    fun i H v H' => ∃ T x y t, v = .ref T ∧ H T = none ∧ H' = upd H T (.tup [x, y, t]) ∧ (∀ xs, SqK K k1 H a xs → xs[i]? = some x) ∧ (∀ ys, SqK K k2 H b ys → ys[i]? = some y) ∧ ∀ us, SqK K k3 H c us → us[i]? = some t,
    fun i H => ∃ xs ys us : List V, SqK K k1 H a xs ∧ SqK K k2 H b ys ∧ SqK K k3 H c us ∧ i ≤ xs.length ∧ i ≤ ys.length ∧ i ≤ us.length ∧ (i = xs.length ∨ i = ys.length ∨ i = us.length)⟩
theorem turn_zipG3 {P : Program} {w : World} {K : PySem.W.Frag} {elts : List Expr} {kk : Nat} {tpos : Pos} {k1 k2 k3 : Bool} {a b c z TI TO i1 i2 i3 : Addr} (D : ZipSep3 z TI TO i1 i2 i3 [i1, a] [i2, b] [i3, c]) (n1 : a ≠ i1) (n2 : b ≠ i2) (n3 : c ≠ i3) :
    Turn P w K (.Tuple elts kk tpos) (ItzG3 K k1 k2 k3 a b c) [z, TI, TO, i1, i2, i3] z (fun i h => IsZip h z TI TO .none ∧ IsTupOf3 h TI (.ref i1) (.ref i2) (.ref i3) ∧ (∃ x y t, IsTupOf3 h TO x y t) ∧ ItK k1 h i1 a i ∧ ItK k2 h i2 b i ∧ ItK k3 h i3 c i) where
  mem := by simp
  obj := fun i h st d hd => by
    obtain ⟨hz, hTI, ⟨x, y, t, hTO⟩, h1, h2, h3⟩ := st
    have e' : d = z ∨ d = TI ∨ d = TO ∨ d = i1 ∨ d = i2 ∨ d = i3 := by simpa using hd
    rcases e' with q | q | q | q | q | q
    · rw [q]; exact ⟨_, hz, fun v q => nomatch q⟩
    · rw [q]; exact ⟨_, hTI, fun v q => nomatch q⟩
    · rw [q]; exact ⟨_, hTO, fun v q => nomatch q⟩
    · rw [q]; exact itK_obj h1
    · rw [q]; exact itK_obj h2
    · rw [q]; exact itK_obj h3
  keep := fun i h h' st k => by
    obtain ⟨hz, hTI, ⟨x, y, t, hTO⟩, h1, h2, h3⟩ := st
    exact ⟨k z (by simp) _ hz, k TI (by simp) _ hTI, ⟨x, y, t, k TO (by simp) _ hTO⟩, itK_keep h1 fun o q => k i1 (by simp) o q, itK_keep h2 fun o q => k i2 (by simp) o q, itK_keep h3 fun o q => k i3 (by simp) o q⟩
  item := by
    intro X hP hw hK hc i pins s σ H E I hf st hg
    subst hP hw hK
    obtain ⟨hz, hTI, ⟨x0, y0, t0, hTO⟩, h1, h2, h3⟩ := st
    obtain ⟨xs, ys, us, x, y, t, q1, q2, q3, g1, g2, g3⟩ := hg
    obtain ⟨t1, rv1, p1, _⟩ := Inv.sqk I q1
    obtain ⟨t2, rv2, p2, _⟩ := Inv.sqk I q2
    obtain ⟨t3, rv3, p3, _⟩ := Inv.sqk I q3
    obtain ⟨u1, hu1, ru1⟩ := rv1.get g1
    obtain ⟨u2, hu2, ru2⟩ := rv2.get g2
    obtain ⟨u3, hu3, ru3⟩ := rv3.get g3
    have hzl : z < s.heap.objs.size := Heap.lt_size hz
    have hh := I.ok.hd hc
    have D1 := drawsK (P := X.prog) (w := X.w) (A := X.A.in1) hh k1 i1 a n1 t1.toArray
    have l1 : i < t1.toArray.size := by obtain ⟨z, _⟩ := List.getElem?_eq_some_iff.mp hu1; simpa using z
    have D2 := drawsK (P := X.prog) (w := X.w) (A := X.A.in1) hh k2 i2 b n2 t2.toArray
    have l2 : i < t2.toArray.size := by obtain ⟨z, _⟩ := List.getElem?_eq_some_iff.mp hu2; simpa using z
    have D3 := drawsK (P := X.prog) (w := X.w) (A := X.A.in1) hh k3 i3 c n3 t3.toArray
    have l3 : i < t3.toArray.size := by obtain ⟨z, _⟩ := List.getElem?_eq_some_iff.mp hu3; simpa using z
    refine wpAny_pyNext_zipD3_item D D1 D2 D3 hz hTI hTO ⟨h1, p1⟩ ⟨h2, p2⟩ ⟨h3, p3⟩ l1 l2 l3 fun x1 x2 x3 h' tk y1 y2 y3 z' TO' s1 s2 s3 hT hsz hk => ?_
    have e1 : x1 = u1 := by rw [show t1.toArray[i]? = t1[i]? by simp, hu1] at y1; injection y1 with y1; exact y1.symm
    have e2 : x2 = u2 := by rw [show t2.toArray[i]? = t2[i]? by simp, hu2] at y2; injection y2 with y2; exact y2.symm
    have e3 : x3 = u3 := by rw [show t3.toArray[i]? = t3[i]? by simp, hu3] at y3; injection y3 with y3; exact y3.symm
    subst e1 e2 e3
    refine ⟨_, rfl, wpAny_letOwnedTupleGo_zip (s := { s with heap := h', toks := tk }) z' fun h'' z'' sb => ?_⟩
    have hT2 : h''.get? s.heap.objs.size = some { cls := .type "tuple", data := .seq #[x1, x2, x3] } := (sb.2 _ (Nat.ne_of_gt hzl)).trans hT
    have new : ObjOk X.prog X.w (upd H s.heap.objs.size (.tup [x, y, t])) h'' s.heap.objs.size (.tup [x, y, t]) :=
      ⟨by show 3 ≤ sizeLine; decide, [x1, x2, x3], (.cons ru1 (.cons ru2 (.cons ru3 .nil))), ⟨_, hT2, rfl, _, rfl⟩⟩
    have I1 : Inv X pins σ (upd H s.heap.objs.size (.tup [x, y, t])) { s with heap := h'', toks := tk } :=
      I.turnedNew (ch := [z, TI, TO, i1, i2, i3]) (fun c o hb q => (sb.2 c (fun q' => hb (by simp [q']))).trans (hk c o (fun q' => hb (by simp [q'])) (fun q' => hb (by simp [q'])) (fun q' => hb (by simp [q'])) (fun q' => hb (by simp [q'])) (fun q' => hb (by simp [q'])) q)) hf (Nat.le_refl _) new
    refine ⟨.ref s.heap.objs.size, _, I1, rfl, ⟨_, x, y, t, rfl, I.hok.fresh (Nat.le_refl _), rfl, fun l hl => by rw [Inv.sqk_inj I hl q1]; exact g1, fun l hl => by rw [Inv.sqk_inj I hl q2]; exact g2, fun l hl => by rw [Inv.sqk_inj I hl q3]; exact g3⟩, ⟨z'', ?_, ⟨x1, x2, x3, ?_⟩, ?_, ?_, ?_⟩, fun d hcm => ?_⟩
    · exact (sb.2 _ D.TIz).trans (hk _ _ D.TIz D.TITO D.TIi1 D.TIi2 D.TIi3 hTI)
    · exact (sb.2 _ D.TOz).trans TO'
    · exact itK_keep s1.1 fun o q => (sb.2 _ (Ne.symm D.zi1)).trans q
    · exact itK_keep s2.1 fun o q => (sb.2 _ (Ne.symm D.zi2)).trans q
    · exact itK_keep s3.1 fun o q => (sb.2 _ (Ne.symm D.zi3)).trans q
    · have hlt : d < s.heap.objs.size := by
        have e' : d = z ∨ d = TI ∨ d = TO ∨ d = i1 ∨ d = i2 ∨ d = i3 := by simpa using hcm
        rcases e' with q | q | q | q | q | q
        · rw [q]; exact hzl
        · rw [q]; exact Heap.lt_size hTI
        · rw [q]; exact Heap.lt_size hTO
        · rw [q]; obtain ⟨_, e1, _⟩ := itK_obj h1; exact Heap.lt_size e1
        · rw [q]; obtain ⟨_, e1, _⟩ := itK_obj h2; exact Heap.lt_size e1
        · rw [q]; obtain ⟨_, e1, _⟩ := itK_obj h3; exact Heap.lt_size e1
      rw [upd_ne (Nat.ne_of_lt hlt)]
      exact (hf d hcm).1
  done := by
    intro X hP hw hK hc i pins s σ H E I hf st hg
    subst hP hw hK
    obtain ⟨hz, hTI, ⟨x0, y0, t0, hTO⟩, h1, h2, h3⟩ := st
    obtain ⟨xs, ys, us, q1, q2, q3, g1, g2, g3, hend⟩ := hg
    obtain ⟨t1, rv1, p1, _⟩ := Inv.sqk I q1
    have e1 := rv1.length
    obtain ⟨t2, rv2, p2, _⟩ := Inv.sqk I q2
    have e2 := rv2.length
    obtain ⟨t3, rv3, p3, _⟩ := Inv.sqk I q3
    have e3 := rv3.length
    have hh := I.ok.hd hc
    have D1 := drawsK (P := X.prog) (w := X.w) (A := X.A.in1) hh k1 i1 a n1 t1.toArray
    have D2 := drawsK (P := X.prog) (w := X.w) (A := X.A.in1) hh k2 i2 b n2 t2.toArray
    have D3 := drawsK (P := X.prog) (w := X.w) (A := X.A.in1) hh k3 i3 c n3 t3.toArray
    refine wpAny_pyNext_zipD3_end D D1 D2 D3 hz hTI hTO ⟨h1, p1⟩ ⟨h2, p2⟩ ⟨h3, p3⟩ (by simp only [List.size_toArray]; omega) (by simp only [List.size_toArray]; omega) (by simp only [List.size_toArray]; omega) (by simp only [List.size_toArray]; omega) fun h' tk hk => ⟨rfl, I.turnedL (ch := [z, TI, TO, i1, i2, i3]) (fun c o hb q => hk c o (fun q' => hb (by simp [q'])) (fun q' => hb (by simp [q'])) (fun q' => hb (by simp [q'])) (fun q' => hb (by simp [q'])) (fun q' => hb (by simp [q'])) q) hf⟩
  self := fun A i s Q E st h => wpAny_pyIter_zip st.1 h
def iZipG3 (K : PySem.W.Frag) (ta : TA) : TI := fun σ H R => ta σ H fun vs H1 => ∃ k1 k2 k3 a b c xs ys us, vs = [.ref a, .ref b, .ref c] ∧ SqK K k1 H1 a xs ∧ SqK K k2 H1 b ys ∧ SqK K k3 H1 c us ∧ R (ItzG3 K k1 k2 k3 a b c) H1
theorem pi_zipG3 {X : Cx} {e e2 e3 : Expr} {ta : TA} {p pos tpos : Pos} {elts : List Expr} {kk : Nat} (hg : Gl X "zip") (hm : X.mg "zip" = none) (ha : PA X [e, e2, e3] ta)
    (hs : starEach [e, e2, e3] X.env = (false, eval e X.env) :: starEach [e2, e3] X.env := by rfl) (hpl : (backTo pos (starEach [e2, e3] X.env)).any (·.1) = false := by rfl) :
    PI X (.Tuple elts kk tpos) (.Call (.Name "zip" p) [e, e2, e3] [] pos) (iZipG3 X.K ta) := by
  refine ⟨fun pins s σ H R I h => ?_⟩
  refine Call_ (ld_blt I hg hm PyProof.Rows.boot_zip (PyProof.Rows.callWith_type1 (thn (ha.run pos pins s σ H _ I h) fun us s1 ⟨vs, H1, I1, r1, q1⟩ => ?_) hs hpl))
  obtain ⟨k1, k2, k3, a, b, c, xs, ys, us, ex, q1, q2, q3, q⟩ := q1
  subst ex
  cases r1 with
  | cons r1' r1 =>
    cases r1 with
    | cons r2' r1 =>
      cases r1 with
      | cons r3' r1 =>
        cases r1
        cases r1'
        cases r2'
        cases r3'
        obtain ⟨t1, rv1, p1, lt1⟩ := Inv.sqk I1 q1
        obtain ⟨t2, rv2, p2, lt2⟩ := Inv.sqk I1 q2
        obtain ⟨t3, rv3, p3, lt3⟩ := Inv.sqk I1 q3
        refine zip_begins3 (beginsK k1 a t1.toArray) (beginsK k2 b t2.toArray) (beginsK k3 c t3.toArray) p1 p2 p3 fun h' hz hTI hTO b1 b2 b3 hsz hk => wpAny_pyIter_zip hz ?_
        have I2 : Inv X pins σ H1 { s1 with heap := h' } := I1.kept (t' := s1.toks) hk
        refine ⟨s1.heap.objs.size + 5, [s1.heap.objs.size + 5, s1.heap.objs.size + 3, s1.heap.objs.size + 4, s1.heap.objs.size, s1.heap.objs.size + 1, s1.heap.objs.size + 2], _, _, H1, rfl, I2, turn_zipG3 (zip_sep3 (fun x hx => by rw [List.mem_singleton.mp hx]; exact lt1) (fun x hx => by rw [List.mem_singleton.mp hx]; exact lt2) (fun x hx => by rw [List.mem_singleton.mp hx]; exact lt3)) (Nat.ne_of_lt (Nat.lt_of_lt_of_le lt1 (Nat.le_refl _))) (Nat.ne_of_lt (Nat.lt_of_lt_of_le lt2 (Nat.le_add_right _ _))) (Nat.ne_of_lt (Nat.lt_of_lt_of_le lt3 (Nat.le_add_right _ _))), ⟨hz, hTI, ⟨_, _, _, hTO⟩, itK_new b1, itK_new b2, itK_new b3⟩, fun d hcm => ?_, q⟩
        have e' : d = s1.heap.objs.size + 5 ∨ d = s1.heap.objs.size + 3 ∨ d = s1.heap.objs.size + 4 ∨ d = s1.heap.objs.size ∨ d = s1.heap.objs.size + 1 ∨ d = s1.heap.objs.size + 2 := by simpa using hcm
        have hle : s1.heap.objs.size ≤ d := by
          rcases e' with z | z | z | z | z | z
          · rw [z]; exact Nat.le_add_right _ _
          · rw [z]; exact Nat.le_add_right _ _
          · rw [z]; exact Nat.le_add_right _ _
          · rw [z]; exact Nat.le_refl _
          · rw [z]; exact Nat.le_add_right _ _
          · rw [z]; exact Nat.le_add_right _ _
        exact I1.fpOk hle (I1.hok.fresh hle)
/-! ### enumerate -/
set_option maxHeartbeats 4000000 in
theorem meets_enumerate_newB1 {v : Value} {o : Obj} {Hh : Heap → Prop} (B : Begins v o Hh) :
    Meets (Builtin.«enumerate.__new__» ⟨[.type "enumerate", v], []⟩) (fun _ R s => Hh s.heap ∧
      R (.ok (.ret (.ref (s.heap.push o).objs.size))) { s with heap := (s.heap.push o).push { cls := .type "enumerate", data := .fields #[.none, .bool false, .ref s.heap.objs.size, rawInt 0, .none, .none] } }) :=
  .of_wp fun prog w A R s h => by
    obtain ⟨hp, g, d, tk, os⟩ := s; obtain ⟨h1, h⟩ := h
    have hsub := sub_enumerate
    have q1 : ∀ {A' : Around} {E : Value → Shared → Prop} {Q : Value → Shared → Prop}, Q (.ref hp.objs.size) ⟨hp.push o, g, d, tk, os⟩ → wpAny (model prog w) A' (pyIter v) Q E ⟨hp, g, d, tk, os⟩ :=
      fun q => B.iter prog w _ _ ⟨hp, g, d, tk, os⟩ _ h1 q
    wp_walk using q1
    refine wpAny_stack_any fun st => wpAny_pure ?_
    split
    · rename_i c _ _ _ _ _
      cases (c == Value.type "enumerate")
      · wp_walk using q1
        exact ⟨_, rfl, h⟩
      · wp_walk using q1
        exact ⟨_, rfl, h⟩
    · wp_walk using q1
      exact ⟨_, rfl, h⟩
theorem call_enumG {prog : Program} {w : World} {A : Around} {E : Value → Shared → Prop} {s : Shared} {v : Value} {o : Obj} {Hh : Heap → Prop} {Q : Value → Shared → Prop} (B : Begins v o Hh) (h1 : Hh s.heap)
    (h : ∀ h', IsEnum h' (s.heap.objs.size + 1) s.heap.objs.size 0 .none → h'.get? s.heap.objs.size = some o → h'.objs.size = s.heap.objs.size + 2 →
      (∀ b o, s.heap.get? b = some o → h'.get? b = some o) → Q (.ref (s.heap.objs.size + 1)) { s with heap := h' }) :
    wpAny (model prog w) A (call (.type "enumerate") [v]) Q E s := by
  refine callType_new F.called_enumerate (by decide) (F.typeCall_enumerate_1 _) (F.newCall_enumerate_1 _) (fun obj => F.args_object_init_2 obj _) F.entry_enumerate_new
    (meets_enumerate_newB1 B) ⟨h1, ?_⟩
  have hz : (s.heap.push o).objs.size = s.heap.objs.size + 1 := Heap.size_push ..
  show _ ∧ _
  rw [hz]
  have he : IsEnum ((s.heap.push o).push { cls := .type "enumerate", data := .fields #[.none, .bool false, .ref s.heap.objs.size, rawInt 0, .none, .none] }) (s.heap.objs.size + 1) s.heap.objs.size 0 .none := by
    have := Heap.get?_push_size (s.heap.push o) (o := { cls := .type "enumerate", data := .fields #[.none, .bool false, .ref s.heap.objs.size, rawInt 0, .none, .none] }) rfl
    rw [hz] at this; exact this
  refine ⟨⟨_, he, rfl⟩, h _ he (Heap.get?_push_of_some _ (Heap.get?_push_size _ B.free)) (by rw [Heap.size_push, hz]) fun b o x => Heap.get?_push_of_some _ (Heap.get?_push_of_some _ x)⟩
def IteG (K : PySem.W.Frag) (k : Bool) (a : Addr) : It :=
  ⟨fun i H => ∃ (xs : List V) (x : V), SqK K k H a xs ∧ xs[i]? = some x, fun i H v H' => ∃ T x, v = .ref T ∧ H T = none ∧ H' = upd H T (.tup [.int (i : Nat), x]) ∧ ∀ xs, SqK K k H a xs → xs[i]? = some x, fun i H => ∃ xs : List V, SqK K k H a xs ∧ xs.length = i⟩
theorem turn_enumG {P : Program} {w : World} {K : PySem.W.Frag} {elts : List Expr} {kk : Nat} {tpos : Pos} (k : Bool) (a e it : Addr) (na : a ≠ it) (ea : e ≠ a) :
    Turn P w K (.Tuple elts kk tpos) (IteG K k a) [e, it] e (fun i h => (∃ old, IsEnum h e it ((i : Nat) : Int) old) ∧ ItK k h it a i ∧ e ≠ it) where
  mem := by simp
  obj := fun i h st b hb => by
    obtain ⟨⟨old, he⟩, hi, _⟩ := st
    have e' : b = e ∨ b = it := by simpa using hb
    rcases e' with z | z
    · rw [z]; exact ⟨_, he, fun v q => nomatch q⟩
    · rw [z]; exact itK_obj hi
  keep := fun i h h' st k => let ⟨⟨old, he⟩, hi, hne⟩ := st; ⟨⟨old, k e (by simp) _ he⟩, itK_keep hi fun o q => k it (by simp) o q, hne⟩
  item := by
    intro X hP hw hK hc i pins s σ H E I hf st hg
    subst hP hw hK
    obtain ⟨⟨old, he⟩, hit, hne⟩ := st
    obtain ⟨xs, x, hq, hx⟩ := hg
    obtain ⟨its, rv, p, _⟩ := Inv.sqk I hq
    obtain ⟨u, hu, ru⟩ := rv.get hx
    have hel : e < s.heap.objs.size := Heap.lt_size he
    have hil : it < s.heap.objs.size := by obtain ⟨_, q, _⟩ := itK_obj hit; exact Heap.lt_size q
    have D := drawsK (P := X.prog) (w := X.w) (A := X.A.in1) (I.ok.hd hc) k it a na its.toArray
    have lt : i < its.toArray.size := by obtain ⟨z, _⟩ := List.getElem?_eq_some_iff.mp hu; simpa using z
    refine wpAny_pyNext_enum_itemC D he ⟨hit, p⟩ lt hne (by simp [hne, ea]) fun y h' tk hy ho hst' hT hsz hk => ?_
    have ey : y = u := by rw [show its.toArray[i]? = its[i]? by simp, hu] at hy; injection hy with hy; exact hy.symm
    subst ey
    refine ⟨_, rfl, wpAny_letOwnedTupleGo_enum (s := { s with heap := h', toks := tk + 1 }) ho fun h'' he' sb => ?_⟩
    have hT2 : h''.get? s.heap.objs.size = some { cls := .type "tuple", data := .seq #[.int i tk, y] } := (sb.2 _ (Nat.ne_of_gt hel)).trans hT
    have new : ObjOk X.prog X.w (upd H s.heap.objs.size (.tup [.int (i : Nat), x])) h'' s.heap.objs.size (.tup [.int (i : Nat), x]) :=
      ⟨by show 2 ≤ sizeLine; decide, [.int i tk, y], .cons ⟨_, rfl⟩ (.cons ru .nil), ⟨_, hT2, rfl, _, rfl⟩⟩
    have I1 : Inv X pins σ (upd H s.heap.objs.size (.tup [.int (i : Nat), x])) { s with heap := h'', toks := tk + 1 } :=
      I.turnedNew (ch := [e, it]) (fun b ob hb q => (sb.2 b (fun z => hb (by simp [z]))).trans (hk b ob (fun z => hb (by simp [z])) (fun z => hb (by simp [z])) q)) hf (Nat.le_refl _) new
    refine ⟨.ref s.heap.objs.size, _, I1, rfl, ⟨_, x, rfl, I.hok.fresh (Nat.le_refl _), rfl, fun ys hy => by rw [Inv.sqk_inj I hy hq]; exact hx⟩, ⟨⟨y, ?_⟩, itK_keep hst'.1 fun o q => (sb.2 it (Ne.symm hne)).trans q, hne⟩, fun b hb => ?_⟩
    · have e1 : ((i + 1 : Nat) : Int) = (i : Int) + 1 := by omega
      rw [e1]; exact he'
    · have hb' : b < s.heap.objs.size := by
        have e' : b = e ∨ b = it := by simpa using hb
        rcases e' with z | z
        · rw [z]; exact hel
        · rw [z]; exact hil
      rw [upd_ne (Nat.ne_of_lt hb')]
      exact (hf b hb).1
  done := by
    intro X hP hw hK hc i pins s σ H E I hf st hg
    subst hP hw hK
    obtain ⟨⟨old, he⟩, hit, hne⟩ := st
    obtain ⟨xs, hq, hx⟩ := hg
    obtain ⟨its, rv, p, _⟩ := Inv.sqk I hq
    have hl := rv.length
    have D := drawsK (P := X.prog) (w := X.w) (A := X.A.in1) (I.ok.hd hc) k it a na its.toArray
    have en : i = its.toArray.size := by simp only [List.size_toArray]; omega
    subst en
    exact wpAny_pyNext_enum_endD D he ⟨hit, p⟩ fun h' eb => ⟨rfl, I.turnedL (t' := s.toks) (ch := [e, it]) (fun b o hb q => eb b o (fun z => hb (by simp [z])) q) hf⟩
  self := fun A i s Q E st h => let ⟨⟨_, he⟩, _⟩ := st; wpAny_pyIter_enum he h
def iEnumG (K : PySem.W.Frag) (ta : TA) : TI := fun σ H R => ta σ H fun vs H1 => ∃ k a xs, vs = [.ref a] ∧ SqK K k H1 a xs ∧ R (IteG K k a) H1
theorem pi_enumG {X : Cx} {e : Expr} {ta : TA} {p pos tpos : Pos} {elts : List Expr} {kk : Nat} (hg : Gl X "enumerate") (hm : X.mg "enumerate" = none) (ha : PA X [e] ta) (hs : starEach [e] X.env = [(false, eval e X.env)] := by rfl) :
    PI X (.Tuple elts kk tpos) (.Call (.Name "enumerate" p) [e] [] pos) (iEnumG X.K ta) := by
  refine ⟨fun pins s σ H R I h => ?_⟩
  refine Call_ (ld_blt I hg hm boot_enumerate (PyProof.Rows.callWith_type1 (thn (ha.run pos pins s σ H _ I h) fun us s1 ⟨vs, H1, I1, r1, q1⟩ => ?_) hs rfl))
  obtain ⟨k, a, xs, ex, hq, q⟩ := q1
  subst ex
  cases r1 with
  | cons r rr =>
    cases rr
    cases r
    obtain ⟨its, rv, p', lt⟩ := Inv.sqk I1 hq
    refine call_enumG (beginsK k a its.toArray) p' fun h' he hit hsz hk => wpAny_pyIter_enum he ?_
    have I2 : Inv X pins σ H1 { s1 with heap := h' } := I1.kept (t' := s1.toks) hk
    refine ⟨s1.heap.objs.size + 1, [s1.heap.objs.size + 1, s1.heap.objs.size], _, _, H1, rfl, I2, turn_enumG k a (s1.heap.objs.size + 1) s1.heap.objs.size (Nat.ne_of_lt lt) (Nat.ne_of_gt (Nat.lt_of_lt_of_le lt (Nat.le_add_right _ _))), ⟨⟨.none, he⟩, itK_new hit, Nat.succ_ne_self _⟩, fun b hb => ?_, q⟩
    have e' : b = s1.heap.objs.size + 1 ∨ b = s1.heap.objs.size := by simpa using hb
    have hle : s1.heap.objs.size ≤ b := by
      rcases e' with z | z
      · rw [z]; exact Nat.le_add_right _ _
      · rw [z]; exact Nat.le_refl _
    exact I1.fpOk hle (I1.hok.fresh hle)
/-! ### the readings -/
/-- a sequence that stays as it is from here on -/
theorem seqOf_ex {K : PySem.W.Frag} {Z : Zp} {G : Gp} {H : Hp} {w : W} {v : V} {R : List W → Gp → Prop} (h : HRel K Z G H) (r : Rw K Z H w v) (t : seqOf w G R) :
    ∃ k a ws vs Z' G', v = .ref a ∧ HRel K Z' G' H ∧ Ext Z G H Z' G' H ∧ RwL K Z' H ws vs ∧ (∀ Z2 G2 H2, Ext Z' G' H Z2 G2 H2 → SqK K k H2 a vs) ∧ R ws G' := by
  cases r with
  | tup s r => exact ⟨false, _, _, _, Z, G, rfl, h, Ext.refl, r, fun Z2 G2 H2 x => SqT.ext h x s, t⟩
  | lst z s r => exact ⟨true, _, _, _, Z, G, rfl, h, Ext.refl, r, fun Z2 G2 H2 x => SqL.of (x.f _ _ s (h.z _ z).1).1, t⟩
  | scr s r => exact ⟨true, _, _, _, Z, G, rfl, h, Ext.refl, r, fun Z2 G2 H2 x => (s.ext h x).sq, t⟩
  | @ref p =>
    obtain ⟨ws, g, q⟩ := isG_ex t
    obtain ⟨vs, s, r⟩ := h.lst g
    obtain ⟨h2, x2⟩ := h.freeze (p := p) (by rw [g]; simp)
    exact ⟨true, p, ws, vs, _, _, rfl, h2, x2, r.ext h x2, fun Z2 G2 H2 x => SqL.of (x.f _ _ s gdel_same).1, q⟩
  | _ => exact False.elim t
def tup3 (x y z : W) : W := .tup [x, y, z]
def zip3W : List W → List W → List W → List W
  | x :: xs, y :: ys, z :: zs => tup3 x y z :: zip3W xs ys zs
  | _, _, _ => []
theorem zip3_get : ∀ (xs ys zs : List W) (i : Nat) {x y z : W}, xs[i]? = some x → ys[i]? = some y → zs[i]? = some z → (zip3W xs ys zs)[i]? = some (tup3 x y z)
  | x :: xs, y :: ys, z :: zs, 0, _, _, _, e1, e2, e3 => by simp at e1 e2 e3; subst e1 e2 e3; rfl
  | x :: xs, y :: ys, z :: zs, i + 1, _, _, _, e1, e2, e3 => by
    simp at e1 e2 e3
    show (zip3W xs ys zs)[i]? = _
    exact zip3_get xs ys zs i e1 e2 e3
  | [], _, _, _, _, _, _, e1, _, _ => by simp at e1
  | _ :: _, [], _, _, _, _, _, _, e2, _ => by simp at e2
  | _ :: _, _ :: _, [], _, _, _, _, _, _, e3 => by simp at e3
theorem zip3_len : ∀ (xs ys zs : List W), (zip3W xs ys zs).length = min (min xs.length ys.length) zs.length
  | x :: xs, y :: ys, z :: zs => by
    show (zip3W xs ys zs).length + 1 = _
    rw [zip3_len xs ys zs]
    simp only [List.length_cons]; omega
  | [], _, _ => by simp [zip3W]
  | _ :: _, [], _ => by simp [zip3W]
  | _ :: _, _ :: _, [] => by simp [zip3W]
section
variable {K : PySem.W.Frag} {k k1 k2 k3 : Bool} {a b c : Addr} {Z : Zp} {G : Gp} {H : Hp} {ws us ts : List W} {vs xs ys : List V}
theorem walkZ2 (h : HRel K Z G H) (s1 : ∀ Z2 G2 H2, Ext Z G H Z2 G2 H2 → SqK K k1 H2 a vs) (s2 : ∀ Z2 G2 H2, Ext Z G H Z2 G2 H2 → SqK K k2 H2 b xs) (r1 : RwL K Z H ws vs) (r2 : RwL K Z H us xs) : WalkW K (ItzG K k1 k2 a b) Z G H (ws.zipWith tup2 us) := by
  refine ⟨fun H => SqK K k1 H a vs ∧ SqK K k2 H b xs, YPair (fun i => vs[i]?) (fun i => xs[i]?), ⟨fun i H hi q => ?_, fun H q => ⟨vs, xs, q.1, q.2, ?_, ?_, ?_⟩, fun i H v H' hi q y => ?_⟩, fun Z' G' H' x h' => ⟨⟨s1 _ _ _ x, s2 _ _ _ x⟩, fun i v H'' hi y => ?_⟩⟩
  · rw [List.length_zipWith, r1.length, r2.length] at hi
    exact ⟨vs, xs, _, _, q.1, q.2, List.getElem?_eq_getElem (by omega), List.getElem?_eq_getElem (by omega)⟩
  · rw [List.length_zipWith, r1.length, r2.length]; omega
  · rw [List.length_zipWith, r1.length, r2.length]; omega
  · rw [List.length_zipWith, r1.length, r2.length]; omega
  · obtain ⟨T, x, z, e1, e2, e3, f1, f2⟩ := y
    exact ⟨T, x, z, e1, e2, e3, f1 vs q.1, f2 xs q.2⟩
  · obtain ⟨T, p, q, rfl, nT, rfl, e1, e2⟩ := y
    obtain ⟨w, ew, rw'⟩ := (r1.ext h x).get' i e1
    obtain ⟨u, eu, ru⟩ := (r2.ext h x).get' i e2
    obtain ⟨h2, x2, r3⟩ := new_tup h' nT (.cons rw' (.cons ru .nil))
    exact ⟨tup2 w u, by rw [List.getElem?_zipWith, ew, eu], r3, x2, h2⟩
theorem walkZ3 (h : HRel K Z G H) (s1 : ∀ Z2 G2 H2, Ext Z G H Z2 G2 H2 → SqK K k1 H2 a vs) (s2 : ∀ Z2 G2 H2, Ext Z G H Z2 G2 H2 → SqK K k2 H2 b xs) (s3 : ∀ Z2 G2 H2, Ext Z G H Z2 G2 H2 → SqK K k3 H2 c ys) (r1 : RwL K Z H ws vs) (r2 : RwL K Z H us xs) (r3 : RwL K Z H ts ys) : WalkW K (ItzG3 K k1 k2 k3 a b c) Z G H (zip3W ws us ts) := by
  refine ⟨fun H => SqK K k1 H a vs ∧ SqK K k2 H b xs ∧ SqK K k3 H c ys, fun i H v H' => ∃ T x y z, v = .ref T ∧ H T = none ∧ H' = upd H T (.tup [x, y, z]) ∧ vs[i]? = some x ∧ xs[i]? = some y ∧ ys[i]? = some z, ⟨fun i H hi q => ?_, fun H q => ⟨vs, xs, ys, q.1, q.2.1, q.2.2, ?_, ?_, ?_, ?_⟩, fun i H v H' hi q y => ?_⟩, fun Z' G' H' x h' => ⟨⟨s1 _ _ _ x, s2 _ _ _ x, s3 _ _ _ x⟩, fun i v H'' hi y => ?_⟩⟩
  · rw [zip3_len, r1.length, r2.length, r3.length] at hi
    exact ⟨vs, xs, ys, _, _, _, q.1, q.2.1, q.2.2, List.getElem?_eq_getElem (by omega), List.getElem?_eq_getElem (by omega), List.getElem?_eq_getElem (by omega)⟩
  · rw [zip3_len, r1.length, r2.length, r3.length]; omega
  · rw [zip3_len, r1.length, r2.length, r3.length]; omega
  · rw [zip3_len, r1.length, r2.length, r3.length]; omega
  · rw [zip3_len, r1.length, r2.length, r3.length]; omega
  · obtain ⟨T, x, z, t, e1, e2, e3, f1, f2, f3⟩ := y
    exact ⟨T, x, z, t, e1, e2, e3, f1 vs q.1, f2 xs q.2.1, f3 ys q.2.2⟩
  · obtain ⟨T, p, q, r, rfl, nT, rfl, e1, e2, e3⟩ := y
    obtain ⟨w, ew, rw'⟩ := (r1.ext h x).get' i e1
    obtain ⟨u, eu, ru⟩ := (r2.ext h x).get' i e2
    obtain ⟨t, et, rt⟩ := (r3.ext h x).get' i e3
    obtain ⟨h2, x2, r3⟩ := new_tup h' nT (.cons rw' (.cons ru (.cons rt .nil)))
    exact ⟨tup3 w u t, zip3_get _ _ _ i ew eu et, r3, x2, h2⟩
theorem walkEG (h : HRel K Z G H) (s1 : ∀ Z2 G2 H2, Ext Z G H Z2 G2 H2 → SqK K k H2 a vs) (r : RwL K Z H ws vs) : WalkW K (IteG K k a) Z G H (enumFrom 0 ws) := by
  refine ⟨fun H => SqK K k H a vs, fun i H v H' => ∃ T x, v = .ref T ∧ H T = none ∧ H' = upd H T (.tup [.int (i : Nat), x]) ∧ vs[i]? = some x, ⟨fun i H hi q => ?_, fun H q => ⟨vs, q, ?_⟩, fun i H v H' hi q y => ?_⟩, fun Z' G' H' x h' => ⟨s1 _ _ _ x, fun i v H'' hi y => ?_⟩⟩
  · rw [enum_len, r.length] at hi
    exact ⟨vs, _, q, List.getElem?_eq_getElem hi⟩
  · rw [enum_len, r.length]
  · obtain ⟨T, x, e1, e2, e3, f1⟩ := y
    exact ⟨T, x, e1, e2, e3, f1 vs q⟩
  · obtain ⟨T, p, rfl, nT, rfl, e1⟩ := y
    obtain ⟨w, ew, rw'⟩ := (r.ext h x).get' i e1
    obtain ⟨h2, x2, r3⟩ := new_tup h' nT (.cons .int (.cons rw' .nil))
    exact ⟨tup2 (.int (i : Nat)) w, by rw [enum_get, ew]; simp, r3, x2, h2⟩
end
def zipG2 (ws : List W) (G : Gp) (R : List W → Gp → Prop) : Prop := match ws with
  | [a, b] => seqOf a G fun xs G1 => seqOf b G1 fun ys G2 => R (xs.zipWith tup2 ys) G2
  | _ => False
def zipG3 (ws : List W) (G : Gp) (R : List W → Gp → Prop) : Prop := match ws with
  | [a, b, c] => seqOf a G fun xs G1 => seqOf b G1 fun ys G2 => seqOf c G2 fun zs G3 => R (zip3W xs ys zs) G3
  | _ => False
def enumG (ws : List W) (G : Gp) (R : List W → Gp → Prop) : Prop := match ws with
  | [a] => seqOf a G fun xs G1 => R (enumFrom 0 xs) G1
  | _ => False
def i_zipG2 (ta : TAw) : TIw := fun σ G R => ta σ G fun ws G1 => zipG2 ws G1 R
def i_zipG3 (ta : TAw) : TIw := fun σ G R => ta σ G fun ws G1 => zipG3 ws G1 R
def i_enumG (ta : TAw) : TIw := fun σ G R => ta σ G fun ws G1 => enumG ws G1 R
theorem zipG2_eq {a b : W} {G : Gp} {R : List W → Gp → Prop} : zipG2 [a, b] G R = seqOf a G fun xs G1 => seqOf b G1 fun ys G2 => R (xs.zipWith tup2 ys) G2 := rfl
theorem zipG3_eq {a b c : W} {G : Gp} {R : List W → Gp → Prop} : zipG3 [a, b, c] G R = seqOf a G fun xs G1 => seqOf b G1 fun ys G2 => seqOf c G2 fun zs G3 => R (zip3W xs ys zs) G3 := rfl
theorem enumG_eq {a : W} {G : Gp} {R : List W → Gp → Prop} : enumG [a] G R = seqOf a G fun xs G1 => R (enumFrom 0 xs) G1 := rfl
section
variable {X : Cx} {K : PySem.W.Frag} {ta : TAw} {p pos tpos : Pos} {elts : List Expr} {kk : Nat}
theorem qizipG2 {e e2 : Expr} (hg : Gl X "zip") (hm : X.mg "zip" = none) (ha : PAw X [e, e2] ta)
    (hs : starEach [e, e2] X.env = (false, eval e X.env) :: starEach [e2] X.env := by rfl) (hpl : (backTo pos (starEach [e2] X.env)).any (·.1) = false := by rfl) :
    PIw X (.Tuple elts kk tpos) (.Call (.Name "zip" p) [e, e2] [] pos) (i_zipG2 ta) := PI.imp (pi_zipG hg hm ha hs hpl) fun σ H R h => by
  obtain ⟨Z, σ', G, Qw, ev, hr, t, k⟩ := h
  refine ⟨Z, σ', G, _, ev, hr, t, fun Z1 G1 H1 ws vs x1 h1 r1 t1 => ?_⟩
  cases r1 with
  | nil => exact False.elim t1
  | cons ra rr =>
    cases rr with
    | nil => exact False.elim t1
    | cons rb rr =>
      cases rr with
      | cons _ _ => exact False.elim t1
      | nil =>
        rw [zipG2_eq] at t1
        obtain ⟨k1, a, xs, vs, Z2, G2, rfl, h2, x2, q1, s1, t2⟩ := seqOf_ex h1 ra t1
        obtain ⟨k2, b, ys, us, Z3, G3, rfl, h3, x3, q2, s2, t3⟩ := seqOf_ex h2 (rb.ext h1 x2) t2
        have s1' : ∀ Z4 G4 H4, Ext Z3 G3 H1 Z4 G4 H4 → SqK X.K k1 H4 a vs := fun Z4 G4 H4 x => s1 _ _ _ (x3.trans x)
        exact ⟨k1, k2, a, b, _, _, rfl, s1' _ _ _ Ext.refl, s2 _ _ _ Ext.refl, k Z3 G3 H1 _ _ ((x1.trans x2).trans x3) h3 (walkZ2 h3 s1' s2 (q1.ext h2 x3) q2) t3⟩
theorem qizipG3 {e e2 e3 : Expr} (hg : Gl X "zip") (hm : X.mg "zip" = none) (ha : PAw X [e, e2, e3] ta)
    (hs : starEach [e, e2, e3] X.env = (false, eval e X.env) :: starEach [e2, e3] X.env := by rfl) (hpl : (backTo pos (starEach [e2, e3] X.env)).any (·.1) = false := by rfl) :
    PIw X (.Tuple elts kk tpos) (.Call (.Name "zip" p) [e, e2, e3] [] pos) (i_zipG3 ta) := PI.imp (pi_zipG3 hg hm ha hs hpl) fun σ H R h => by
  obtain ⟨Z, σ', G, Qw, ev, hr, t, k⟩ := h
  refine ⟨Z, σ', G, _, ev, hr, t, fun Z1 G1 H1 ws vs x1 h1 r1 t1 => ?_⟩
  cases r1 with
  | nil => exact False.elim t1
  | cons ra rr =>
    cases rr with
    | nil => exact False.elim t1
    | cons rb rr =>
      cases rr with
      | nil => exact False.elim t1
      | cons rc rr =>
        cases rr with
        | cons _ _ => exact False.elim t1
        | nil =>
          rw [zipG3_eq] at t1
          obtain ⟨k1, a, xs, vs, Z2, G2, rfl, h2, x2, q1, s1, t2⟩ := seqOf_ex h1 ra t1
          obtain ⟨k2, b, ys, us, Z3, G3, rfl, h3, x3, q2, s2, t3⟩ := seqOf_ex h2 (rb.ext h1 x2) t2
          obtain ⟨k3, c, zs, ts, Z4, G4, rfl, h4, x4, q3, s3, t4⟩ := seqOf_ex h3 ((rc.ext h1 x2).ext h2 x3) t3
          have s1' : ∀ Z5 G5 H5, Ext Z4 G4 H1 Z5 G5 H5 → SqK X.K k1 H5 a vs := fun Z5 G5 H5 x => s1 _ _ _ ((x3.trans x4).trans x)
          have s2' : ∀ Z5 G5 H5, Ext Z4 G4 H1 Z5 G5 H5 → SqK X.K k2 H5 b us := fun Z5 G5 H5 x => s2 _ _ _ (x4.trans x)
          exact ⟨k1, k2, k3, a, b, c, _, _, _, rfl, s1' _ _ _ Ext.refl, s2' _ _ _ Ext.refl, s3 _ _ _ Ext.refl, k Z4 G4 H1 _ _ (((x1.trans x2).trans x3).trans x4) h4 (walkZ3 h4 s1' s2' s3 ((q1.ext h2 x3).ext h3 x4) (q2.ext h3 x4) q3) t4⟩
theorem qienumG {e : Expr} (hg : Gl X "enumerate") (hm : X.mg "enumerate" = none) (ha : PAw X [e] ta) (hs : starEach [e] X.env = [(false, eval e X.env)] := by rfl) :
    PIw X (.Tuple elts kk tpos) (.Call (.Name "enumerate" p) [e] [] pos) (i_enumG ta) := PI.imp (pi_enumG hg hm ha hs) fun σ H R h => by
  obtain ⟨Z, σ', G, Qw, ev, hr, t, k⟩ := h
  refine ⟨Z, σ', G, _, ev, hr, t, fun Z1 G1 H1 ws vs x1 h1 r1 t1 => ?_⟩
  cases r1 with
  | nil => exact False.elim t1
  | cons ra rr =>
    cases rr with
    | cons _ _ => exact False.elim t1
    | nil =>
      rw [enumG_eq] at t1
      obtain ⟨k1, a, xs, vs, Z2, G2, rfl, h2, x2, q1, s1, t2⟩ := seqOf_ex h1 ra t1
      exact ⟨k1, a, _, rfl, s1 _ _ _ Ext.refl, k Z2 G2 H1 _ _ (x1.trans x2) h2 (walkEG h2 s1 q1) t2⟩
end
end WL

/-! sorted and < of data. -/
namespace WL
open PySem PySem.Spec PyProof.Rows L2
/-- the order of data -/
def leW (a b : W) : Bool := !PySem.W.dataLt (wdat b) (wdat a)
section
variable {X : Cx} {K : PySem.W.Frag}
theorem readsEach {X : Cx} {pins : List (Addr × Obj)} {σ : L2.St} {H : Hp} {s : Shared} (I : Inv X pins σ H s) : ∀ {xs : List V} {ds : List PyData} {its : List Value}, DpAll X.K H xs ds → Vals xs its → PySem.W.EachIs (fun v d => ∃ as, Reads s.heap v d as) its ds
  | _, _, _, .nil, .nil => .nil
  | _, _, _, .cons d dd, .cons r rr => .cons (Dp.reads I _ _ _ d r) (readsEach I dd rr)
def rSortedD (K : PySem.W.Frag) : List V → Hp → VK → Prop := fun vs H Q => ∃ (a : Addr) (xs : List V) (ds : List PyData), vs = [V.ref a] ∧ SqL K H a xs ∧ DpAll K H xs ds ∧ PySem.W.AllAlike ds ∧ PySem.W.Sortable ds ∧ (∀ d ∈ ds, d.depth ≤ 60) ∧
  ∀ p, H p = none → Q (.ref p) (upd H p (.lst (((xs.zip ds).mergeSort fun a b => !PySem.W.dataLt b.2 a.2).map Prod.fst)))
theorem vals_fst {R : V × PyData → Prop} : ∀ {vs : List Value} {bs : List (V × PyData)}, PySem.W.EachIs (fun v (b : V × PyData) => RelV b.1 v) vs bs → Vals (bs.map Prod.fst) vs
  | _, _, .nil => .nil
  | _, _, .cons r t => .cons r (vals_fst (R := R) t)
theorem each_zip : ∀ {xs : List V} {ds : List PyData} {vs : List Value}, Vals xs vs → xs.length = ds.length → PySem.W.EachIs (fun v (b : V × PyData) => RelV b.1 v) vs (xs.zip ds)
  | [], [], _, .nil, _ => .nil
  | _ :: _, d :: ds, _, .cons r t, e => .cons r (each_zip t (by simpa using e))
  | _ :: _, [], _, .cons _ _, e => by simp at e
theorem each_key {h : Heap} {ds0 : List PyData} (hal : PySem.W.AllAlike ds0) : ∀ {xs : List V} {ds : List PyData} {vs : List Value}, PySem.W.EachIs (fun v d => ∃ as, Reads h v d as) vs ds → xs.length = ds.length → (∀ d ∈ ds, d ∈ ds0) → PySem.W.EachIs (fun v (b : V × PyData) => (PySem.W.dataKind h ds0).keyOf v = some (PySem.W.keyToks b.2)) vs (xs.zip ds)
  | [], _, _, .nil, _, _ => .nil
  | _ :: _, _, _, .nil, e, _ => by simp at e
  | _ :: xs, _, _, .cons ⟨as, r⟩ t, e, hm => .cons (PySem.W.dataKind_some hal (hm _ (.head _)) r) (each_key hal t (by simpa using e) fun d hd => hm d (.tail _ hd))
  | [], _, _, .cons _ _, e, _ => by simp at e
theorem dp_len {H : Hp} : ∀ {xs : List V} {ds : List PyData}, DpAll K H xs ds → xs.length = ds.length
  | _, _, .nil => rfl
  | _, _, .cons _ t => by rw [List.length_cons, List.length_cons, dp_len t]
theorem cr_sortedD (hu : X.A.units + 64 < cLine) : CallR X (.builtin "sorted") (rSortedD X.K) := by
  intro pins s σ H vs us Q I r h
  obtain ⟨a, xs, ds, rfl, hs, dd, hal, hso, hd, q⟩ := h
  obtain ⟨its, rv, hl, hz⟩ := I.list hs
  rw [Vals.ref1 r]
  have ll := dp_len dd
  have lv := rv.length
  have re := readsEach I dd rv
  have re' : PySem.W.EachIs (fun v d => ∃ as, Reads (PySem.W.sortingHeap (PySem.W.copyHeap s.heap its) (s.heap.objs.size + 1) its) v d as) its ds := re.mono fun v d ⟨as, r⟩ => ⟨as, Reads.keeps (fun b o e => PySem.W.sorting_copy_old e) r⟩
  have SA := PySem.W.SortsAt.data (prog := X.prog) (w := X.w) (A := X.A.in1.in1) (s := { s with heap := PySem.W.sortingHeap (PySem.W.copyHeap s.heap its) (s.heap.objs.size + 1) its }) re' hal hso fun d hm => by
    have := hd d hm
    show X.A.units + 2 + d.depth < cLine
    omega
  refine PySem.W.sorted_vals hl.isList SA (by rw [← lv]; exact hz) ?_
  have ev := PySem.W.sortVals_each (κ := PySem.W.dataKind (PySem.W.sortingHeap (PySem.W.copyHeap s.heap its) (s.heap.objs.size + 1) its) ds) (rev := false) (k := fun b : V × PyData => PySem.W.keyToks b.2) (each_zip (ds := ds) rv ll) (each_key (xs := xs) hal re' ll fun d hd => hd)
  have vv := vals_fst (R := fun _ => True) ev
  obtain ⟨ep, he'⟩ := PyProof.Rows.sortedAll_at s.heap its (PySem.W.sortVals (PySem.W.dataKind (PySem.W.sortingHeap (PySem.W.copyHeap s.heap its) (s.heap.objs.size + 1) its) ds) false its its).toArray
  have hlen : (((xs.zip ds).mergeSort fun a b => !PySem.W.dataLt b.2 a.2).map Prod.fst).length ≤ sizeLine := by
    rw [List.length_map, List.length_mergeSort, List.length_zip]
    omega
  refine ⟨.ref _, upd H (s.heap.objs.size + 1) (.lst (((xs.zip ds).mergeSort fun a b => !PySem.W.dataLt b.2 a.2).map Prod.fst)), I.laid (t' := s.toks) (fun _ _ => PyProof.Rows.sortedAll_old) (Nat.le_succ _) ⟨hlen, _, ep, ?_, he'⟩, rfl, q _ (I.hok.fresh (Nat.le_succ _))⟩
  exact vv
end
/-! ### sorted -/
def wSortO (x : W) (G : Gp) (R : List W → Prop) : Prop := isS (asL G x) fun us => wpures us = true ∧ PySem.W.AllAlike (wdats us) ∧ PySem.W.Sortable (wdats us) ∧ (∀ d ∈ wdats us, d.depth ≤ 60) ∧ R (us.mergeSort leW)
def wSorted : List W → Gp → QW → Prop := fun ws G Q => match ws with
  | [x] => wSortO x G fun us => Q (.lst us) G
  | _ => False
def wSortedM : List W → Gp → QW → Prop := fun ws G Q => match ws with
  | [x] => wSortO x G fun us => ∀ p, G p = none → Q (.ref p) (gup G p (.lst us))
  | _ => False
theorem wSorted_eq {x : W} {G : Gp} {Q : QW} : wSorted [x] G Q = wSortO x G fun us => Q (.lst us) G := rfl
theorem wSortedM_eq {x : W} {G : Gp} {Q : QW} : wSortedM [x] G Q = wSortO x G fun us => ∀ p, G p = none → Q (.ref p) (gup G p (.lst us)) := rfl
section
variable {K : PySem.W.Frag} {Z : Zp} {G : Gp} {H : Hp}
theorem each_W : ∀ {us : List W} {xs : List V}, RwL K Z H us xs → PySem.W.EachIs (fun w (b : V × PyData) => Rw K Z H w b.1 ∧ b.2 = wdat w) us (xs.zip (wdats us))
  | _, _, .nil => .nil
  | _, _, .cons r t => .cons ⟨r, rfl⟩ (each_W t)
theorem each_RwL : ∀ {us : List W} {bs : List (V × PyData)}, PySem.W.EachIs (fun w (b : V × PyData) => Rw K Z H w b.1 ∧ b.2 = wdat w) us bs → RwL K Z H us (bs.map Prod.fst)
  | _, _, .nil => .nil
  | _, _, .cons r t => .cons r.1 (each_RwL t)
theorem sort_RwL {us : List W} {xs : List V} (r : RwL K Z H us xs) : RwL K Z H (us.mergeSort leW) (((xs.zip (wdats us)).mergeSort fun a b => !PySem.W.dataLt b.2 a.2).map Prod.fst) := by
  have e := each_W r
  refine each_RwL (PySem.W.sort_each e fun p hp q hq => ?_)
  have h1 := (e.zip p hp).2
  have h2 := (e.zip q hq).2
  unfold leW
  rw [h1, h2]
theorem sim_sorted : SimN K (rSortedD K) wSorted := by
  intro Z G H ws vs Qw Q h r t k
  cases r with
  | nil => exact False.elim t
  | cons rx rr =>
    cases rr with
    | cons _ _ => exact False.elim t
    | nil =>
      obtain ⟨us, e, h1, h2, h3, h4, q⟩ := isS_ex t
      obtain ⟨p, vs, rfl, s, r⟩ := asL_sq h rx e
      refine ⟨p, vs, wdats us, rfl, s, r.dp h1, h2, h3, h4, fun l n => ?_⟩
      obtain ⟨h5, x5, r5⟩ := new_frz h n (sort_RwL r)
      exact k _ _ _ _ _ x5 h5 r5 q
theorem sim_sortedM : SimN K (rSortedD K) wSortedM := by
  intro Z G H ws vs Qw Q h r t k
  cases r with
  | nil => exact False.elim t
  | cons rx rr =>
    cases rr with
    | cons _ _ => exact False.elim t
    | nil =>
      obtain ⟨us, e, h1, h2, h3, h4, q⟩ := isS_ex t
      obtain ⟨p, vs, rfl, s, r⟩ := asL_sq h rx e
      refine ⟨p, vs, wdats us, rfl, s, r.dp h1, h2, h3, h4, fun l n => ?_⟩
      obtain ⟨g5, h5, x5⟩ := new_lst h n (sort_RwL r)
      exact k _ _ _ _ _ x5 h5 .ref (q l g5)
variable {X : Cx} {e : Expr} {es : List Expr} {t : TAw} {p pos : Pos}
theorem qsorted {k : Nat} (hr : Room k X.A) (hg : Gl X "sorted") (hm : X.mg "sorted" = none) (ha : PAw X (e :: es) t) (he : starEach (e :: es) X.env = (false, eval e X.env) :: starEach es X.env := by rfl) (hpl : (backTo pos (starEach es X.env)).any (·.1) = false := by rfl) :
    PEw X (.Call (.Name "sorted" p) (e :: es) [] pos) (wCB wSorted t) := PE.imp (pe_callB (cr_sortedD (hu64 hr)) hg hm (by decide +kernel) ha (by decide) (by decide) he hpl) fun _ _ _ h => liftN sim_sorted h
theorem qsortedM {k : Nat} (hr : Room k X.A) (hg : Gl X "sorted") (hm : X.mg "sorted" = none) (ha : PAw X (e :: es) t) (he : starEach (e :: es) X.env = (false, eval e X.env) :: starEach es X.env := by rfl) (hpl : (backTo pos (starEach es X.env)).any (·.1) = false := by rfl) :
    PEw X (.Call (.Name "sorted" p) (e :: es) [] pos) (wCB wSortedM t) := PE.imp (pe_callB (cr_sortedD (hu64 hr)) hg hm (by decide +kernel) ha (by decide) (by decide) he hpl) fun _ _ _ h => liftN sim_sortedM h
end
/-! ### < of data (of tuples) -/
def rLtD (K : PySem.W.Frag) : R2 := fun x y H Q => ∃ d e, Dp K H x d ∧ Dp K H y e ∧ PySem.W.alike d e = true ∧ d ≠ .none ∧ d.depth ≤ 60 ∧ Q (.bl (PySem.W.dataLt d e)) H
theorem op_ltD {X : Cx} (hu : X.A.units + 64 < cLine) : OpR X (compareOp .Lt) (rLtD X.K) := by
  intro pins s σ H x y v u Q I rx ry h
  obtain ⟨d, e, hd, he, ha, hn, hp, q⟩ := h
  obtain ⟨as, r1⟩ := Dp.reads I d x v hd rx
  obtain ⟨bs, r2⟩ := Dp.reads I e y u he ry
  exact PySem.W.lt_data r1 r2 ha hn (by omega) ⟨.bl _, H, I, rfl, q⟩
def wLtD : RW2 := fun x y G Q => wpure x = true ∧ wpure y = true ∧ PySem.W.alike (wdat x) (wdat y) = true ∧ wdat x ≠ .none ∧ (wdat x).depth ≤ 60 ∧ Q (.bl (PySem.W.dataLt (wdat x) (wdat y))) G
theorem sim_ltD {K : PySem.W.Frag} : Sim2 K (rLtD K) wLtD := by
  intro Z G H x y v u Qw Q h rx ry t k
  obtain ⟨h1, h2, h3, h4, h5, q⟩ := t
  exact ⟨_, _, rx.dp h1, ry.dp h2, h3, h4, h5, k.at h .bl q⟩
section
variable {X : Cx} {a b : Expr} {ta tb : TEw} {pos : Pos}
theorem qltD {k : Nat} (hr : Room k X.A) (ha : PEw X a ta) (hb : PEw X b tb) : PEw X (.Compare a [.Lt] [b] pos) (wOp wLtD ta tb) := qcmp (op_ltD (hu64 hr)) sim_ltD ha hb (nomark _)
theorem qtltD {k : Nat} (hr : Room k X.A) (ha : PEw X a ta) (hb : PEw X b tb) : PTw X (.Compare a [.Lt] [b] pos) (wTest (wOp wLtD ta tb)) := qtcmp (op_ltD (hu64 hr)) sim_ltD ha hb (nomark _)
end
/-! ### defs as values -/
theorem qfn {X : Cx} {x : Str} {f : Addr} {pos : Pos} (hg : Gl X x) (m : X.mg x = some (.ref f)) (hd : (x == ("__debug__" : Str)) = false := by decide) : PEw X (.Name x pos) (wC (.ref f)) :=
  PE.imp (pe_glob (v := .ref f) hg m rfl hd) fun _ _ _ h => lC (fun _ _ => .ref) h
/-- a call of a name that holds one of some defs -/
def wCallV (i : Nat) (fs : List (Addr × Spw)) (t : TAw) : TEw := fun σ G Q => isS (slot σ i) fun w => ∃ p ∈ fs, w = .ref p.1 ∧ t σ G fun ws G1 => p.2 ws G1 Q E0w
def CalF (X : Cx) (p : Addr × Spw) : Prop := ∃ k fd ps, FnOk X.prog X.w X.K X.mg X.base CX0 k p.1 fd ps (liftSp X.K p.2) ∧ Room k X.A ∧ PySem.W.keepIn X.K (.ref p.1) = true ∧ Binds X.K fd ps []
theorem qcallV {X : Cx} {i : Nat} {x : Str} {p pos : Pos} {e : Expr} {es : List Expr} {t : TAw} {fs : List (Addr × Spw)} (hf : ∀ p ∈ fs, CalF X p) (ha : PAw X (e :: es) t) (hN : X.N[i]? = some x := by rfl) (hv : Vis X.env.scope x := by first | exact Or.inl rfl | exact Or.inr (Or.inl rfl) | exact Or.inr (Or.inr rfl))
    (hdb : (x == ("__debug__" : Str)) = false := by decide) (hcd : (x == ("__classdict__" : Str)) = false := by decide)
    (he : starEach (e :: es) X.env = (false, eval e X.env) :: starEach es X.env := by rfl) (hpl : (backTo pos (starEach es X.env)).any (·.1) = false := by rfl) : PEw X (.Call (.Name x p) (e :: es) [] pos) (wCallV i fs t) := by
  refine ⟨fun pins s σ H Q I h => ?_⟩
  obtain ⟨Z, σ', G, Qw, ev, hr, t1, k⟩ := h
  obtain ⟨w, ew, q, hq, rfl, t1⟩ := isS_ex t1
  obtain ⟨kk, fd, ps, F, room, kp, b⟩ := hf q hq
  obtain ⟨v, e1, rv⟩ := ev.get i ew
  cases rv
  refine (pe_callL F room hN hv kp b .nil pass0 ha hdb hcd he hpl).run pins s σ H Q I ⟨e1, ?_⟩
  exact lcall ⟨Z, σ', G, Qw, ev, hr, t1, k⟩
/-! ### xs.clear() -/
def wClear : RWM := fun o ws G Q => match o, ws with
  | .ref p, [] => isG (G p) fun _ => Q .non (gup G p (.lst []))
  | _, _ => False
theorem wClear_ref {p : Addr} {G : Gp} {Q : QW} : wClear (.ref p) [] G Q = isG (G p) fun _ => Q .non (gup G p (.lst [])) := rfl
abbrev wM_clear := wClear
theorem sim_clear {K : PySem.W.Frag} : SimM K rClear wClear := by
  intro Z G H x v ws vs Qw Q h rx rs t k
  cases rx with
  | @ref p =>
    cases rs with
    | cons _ _ => exact False.elim t
    | nil =>
      obtain ⟨us, g, q⟩ := isG_ex t
      obtain ⟨xs, s, r⟩ := h.lst g
      obtain ⟨h2, x2⟩ := chg_lst h g (.nil : RwL K Z H [] [])
      exact ⟨p, xs, rfl, rfl, s, k _ _ _ _ _ x2 h2 .non q⟩
  | _ => exact False.elim t
theorem qm_clear {X : Cx} {o : Expr} {to : TEw} {cpos apos : Pos} (ho : PEw X o to) (hbase : attributeBase o "clear" X.env (eval o X.env) = eval o X.env := by rfl) (hline : (apos.endLine == cpos.line) = true := by rfl) : PEw X (.Call (.Attribute o "clear" apos) [] [] cpos) (wBM0 wM_clear to) :=
  qbm0 PySem.F.slot_list_clear PySem.F.type_list_clear mt_clear sim_clear ho hbase hline
/-! ### is not of bools; bits -/
def wNotB : RW2 := fun x y G Q => match x, y with
  | .bl a, .bl b => Q (.bl (!decide (a = b))) G
  | _, _ => False
theorem wNotB_bl {a b : Bool} {G : Gp} {Q : QW} : wNotB (.bl a) (.bl b) G Q = Q (.bl (!decide (a = b))) G := rfl
theorem sim_notB {K : PySem.W.Frag} : Sim2 K rNotB wNotB := by
  intro Z G H x y v u Qw Q h rx ry t k
  cases rx with
  | bl =>
    cases ry with
    | bl => exact ⟨_, _, rfl, rfl, k.at h .bl t⟩
    | _ => exact False.elim t
  | _ => cases ry <;> exact False.elim t
abbrev wShl : RW2 := wI2 CPow fun i j => .int (i * 2 ^ j.toNat)
abbrev wShr : RW2 := wI2 (fun _ j => 0 ≤ j) fun i j => .int (i / 2 ^ j.toNat)
abbrev wBand : RW2 := wII fun i j => .int (PySem.Builtin.bitAnd i j)
section
variable {X : Cx} {K : PySem.W.Frag} {a b o : Expr} {ta tb to : TEw} {pos apos cpos : Pos}
theorem qnotB (ha : PEw X a ta) (hb : PEw X b tb) : PEw X (.Compare a [.IsNot] [b] pos) (wOp wNotB ta tb) := qcmp op_notBl sim_notB ha hb (nomark _)
theorem qtnotB (ha : PEw X a ta) (hb : PEw X b tb) : PTw X (.Compare a [.IsNot] [b] pos) (wTest (wOp wNotB ta tb)) := qtcmp op_notBl sim_notB ha hb (nomark _)
theorem qshl (ha : PEw X a ta) (hb : PEw X b tb) : PEw X (.BinOp a .LShift b pos) (wOp wShl ta tb) := qop op_shl (sim_I fun _ _ _ _ => .int) ha hb
theorem qshr (ha : PEw X a ta) (hb : PEw X b tb) : PEw X (.BinOp a .RShift b pos) (wOp wShr ta tb) := qop op_shr (sim_I fun _ _ _ _ => .int) ha hb
theorem qband (ha : PEw X a ta) (hb : PEw X b tb) : PEw X (.BinOp a .BitAnd b pos) (wOp wBand ta tb) := qop op_and (sim_II fun _ _ _ _ => .int) ha hb
end
/-! ### in, of data of any depth -/
def wInD (neg : Bool) : RW2 := fun x y G Q => match y with
  | .lst ws => wOk x ∧ wOk (.lst ws) ∧ Q (.bl (if neg then !((wdats ws).any fun z => PyData.eqv z (wdat x)) else (wdats ws).any fun z => PyData.eqv z (wdat x))) G
  | _ => False
theorem wInD_lst {neg : Bool} {x : W} {ws : List W} {G : Gp} {Q : QW} : wInD neg x (.lst ws) G Q = (wOk x ∧ wOk (.lst ws) ∧ Q (.bl (if neg then !((wdats ws).any fun z => PyData.eqv z (wdat x)) else (wdats ws).any fun z => PyData.eqv z (wdat x))) G) := rfl
theorem sim_inD {K : PySem.W.Frag} : Sim2 K (rInD K) (wInD false) := by
  intro Z G H x y v u Qw Q h rx ry t k
  cases y with
  | lst ws =>
    obtain ⟨t1, t2, q⟩ := t
    exact ⟨_, _, rx.dp t1.1, ry.dp t2.1, t1.2, t2.2, k.at h .bl q⟩
  | _ => exact False.elim t
theorem sim_ninD {K : PySem.W.Frag} : Sim2 K (rNotInD K) (wInD true) := by
  intro Z G H x y v u Qw Q h rx ry t k
  cases y with
  | lst ws =>
    obtain ⟨t1, t2, q⟩ := t
    exact ⟨_, _, rx.dp t1.1, ry.dp t2.1, t1.2, t2.2, k.at h .bl q⟩
  | _ => exact False.elim t
theorem hu65 {A : Around} {k : Nat} (hr : Room k A) : A.units + 65 < cLine := by have := hr.un; omega
section
variable {X : Cx} {K : PySem.W.Frag} {a b o : Expr} {ta tb to : TEw} {pos apos cpos : Pos}
theorem qinD {k : Nat} (hr : Room k X.A) (ha : PEw X a ta) (hb : PEw X b tb) (hm : behindInMarks .In b = false := by rfl) : PEw X (.Compare a [.In] [b] pos) (wOp (wInD false) ta tb) := qcmp (op_inD (hu65 hr)) sim_inD ha hb hm
theorem qninD {k : Nat} (hr : Room k X.A) (ha : PEw X a ta) (hb : PEw X b tb) (hm : behindInMarks .NotIn b = false := by rfl) : PEw X (.Compare a [.NotIn] [b] pos) (wOp (wInD true) ta tb) := qcmp (op_notInD (hu65 hr)) sim_ninD ha hb hm
theorem qtinD {k : Nat} (hr : Room k X.A) (ha : PEw X a ta) (hb : PEw X b tb) (hm : behindInMarks .In b = false := by rfl) : PTw X (.Compare a [.In] [b] pos) (wTest (wOp (wInD false) ta tb)) := qtcmp (op_inD (hu65 hr)) sim_inD ha hb hm
theorem qtninD {k : Nat} (hr : Room k X.A) (ha : PEw X a ta) (hb : PEw X b tb) (hm : behindInMarks .NotIn b = false := by rfl) : PTw X (.Compare a [.NotIn] [b] pos) (wTest (wOp (wInD true) ta tb)) := qtcmp (op_notInD (hu65 hr)) sim_ninD ha hb hm
end
end WL

/-! tuple * a whole number from 0 on, of tuples of any length. -/
namespace WL
open PySem PySem.Spec PyProof.Rows L2
theorem tuple_mulSame (l : Addr) (items : Array Value) (n : Nat) (dd : Option Addr) (sl : Array (Option Value)) (x : Int) (u : Tok) (c0 : (decide (x < -(2 ^ 63)) || decide (x ≥ 2 ^ 63)) = false) (c1 : (items.isEmpty || x == 1) = true) :
    Meets (Builtin.«tuple.__mul__» ⟨[.ref l, .int x u], []⟩) (fun _ R s => s.heap.get? l = some { cls := .type "tuple", dict := dd, data := .seq items n, slots := sl } ∧
      R (.ok (.ret (Value.ref l))) s) :=
  .of_wp fun prog w A R s h => by
    obtain ⟨hp, g, d, tk, os⟩ := s
    obtain ⟨hl, h⟩ := h
    have f1 := AutoSeq1.idx_int
    wp_walk using wpAny_loadPart' hl
    repeat (first
      | (refine wpAny_ite_false (decide_eq_false (by rw [c0]; exact Bool.false_ne_true)) ?_; wp_walk using wpAny_loadPart' hl)
      | (refine wpAny_ite_true (decide_eq_true (by rw [c1])) ?_; wp_walk using wpAny_loadPart' hl))
    exact ⟨_, rfl, h⟩
theorem tuple_mulNone (l : Addr) (items : Array Value) (n : Nat) (dd : Option Addr) (sl : Array (Option Value)) (x : Int) (u : Tok) (c0 : (decide (x < -(2 ^ 63)) || decide (x ≥ 2 ^ 63)) = false) (c1 : (items.isEmpty || x == 1) = false) (c2 : (decide (x ≤ 0) || items.isEmpty) = true) :
    Meets (Builtin.«tuple.__mul__» ⟨[.ref l, .int x u], []⟩) (fun _ R s => s.heap.get? l = some { cls := .type "tuple", dict := dd, data := .seq items n, slots := sl } ∧
      R (.ok (.ret (Value.ref s.heap.objs.size))) { s with heap := s.heap.push { cls := Value.type "tuple", data := Data.seq #[] }, toks := s.toks }) :=
  .of_wp fun prog w A R s h => by
    obtain ⟨hp, g, d, tk, os⟩ := s
    obtain ⟨hl, h⟩ := h
    have f1 := AutoSeq1.idx_int
    wp_walk using wpAny_loadPart' hl
    repeat (first
      | (refine wpAny_ite_false (decide_eq_false (by rw [c0]; exact Bool.false_ne_true)) ?_; wp_walk using wpAny_loadPart' hl)
      | (refine wpAny_ite_false (decide_eq_false (by rw [c1]; exact Bool.false_ne_true)) ?_; wp_walk using wpAny_loadPart' hl)
      | (refine wpAny_ite_true (decide_eq_true (by rw [c2])) ?_; wp_walk using wpAny_loadPart' hl))
    exact ⟨_, rfl, h⟩
def rRepTA (K : PySem.W.Frag) : R2 := fun x y H Q => ∃ l k xs, x = .ref l ∧ y = .int k ∧ SqT K H l xs ∧ 0 ≤ k ∧ k ≤ 1000 ∧ xs.length ≤ 1000 ∧ ((xs = [] ∨ k = 1) → Q (.ref l) H) ∧ (¬ (xs = [] ∨ k = 1) → ∀ p, H p = none → Q (.ref p) (upd H p (.tup (List.replicate k.toNat xs).flatten)))
section
variable {X : Cx}
theorem op_repTA : OpR X (binaryOp .Mult) (rRepTA X.K) := by
  intro pins s σ H x y v u Q I rx ry h
  obtain ⟨l, k, xs, rfl, rfl, hT, h1, h2, hz, qa, qb⟩ := h
  by_cases cA : xs = [] ∨ k = 1
  · cases rx
    obtain ⟨t, rfl⟩ := ry
    obtain ⟨its, r, ⟨⟨cls, dd, data, sl⟩, ho, hc, n, hd⟩, hs⟩ := I.tuple hT
    simp only at hc hd
    subst hc hd
    have hle : its.length = xs.length := r.length.symm
    have c0 : (decide (k < -(2 ^ 63)) || decide (k ≥ 2 ^ 63)) = false := by
      rw [decide_eq_false (by omega), decide_eq_false (by omega)] <;> rfl
    have c1 : (its.toArray.isEmpty || k == 1) = true := by
      rcases cA with e | e
      · rw [e] at hle
        rw [List.eq_nil_of_length_eq_zero hle]
        rfl
      · rw [e]; simp
    refine wpAny_binaryOp_repeat_ref (T := "tuple") (U := "int") (by decide) ⟨_, ho, rfl⟩ (fun s' => typeIs_int s' k t) noFill_tuple_mul F.fills_int_mul F.slot_int_rmul repeat_tuple F.slot_int_index.lookup
      (call_meets F.slot_int_rmul (typeIs_int s k t) F.entry_int_rmul (F.args_int_rmul_2 _ _) (int_rmul_tuple k t l its.toArray n dd sl)
        ⟨ho, rfl, ⟨_, ho, rfl⟩, call_meets F.slot_tuple_mul ⟨_, ho, rfl⟩ F.entry_tuple_mul (F.args_tuple_mul_2 _ _) (tuple_mulSame l its.toArray n dd sl k t c0 c1) ⟨ho, ?_⟩⟩)
    exact ⟨.ref l, H, I, rfl, qa cA⟩
  · by_cases cB : k = 0
    · cases rx
      obtain ⟨t, rfl⟩ := ry
      obtain ⟨its, r, ⟨⟨cls, dd, data, sl⟩, ho, hc, n, hd⟩, hs⟩ := I.tuple hT
      simp only at hc hd
      subst hc hd
      have hle : its.length = xs.length := r.length.symm
      have hn : its ≠ [] := fun e => cA (.inl (by
        rw [e] at hle
        exact List.eq_nil_of_length_eq_zero hle.symm))
      have hi : its.toArray.isEmpty = false := by
        cases its with
        | nil => exact absurd rfl hn
        | cons a b => rfl
      have c0 : (decide (k < -(2 ^ 63)) || decide (k ≥ 2 ^ 63)) = false := by
        rw [decide_eq_false (by omega), decide_eq_false (by omega)] <;> rfl
      have c1 : (its.toArray.isEmpty || k == 1) = false := by
        rw [hi, Bool.false_or]
        exact beq_eq_false_iff_ne.mpr (by omega)
      have c2 : (decide (k ≤ 0) || its.toArray.isEmpty) = true := by
        rw [decide_eq_true (by omega)]; rfl
      refine wpAny_binaryOp_repeat_ref (T := "tuple") (U := "int") (by decide) ⟨_, ho, rfl⟩ (fun s' => typeIs_int s' k t) noFill_tuple_mul F.fills_int_mul F.slot_int_rmul repeat_tuple F.slot_int_index.lookup
        (call_meets F.slot_int_rmul (typeIs_int s k t) F.entry_int_rmul (F.args_int_rmul_2 _ _) (int_rmul_tuple k t l its.toArray n dd sl)
          ⟨ho, rfl, ⟨_, ho, rfl⟩, call_meets F.slot_tuple_mul ⟨_, ho, rfl⟩ F.entry_tuple_mul (F.args_tuple_mul_2 _ _) (tuple_mulNone l its.toArray n dd sl k t c0 c1 c2) ⟨ho, ?_⟩⟩)
      have e0 : (List.replicate k.toNat xs).flatten = [] := by rw [cB]; rfl
      refine ⟨.ref s.heap.objs.size, _, I.laid (t' := s.toks) (o := .tup (List.replicate k.toNat xs).flatten) (fun b ob q => Heap.get?_push_of_some _ q) (Nat.le_refl _) ?_, rfl, qb cA _ (I.hok.fresh (Nat.le_refl _))⟩
      rw [e0]
      exact ⟨by decide, [], .nil, IsTup.new _ _⟩
    · exact op_repT pins s σ H _ _ v u Q I rx ry ⟨l, k, xs, rfl, rfl, hT, fun e => cA (.inl e), by omega, h2, hz, qb cA⟩
end
/-! ### by value -/
def wRepT : RW2 := fun x y G Q => match x, y with
  | .tup ws, .int k => 0 ≤ k ∧ k ≤ 1000 ∧ ws.length ≤ 1000 ∧ Q (.tup (repW k ws)) G
  | _, _ => False
theorem wRepT_tup {ws : List W} {k : Int} {G : Gp} {Q : QW} : wRepT (.tup ws) (.int k) G Q = (0 ≤ k ∧ k ≤ 1000 ∧ ws.length ≤ 1000 ∧ Q (.tup (repW k ws)) G) := rfl
theorem sim_repT {K : PySem.W.Frag} : Sim2 K (rRepTA K) wRepT := by
  intro Z G H x y v u Qw Q h rx ry t k
  cases rx with
  | @tup p ws vs s r =>
    cases ry with
    | @int i =>
      obtain ⟨t1, t2, t3, q⟩ := t
      refine ⟨p, i, vs, rfl, rfl, s, t1, t2, by rw [← r.length]; exact t3, fun c => ?_, fun _ a n => ?_⟩
      · have e : repW i ws = ws := by
          rcases c with c | c
          · subst c
            cases r
            unfold repW
            simp
          · subst c
            unfold repW
            show (List.replicate 1 ws).flatten = ws
            simp
        rw [e] at q
        exact k.at h (.tup s r) q
      · obtain ⟨h2, x2, r'⟩ := new_tup h n (r.rep i.toNat)
        exact k Z G _ _ _ x2 h2 r' q
    | _ => exact False.elim t
  | _ => cases ry <;> exact False.elim t
section
variable {X : Cx} {a b : Expr} {ta tb : TEw} {pos : Pos}
theorem qrepT (ha : PEw X a ta) (hb : PEw X b tb) : PEw X (.BinOp a .Mult b pos) (wOp wRepT ta tb) := qop op_repTA sim_repT ha hb
end
end WL

/-! Instances of own classes; dicts with whole numbers and texts as keys; defs that may raise. -/
namespace WL
open PySem PySem.Spec PyProof.Rows L2
/-! ### attributes -/
structure FldOk (K : PySem.W.Frag) (nm f : Str) : Prop where
  ok : ∀ C, ClsA K nm C → Cls K C ∧ NoAttr K C f
def insOf (G : Gp) : W → Option (Str × List (Str × W))
  | .ins n fs => some (n, fs)
  | .ref p => match G p with
    | some (.ins n fs) => some (n, fs)
    | _ => none
  | _ => none
theorem insOf_gup {G : Gp} {p : Addr} {n : Str} {fs : List (Str × W)} : insOf (gup G p (.ins n fs)) (.ref p) = some (n, fs) := by simp only [insOf, gup_same]
section
variable {K : PySem.W.Frag} {Z : Zp} {G : Gp} {H : Hp}
theorem insOf_at (h : HRel K Z G H) {w : W} {v : V} {n : Str} {fs : List (Str × W)} (r : Rw K Z H w v) (e : insOf G w = some (n, fs)) : ∃ p C dx gs, v = .ref p ∧ ClsA K n C ∧ H p = some (.ins C dx gs) ∧ RwF K Z H fs gs := by
  cases r with
  | ins c z s r => simp only [insOf, Option.some.injEq, Prod.mk.injEq] at e; obtain ⟨rfl, rfl⟩ := e; exact ⟨_, _, _, _, rfl, c, s, r⟩
  | @ref p =>
    simp only [insOf] at e
    cases q : G p with
    | none => rw [q] at e; cases e
    | some o =>
      rw [q] at e
      cases o with
      | ins n' fs' =>
        simp only [Option.some.injEq, Prod.mk.injEq] at e
        obtain ⟨rfl, rfl⟩ := e
        obtain ⟨u, eu, ru⟩ := h.g p _ q
        cases ru with
        | ins c r => exact ⟨p, _, _, _, rfl, c, eu, r⟩
      | lst _ => cases e
      | dic _ => cases e
  | _ => cases e
end
def wFld (nm f : Str) : W → Gp → QW → Prop := fun x G Q => isS (insOf G x) fun o => o.1 = nm ∧ isS (o.2.lookup f) fun w => Q w G
def rFld (K : PySem.W.Frag) (f : Str) : V → Hp → VK → Prop := fun x H Q => ∃ a C dx fs v, x = .ref a ∧ H a = some (.ins C dx fs) ∧ Cls K C ∧ NoAttr K C f ∧ fs.lookup f = some v ∧ Q v H
theorem sim_fld {K : PySem.W.Frag} {nm f : Str} (ok : FldOk K nm f) : Sim1 K (rFld K f) (wFld nm f) := by
  intro Z G H x v Qw Q h rx t k
  obtain ⟨⟨n, fs⟩, e, en, t5⟩ := isS_ex t
  have en : n = nm := en
  obtain ⟨w, el, q⟩ := isS_ex t5
  clear t5 t
  subst en
  obtain ⟨p, C, dx, gs, rfl, c, s, r⟩ := insOf_at h rx e
  obtain ⟨c1, c2⟩ := ok.ok C c
  obtain ⟨u, eu, ru⟩ := r.get el
  exact ⟨p, C, dx, gs, u, rfl, s, c1, c2, eu, k.at h ru q⟩
theorem qfld {X : Cx} {nm f : Str} {e : Expr} {te : TEw} {pos : Pos} (ok : FldOk X.K nm f) (he : PEw X e te) (hb : attributeBase e f X.env (eval e X.env) = eval e X.env := by rfl) : PEw X (.Attribute e f pos) (wUn (wFld nm f) te) :=
  PE.imp (pe_fld he hb) fun σ H Q h => lift1 (r := rFld X.K f) (sim_fld ok) h
def putW (f : Str) (v : W) : List (Str × W) → List (Str × W)
  | [] => [(f, v)]
  | (g, x) :: r => if g = f then (g, v) :: r else (g, x) :: putW f v r
theorem RwF.put {K : PySem.W.Frag} {Z : Zp} {H : Hp} {f : Str} {w : W} {v : V} (rw' : Rw K Z H w v) : ∀ {ws : List (Str × W)} {vs : List (Str × V)}, RwF K Z H ws vs → RwF K Z H (putW f w ws) (putF f v vs)
  | _, _, .nil => .cons rw' .nil
  | _, _, .cons (f := g) r t => by
    simp only [putW, putF]
    split
    · exact .cons rw' t
    · exact .cons r (RwF.put rw' t)
/-- an instance that stands in the small heap is changed -/
theorem chg_ins {K : PySem.W.Frag} {Z : Zp} {G : Gp} {H : Hp} (h : HRel K Z G H) {p : Addr} {n : Str} {fs fs' : List (Str × W)} {C dx : Addr} {gs' : List (Str × V)} (e : G p = some (.ins n fs)) (c : ClsA K n C) (r : RwF K Z H fs' gs') :
    HRel K Z (gup G p (.ins n fs')) (upd H p (.ins C dx gs')) ∧ Ext Z G H Z (gup G p (.ins n fs')) (upd H p (.ins C dx gs')) := by
  have x : Ext Z G H Z (gup G p (.ins n fs')) (upd H p (.ins C dx gs')) := ⟨fun _ z => z, fun q u e' g => by
    have c : q ≠ p := fun c => by rw [c, e] at g; cases g
    exact ⟨by rw [upd_ne c]; exact e', by rw [gup_ne c]; exact g⟩, fun _ _ _ z => z⟩
  refine ⟨⟨fun q z => ?_, fun q g e' => ?_⟩, x⟩
  · have c : q ≠ p := fun c => by
      have := (h.z q z).1
      rw [c, e] at this; cases this
    exact ⟨by rw [gup_ne c]; exact (h.z q z).1, by rw [upd_ne c]; exact (h.z q z).2⟩
  · by_cases d : q = p
    · rw [d, gup_same] at e'; cases e'
      exact ⟨_, by rw [d]; exact upd_same, .ins c (r.ext h x)⟩
    · rw [gup_ne d] at e'
      obtain ⟨u, e2, r2⟩ := h.g q g e'
      exact ⟨u, by rw [upd_ne d]; exact e2, r2.ext h x⟩
/-- an instance of the small heap -/
def isI (o : Option GO) (nm : Str) (P : List (Str × W) → Prop) : Prop := match o with
  | some (.ins n fs) => n = nm ∧ P fs
  | _ => False
theorem isI_ins {nm : Str} {fs : List (Str × W)} {P : List (Str × W) → Prop} : isI (some (.ins nm fs)) nm P = P fs := by
  unfold isI
  simp
theorem isI_ex {o : Option GO} {nm : Str} {P : List (Str × W) → Prop} (h : isI o nm P) : ∃ fs, o = some (.ins nm fs) ∧ P fs := by
  cases o with
  | none => exact h.elim
  | some g =>
    cases g with
    | lst ws => exact h.elim
    | dic _ => exact h.elim
    | ins n fs =>
      obtain ⟨rfl, h⟩ := h
      exact ⟨fs, rfl, h⟩
def setF (nm f : Str) (y x : W) (G : Gp) (P : Gp → Prop) : Prop := match x with
  | .ref p => isI (G p) nm fun fs => fs.length < 1000 ∧ P (gup G p (.ins nm (putW f y fs)))
  | _ => False
theorem setF_ref {nm f : Str} {y : W} {p : Addr} {G : Gp} {P : Gp → Prop} : setF nm f y (.ref p) G P = isI (G p) nm fun fs => fs.length < 1000 ∧ P (gup G p (.ins nm (putW f y fs))) := rfl
def wSetF (nm f : Str) (te to : TEw) : TSw := fun D σ G => te σ G fun y G1 => to σ G1 fun x G2 => setF nm f y x G2 fun G3 => D.nx σ G3
theorem qsetF {X : Cx} {nm f : Str} {o e : Expr} {te to : TEw} {pos pos' : Pos} (ok : FldOk X.K nm f) (ho : PEw X o to) (he : PEw X e te) (hs : swapsWith e (some (.Attribute o f pos')) pos.line X.env = pure false := by rfl) : PSw X (.Assign [.Attribute o f pos'] e pos) (wSetF nm f te to) :=
  PS.imp (ps_fld ho he hs) fun D σ H h => by
    obtain ⟨Z, σ', G, Dw, ev, hr, t, k⟩ := h
    refine ⟨Z, σ', G, _, ev, hr, t, fun Z1 G1 H1 yw yv x1 h1 r1 t1 => ⟨Z1, σ', G1, _, ev.ext hr x1, h1, t1, fun Z2 G2 H2 xw xv x2 h2 r2 t2 => ?_⟩⟩
    cases r2 with
    | @ref p =>
      obtain ⟨fs, g, l, q⟩ := isI_ex t2
      obtain ⟨u, eu, ru⟩ := h2.g p _ g
      cases ru with
      | ins c r =>
        obtain ⟨c1, c2⟩ := ok.ok _ c
        obtain ⟨h3, x3⟩ := chg_ins (fs' := putW f yw fs) h2 g c (RwF.put (r1.ext h1 x2) r)
        refine ⟨p, _, _, _, rfl, eu, c1, c2, by rw [← r.length]; exact l, ?_⟩
        have xx := (x1.trans x2).trans x3
        exact k.nx _ _ _ _ _ xx h3 (ev.ext hr xx) q
    | _ => exact False.elim t2
/-! ### calls of methods, new instances -/
structure CalM (P : Program) (w : World) (K : PySem.W.Frag) (mg : Str → Option Value) (base : Heap) (CX : CXT) (k : Nat) (nm m : Str) (sp : Spw) : Prop where
  ex : ∃ C f fd ps, ClsA K nm C ∧ Cls K C ∧ Meth K C m f ∧ FnOk P w K mg base CX k f fd ps (liftSp K sp) ∧ Binds K fd ps []
structure CalC (P : Program) (w : World) (K : PySem.W.Frag) (mg : Str → Option Value) (base : Heap) (CX : CXT) (k : Nat) (nm : Str) (sp : Spw) : Prop where
  ex : ∃ C f fd ps, ClsA K nm C ∧ Mk K C f ∧ mg nm = some (.ref C) ∧ FnOk P w K mg base CX k f fd ps (liftSp K sp) ∧ Binds K fd ps []
def wMeth (nm m : Str) (sp : Spw) (to : TEw) (t : TAw) : TEw := fun σ G Q => to σ G fun x G1 => isS (insOf G1 x) fun o => o.1 = nm ∧ o.2.lookup m = none ∧ t σ G1 fun ws G2 => sp (x :: ws) G2 Q E0w
def wMake (nm : Str) (sp : Spw) (t : TAw) : TEw := fun σ G Q => t σ G fun ws G1 => ∀ p, G1 p = none → sp (.ref p :: ws) (gup G1 p (.ins nm [])) (fun w G2 => w = .non ∧ Q (.ref p) G2) E0w
/-- a new instance that is never changed -/
def wMakeZ (nm : Str) (sp : Spw) (t : TAw) : TEw := fun σ G Q => t σ G fun ws G1 => ∀ p, G1 p = none → sp (.ref p :: ws) (gup G1 p (.ins nm [])) (fun w G2 => w = .non ∧ isI (G2 p) nm fun fs => Q (.ins nm fs) (gdel G2 p)) E0w
section
variable {X : Cx} {K : PySem.W.Frag} {o e : Expr} {es : List Expr} {to : TEw} {t : TAw} {sp : Spw} {nm m : Str} {k : Nat} {p pos apos : Pos}
theorem lmeth {C : Addr} (c : ClsA K nm C) {σ : SV} {H : Hp} {Q : VK} (h : liftE K (wMeth nm m sp to t) σ H Q) : tMeth C m (liftSp K sp) [] E0 (liftE K to) (liftA K t) σ H Q := by
  obtain ⟨Z, σ', G, Qw, ev, hr, t, k⟩ := h
  refine ⟨Z, σ', G, _, ev, hr, t, fun Z1 G1 H1 w v x1 h1 r1 t1 => ?_⟩
  obtain ⟨⟨n, fs⟩, e, en, el, t5⟩ := isS_ex t1
  have en : n = nm := en
  clear t1
  subst en
  obtain ⟨p, C', dx, gs, rfl, c', s, r⟩ := insOf_at h1 r1 e
  cases c.one c'
  refine ⟨p, dx, gs, rfl, s, r.none el, Z1, σ', G1, _, ev.ext hr x1, h1, t5, fun Z2 G2 H2 ws vs x2 h2 r2 t2 => ?_⟩
  show liftSp K sp (.ref p :: (vs ++ [])) H2 Q E0
  rw [List.append_nil]
  exact ⟨Z2, w :: ws, G2, Qw, E0w, .cons (r1.ext h1 x2) r2, h2, t2, k.mono (x1.trans x2), fun _ _ _ _ _ _ _ _ _ _ _ z => z.elim⟩
theorem qmeth (c : CalM X.prog X.w X.K X.mg X.base CX0 k nm m sp) (hr : Room k X.A) (ho : PEw X o to) (ha : PAw X (e :: es) t) {pl : Sem Bool} (hst : starEach (e :: es) X.env = (false, eval e X.env) :: starEach es X.env := by rfl) (hpl : (backTo pos (starEach es X.env)).any (·.1) = false := by rfl)
    (ht : eval (.Call (.Attribute o m apos) (e :: es) [] pos) X.env = (do
      let ov ← eval o X.env
      standAt apos.atName
      let (f, first) ← holding [ov] (getMethod ov m pl)
      callWith pos f first (backTo pos (starEach (e :: es) X.env)) (backToKw pos (keywordEach [] X.env))) := by rfl) : PEw X (.Call (.Attribute o m apos) (e :: es) [] pos) (wMeth nm m sp to t) := by
  obtain ⟨C, f, fd, ps, ca, cl, hm, F, b⟩ := c.ex
  exact PE.imp (pe_meth ho cl hm F hr b .nil pass0 ha hst hpl ht) fun _ _ _ h => lmeth ca h
theorem qmeth0 (c : CalM X.prog X.w X.K X.mg X.base CX0 k nm m sp) (hr : Room k X.A) (ho : PEw X o to) {pl : Sem Bool}
    (ht : eval (.Call (.Attribute o m apos) [] [] pos) X.env = (do
      let ov ← eval o X.env
      standAt apos.atName
      let (f, first) ← holding [ov] (getMethod ov m pl)
      callWith pos f first (backTo pos (starEach [] X.env)) (backToKw pos (keywordEach [] X.env))) := by rfl) : PEw X (.Call (.Attribute o m apos) [] [] pos) (wMeth nm m sp to wNil) := by
  obtain ⟨C, f, fd, ps, ca, cl, hm, F, b⟩ := c.ex
  exact PE.imp (pe_meth0 ho cl hm F hr b .nil pass0 ht) fun σ H Q h => by
    obtain ⟨Z, σ', G, Qw, ev, hr, t, k⟩ := h
    refine ⟨Z, σ', G, _, ev, hr, t, fun Z1 G1 H1 w v x1 h1 r1 t1 => ?_⟩
    obtain ⟨⟨n, fs⟩, e, en, el, t5⟩ := isS_ex t1
    have en : n = nm := en
    clear t1
    subst en
    obtain ⟨p, C', dx, gs, rfl, c', s, r⟩ := insOf_at h1 r1 e
    cases ca.one c'
    exact ⟨p, dx, gs, rfl, s, r.none el, Z1, [w], G1, Qw, E0w, .cons r1 .nil, h1, t5, k.mono x1, fun _ _ _ _ _ _ _ _ _ _ _ z => z.elim⟩
theorem new_ins {Z : Zp} {G : Gp} {H : Hp} (h : HRel K Z G H) {nm : Str} {C x dx : Addr} (c : ClsA K nm C) (hx : H x = none) (hdx : H dx = none) (ne : dx ≠ x) :
    G x = none ∧ HRel K Z (gup G x (.ins nm [])) (upd (upd H dx (.own x)) x (.ins C dx [])) ∧ Ext Z G H Z (gup G x (.ins nm [])) (upd (upd H dx (.own x)) x (.ins C dx [])) := by
  have h1 := h.laid (o := .own x) hdx
  have x1 := Ext.laid (o := .own x) h hdx
  have hx1 : upd H dx (.own x) x = none := by rw [upd_ne (Ne.symm ne)]; exact hx
  have x2 : Ext Z G (upd H dx (.own x)) Z G (upd (upd H dx (.own x)) x (.ins C dx [])) := Ext.laid h1 hx1
  refine ⟨h.fresh hx, (h1.laid hx1).track upd_same (h1.freshZ hx1) (.ins c .nil), x1.trans ⟨fun _ z => z, fun q u e g => ?_, fun _ _ _ z => z⟩⟩
  have c : q ≠ x := ne_of_none e hx1
  exact ⟨by rw [upd_ne c]; exact e, by rw [gup_ne c]; exact g⟩
theorem lmake {C : Addr} (c : ClsA K nm C) {σ : SV} {H : Hp} {Q : VK} (h : liftE K (wMake nm sp t) σ H Q) : tMake C (liftSp K sp) [] E0 (liftA K t) σ H Q := by
  obtain ⟨Z, σ', G, Qw, ev, hr, t, k⟩ := h
  refine ⟨Z, σ', G, _, ev, hr, t, fun Z1 G1 H1 ws vs x1 h1 r1 t1 x dx hx hdx ne => ?_⟩
  obtain ⟨g, h2, x2⟩ := new_ins h1 c hx hdx ne
  show liftSp K sp (.ref x :: (vs ++ [])) _ _ E0
  rw [List.append_nil]
  refine ⟨Z1, .ref x :: ws, _, _, E0w, .cons .ref (r1.ext h1 x2), h2, t1 x g, fun Z3 G3 H3 w v x3 h3 r3 q => ?_, fun _ _ _ _ _ _ _ _ _ _ _ z => z.elim⟩
  obtain ⟨rfl, q⟩ := q
  cases r3
  exact ⟨rfl, k Z3 G3 H3 _ _ ((x1.trans x2).trans x3) h3 .ref q⟩
theorem lmakeZ {C : Addr} (c : ClsA K nm C) {σ : SV} {H : Hp} {Q : VK} (h : liftE K (wMakeZ nm sp t) σ H Q) : tMake C (liftSp K sp) [] E0 (liftA K t) σ H Q := by
  obtain ⟨Z, σ', G, Qw, ev, hr, t, k⟩ := h
  refine ⟨Z, σ', G, _, ev, hr, t, fun Z1 G1 H1 ws vs x1 h1 r1 t1 x dx hx hdx ne => ?_⟩
  obtain ⟨g, h2, x2⟩ := new_ins h1 c hx hdx ne
  show liftSp K sp (.ref x :: (vs ++ [])) _ _ E0
  rw [List.append_nil]
  refine ⟨Z1, .ref x :: ws, _, _, E0w, .cons .ref (r1.ext h1 x2), h2, t1 x g, fun Z3 G3 H3 w v x3 h3 r3 q => ?_, fun _ _ _ _ _ _ _ _ _ _ _ z => z.elim⟩
  obtain ⟨rfl, q⟩ := q
  cases r3
  obtain ⟨fs, g3, q⟩ := isI_ex q
  obtain ⟨u, eu, ru⟩ := h3.g x _ g3
  cases ru with
  | ins c3 rf =>
    obtain ⟨h4, x4⟩ := h3.freeze (p := x) (by rw [g3]; simp)
    exact ⟨rfl, k _ _ H3 _ _ (((x1.trans x2).trans x3).trans x4) h4 (.ins c3 (.inr rfl) eu (rf.ext h3 x4)) q⟩
theorem qmake (c : CalC X.prog X.w X.K X.mg X.base CX0 k nm sp) (hr : Room (k + 1) X.A) (hg : Gl X nm) (ha : PAw X (e :: es) t) (hdb : (nm == ("__debug__" : Str)) = false := by decide) (he : starEach (e :: es) X.env = (false, eval e X.env) :: starEach es X.env := by rfl) (hpl : (backTo pos (starEach es X.env)).any (·.1) = false := by rfl) :
    PEw X (.Call (.Name nm p) (e :: es) [] pos) (wMake nm sp t) := by
  obtain ⟨C, f, fd, ps, ca, M, hm, F, b⟩ := c.ex
  exact PE.imp (pe_make M F hr hg hm b .nil pass0 ha hdb he hpl) fun _ _ _ h => lmake ca h
theorem qmakeZ (c : CalC X.prog X.w X.K X.mg X.base CX0 k nm sp) (hr : Room (k + 1) X.A) (hg : Gl X nm) (ha : PAw X (e :: es) t) (hdb : (nm == ("__debug__" : Str)) = false := by decide) (he : starEach (e :: es) X.env = (false, eval e X.env) :: starEach es X.env := by rfl) (hpl : (backTo pos (starEach es X.env)).any (·.1) = false := by rfl) :
    PEw X (.Call (.Name nm p) (e :: es) [] pos) (wMakeZ nm sp t) := by
  obtain ⟨C, f, fd, ps, ca, M, hm, F, b⟩ := c.ex
  exact PE.imp (pe_make M F hr hg hm b .nil pass0 ha hdb he hpl) fun _ _ _ h => lmakeZ ca h
end
end WL

/-! Dicts whose keys are whole numbers and texts. -/
namespace WL
open PySem PySem.Spec PyProof.Rows L2
def keyOf : W → Option Key
  | .int i => some (.inl i)
  | .str s => some (.inr s)
  | _ => none
def valW (kvs : List (NestedKey × W)) (k : NestedKey) : Option W := (kvs.find? fun kv => decide (kv.1 = k)).map (·.2)
def putD (kvs : List (NestedKey × W)) (k : NestedKey) (v : W) : List (NestedKey × W) := if (kvs.any fun kv => decide (kv.1 = k)) then kvs.map fun kv => if kv.1 = k then (kv.1, v) else kv else kvs ++ [(k, v)]
def dicOf (G : Gp) : W → Option (List (NestedKey × W))
  | .dic kvs => some kvs
  | .ref p => match G p with
    | some (.dic kvs) => some kvs
    | _ => none
  | _ => none
theorem dicOf_gup {G : Gp} {p : Addr} {kvs : List (NestedKey × W)} : dicOf (gup G p (.dic kvs)) (.ref p) = some kvs := by simp only [dicOf, gup_same]
/-- a dict of the small heap -/
def isD (o : Option GO) (P : List (NestedKey × W) → Prop) : Prop := match o with
  | some (.dic kvs) => P kvs
  | _ => False
theorem isD_dic {kvs : List (NestedKey × W)} {P : List (NestedKey × W) → Prop} : isD (some (.dic kvs)) P = P kvs := rfl
theorem isD_ex {o : Option GO} {P : List (NestedKey × W) → Prop} (h : isD o P) : ∃ kvs, o = some (.dic kvs) ∧ P kvs := by
  cases o with
  | none => exact h.elim
  | some g =>
    cases g with
    | lst ws => exact h.elim
    | ins _ _ => exact h.elim
    | dic kvs => exact ⟨kvs, rfl, h⟩
section
variable {K : PySem.W.Frag} {Z Z' : Zp} {G G' : Gp} {H H' : Hp}
theorem Rw.key {w : W} {v : V} {k : Key} (r : Rw K Z H w v) (e : keyOf w = some k) : v = kV k := by
  cases r <;> simp only [keyOf, Option.some.injEq, reduceCtorEq] at e <;> subst e <;> rfl
theorem nk_dec {a b : Key} : decide (nk a = nk b) = decide (a = b) := by
  by_cases c : a = b
  · subst c; simp
  · rw [decide_eq_false c, decide_eq_false fun h => c (nk_inj h)]
theorem RwD.length : ∀ {ws : List (NestedKey × W)} {vs : List (Key × V)}, RwD K Z H ws vs → ws.length = vs.length
  | _, _, .nil => rfl
  | _, _, .cons _ t => by rw [List.length_cons, List.length_cons, RwD.length t]
theorem RwD.val {k : Key} : ∀ {ws : List (NestedKey × W)} {vs : List (Key × V)} {w : W}, RwD K Z H ws vs → valW ws (nk k) = some w → ∃ v, valV vs k = some v ∧ Rw K Z H w v
  | _, _, _, .nil, e => by simp [valW] at e
  | _, _, w, .cons (k := k2) r t, e => by
    by_cases c : k2 = k
    · subst c
      have e2 : ∀ (x : W) (ws : List (NestedKey × W)), valW ((nk k2, x) :: ws) (nk k2) = some x := fun x ws => by simp [valW, List.find?_cons]
      rw [e2] at e
      cases e
      exact ⟨_, valV_pos rfl, r⟩
    · have c2 : ¬ nk k2 = nk k := fun h => c (nk_inj h)
      have e2 : ∀ (x : W) (ws : List (NestedKey × W)), valW ((nk k2, x) :: ws) (nk k) = valW ws (nk k) := fun x ws => by simp [valW, List.find?_cons, c2]
      rw [e2] at e
      obtain ⟨v, h1, h2⟩ := RwD.val t e
      exact ⟨v, by rw [valV_neg c]; exact h1, h2⟩
theorem RwD.some_ {k : Key} : ∀ {ws : List (NestedKey × W)} {vs : List (Key × V)}, RwD K Z H ws vs → (valV vs k).isSome = (valW ws (nk k)).isSome
  | _, _, .nil => rfl
  | _, _, .cons (k := k2) r t => by
    by_cases c : k2 = k
    · subst c
      rw [valV_pos rfl]
      simp [valW, List.find?_cons]
    · have c2 : ¬ nk k2 = nk k := fun h => c (nk_inj h)
      rw [valV_neg c, RwD.some_ t]
      simp [valW, List.find?_cons, c2]
theorem RwD.repl {k : Key} {w : W} {v : V} (r : Rw K Z H w v) : ∀ {ws : List (NestedKey × W)} {vs : List (Key × V)}, RwD K Z H ws vs → RwD K Z H (ws.map fun kv => if kv.1 = nk k then (kv.1, w) else kv) (vs.map fun kv => if kv.1 = k then (kv.1, v) else kv)
  | _, _, .nil => .nil
  | _, _, .cons (k := k2) r2 t => by
    rw [List.map_cons, List.map_cons]
    by_cases c : k2 = k
    · subst c
      simp only [if_true]
      exact .cons r (RwD.repl r t)
    · have c2 : ¬ nk k2 = nk k := fun h => c (nk_inj h)
      simp only [if_neg c, if_neg c2]
      exact .cons r2 (RwD.repl r t)
theorem RwD.snoc {k : Key} {w : W} {v : V} (r : Rw K Z H w v) : ∀ {ws : List (NestedKey × W)} {vs : List (Key × V)}, RwD K Z H ws vs → RwD K Z H (ws ++ [(nk k, w)]) (vs ++ [(k, v)])
  | _, _, .nil => .cons r .nil
  | _, _, .cons r2 t => .cons r2 (RwD.snoc r t)
theorem RwD.any {k : Key} : ∀ {ws : List (NestedKey × W)} {vs : List (Key × V)}, RwD K Z H ws vs → (ws.any fun kv => decide (kv.1 = nk k)) = vs.any fun kv => decide (kv.1 = k)
  | _, _, .nil => rfl
  | _, _, .cons r2 t => by rw [List.any_cons, List.any_cons, RwD.any t, nk_dec]
theorem RwD.put {k : Key} {w : W} {v : V} (r : Rw K Z H w v) {ws : List (NestedKey × W)} {vs : List (Key × V)} (t : RwD K Z H ws vs) : RwD K Z H (putD ws (nk k) w) (putK vs k v) := by
  unfold putD putK
  rw [t.any]
  split
  · exact t.repl r
  · exact t.snoc r
theorem dicOf_at (h : HRel K Z G H) {w : W} {v : V} {kvs : List (NestedKey × W)} (r : Rw K Z H w v) (e : dicOf G w = some kvs) : ∃ p us, v = .ref p ∧ H p = some (.dK us) ∧ RwD K Z H kvs us := by
  cases r with
  | dic z s r => simp only [dicOf, Option.some.injEq] at e; subst e; exact ⟨_, _, rfl, s, r⟩
  | @ref p =>
    simp only [dicOf] at e
    cases q : G p with
    | none => rw [q] at e; cases e
    | some o =>
      rw [q] at e
      cases o with
      | dic kvs' =>
        simp only [Option.some.injEq] at e
        subst e
        obtain ⟨u, eu, ru⟩ := h.g p _ q
        cases ru with
        | dic r => exact ⟨p, _, rfl, eu, r⟩
      | lst _ => cases e
      | ins _ _ => cases e
  | _ => cases e
theorem new_dic (h : HRel K Z G H) {p : Addr} (n : H p = none) : G p = none ∧ HRel K Z (gup G p (.dic [])) (upd H p (.dK [])) ∧ Ext Z G H Z (gup G p (.dic [])) (upd H p (.dK [])) := by
  have x : Ext Z G H Z G (upd H p (.dK [])) := Ext.laid h n
  refine ⟨h.fresh n, (h.laid n).track upd_same (h.freshZ n) (.dic .nil), ⟨fun _ z => z, fun q u e g => ?_, fun _ _ _ z => z⟩⟩
  have c : q ≠ p := ne_of_none e n
  exact ⟨by rw [upd_ne c]; exact e, by rw [gup_ne c]; exact g⟩
theorem chg_dic (h : HRel K Z G H) {p : Addr} {kvs kvs' : List (NestedKey × W)} {us' : List (Key × V)} (e : G p = some (.dic kvs)) (r : RwD K Z H kvs' us') :
    HRel K Z (gup G p (.dic kvs')) (upd H p (.dK us')) ∧ Ext Z G H Z (gup G p (.dic kvs')) (upd H p (.dK us')) := by
  have x : Ext Z G H Z (gup G p (.dic kvs')) (upd H p (.dK us')) := ⟨fun _ z => z, fun q u e' g => by
    have c : q ≠ p := fun c => by rw [c, e] at g; cases g
    exact ⟨by rw [upd_ne c]; exact e', by rw [gup_ne c]; exact g⟩, fun _ _ _ z => z⟩
  refine ⟨⟨fun q z => ?_, fun q g e' => ?_⟩, x⟩
  · have c : q ≠ p := fun c => by
      have := (h.z q z).1
      rw [c, e] at this; cases this
    exact ⟨by rw [gup_ne c]; exact (h.z q z).1, by rw [upd_ne c]; exact (h.z q z).2⟩
  · by_cases d : q = p
    · rw [d, gup_same] at e'; cases e'
      exact ⟨_, by rw [d]; exact upd_same, .dic (r.keep (x.keep h))⟩
    · rw [gup_ne d] at e'
      obtain ⟨u, e2, r2⟩ := h.g q g e'
      exact ⟨u, by rw [upd_ne d]; exact e2, r2.ext h x⟩
end
/-! ### rules -/
def wDGet : RW2 := fun x y G Q => isS (dicOf G x) fun kvs => isS (keyOf y) fun k => isS (valW kvs (nk k)) fun w => Q w G
def wDIn (neg : Bool) : RW2 := fun y x G Q => isS (dicOf G x) fun kvs => isS (keyOf y) fun k => Q (.bl (if neg then !(valW kvs (nk k)).isSome else (valW kvs (nk k)).isSome)) G
def rDGet : R2 := fun x y H Q => ∃ a v, x = .ref a ∧ DGet H a y (some v) ∧ Q v H
def rDIn (neg : Bool) : R2 := fun y x H Q => ∃ a o, x = .ref a ∧ DGet H a y o ∧ Q (.bl (if neg then !o.isSome else o.isSome)) H
theorem sim_dget {K : PySem.W.Frag} : Sim2 K rDGet wDGet := by
  intro Z G H x y v u Qw Q h rx ry t k
  obtain ⟨kvs, e, t1⟩ := isS_ex t
  obtain ⟨kk, ek, t2⟩ := isS_ex t1
  obtain ⟨w, ew, q⟩ := isS_ex t2
  obtain ⟨p, us, rfl, s, r⟩ := dicOf_at h rx e
  obtain ⟨z, ez, rz⟩ := r.val ew
  rw [ry.key ek]
  exact ⟨p, z, rfl, by rw [← ez]; exact DGet.k s, k.at h rz q⟩
theorem sim_din {K : PySem.W.Frag} {neg : Bool} : Sim2 K (rDIn neg) (wDIn neg) := by
  intro Z G H y x u v Qw Q h ry rx t k
  obtain ⟨kvs, e, t1⟩ := isS_ex t
  obtain ⟨kk, ek, q⟩ := isS_ex t1
  obtain ⟨p, us, rfl, s, r⟩ := dicOf_at h rx e
  rw [ry.key ek]
  refine ⟨p, _, rfl, DGet.k s, ?_⟩
  rw [r.some_]
  exact k.at h .bl q
def wDNew : TEw := fun _ G Q => ∀ p, G p = none → Q (.ref p) (gup G p (.dic []))
def dPut (x y v : W) (G : Gp) (P : Gp → Prop) : Prop := match x with
  | .ref p => isD (G p) fun kvs => kvs.length < sizeLine ∧ isS (keyOf y) fun k => P (gup G p (.dic (putD kvs (nk k) v)))
  | _ => False
theorem dPut_ref {p : Addr} {y v : W} {G : Gp} {P : Gp → Prop} : dPut (.ref p) y v G P = isD (G p) fun kvs => kvs.length < sizeLine ∧ isS (keyOf y) fun k => P (gup G p (.dic (putD kvs (nk k) v))) := rfl
def wDPut (td ty tv : TEw) : TSw := fun D σ G => tv σ G fun v G1 => td σ G1 fun x G2 => ty σ G2 fun y G3 => dPut x y v G3 fun G4 => D.nx σ G4
def wLenD : List W → Gp → QW → Prop := fun ws G Q => match ws with
  | [x] => isS (dicOf G x) fun kvs => Q (.int kvs.length) G
  | _ => False
/-- {a: b} -/
def wDOne (tk tv : TEw) : TEw := fun σ G Q => ∀ p, G p = none → tk σ (gup G p (.dic [])) fun x G1 => tv σ G1 fun y G2 => G2 p = some (.dic []) ∧ isS (keyOf x) fun k => Q (.ref p) (gup G2 p (.dic [(nk k, y)]))
section
variable {X : Cx} {K : PySem.W.Frag} {a b o i e : Expr} {ta tb td ty tv : TEw} {pos pos' tpos : Pos} {k : Nat}
theorem hu1 {A : Around} {k : Nat} (hr : Room k A) : A.units + 1 < cLine := by have := hr.un; omega
theorem qdget (hr : Room k X.A) (ha : PEw X a ta) (hb : PEw X b tb) (hs : NoSl b := by intro _ _; rfl) : PEw X (.Subscript a b pos) (wOp wDGet ta tb) :=
  PE.imp (pe_dget (hu1 hr) ha hb hs) fun _ _ _ h => lift2 sim_dget h
theorem qdin (hr : Room k X.A) (ha : PEw X a ta) (hb : PEw X b tb) (hm : behindInMarks .In b = false := by rfl) : PEw X (.Compare a [.In] [b] pos) (wOp (wDIn false) ta tb) :=
  PE.imp (pe_cmp (pc_din (hu1 hr) ha hb) hm) fun _ _ _ h => lift2 (sim_din (neg := false)) h
theorem qdnin (hr : Room k X.A) (ha : PEw X a ta) (hb : PEw X b tb) (hm : behindInMarks .NotIn b = false := by rfl) : PEw X (.Compare a [.NotIn] [b] pos) (wOp (wDIn true) ta tb) :=
  PE.imp (pe_cmp (pc_dnotin (hu1 hr) ha hb) hm) fun _ _ _ h => lift2 (sim_din (neg := true)) h
theorem qtdin (hr : Room k X.A) (ha : PEw X a ta) (hb : PEw X b tb) (hm : behindInMarks .In b = false := by rfl) : PTw X (.Compare a [.In] [b] pos) (wTest (wOp (wDIn false) ta tb)) :=
  PT.imp (pt_cmp (pc_din (hu1 hr) ha hb) hm) fun _ _ _ h => ltest (fun _ _ _ => lift2 (sim_din (neg := false))) h
theorem qtdnin (hr : Room k X.A) (ha : PEw X a ta) (hb : PEw X b tb) (hm : behindInMarks .NotIn b = false := by rfl) : PTw X (.Compare a [.NotIn] [b] pos) (wTest (wOp (wDIn true) ta tb)) :=
  PT.imp (pt_cmp (pc_dnotin (hu1 hr) ha hb) hm) fun _ _ _ h => ltest (fun _ _ _ => lift2 (sim_din (neg := true))) h
theorem qdnew : PEw X (.Dict [] [] pos) wDNew := PE.imp pe_dnewK fun σ H Q h => by
  obtain ⟨Z, σ', G, Qw, ev, hr, t, k⟩ := h
  intro p n
  obtain ⟨g, h2, x2⟩ := new_dic hr n
  exact k _ _ _ _ _ x2 h2 .ref (t p g)
theorem qdone (ha : PEw X a ta) (hb : PEw X b tb) : PEw X (.Dict [some a] [b] pos) (wDOne ta tb) := PE.imp (pe_disp (pps_cons ha hb pps_nil) rfl rfl (by simp) (by simp)) fun σ H Q h => by
  obtain ⟨Z, σ', G, Qw, ev, hr, t, k⟩ := h
  intro p n
  obtain ⟨g, h1, x1⟩ := new_dic hr n
  refine ⟨Z, σ', _, _, ev.ext hr x1, h1, t p g, fun Z2 G2 H2 x v x2 h2 r2 t2 => ⟨Z2, σ', G2, _, (ev.ext hr x1).ext h1 x2, h2, t2, fun Z3 G3 H3 y u x3 h3 r3 t3 => ?_⟩⟩
  obtain ⟨g3, t4⟩ := t3
  obtain ⟨kk, ek, q⟩ := isS_ex t4
  obtain ⟨us, eu, ru⟩ := h3.g p _ g3
  cases ru with
  | dic r =>
    cases r
    refine ⟨eu, [(kk, u)], ?_, by simp, ?_⟩
    · rw [(r2.ext h2 x3).key ek]; rfl
    · obtain ⟨h4, x4⟩ := chg_dic (kvs' := [(nk kk, y)]) (us' := [(kk, u)]) h3 g3 (.cons r3 .nil)
      exact k _ _ _ _ _ (((x1.trans x2).trans x3).trans x4) h4 .ref q
theorem qdput (hr : Room k X.A) (hd : PEw X o td) (hi : PEw X i ty) (hv : PEw X e tv) (hs : swapsWith e (some (.Subscript o i pos')) pos.line X.env = pure false := by rfl) : PSw X (.Assign [.Subscript o i pos'] e pos) (wDPut td ty tv) :=
  PS.imp (ps_dput (hu1 hr) hd hi hv hs) fun D σ H h => by
    obtain ⟨Z, σ', G, Dw, ev, hh, t, k⟩ := h
    refine ⟨Z, σ', G, _, ev, hh, t, fun Z1 G1 H1 vw vv x1 h1 r1 t1 => ⟨Z1, σ', G1, _, ev.ext hh x1, h1, t1, fun Z2 G2 H2 xw xv x2 h2 r2 t2 => ⟨Z2, σ', G2, _, (ev.ext hh x1).ext h1 x2, h2, t2, fun Z3 G3 H3 yw yv x3 h3 r3 t3 => ?_⟩⟩⟩
    have r2' := r2.ext h2 x3
    cases r2' with
    | @ref p =>
      obtain ⟨kvs, g, l, t4⟩ := isD_ex t3
      obtain ⟨kk, ek, q⟩ := isS_ex t4
      obtain ⟨us, eu, ru⟩ := h3.g p _ g
      cases ru with
      | dic r =>
        obtain ⟨h4, x4⟩ := chg_dic h3 g (r.put (k := kk) ((r1.ext h1 x2).ext h2 x3))
        have xx := ((x1.trans x2).trans x3).trans x4
        rw [r3.key ek]
        exact ⟨p, _, rfl, DPut.k eu (by rw [← r.length]; exact l), k.nx _ _ _ _ _ xx h4 (ev.ext hh xx) q⟩
    | _ => exact False.elim t3
theorem sim_lenD {K : PySem.W.Frag} : SimN K (fun xs H Q => ∃ a kvs, xs = [V.ref a] ∧ H a = some (.dK kvs) ∧ Q (.int kvs.length) H) wLenD := by
  intro Z G H ws vs Qw Q h r t k
  cases r with
  | nil => exact False.elim t
  | cons rx rr =>
    cases rr with
    | cons _ _ => exact False.elim t
    | nil =>
      obtain ⟨kvs, e, q⟩ := isS_ex t
      obtain ⟨p, us, rfl, s, r⟩ := dicOf_at h rx e
      exact ⟨p, us, rfl, s, by rw [← r.length]; exact k.at h .int q⟩
theorem qlenD {es : List Expr} {t : TAw} {p : Pos} (hg : Gl X "len") (hm : X.mg "len" = none) (ha : PAw X (e :: es) t) (he : starEach (e :: es) X.env = (false, eval e X.env) :: starEach es X.env := by rfl) (hpl : (backTo pos (starEach es X.env)).any (·.1) = false := by rfl) :
    PEw X (.Call (.Name "len" p) (e :: es) [] pos) (wCB wLenD t) := PE.imp (pe_callB call_lenD hg hm (by decide +kernel) ha (by decide) (by decide) he hpl) fun _ _ _ h => liftN sim_lenD h
end
end WL

namespace WL
open PySem PySem.Spec PyProof.Rows L2
/-! ### the law's call, the base free of what looks on: then // is plain at any size -/
theorem seer_hid {h : Heap} {H : Hp} (S : h.NoSeer) (hd : ∀ b o es ep, h.get? b = some o → o.data = .dict es ep → H b = none) (hm : ∀ b o d, h.get? b = some o → o.dict = some d → o.cls = .type "module" → H b = none) : (hidT h H).NoSeer := by
  have ns : ∀ {b : Addr} {m : Str → Option Value}, h.Ns b m → (hidT h H).Ns b m := by
    rintro b m ⟨o, es, ep, e, d, r⟩
    exact ⟨o, es, ep, hidT_get e (hd b o es ep e d), d, r⟩
  obtain ⟨⟨c, c1, c2, c3⟩, ⟨m, m1, m2⟩, ⟨i, i1, i2⟩, ⟨g, bm, ob, g1, g2, g3, g4, g5⟩⟩ := S
  exact ⟨⟨c, ns c1, c2, c3⟩, ⟨m, ns m1, m2⟩, ⟨i, ns i1, i2⟩, ⟨g, bm, ob, ns g1, g2, hidT_get g3 (hm bm ob _ g3 g5 g4), g4, g5⟩⟩
/-- the heap that knows the script alone -/
def scrH (K : PySem.W.Frag) (a : Addr) (ob : Obj) (xs : List V) : Hp := fun b => if b = a ∧ (K.lookup a).isSome = false then some (.frz ob (.lst xs)) else none
section
variable {P : Program} {w : World} {K : PySem.W.Frag} {mg mb : Str → Option Value} {k : Nat} {fa a : Addr} {fd : FuncData} {x : Str} {sp : Sp} {s1 : Shared} {vs : List Value} {ns : List Int}
theorem law_run (KX : K.In s1.heap) (gl : s1.heap.Ns mainGlobals mg) (bl : s1.heap.Ns builtinsNs mb) (bb : ∀ x : Str, x ≠ "__name__" → mb x = bootBuiltins x) (lim : s1.heap.NoLimit) (seer : s1.heap.NoSeer) (gens : s1.gens = #[])
    (obj : s1.heap.get? a = some { cls := .type "list", data := .seq vs.toArray }) (iar : IntsAre vs ns) (len : ns.length ≤ sizeLine) (hr : Room k callerA)
    (F : ∀ base : Heap, K.In base → base.Ns mainGlobals mg → base.NoSeer → FnOk P w K mg base CX0 k fa fd [x] sp) (bind : ∀ (s : Shared) (u : Value), BindsTo s fd ⟨[u], []⟩ [(x, u)])
    (want : ∀ H : Hp, Only H → SqL K H a (ns.map V.int) → sp [.ref a] H (fun v _ => v = .bl true) fun _ _ _ => False) :
    codeAny (model P w) callerA (.call (.ref fa) ⟨[.ref a], []⟩) (fun r s' => r = .ok (.ret (.bool true)) ∧ OldK s1.heap s'.heap ∧ s'.os = s1.os ∧ AllBare s'.gens) s1 := by
  let ob : Obj := { cls := .type "list", data := .seq vs.toArray }
  let H : Hp := scrH K a ob (ns.map V.int)
  have rel : Vals (ns.map V.int) vs := vals_ints iar
  have only : Only H := fun b => by
    by_cases c : b = a ∧ (K.lookup a).isSome = false
    · exact .inr ⟨ob, _, if_pos c⟩
    · exact .inl (if_neg c)
  have at_ : ∀ b, H b ≠ none → b = a ∧ (K.lookup a).isSome = false := fun b z => by
    by_cases c : b = a ∧ (K.lookup a).isSome = false
    · exact c
    · exact absurd (if_neg c) z
  have isz : vs.length = ns.length := by
    have e := rel.length
    rw [List.length_map] at e
    exact e.symm
  have sq : SqL K H a (ns.map V.int) := by
    cases q : K.lookup a with
    | none => exact .inl (.inr ⟨ob, if_pos ⟨rfl, by rw [q]; rfl⟩⟩)
    | some o =>
      have e := KX a o q
      rw [obj] at e
      injection e with e
      subst e
      exact .inr ⟨_, vs.toArray, _, q, rfl, rfl, rfl, by rw [List.size_toArray, isz]; exact len, by simpa using rel⟩
  have hok : HOk P w H s1.heap := fun b u z => by
    have ne : H b ≠ none := by rw [z]; simp
    obtain ⟨rfl, q⟩ := at_ b ne
    have z' : some (HO.frz ob (.lst (ns.map V.int))) = some u := (show H b = some (HO.frz ob (.lst (ns.map V.int))) from if_pos ⟨rfl, q⟩).symm.trans z
    injection z' with z'
    subst z'
    exact ⟨obj, by rw [List.length_map]; exact len, vs, _, rel, obj⟩
  have noD : ∀ b o es ep, s1.heap.get? b = some o → o.data = .dict es ep → H b = none := fun b o es ep e d => by
    cases q : H b with
    | none => rfl
    | some u =>
      obtain ⟨rfl, _⟩ := at_ b (by rw [q]; simp)
      rw [obj] at e
      injection e with e
      subst e
      cases d
  have noM : ∀ b o d, s1.heap.get? b = some o → o.dict = some d → o.cls = .type "module" → H b = none := fun b o d e hd _ => by
    cases q : H b with
    | none => rfl
    | some u =>
      obtain ⟨rfl, _⟩ := at_ b (by rw [q]; simp)
      rw [obj] at e
      injection e with e
      subst e
      cases hd
  have ns' : ∀ {b : Addr} {m : Str → Option Value}, s1.heap.Ns b m → (hidT s1.heap H).Ns b m := by
    rintro b m ⟨o, es, ep, e, d, r⟩
    exact ⟨o, es, ep, hidT_get e (noD b o es ep e d), d, r⟩
  have kb : K.In (hidT s1.heap H) := fun b o e => hidT_get (KX b o e) (by
    cases q : H b with
    | none => rfl
    | some u =>
      obtain ⟨rfl, z⟩ := at_ b (by rw [q]; simp)
      rw [e] at z
      cases z)
  have md : Mod K mg (hidT s1.heap H) := by
    obtain ⟨mc, l1, l2⟩ := lim
    exact ⟨kb, ns' gl, ⟨mb, ns' bl, bb⟩, mc, ns' l1, l2⟩
  have e0 : Env0 P w K mg (hidT s1.heap H) callerA [] s1 H := ⟨rfl, md, fun b o e => of_hidT e, Nat.le_of_eq (hidT_size _ _), trivial, fun b hb => (by cases hb), hok, .of_eq gens⟩
  have run := (F _ kb (ns' gl) (seer_hid seer noD noM)).run callerA [] s1 H ⟨[.ref a], []⟩ [.ref a] [.ref a] _ _ hr e0 (bind s1 (.ref a)) (.cons rfl .nil) (want H only sq)
  refine codeAny_mono run fun r s' h => ?_
  match r, h with
  | .ok (.ret u), h =>
    obtain ⟨v, H', os, bare, un, hok', rv, q⟩ := h
    cases (show v = .bl true from q)
    cases (show u = Value.bool true from rv)
    refine ⟨rfl, OldK.of_keep fun b o e => ?_, os, bare⟩
    rcases only b with z | ⟨oz, xz, z⟩
    · exact un.keep b o e z (fun m => (by cases m)) (fun m => (by cases m))
    · obtain ⟨e1, _⟩ := hok b _ z
      obtain ⟨e2, _⟩ := hok' b _ (un.frzs b oz _ z)
      rw [e1] at e
      rw [← e]
      exact e2
/-- the goal that the head leaves -/
theorem walk_deep {l : PySem.W.OpenLaw} {n k : Nat} {q : Program} {loose : List Str} {XP : (Str → Option Value) → Heap → Prop} {YP : World → Heap → Prop} {d : DefRec} {Kf : Params → PySem.W.Frag} {sp : World → Sp} {x : Str}
    (most : l.most = some n) (small : n ≤ sizeLine) (nodef : d.params.defaults = []) (hr : Room k callerA) (noimp : importsNone q = true) (hY : ∀ (w : World) (h : Heap), YP w h → (Kf w.params).In h)
    (F : ∀ (w : World) (mg : Str → Option Value) (fa : Addr) (h : Heap), (Kf w.params).In h → h.Ns mainGlobals mg → mg d.name = some (.ref fa) →
      ∃ fd : FuncData, (∀ (s : Shared) (u : Value), BindsTo s fd ⟨[u], []⟩ [(x, u)]) ∧ ∀ base : Heap, (Kf w.params).In base → base.Ns mainGlobals mg → base.NoSeer → FnOk l.prog w (Kf w.params) mg base CX0 k fa fd [x] (sp w))
    (want : ∀ (w : World) (H : Hp) (a : Addr) (ns : List Int), ns.length ≤ n → Only H → SqL (Kf w.params) H a (ns.map V.int) → sp w [.ref a] H (fun v _ => v = .bl true) fun _ _ _ => False) :
    PySem.W.WalkO q loose XP YP l.row.toRowW d [] (fun f vs => PySem.call f vs) :=
  Att.attach_call most nodef fun w s0 s1 mg mb fa o pm cd doc a vs ns G Y ho hd hcd hmg obj iar len gens => by
    obtain ⟨fd, bind, FF⟩ := F w mg fa _ (hY w _ Y) G.T.g hmg
    exact law_run (hY w _ Y) G.T.g G.T.b G.T.builtins G.T.nolimit (G.T.seer noimp) gens obj iar (Nat.le_trans len small) hr FF bind fun H h1 h2 => want w H a ns len h1 h2
end
/-! ### loops by the turn's number -/
theorem forW_ix {ks : List Bool} {g : TGw} {tb : TSw} {D : EndsW} (P : Nat → SW → Gp → Prop) : ∀ (items : List W) (k : Nat) (σ : SW) (G : Gp), P k σ G →
    (∀ i w, items[i]? = some w → ∀ σ G (N : SW → Gp → Prop), P (k + i) σ G → (∀ σ' G', P (k + i + 1) (skill σ' ks) G' → N σ' G') → g w σ G fun σ1 G1 => tb { nx := N, ct := N, bk := D.nx, rt := D.rt, ex := D.ex } σ1 G1) →
    (∀ σ G, P (k + items.length) σ G → D.nx σ G) → forW ks g tb items D σ G
  | [], k, σ, G, p, _, hd => hd σ G p
  | w :: ws, k, σ, G, p, hs, hd => hs 0 w rfl σ G _ p fun σ' G' p' => forW_ix P ws (k + 1) _ G' p' (fun i w' hw => by
      have h := hs (i + 1) w' hw
      rw [show k + (i + 1) = k + 1 + i by omega] at h
      exact h) (by
      have h := hd
      rw [show k + (w :: ws).length = k + 1 + ws.length by rw [List.length_cons]; omega] at h
      exact h)
theorem rangeW_get {lo : Int} {n i : Nat} {w : W} (h : (rangeW lo n)[i]? = some w) : i < n ∧ w = .int (lo + i) := by
  unfold rangeW at h
  rw [List.getElem?_map] at h
  by_cases c : i < n
  · rw [List.getElem?_range c] at h
    exact ⟨c, (Option.some.inj h).symm⟩
  · rw [List.getElem?_eq_none (by rw [List.length_range]; omega)] at h
    cases h
theorem rangeW_length {lo : Int} {n : Nat} : (rangeW lo n).length = n := by unfold rangeW; rw [List.length_map, List.length_range]
theorem forW_range {ks : List Bool} {g : TGw} {tb : TSw} {D : EndsW} {lo : Int} {n : Nat} {σ : SW} {G : Gp} (P : Nat → SW → Gp → Prop) (h0 : P 0 σ G)
    (hs : ∀ i, i < n → ∀ σ G (N : SW → Gp → Prop), P i σ G → (∀ σ' G', P (i + 1) (skill σ' ks) G' → N σ' G') → g (.int (lo + i)) σ G fun σ1 G1 => tb { nx := N, ct := N, bk := D.nx, rt := D.rt, ex := D.ex } σ1 G1)
    (hd : ∀ σ G, P n σ G → D.nx σ G) : forW ks g tb (rangeW lo n) D σ G := by
  refine forW_ix P (rangeW lo n) 0 σ G h0 (fun i w hw => ?_) (by rw [rangeW_length, Nat.zero_add]; exact hd)
  obtain ⟨hi, rfl⟩ := rangeW_get hw
  rw [Nat.zero_add]
  exact hs i hi
/-! ### == of truths, of None -/
theorem wOk_bl {a : Bool} : wOk (.bl a) := ⟨rfl, by simp [wdat, SeqAt.shaped, PyData.canLay0, PyData.depth]⟩
theorem weqb_bl {a b : Bool} : weqb (.bl a) (.bl b) = (a == b) := by simp [weqb, wdat, PyData.eqv]
theorem wEq_bl {a b : Bool} {G : Gp} {Q : QW} : wEq (.bl a) (.bl b) G Q = Q (.bl (a == b)) G := by
  have e : wEq (.bl a) (.bl b) G Q = (wOk (.bl a) ∧ wOk (.bl b) ∧ Q (.bl (weqb (.bl a) (.bl b))) G) := rfl
  rw [e, weqb_bl]
  exact propext ⟨fun h => h.2.2, fun h => ⟨wOk_bl, wOk_bl, h⟩⟩
theorem wNe_bl {a b : Bool} {G : Gp} {Q : QW} : wNe (.bl a) (.bl b) G Q = Q (.bl (!(a == b))) G := by
  have e : wNe (.bl a) (.bl b) G Q = (wOk (.bl a) ∧ wOk (.bl b) ∧ Q (.bl (!weqb (.bl a) (.bl b))) G) := rfl
  rw [e, weqb_bl]
  exact propext ⟨fun h => h.2.2, fun h => ⟨wOk_bl, wOk_bl, h⟩⟩
/-! ### the readings, fully applied: for simp, from the head on -/
def truO (x : W) (G : Gp) (P : Bool → Gp → Prop) : Prop := ∃ k, x = .bl k ∧ P k G
theorem truO_bl {b : Bool} {G : Gp} {P : Bool → Gp → Prop} : truO (.bl b) G P = P b G := by
  unfold truO
  exact propext ⟨fun ⟨k, e, h⟩ => (by injection e with e; subst e; exact h), fun h => ⟨b, rfl, h⟩⟩
def intO (x : W) (G : Gp) (P : Option Int → Gp → Prop) : Prop := match x with
  | .int i => P (some i) G
  | _ => False
theorem intO_int {i : Int} {G : Gp} {P : Option Int → Gp → Prop} : intO (.int i) G P = P (some i) G := rfl
theorem a_seq {t u : TSw} {D : EndsW} {σ : SW} {G : Gp} : wSeq t u D σ G = t { D with nx := u D } σ G := rfl
theorem a_asg {te : TEw} {g : TGw} {D : EndsW} {σ : SW} {G : Gp} : wAsg te g D σ G = te σ G fun w G1 => g w σ G1 D.nx := rfl
theorem a_ifS {c : TTw} {t u : TSw} {D : EndsW} {σ : SW} {G : Gp} : wIfS c t u D σ G = c σ G fun b G1 => if b = true then t D σ G1 else u D σ G1 := rfl
theorem a_ret {te : TEw} {D : EndsW} {σ : SW} {G : Gp} : wRet te D σ G = te σ G D.rt := rfl
theorem a_retN {D : EndsW} {σ : SW} {G : Gp} : wRetN D σ G = D.rt .non G := rfl
theorem a_next {D : EndsW} {σ : SW} {G : Gp} : wNext D σ G = D.nx σ G := rfl
theorem a_break {D : EndsW} {σ : SW} {G : Gp} : wBreak D σ G = D.bk σ G := rfl
theorem a_cont {D : EndsW} {σ : SW} {G : Gp} : wCont D σ G = D.ct σ G := rfl
theorem a_drop {te : TEw} {D : EndsW} {σ : SW} {G : Gp} : wDrop te D σ G = te σ G fun _ G1 => D.nx σ G1 := rfl
theorem a_for {ks : List Bool} {ti : TIw} {g : TGw} {tb : TSw} {D : EndsW} {σ : SW} {G : Gp} : wFor ks ti g tb D σ G = ti σ G fun ws G1 => forW ks g tb ws D (skill σ ks) G1 := rfl
theorem a_C {w : W} {σ : SW} {G : Gp} {Q : QW} : wC w σ G Q = Q w G := rfl
theorem a_op {wr : RW2} {ta tb : TEw} {σ : SW} {G : Gp} {Q : QW} : wOp wr ta tb σ G Q = ta σ G fun x G1 => tb σ G1 fun y G2 => wr x y G2 Q := rfl
theorem a_un {wr : W → Gp → QW → Prop} {ta : TEw} {σ : SW} {G : Gp} {Q : QW} : wUn wr ta σ G Q = ta σ G fun x G1 => wr x G1 Q := rfl
theorem a_neg {ta : TEw} {σ : SW} {G : Gp} {Q : QW} : wNeg ta σ G Q = ta σ G fun x G1 => wI1 (fun i => .int (-i)) x G1 Q := rfl
theorem a_CB {wr : List W → Gp → QW → Prop} {t : TAw} {σ : SW} {G : Gp} {Q : QW} : wCB wr t σ G Q = t σ G fun ws G1 => wr ws G1 Q := rfl
theorem a_call {sp : Spw} {t : TAw} {σ : SW} {G : Gp} {Q : QW} : wCall sp t σ G Q = t σ G fun ws G1 => sp ws G1 Q E0w := rfl
theorem a_nil {σ : SW} {G : Gp} {P : List W → Gp → Prop} : wNil σ G P = P [] G := rfl
theorem a_cons {ta : TEw} {t : TAw} {σ : SW} {G : Gp} {P : List W → Gp → Prop} : wCons ta t σ G P = ta σ G fun x G1 => t σ G1 fun xs G2 => P (x :: xs) G2 := rfl
theorem a_tup {t : TAw} {σ : SW} {G : Gp} {Q : QW} : wTup t σ G Q = t σ G fun ws G1 => ws.length ≤ sizeLine ∧ Q (.tup ws) G1 := rfl
theorem a_lst {t : TAw} {σ : SW} {G : Gp} {Q : QW} : wLst t σ G Q = t σ G fun ws G1 => ws.length ≤ sizeLine ∧ Q (.lst ws) G1 := rfl
theorem a_lstM {t : TAw} {σ : SW} {G : Gp} {Q : QW} : wLstM t σ G Q = t σ G fun ws G1 => ws.length ≤ sizeLine ∧ ∀ p, G1 p = none → Q (.ref p) (gup G1 p (.lst ws)) := rfl
theorem a_test {t : TEw} {σ : SW} {G : Gp} {P : Bool → Gp → Prop} : wTest t σ G P = t σ G fun x G1 => truO x G1 P := rfl
theorem a_and {t u : TTw} {σ : SW} {G : Gp} {P : Bool → Gp → Prop} : wAnd t u σ G P = t σ G fun c G1 => if c = true then u σ G1 P else P false G1 := rfl
theorem a_or {t u : TTw} {σ : SW} {G : Gp} {P : Bool → Gp → Prop} : wOr t u σ G P = t σ G fun c G1 => if c = true then P true G1 else u σ G1 P := rfl
theorem a_not {t : TTw} {σ : SW} {G : Gp} {P : Bool → Gp → Prop} : wNot t σ G P = t σ G fun c G1 => P (!c) G1 := rfl
theorem a_yes {σ : SW} {G : Gp} {P : Bool → Gp → Prop} : wYes σ G P = P true G := rfl
theorem a_andV {ta tb : TEw} {σ : SW} {G : Gp} {Q : QW} : wAndV ta tb σ G Q = ta σ G fun x G1 => truO x G1 fun c G1 => if c = true then tb σ G1 Q else Q (.bl false) G1 := rfl
theorem a_orV {ta tb : TEw} {σ : SW} {G : Gp} {Q : QW} : wOrV ta tb σ G Q = ta σ G fun x G1 => truO x G1 fun c G1 => if c = true then Q (.bl true) G1 else tb σ G1 Q := rfl
theorem a_notV {ta : TEw} {σ : SW} {G : Gp} {Q : QW} : wNotV ta σ G Q = ta σ G fun x G1 => truO x G1 fun c G1 => Q (.bl (!c)) G1 := rfl
theorem a_if {t : TTw} {ta tb : TEw} {σ : SW} {G : Gp} {Q : QW} : wIf t ta tb σ G Q = t σ G fun c G1 => if c = true then ta σ G1 Q else tb σ G1 Q := rfl
theorem a_isN {ta : TEw} {σ : SW} {G : Gp} {Q : QW} : wIsN ta σ G Q = ta σ G fun x G1 => Q (.bl (isNon x)) G1 := rfl
theorem a_notN {ta : TEw} {σ : SW} {G : Gp} {Q : QW} : wNotN ta σ G Q = ta σ G fun x G1 => Q (.bl (!isNon x)) G1 := rfl
theorem a_chain {r r' : RW2} {ta tb tc : TEw} {σ : SW} {G : Gp} {Q : QW} : wChain r r' ta tb tc σ G Q = ta σ G fun x G1 => tb σ G1 fun y G2 => r x y G2 fun z G3 => truO z G3 fun k G3 => if k = true then tc σ G3 fun w G4 => r' y w G4 Q else Q (.bl false) G3 := rfl
theorem a_BM {wr : RWM} {to : TEw} {t : TAw} {σ : SW} {G : Gp} {Q : QW} : wBM wr to t σ G Q = to σ G fun o G1 => (asL G1 o).isSome = true ∧ t σ G1 fun ws G2 => wr o ws G2 Q := rfl
theorem a_BM0 {wr : RWM} {to : TEw} {σ : SW} {G : Gp} {Q : QW} : wBM0 wr to σ G Q = to σ G fun o G1 => (asL G1 o).isSome = true ∧ wr o [] G1 Q := rfl
theorem a_seqI {te : TEw} {σ : SW} {G : Gp} {P : List W → Gp → Prop} : iSeqW te σ G P = te σ G fun w G1 => seqOf w G1 P := rfl
theorem a_R1 {ta : TAw} {σ : SW} {G : Gp} {P : List W → Gp → Prop} : iR1 ta σ G P = ta σ G fun ws G1 => rng1 ws G1 P := rfl
theorem a_R2 {ta : TAw} {σ : SW} {G : Gp} {P : List W → Gp → Prop} : iR2 ta σ G P = ta σ G fun ws G1 => rng2 ws G1 P := rfl
theorem a_zip2 {ta : TAw} {σ : SW} {G : Gp} {P : List W → Gp → Prop} : i_zip2 ta σ G P = ta σ G fun ws G1 => zipOf ws G1 P := rfl
theorem a_zipG2 {ta : TAw} {σ : SW} {G : Gp} {P : List W → Gp → Prop} : i_zipG2 ta σ G P = ta σ G fun ws G1 => zipG2 ws G1 P := rfl
theorem a_zipG3 {ta : TAw} {σ : SW} {G : Gp} {P : List W → Gp → Prop} : i_zipG3 ta σ G P = ta σ G fun ws G1 => zipG3 ws G1 P := rfl
theorem a_enumG {ta : TAw} {σ : SW} {G : Gp} {P : List W → Gp → Prop} : i_enumG ta σ G P = ta σ G fun ws G1 => enumG ws G1 P := rfl
theorem a_enum {ta : TAw} {σ : SW} {G : Gp} {P : List W → Gp → Prop} : i_enum ta σ G P = ta σ G fun ws G1 => enumOf ws G1 P := rfl
theorem a_lc {vs : List Nat} {ti : TIw} {g : TGw} {tt : TTw} {te : TEw} {σ : SW} {G : Gp} {Q : QW} : wLc vs ti g tt te σ G Q = ti σ G fun ws G1 => ws.length ≤ sizeLine ∧ lcW g tt te (swipe σ vs) ws [] G1 fun us G2 => Q (.lst us) G2 := rfl
theorem a_lcM {vs : List Nat} {ti : TIw} {g : TGw} {tt : TTw} {te : TEw} {σ : SW} {G : Gp} {Q : QW} : wLcM vs ti g tt te σ G Q = ti σ G fun ws G1 => ws.length ≤ sizeLine ∧ lcW g tt te (swipe σ vs) ws [] G1 fun us G2 => ∀ p, G2 p = none → Q (.ref p) (gup G2 p (.lst us)) := rfl
theorem a_lcR {vs : List Nat} {t0 : TEw} {g : TGw} {tt : TTw} {te : TEw} {σ : SW} {G : Gp} {Q : QW} : wLcR vs t0 g tt te σ G Q = t0 σ G fun w G1 => refR w G1 fun p us G1 => us.length ≤ sizeLine ∧ lcR p us g tt te (swipe σ vs) us [] G1 fun zs G2 => Q (.lst zs) G2 := rfl
theorem a_forR {ks : List Bool} {ti : TIr} {g : TGw} {tb : TSw} {D : EndsW} {σ : SW} {G : Gp} : wForR ks ti g tb D σ G = ti σ G fun ws I G1 => forR I ks g tb ws D (skill σ ks) G1 := rfl
theorem a_seqR {te : TEw} {σ : SW} {G : Gp} {P : List W → (Gp → Prop) → Gp → Prop} : iSeqR te σ G P = te σ G fun w G1 => isS (asL G1 w) fun us => P us (pinOf w us) G1 := rfl
theorem a_zip2R {ta : TAw} {σ : SW} {G : Gp} {P : List W → (Gp → Prop) → Gp → Prop} : i_zip2R ta σ G P = ta σ G fun ws G1 => zipR ws G1 P := rfl
theorem a_zipR {a b : W} {G : Gp} {P : List W → (Gp → Prop) → Gp → Prop} : zipR [a, b] G P = isS (asL G a) fun xs => isS (asL G b) fun ys => P (xs.zipWith tup2 ys) (fun G => pinOf a xs G ∧ pinOf b ys G) G := rfl
theorem a_lstRg {te : TEw} {σ : SW} {G : Gp} {Q : QW} : wLstRg te σ G Q = te σ G fun w G1 => rgO w G1 fun us G2 => Q (.lst us) G2 := rfl
theorem a_lstRgM {te : TEw} {σ : SW} {G : Gp} {Q : QW} : wLstRgM te σ G Q = te σ G fun w G1 => rgO w G1 fun us G2 => ∀ p, G2 p = none → Q (.ref p) (gup G2 p (.lst us)) := rfl
theorem a_lcP {vs : List Nat} {t0 : TEw} {g : TGw} {tt : TTw} {te : TEw} {σ : SW} {G : Gp} {Q : QW} : wLcP vs t0 g tt te σ G Q = t0 σ G fun w G1 => isS (asL G1 w) fun us => us.length ≤ sizeLine ∧ lcP (pinOf w us) g tt te (swipe σ vs) us [] G1 fun zs G2 => Q (.lst zs) G2 := rfl
theorem a_slice {t : TEw} {lo hi : TOw} {σ : SW} {G : Gp} {Q : QW} : wSlice t lo hi σ G Q = t σ G fun x G1 => lo σ G1 fun l G2 => hi σ G2 fun h G3 => wCut x l h G3 Q := rfl
theorem a_sliceM {t : TEw} {lo hi : TOw} {σ : SW} {G : Gp} {Q : QW} : wSliceM t lo hi σ G Q = t σ G fun x G1 => lo σ G1 fun l G2 => hi σ G2 fun h G3 => wCutM x l h G3 Q := rfl
theorem a_pN {σ : SW} {G : Gp} {P : Option Int → Gp → Prop} : wpNone σ G P = P none G := rfl
theorem a_pS {t : TEw} {σ : SW} {G : Gp} {P : Option Int → Gp → Prop} : wpSome t σ G P = t σ G fun w G1 => intO w G1 P := rfl
theorem a_augIx {to ti te : TEw} {r : RW2} {D : EndsW} {σ : SW} {G : Gp} : wAugIx to ti te r D σ G = to σ G fun o G1 => ti σ G1 fun i G2 => wGet o i G2 fun x G3 => te σ G3 fun y G4 => r x y G4 fun z G5 => setIx o i z G5 fun G6 => D.nx σ G6 := rfl
theorem a_gIx {to ti : TEw} {w : W} {σ : SW} {G : Gp} {P : SW → Gp → Prop} : gIx to ti w σ G P = to σ G fun o G1 => ti σ G1 fun i G2 => setIx o i w G2 (P σ) := rfl
theorem a_par {i j : Nat} {ta tb : TEw} {D : EndsW} {σ : SW} {G : Gp} : wPar i j (wCons ta (wCons tb wNil)) D σ G = ta σ G fun a G1 => tb σ G1 fun b G2 => D.nx (sset (sset σ i a) j b) G2 := rfl
theorem a_setF {nm f : Str} {te to : TEw} {D : EndsW} {σ : SW} {G : Gp} : wSetF nm f te to D σ G = te σ G fun y G1 => to σ G1 fun x G2 => setF nm f y x G2 fun G3 => D.nx σ G3 := rfl
theorem a_meth {nm m : Str} {sp : Spw} {to : TEw} {t : TAw} {σ : SW} {G : Gp} {Q : QW} : wMeth nm m sp to t σ G Q = to σ G fun x G1 => isS (insOf G1 x) fun o => o.1 = nm ∧ o.2.lookup m = none ∧ t σ G1 fun ws G2 => sp (x :: ws) G2 Q E0w := rfl
theorem a_make {nm : Str} {sp : Spw} {t : TAw} {σ : SW} {G : Gp} {Q : QW} : wMake nm sp t σ G Q = t σ G fun ws G1 => ∀ p, G1 p = none → sp (.ref p :: ws) (gup G1 p (.ins nm [])) (fun w G2 => w = .non ∧ Q (.ref p) G2) E0w := rfl
theorem a_makeZ {nm : Str} {sp : Spw} {t : TAw} {σ : SW} {G : Gp} {Q : QW} : wMakeZ nm sp t σ G Q = t σ G fun ws G1 => ∀ p, G1 p = none → sp (.ref p :: ws) (gup G1 p (.ins nm [])) (fun w G2 => w = .non ∧ isI (G2 p) nm fun fs => Q (.ins nm fs) (gdel G2 p)) E0w := rfl
theorem a_dnew {σ : SW} {G : Gp} {Q : QW} : wDNew σ G Q = ∀ p, G p = none → Q (.ref p) (gup G p (.dic [])) := rfl
theorem a_done {tk tv : TEw} {σ : SW} {G : Gp} {Q : QW} : wDOne tk tv σ G Q = ∀ p, G p = none → tk σ (gup G p (.dic [])) fun x G1 => tv σ G1 fun y G2 => G2 p = some (.dic []) ∧ isS (keyOf x) fun k => Q (.ref p) (gup G2 p (.dic [(nk k, y)])) := rfl
theorem a_dput {td ty tv : TEw} {D : EndsW} {σ : SW} {G : Gp} : wDPut td ty tv D σ G = tv σ G fun v G1 => td σ G1 fun x G2 => ty σ G2 fun y G3 => dPut x y v G3 fun G4 => D.nx σ G4 := rfl
theorem a_dget {x y : W} {G : Gp} {Q : QW} : wDGet x y G Q = isS (dicOf G x) fun kvs => isS (keyOf y) fun k => isS (valW kvs (nk k)) fun w => Q w G := rfl
theorem a_din {neg : Bool} {x y : W} {G : Gp} {Q : QW} : wDIn neg y x G Q = isS (dicOf G x) fun kvs => isS (keyOf y) fun k => Q (.bl (if neg then !(valW kvs (nk k)).isSome else (valW kvs (nk k)).isSome)) G := rfl
theorem a_lenD {x : W} {G : Gp} {Q : QW} : wLenD [x] G Q = isS (dicOf G x) fun kvs => Q (.int kvs.length) G := rfl
theorem v_0 {w : W} {G : Gp} {Q : QW} {σ : SW} : wVar 0 (some w :: σ) G Q = Q w G := rfl
theorem g_0 {w : W} {o : Option W} {G : Gp} {P : SW → Gp → Prop} {σ : SW} : gN 0 w (o :: σ) G P = P (some w :: σ) G := rfl
theorem u_0 {te : TEw} {r : RW2} {w : W} {D : EndsW} {G : Gp} {σ : SW} : wAug 0 te r D (some w :: σ) G = te (some w :: σ) G fun y G1 => r w y G1 fun z G2 => D.nx (some z :: σ) G2 := rfl
theorem v_1 {w : W} {G : Gp} {Q : QW} {σ : SW} {a0 : Option W} : wVar 1 (a0 :: some w :: σ) G Q = Q w G := rfl
theorem g_1 {w : W} {o : Option W} {G : Gp} {P : SW → Gp → Prop} {σ : SW} {a0 : Option W} : gN 1 w (a0 :: o :: σ) G P = P (a0 :: some w :: σ) G := rfl
theorem u_1 {te : TEw} {r : RW2} {w : W} {D : EndsW} {G : Gp} {σ : SW} {a0 : Option W} : wAug 1 te r D (a0 :: some w :: σ) G = te (a0 :: some w :: σ) G fun y G1 => r w y G1 fun z G2 => D.nx (a0 :: some z :: σ) G2 := rfl
theorem v_2 {w : W} {G : Gp} {Q : QW} {σ : SW} {a0 a1 : Option W} : wVar 2 (a0 :: a1 :: some w :: σ) G Q = Q w G := rfl
theorem g_2 {w : W} {o : Option W} {G : Gp} {P : SW → Gp → Prop} {σ : SW} {a0 a1 : Option W} : gN 2 w (a0 :: a1 :: o :: σ) G P = P (a0 :: a1 :: some w :: σ) G := rfl
theorem u_2 {te : TEw} {r : RW2} {w : W} {D : EndsW} {G : Gp} {σ : SW} {a0 a1 : Option W} : wAug 2 te r D (a0 :: a1 :: some w :: σ) G = te (a0 :: a1 :: some w :: σ) G fun y G1 => r w y G1 fun z G2 => D.nx (a0 :: a1 :: some z :: σ) G2 := rfl
theorem v_3 {w : W} {G : Gp} {Q : QW} {σ : SW} {a0 a1 a2 : Option W} : wVar 3 (a0 :: a1 :: a2 :: some w :: σ) G Q = Q w G := rfl
theorem g_3 {w : W} {o : Option W} {G : Gp} {P : SW → Gp → Prop} {σ : SW} {a0 a1 a2 : Option W} : gN 3 w (a0 :: a1 :: a2 :: o :: σ) G P = P (a0 :: a1 :: a2 :: some w :: σ) G := rfl
theorem u_3 {te : TEw} {r : RW2} {w : W} {D : EndsW} {G : Gp} {σ : SW} {a0 a1 a2 : Option W} : wAug 3 te r D (a0 :: a1 :: a2 :: some w :: σ) G = te (a0 :: a1 :: a2 :: some w :: σ) G fun y G1 => r w y G1 fun z G2 => D.nx (a0 :: a1 :: a2 :: some z :: σ) G2 := rfl
theorem v_4 {w : W} {G : Gp} {Q : QW} {σ : SW} {a0 a1 a2 a3 : Option W} : wVar 4 (a0 :: a1 :: a2 :: a3 :: some w :: σ) G Q = Q w G := rfl
theorem g_4 {w : W} {o : Option W} {G : Gp} {P : SW → Gp → Prop} {σ : SW} {a0 a1 a2 a3 : Option W} : gN 4 w (a0 :: a1 :: a2 :: a3 :: o :: σ) G P = P (a0 :: a1 :: a2 :: a3 :: some w :: σ) G := rfl
theorem u_4 {te : TEw} {r : RW2} {w : W} {D : EndsW} {G : Gp} {σ : SW} {a0 a1 a2 a3 : Option W} : wAug 4 te r D (a0 :: a1 :: a2 :: a3 :: some w :: σ) G = te (a0 :: a1 :: a2 :: a3 :: some w :: σ) G fun y G1 => r w y G1 fun z G2 => D.nx (a0 :: a1 :: a2 :: a3 :: some z :: σ) G2 := rfl
theorem v_5 {w : W} {G : Gp} {Q : QW} {σ : SW} {a0 a1 a2 a3 a4 : Option W} : wVar 5 (a0 :: a1 :: a2 :: a3 :: a4 :: some w :: σ) G Q = Q w G := rfl
theorem g_5 {w : W} {o : Option W} {G : Gp} {P : SW → Gp → Prop} {σ : SW} {a0 a1 a2 a3 a4 : Option W} : gN 5 w (a0 :: a1 :: a2 :: a3 :: a4 :: o :: σ) G P = P (a0 :: a1 :: a2 :: a3 :: a4 :: some w :: σ) G := rfl
theorem u_5 {te : TEw} {r : RW2} {w : W} {D : EndsW} {G : Gp} {σ : SW} {a0 a1 a2 a3 a4 : Option W} : wAug 5 te r D (a0 :: a1 :: a2 :: a3 :: a4 :: some w :: σ) G = te (a0 :: a1 :: a2 :: a3 :: a4 :: some w :: σ) G fun y G1 => r w y G1 fun z G2 => D.nx (a0 :: a1 :: a2 :: a3 :: a4 :: some z :: σ) G2 := rfl
theorem v_6 {w : W} {G : Gp} {Q : QW} {σ : SW} {a0 a1 a2 a3 a4 a5 : Option W} : wVar 6 (a0 :: a1 :: a2 :: a3 :: a4 :: a5 :: some w :: σ) G Q = Q w G := rfl
theorem g_6 {w : W} {o : Option W} {G : Gp} {P : SW → Gp → Prop} {σ : SW} {a0 a1 a2 a3 a4 a5 : Option W} : gN 6 w (a0 :: a1 :: a2 :: a3 :: a4 :: a5 :: o :: σ) G P = P (a0 :: a1 :: a2 :: a3 :: a4 :: a5 :: some w :: σ) G := rfl
theorem u_6 {te : TEw} {r : RW2} {w : W} {D : EndsW} {G : Gp} {σ : SW} {a0 a1 a2 a3 a4 a5 : Option W} : wAug 6 te r D (a0 :: a1 :: a2 :: a3 :: a4 :: a5 :: some w :: σ) G = te (a0 :: a1 :: a2 :: a3 :: a4 :: a5 :: some w :: σ) G fun y G1 => r w y G1 fun z G2 => D.nx (a0 :: a1 :: a2 :: a3 :: a4 :: a5 :: some z :: σ) G2 := rfl
theorem v_7 {w : W} {G : Gp} {Q : QW} {σ : SW} {a0 a1 a2 a3 a4 a5 a6 : Option W} : wVar 7 (a0 :: a1 :: a2 :: a3 :: a4 :: a5 :: a6 :: some w :: σ) G Q = Q w G := rfl
theorem g_7 {w : W} {o : Option W} {G : Gp} {P : SW → Gp → Prop} {σ : SW} {a0 a1 a2 a3 a4 a5 a6 : Option W} : gN 7 w (a0 :: a1 :: a2 :: a3 :: a4 :: a5 :: a6 :: o :: σ) G P = P (a0 :: a1 :: a2 :: a3 :: a4 :: a5 :: a6 :: some w :: σ) G := rfl
theorem u_7 {te : TEw} {r : RW2} {w : W} {D : EndsW} {G : Gp} {σ : SW} {a0 a1 a2 a3 a4 a5 a6 : Option W} : wAug 7 te r D (a0 :: a1 :: a2 :: a3 :: a4 :: a5 :: a6 :: some w :: σ) G = te (a0 :: a1 :: a2 :: a3 :: a4 :: a5 :: a6 :: some w :: σ) G fun y G1 => r w y G1 fun z G2 => D.nx (a0 :: a1 :: a2 :: a3 :: a4 :: a5 :: a6 :: some z :: σ) G2 := rfl
theorem v_8 {w : W} {G : Gp} {Q : QW} {σ : SW} {a0 a1 a2 a3 a4 a5 a6 a7 : Option W} : wVar 8 (a0 :: a1 :: a2 :: a3 :: a4 :: a5 :: a6 :: a7 :: some w :: σ) G Q = Q w G := rfl
theorem g_8 {w : W} {o : Option W} {G : Gp} {P : SW → Gp → Prop} {σ : SW} {a0 a1 a2 a3 a4 a5 a6 a7 : Option W} : gN 8 w (a0 :: a1 :: a2 :: a3 :: a4 :: a5 :: a6 :: a7 :: o :: σ) G P = P (a0 :: a1 :: a2 :: a3 :: a4 :: a5 :: a6 :: a7 :: some w :: σ) G := rfl
theorem u_8 {te : TEw} {r : RW2} {w : W} {D : EndsW} {G : Gp} {σ : SW} {a0 a1 a2 a3 a4 a5 a6 a7 : Option W} : wAug 8 te r D (a0 :: a1 :: a2 :: a3 :: a4 :: a5 :: a6 :: a7 :: some w :: σ) G = te (a0 :: a1 :: a2 :: a3 :: a4 :: a5 :: a6 :: a7 :: some w :: σ) G fun y G1 => r w y G1 fun z G2 => D.nx (a0 :: a1 :: a2 :: a3 :: a4 :: a5 :: a6 :: a7 :: some z :: σ) G2 := rfl
theorem v_9 {w : W} {G : Gp} {Q : QW} {σ : SW} {a0 a1 a2 a3 a4 a5 a6 a7 a8 : Option W} : wVar 9 (a0 :: a1 :: a2 :: a3 :: a4 :: a5 :: a6 :: a7 :: a8 :: some w :: σ) G Q = Q w G := rfl
theorem g_9 {w : W} {o : Option W} {G : Gp} {P : SW → Gp → Prop} {σ : SW} {a0 a1 a2 a3 a4 a5 a6 a7 a8 : Option W} : gN 9 w (a0 :: a1 :: a2 :: a3 :: a4 :: a5 :: a6 :: a7 :: a8 :: o :: σ) G P = P (a0 :: a1 :: a2 :: a3 :: a4 :: a5 :: a6 :: a7 :: a8 :: some w :: σ) G := rfl
theorem u_9 {te : TEw} {r : RW2} {w : W} {D : EndsW} {G : Gp} {σ : SW} {a0 a1 a2 a3 a4 a5 a6 a7 a8 : Option W} : wAug 9 te r D (a0 :: a1 :: a2 :: a3 :: a4 :: a5 :: a6 :: a7 :: a8 :: some w :: σ) G = te (a0 :: a1 :: a2 :: a3 :: a4 :: a5 :: a6 :: a7 :: a8 :: some w :: σ) G fun y G1 => r w y G1 fun z G2 => D.nx (a0 :: a1 :: a2 :: a3 :: a4 :: a5 :: a6 :: a7 :: a8 :: some z :: σ) G2 := rfl
theorem v_10 {w : W} {G : Gp} {Q : QW} {σ : SW} {a0 a1 a2 a3 a4 a5 a6 a7 a8 a9 : Option W} : wVar 10 (a0 :: a1 :: a2 :: a3 :: a4 :: a5 :: a6 :: a7 :: a8 :: a9 :: some w :: σ) G Q = Q w G := rfl
theorem g_10 {w : W} {o : Option W} {G : Gp} {P : SW → Gp → Prop} {σ : SW} {a0 a1 a2 a3 a4 a5 a6 a7 a8 a9 : Option W} : gN 10 w (a0 :: a1 :: a2 :: a3 :: a4 :: a5 :: a6 :: a7 :: a8 :: a9 :: o :: σ) G P = P (a0 :: a1 :: a2 :: a3 :: a4 :: a5 :: a6 :: a7 :: a8 :: a9 :: some w :: σ) G := rfl
theorem u_10 {te : TEw} {r : RW2} {w : W} {D : EndsW} {G : Gp} {σ : SW} {a0 a1 a2 a3 a4 a5 a6 a7 a8 a9 : Option W} : wAug 10 te r D (a0 :: a1 :: a2 :: a3 :: a4 :: a5 :: a6 :: a7 :: a8 :: a9 :: some w :: σ) G = te (a0 :: a1 :: a2 :: a3 :: a4 :: a5 :: a6 :: a7 :: a8 :: a9 :: some w :: σ) G fun y G1 => r w y G1 fun z G2 => D.nx (a0 :: a1 :: a2 :: a3 :: a4 :: a5 :: a6 :: a7 :: a8 :: a9 :: some z :: σ) G2 := rfl
theorem v_11 {w : W} {G : Gp} {Q : QW} {σ : SW} {a0 a1 a2 a3 a4 a5 a6 a7 a8 a9 a10 : Option W} : wVar 11 (a0 :: a1 :: a2 :: a3 :: a4 :: a5 :: a6 :: a7 :: a8 :: a9 :: a10 :: some w :: σ) G Q = Q w G := rfl
theorem g_11 {w : W} {o : Option W} {G : Gp} {P : SW → Gp → Prop} {σ : SW} {a0 a1 a2 a3 a4 a5 a6 a7 a8 a9 a10 : Option W} : gN 11 w (a0 :: a1 :: a2 :: a3 :: a4 :: a5 :: a6 :: a7 :: a8 :: a9 :: a10 :: o :: σ) G P = P (a0 :: a1 :: a2 :: a3 :: a4 :: a5 :: a6 :: a7 :: a8 :: a9 :: a10 :: some w :: σ) G := rfl
theorem u_11 {te : TEw} {r : RW2} {w : W} {D : EndsW} {G : Gp} {σ : SW} {a0 a1 a2 a3 a4 a5 a6 a7 a8 a9 a10 : Option W} : wAug 11 te r D (a0 :: a1 :: a2 :: a3 :: a4 :: a5 :: a6 :: a7 :: a8 :: a9 :: a10 :: some w :: σ) G = te (a0 :: a1 :: a2 :: a3 :: a4 :: a5 :: a6 :: a7 :: a8 :: a9 :: a10 :: some w :: σ) G fun y G1 => r w y G1 fun z G2 => D.nx (a0 :: a1 :: a2 :: a3 :: a4 :: a5 :: a6 :: a7 :: a8 :: a9 :: a10 :: some z :: σ) G2 := rfl
theorem v_12 {w : W} {G : Gp} {Q : QW} {σ : SW} {a0 a1 a2 a3 a4 a5 a6 a7 a8 a9 a10 a11 : Option W} : wVar 12 (a0 :: a1 :: a2 :: a3 :: a4 :: a5 :: a6 :: a7 :: a8 :: a9 :: a10 :: a11 :: some w :: σ) G Q = Q w G := rfl
theorem g_12 {w : W} {o : Option W} {G : Gp} {P : SW → Gp → Prop} {σ : SW} {a0 a1 a2 a3 a4 a5 a6 a7 a8 a9 a10 a11 : Option W} : gN 12 w (a0 :: a1 :: a2 :: a3 :: a4 :: a5 :: a6 :: a7 :: a8 :: a9 :: a10 :: a11 :: o :: σ) G P = P (a0 :: a1 :: a2 :: a3 :: a4 :: a5 :: a6 :: a7 :: a8 :: a9 :: a10 :: a11 :: some w :: σ) G := rfl
theorem u_12 {te : TEw} {r : RW2} {w : W} {D : EndsW} {G : Gp} {σ : SW} {a0 a1 a2 a3 a4 a5 a6 a7 a8 a9 a10 a11 : Option W} : wAug 12 te r D (a0 :: a1 :: a2 :: a3 :: a4 :: a5 :: a6 :: a7 :: a8 :: a9 :: a10 :: a11 :: some w :: σ) G = te (a0 :: a1 :: a2 :: a3 :: a4 :: a5 :: a6 :: a7 :: a8 :: a9 :: a10 :: a11 :: some w :: σ) G fun y G1 => r w y G1 fun z G2 => D.nx (a0 :: a1 :: a2 :: a3 :: a4 :: a5 :: a6 :: a7 :: a8 :: a9 :: a10 :: a11 :: some z :: σ) G2 := rfl
theorem v_13 {w : W} {G : Gp} {Q : QW} {σ : SW} {a0 a1 a2 a3 a4 a5 a6 a7 a8 a9 a10 a11 a12 : Option W} : wVar 13 (a0 :: a1 :: a2 :: a3 :: a4 :: a5 :: a6 :: a7 :: a8 :: a9 :: a10 :: a11 :: a12 :: some w :: σ) G Q = Q w G := rfl
theorem g_13 {w : W} {o : Option W} {G : Gp} {P : SW → Gp → Prop} {σ : SW} {a0 a1 a2 a3 a4 a5 a6 a7 a8 a9 a10 a11 a12 : Option W} : gN 13 w (a0 :: a1 :: a2 :: a3 :: a4 :: a5 :: a6 :: a7 :: a8 :: a9 :: a10 :: a11 :: a12 :: o :: σ) G P = P (a0 :: a1 :: a2 :: a3 :: a4 :: a5 :: a6 :: a7 :: a8 :: a9 :: a10 :: a11 :: a12 :: some w :: σ) G := rfl
theorem u_13 {te : TEw} {r : RW2} {w : W} {D : EndsW} {G : Gp} {σ : SW} {a0 a1 a2 a3 a4 a5 a6 a7 a8 a9 a10 a11 a12 : Option W} : wAug 13 te r D (a0 :: a1 :: a2 :: a3 :: a4 :: a5 :: a6 :: a7 :: a8 :: a9 :: a10 :: a11 :: a12 :: some w :: σ) G = te (a0 :: a1 :: a2 :: a3 :: a4 :: a5 :: a6 :: a7 :: a8 :: a9 :: a10 :: a11 :: a12 :: some w :: σ) G fun y G1 => r w y G1 fun z G2 => D.nx (a0 :: a1 :: a2 :: a3 :: a4 :: a5 :: a6 :: a7 :: a8 :: a9 :: a10 :: a11 :: a12 :: some z :: σ) G2 := rfl
theorem v_14 {w : W} {G : Gp} {Q : QW} {σ : SW} {a0 a1 a2 a3 a4 a5 a6 a7 a8 a9 a10 a11 a12 a13 : Option W} : wVar 14 (a0 :: a1 :: a2 :: a3 :: a4 :: a5 :: a6 :: a7 :: a8 :: a9 :: a10 :: a11 :: a12 :: a13 :: some w :: σ) G Q = Q w G := rfl
theorem g_14 {w : W} {o : Option W} {G : Gp} {P : SW → Gp → Prop} {σ : SW} {a0 a1 a2 a3 a4 a5 a6 a7 a8 a9 a10 a11 a12 a13 : Option W} : gN 14 w (a0 :: a1 :: a2 :: a3 :: a4 :: a5 :: a6 :: a7 :: a8 :: a9 :: a10 :: a11 :: a12 :: a13 :: o :: σ) G P = P (a0 :: a1 :: a2 :: a3 :: a4 :: a5 :: a6 :: a7 :: a8 :: a9 :: a10 :: a11 :: a12 :: a13 :: some w :: σ) G := rfl
theorem u_14 {te : TEw} {r : RW2} {w : W} {D : EndsW} {G : Gp} {σ : SW} {a0 a1 a2 a3 a4 a5 a6 a7 a8 a9 a10 a11 a12 a13 : Option W} : wAug 14 te r D (a0 :: a1 :: a2 :: a3 :: a4 :: a5 :: a6 :: a7 :: a8 :: a9 :: a10 :: a11 :: a12 :: a13 :: some w :: σ) G = te (a0 :: a1 :: a2 :: a3 :: a4 :: a5 :: a6 :: a7 :: a8 :: a9 :: a10 :: a11 :: a12 :: a13 :: some w :: σ) G fun y G1 => r w y G1 fun z G2 => D.nx (a0 :: a1 :: a2 :: a3 :: a4 :: a5 :: a6 :: a7 :: a8 :: a9 :: a10 :: a11 :: a12 :: a13 :: some z :: σ) G2 := rfl
theorem v_15 {w : W} {G : Gp} {Q : QW} {σ : SW} {a0 a1 a2 a3 a4 a5 a6 a7 a8 a9 a10 a11 a12 a13 a14 : Option W} : wVar 15 (a0 :: a1 :: a2 :: a3 :: a4 :: a5 :: a6 :: a7 :: a8 :: a9 :: a10 :: a11 :: a12 :: a13 :: a14 :: some w :: σ) G Q = Q w G := rfl
theorem g_15 {w : W} {o : Option W} {G : Gp} {P : SW → Gp → Prop} {σ : SW} {a0 a1 a2 a3 a4 a5 a6 a7 a8 a9 a10 a11 a12 a13 a14 : Option W} : gN 15 w (a0 :: a1 :: a2 :: a3 :: a4 :: a5 :: a6 :: a7 :: a8 :: a9 :: a10 :: a11 :: a12 :: a13 :: a14 :: o :: σ) G P = P (a0 :: a1 :: a2 :: a3 :: a4 :: a5 :: a6 :: a7 :: a8 :: a9 :: a10 :: a11 :: a12 :: a13 :: a14 :: some w :: σ) G := rfl
theorem u_15 {te : TEw} {r : RW2} {w : W} {D : EndsW} {G : Gp} {σ : SW} {a0 a1 a2 a3 a4 a5 a6 a7 a8 a9 a10 a11 a12 a13 a14 : Option W} : wAug 15 te r D (a0 :: a1 :: a2 :: a3 :: a4 :: a5 :: a6 :: a7 :: a8 :: a9 :: a10 :: a11 :: a12 :: a13 :: a14 :: some w :: σ) G = te (a0 :: a1 :: a2 :: a3 :: a4 :: a5 :: a6 :: a7 :: a8 :: a9 :: a10 :: a11 :: a12 :: a13 :: a14 :: some w :: σ) G fun y G1 => r w y G1 fun z G2 => D.nx (a0 :: a1 :: a2 :: a3 :: a4 :: a5 :: a6 :: a7 :: a8 :: a9 :: a10 :: a11 :: a12 :: a13 :: a14 :: some z :: σ) G2 := rfl
theorem v_16 {w : W} {G : Gp} {Q : QW} {σ : SW} {a0 a1 a2 a3 a4 a5 a6 a7 a8 a9 a10 a11 a12 a13 a14 a15 : Option W} : wVar 16 (a0 :: a1 :: a2 :: a3 :: a4 :: a5 :: a6 :: a7 :: a8 :: a9 :: a10 :: a11 :: a12 :: a13 :: a14 :: a15 :: some w :: σ) G Q = Q w G := rfl
theorem g_16 {w : W} {o : Option W} {G : Gp} {P : SW → Gp → Prop} {σ : SW} {a0 a1 a2 a3 a4 a5 a6 a7 a8 a9 a10 a11 a12 a13 a14 a15 : Option W} : gN 16 w (a0 :: a1 :: a2 :: a3 :: a4 :: a5 :: a6 :: a7 :: a8 :: a9 :: a10 :: a11 :: a12 :: a13 :: a14 :: a15 :: o :: σ) G P = P (a0 :: a1 :: a2 :: a3 :: a4 :: a5 :: a6 :: a7 :: a8 :: a9 :: a10 :: a11 :: a12 :: a13 :: a14 :: a15 :: some w :: σ) G := rfl
theorem u_16 {te : TEw} {r : RW2} {w : W} {D : EndsW} {G : Gp} {σ : SW} {a0 a1 a2 a3 a4 a5 a6 a7 a8 a9 a10 a11 a12 a13 a14 a15 : Option W} : wAug 16 te r D (a0 :: a1 :: a2 :: a3 :: a4 :: a5 :: a6 :: a7 :: a8 :: a9 :: a10 :: a11 :: a12 :: a13 :: a14 :: a15 :: some w :: σ) G = te (a0 :: a1 :: a2 :: a3 :: a4 :: a5 :: a6 :: a7 :: a8 :: a9 :: a10 :: a11 :: a12 :: a13 :: a14 :: a15 :: some w :: σ) G fun y G1 => r w y G1 fun z G2 => D.nx (a0 :: a1 :: a2 :: a3 :: a4 :: a5 :: a6 :: a7 :: a8 :: a9 :: a10 :: a11 :: a12 :: a13 :: a14 :: a15 :: some z :: σ) G2 := rfl
theorem v_17 {w : W} {G : Gp} {Q : QW} {σ : SW} {a0 a1 a2 a3 a4 a5 a6 a7 a8 a9 a10 a11 a12 a13 a14 a15 a16 : Option W} : wVar 17 (a0 :: a1 :: a2 :: a3 :: a4 :: a5 :: a6 :: a7 :: a8 :: a9 :: a10 :: a11 :: a12 :: a13 :: a14 :: a15 :: a16 :: some w :: σ) G Q = Q w G := rfl
theorem g_17 {w : W} {o : Option W} {G : Gp} {P : SW → Gp → Prop} {σ : SW} {a0 a1 a2 a3 a4 a5 a6 a7 a8 a9 a10 a11 a12 a13 a14 a15 a16 : Option W} : gN 17 w (a0 :: a1 :: a2 :: a3 :: a4 :: a5 :: a6 :: a7 :: a8 :: a9 :: a10 :: a11 :: a12 :: a13 :: a14 :: a15 :: a16 :: o :: σ) G P = P (a0 :: a1 :: a2 :: a3 :: a4 :: a5 :: a6 :: a7 :: a8 :: a9 :: a10 :: a11 :: a12 :: a13 :: a14 :: a15 :: a16 :: some w :: σ) G := rfl
theorem u_17 {te : TEw} {r : RW2} {w : W} {D : EndsW} {G : Gp} {σ : SW} {a0 a1 a2 a3 a4 a5 a6 a7 a8 a9 a10 a11 a12 a13 a14 a15 a16 : Option W} : wAug 17 te r D (a0 :: a1 :: a2 :: a3 :: a4 :: a5 :: a6 :: a7 :: a8 :: a9 :: a10 :: a11 :: a12 :: a13 :: a14 :: a15 :: a16 :: some w :: σ) G = te (a0 :: a1 :: a2 :: a3 :: a4 :: a5 :: a6 :: a7 :: a8 :: a9 :: a10 :: a11 :: a12 :: a13 :: a14 :: a15 :: a16 :: some w :: σ) G fun y G1 => r w y G1 fun z G2 => D.nx (a0 :: a1 :: a2 :: a3 :: a4 :: a5 :: a6 :: a7 :: a8 :: a9 :: a10 :: a11 :: a12 :: a13 :: a14 :: a15 :: a16 :: some z :: σ) G2 := rfl
theorem v_18 {w : W} {G : Gp} {Q : QW} {σ : SW} {a0 a1 a2 a3 a4 a5 a6 a7 a8 a9 a10 a11 a12 a13 a14 a15 a16 a17 : Option W} : wVar 18 (a0 :: a1 :: a2 :: a3 :: a4 :: a5 :: a6 :: a7 :: a8 :: a9 :: a10 :: a11 :: a12 :: a13 :: a14 :: a15 :: a16 :: a17 :: some w :: σ) G Q = Q w G := rfl
theorem g_18 {w : W} {o : Option W} {G : Gp} {P : SW → Gp → Prop} {σ : SW} {a0 a1 a2 a3 a4 a5 a6 a7 a8 a9 a10 a11 a12 a13 a14 a15 a16 a17 : Option W} : gN 18 w (a0 :: a1 :: a2 :: a3 :: a4 :: a5 :: a6 :: a7 :: a8 :: a9 :: a10 :: a11 :: a12 :: a13 :: a14 :: a15 :: a16 :: a17 :: o :: σ) G P = P (a0 :: a1 :: a2 :: a3 :: a4 :: a5 :: a6 :: a7 :: a8 :: a9 :: a10 :: a11 :: a12 :: a13 :: a14 :: a15 :: a16 :: a17 :: some w :: σ) G := rfl
theorem u_18 {te : TEw} {r : RW2} {w : W} {D : EndsW} {G : Gp} {σ : SW} {a0 a1 a2 a3 a4 a5 a6 a7 a8 a9 a10 a11 a12 a13 a14 a15 a16 a17 : Option W} : wAug 18 te r D (a0 :: a1 :: a2 :: a3 :: a4 :: a5 :: a6 :: a7 :: a8 :: a9 :: a10 :: a11 :: a12 :: a13 :: a14 :: a15 :: a16 :: a17 :: some w :: σ) G = te (a0 :: a1 :: a2 :: a3 :: a4 :: a5 :: a6 :: a7 :: a8 :: a9 :: a10 :: a11 :: a12 :: a13 :: a14 :: a15 :: a16 :: a17 :: some w :: σ) G fun y G1 => r w y G1 fun z G2 => D.nx (a0 :: a1 :: a2 :: a3 :: a4 :: a5 :: a6 :: a7 :: a8 :: a9 :: a10 :: a11 :: a12 :: a13 :: a14 :: a15 :: a16 :: a17 :: some z :: σ) G2 := rfl
theorem v_19 {w : W} {G : Gp} {Q : QW} {σ : SW} {a0 a1 a2 a3 a4 a5 a6 a7 a8 a9 a10 a11 a12 a13 a14 a15 a16 a17 a18 : Option W} : wVar 19 (a0 :: a1 :: a2 :: a3 :: a4 :: a5 :: a6 :: a7 :: a8 :: a9 :: a10 :: a11 :: a12 :: a13 :: a14 :: a15 :: a16 :: a17 :: a18 :: some w :: σ) G Q = Q w G := rfl
theorem g_19 {w : W} {o : Option W} {G : Gp} {P : SW → Gp → Prop} {σ : SW} {a0 a1 a2 a3 a4 a5 a6 a7 a8 a9 a10 a11 a12 a13 a14 a15 a16 a17 a18 : Option W} : gN 19 w (a0 :: a1 :: a2 :: a3 :: a4 :: a5 :: a6 :: a7 :: a8 :: a9 :: a10 :: a11 :: a12 :: a13 :: a14 :: a15 :: a16 :: a17 :: a18 :: o :: σ) G P = P (a0 :: a1 :: a2 :: a3 :: a4 :: a5 :: a6 :: a7 :: a8 :: a9 :: a10 :: a11 :: a12 :: a13 :: a14 :: a15 :: a16 :: a17 :: a18 :: some w :: σ) G := rfl
theorem u_19 {te : TEw} {r : RW2} {w : W} {D : EndsW} {G : Gp} {σ : SW} {a0 a1 a2 a3 a4 a5 a6 a7 a8 a9 a10 a11 a12 a13 a14 a15 a16 a17 a18 : Option W} : wAug 19 te r D (a0 :: a1 :: a2 :: a3 :: a4 :: a5 :: a6 :: a7 :: a8 :: a9 :: a10 :: a11 :: a12 :: a13 :: a14 :: a15 :: a16 :: a17 :: a18 :: some w :: σ) G = te (a0 :: a1 :: a2 :: a3 :: a4 :: a5 :: a6 :: a7 :: a8 :: a9 :: a10 :: a11 :: a12 :: a13 :: a14 :: a15 :: a16 :: a17 :: a18 :: some w :: σ) G fun y G1 => r w y G1 fun z G2 => D.nx (a0 :: a1 :: a2 :: a3 :: a4 :: a5 :: a6 :: a7 :: a8 :: a9 :: a10 :: a11 :: a12 :: a13 :: a14 :: a15 :: a16 :: a17 :: a18 :: some z :: σ) G2 := rfl
theorem v_20 {w : W} {G : Gp} {Q : QW} {σ : SW} {a0 a1 a2 a3 a4 a5 a6 a7 a8 a9 a10 a11 a12 a13 a14 a15 a16 a17 a18 a19 : Option W} : wVar 20 (a0 :: a1 :: a2 :: a3 :: a4 :: a5 :: a6 :: a7 :: a8 :: a9 :: a10 :: a11 :: a12 :: a13 :: a14 :: a15 :: a16 :: a17 :: a18 :: a19 :: some w :: σ) G Q = Q w G := rfl
theorem g_20 {w : W} {o : Option W} {G : Gp} {P : SW → Gp → Prop} {σ : SW} {a0 a1 a2 a3 a4 a5 a6 a7 a8 a9 a10 a11 a12 a13 a14 a15 a16 a17 a18 a19 : Option W} : gN 20 w (a0 :: a1 :: a2 :: a3 :: a4 :: a5 :: a6 :: a7 :: a8 :: a9 :: a10 :: a11 :: a12 :: a13 :: a14 :: a15 :: a16 :: a17 :: a18 :: a19 :: o :: σ) G P = P (a0 :: a1 :: a2 :: a3 :: a4 :: a5 :: a6 :: a7 :: a8 :: a9 :: a10 :: a11 :: a12 :: a13 :: a14 :: a15 :: a16 :: a17 :: a18 :: a19 :: some w :: σ) G := rfl
theorem u_20 {te : TEw} {r : RW2} {w : W} {D : EndsW} {G : Gp} {σ : SW} {a0 a1 a2 a3 a4 a5 a6 a7 a8 a9 a10 a11 a12 a13 a14 a15 a16 a17 a18 a19 : Option W} : wAug 20 te r D (a0 :: a1 :: a2 :: a3 :: a4 :: a5 :: a6 :: a7 :: a8 :: a9 :: a10 :: a11 :: a12 :: a13 :: a14 :: a15 :: a16 :: a17 :: a18 :: a19 :: some w :: σ) G = te (a0 :: a1 :: a2 :: a3 :: a4 :: a5 :: a6 :: a7 :: a8 :: a9 :: a10 :: a11 :: a12 :: a13 :: a14 :: a15 :: a16 :: a17 :: a18 :: a19 :: some w :: σ) G fun y G1 => r w y G1 fun z G2 => D.nx (a0 :: a1 :: a2 :: a3 :: a4 :: a5 :: a6 :: a7 :: a8 :: a9 :: a10 :: a11 :: a12 :: a13 :: a14 :: a15 :: a16 :: a17 :: a18 :: a19 :: some z :: σ) G2 := rfl
theorem v_21 {w : W} {G : Gp} {Q : QW} {σ : SW} {a0 a1 a2 a3 a4 a5 a6 a7 a8 a9 a10 a11 a12 a13 a14 a15 a16 a17 a18 a19 a20 : Option W} : wVar 21 (a0 :: a1 :: a2 :: a3 :: a4 :: a5 :: a6 :: a7 :: a8 :: a9 :: a10 :: a11 :: a12 :: a13 :: a14 :: a15 :: a16 :: a17 :: a18 :: a19 :: a20 :: some w :: σ) G Q = Q w G := rfl
theorem g_21 {w : W} {o : Option W} {G : Gp} {P : SW → Gp → Prop} {σ : SW} {a0 a1 a2 a3 a4 a5 a6 a7 a8 a9 a10 a11 a12 a13 a14 a15 a16 a17 a18 a19 a20 : Option W} : gN 21 w (a0 :: a1 :: a2 :: a3 :: a4 :: a5 :: a6 :: a7 :: a8 :: a9 :: a10 :: a11 :: a12 :: a13 :: a14 :: a15 :: a16 :: a17 :: a18 :: a19 :: a20 :: o :: σ) G P = P (a0 :: a1 :: a2 :: a3 :: a4 :: a5 :: a6 :: a7 :: a8 :: a9 :: a10 :: a11 :: a12 :: a13 :: a14 :: a15 :: a16 :: a17 :: a18 :: a19 :: a20 :: some w :: σ) G := rfl
theorem u_21 {te : TEw} {r : RW2} {w : W} {D : EndsW} {G : Gp} {σ : SW} {a0 a1 a2 a3 a4 a5 a6 a7 a8 a9 a10 a11 a12 a13 a14 a15 a16 a17 a18 a19 a20 : Option W} : wAug 21 te r D (a0 :: a1 :: a2 :: a3 :: a4 :: a5 :: a6 :: a7 :: a8 :: a9 :: a10 :: a11 :: a12 :: a13 :: a14 :: a15 :: a16 :: a17 :: a18 :: a19 :: a20 :: some w :: σ) G = te (a0 :: a1 :: a2 :: a3 :: a4 :: a5 :: a6 :: a7 :: a8 :: a9 :: a10 :: a11 :: a12 :: a13 :: a14 :: a15 :: a16 :: a17 :: a18 :: a19 :: a20 :: some w :: σ) G fun y G1 => r w y G1 fun z G2 => D.nx (a0 :: a1 :: a2 :: a3 :: a4 :: a5 :: a6 :: a7 :: a8 :: a9 :: a10 :: a11 :: a12 :: a13 :: a14 :: a15 :: a16 :: a17 :: a18 :: a19 :: a20 :: some z :: σ) G2 := rfl
theorem v_22 {w : W} {G : Gp} {Q : QW} {σ : SW} {a0 a1 a2 a3 a4 a5 a6 a7 a8 a9 a10 a11 a12 a13 a14 a15 a16 a17 a18 a19 a20 a21 : Option W} : wVar 22 (a0 :: a1 :: a2 :: a3 :: a4 :: a5 :: a6 :: a7 :: a8 :: a9 :: a10 :: a11 :: a12 :: a13 :: a14 :: a15 :: a16 :: a17 :: a18 :: a19 :: a20 :: a21 :: some w :: σ) G Q = Q w G := rfl
theorem g_22 {w : W} {o : Option W} {G : Gp} {P : SW → Gp → Prop} {σ : SW} {a0 a1 a2 a3 a4 a5 a6 a7 a8 a9 a10 a11 a12 a13 a14 a15 a16 a17 a18 a19 a20 a21 : Option W} : gN 22 w (a0 :: a1 :: a2 :: a3 :: a4 :: a5 :: a6 :: a7 :: a8 :: a9 :: a10 :: a11 :: a12 :: a13 :: a14 :: a15 :: a16 :: a17 :: a18 :: a19 :: a20 :: a21 :: o :: σ) G P = P (a0 :: a1 :: a2 :: a3 :: a4 :: a5 :: a6 :: a7 :: a8 :: a9 :: a10 :: a11 :: a12 :: a13 :: a14 :: a15 :: a16 :: a17 :: a18 :: a19 :: a20 :: a21 :: some w :: σ) G := rfl
theorem u_22 {te : TEw} {r : RW2} {w : W} {D : EndsW} {G : Gp} {σ : SW} {a0 a1 a2 a3 a4 a5 a6 a7 a8 a9 a10 a11 a12 a13 a14 a15 a16 a17 a18 a19 a20 a21 : Option W} : wAug 22 te r D (a0 :: a1 :: a2 :: a3 :: a4 :: a5 :: a6 :: a7 :: a8 :: a9 :: a10 :: a11 :: a12 :: a13 :: a14 :: a15 :: a16 :: a17 :: a18 :: a19 :: a20 :: a21 :: some w :: σ) G = te (a0 :: a1 :: a2 :: a3 :: a4 :: a5 :: a6 :: a7 :: a8 :: a9 :: a10 :: a11 :: a12 :: a13 :: a14 :: a15 :: a16 :: a17 :: a18 :: a19 :: a20 :: a21 :: some w :: σ) G fun y G1 => r w y G1 fun z G2 => D.nx (a0 :: a1 :: a2 :: a3 :: a4 :: a5 :: a6 :: a7 :: a8 :: a9 :: a10 :: a11 :: a12 :: a13 :: a14 :: a15 :: a16 :: a17 :: a18 :: a19 :: a20 :: a21 :: some z :: σ) G2 := rfl
theorem v_23 {w : W} {G : Gp} {Q : QW} {σ : SW} {a0 a1 a2 a3 a4 a5 a6 a7 a8 a9 a10 a11 a12 a13 a14 a15 a16 a17 a18 a19 a20 a21 a22 : Option W} : wVar 23 (a0 :: a1 :: a2 :: a3 :: a4 :: a5 :: a6 :: a7 :: a8 :: a9 :: a10 :: a11 :: a12 :: a13 :: a14 :: a15 :: a16 :: a17 :: a18 :: a19 :: a20 :: a21 :: a22 :: some w :: σ) G Q = Q w G := rfl
theorem g_23 {w : W} {o : Option W} {G : Gp} {P : SW → Gp → Prop} {σ : SW} {a0 a1 a2 a3 a4 a5 a6 a7 a8 a9 a10 a11 a12 a13 a14 a15 a16 a17 a18 a19 a20 a21 a22 : Option W} : gN 23 w (a0 :: a1 :: a2 :: a3 :: a4 :: a5 :: a6 :: a7 :: a8 :: a9 :: a10 :: a11 :: a12 :: a13 :: a14 :: a15 :: a16 :: a17 :: a18 :: a19 :: a20 :: a21 :: a22 :: o :: σ) G P = P (a0 :: a1 :: a2 :: a3 :: a4 :: a5 :: a6 :: a7 :: a8 :: a9 :: a10 :: a11 :: a12 :: a13 :: a14 :: a15 :: a16 :: a17 :: a18 :: a19 :: a20 :: a21 :: a22 :: some w :: σ) G := rfl
theorem u_23 {te : TEw} {r : RW2} {w : W} {D : EndsW} {G : Gp} {σ : SW} {a0 a1 a2 a3 a4 a5 a6 a7 a8 a9 a10 a11 a12 a13 a14 a15 a16 a17 a18 a19 a20 a21 a22 : Option W} : wAug 23 te r D (a0 :: a1 :: a2 :: a3 :: a4 :: a5 :: a6 :: a7 :: a8 :: a9 :: a10 :: a11 :: a12 :: a13 :: a14 :: a15 :: a16 :: a17 :: a18 :: a19 :: a20 :: a21 :: a22 :: some w :: σ) G = te (a0 :: a1 :: a2 :: a3 :: a4 :: a5 :: a6 :: a7 :: a8 :: a9 :: a10 :: a11 :: a12 :: a13 :: a14 :: a15 :: a16 :: a17 :: a18 :: a19 :: a20 :: a21 :: a22 :: some w :: σ) G fun y G1 => r w y G1 fun z G2 => D.nx (a0 :: a1 :: a2 :: a3 :: a4 :: a5 :: a6 :: a7 :: a8 :: a9 :: a10 :: a11 :: a12 :: a13 :: a14 :: a15 :: a16 :: a17 :: a18 :: a19 :: a20 :: a21 :: a22 :: some z :: σ) G2 := rfl
theorem v_24 {w : W} {G : Gp} {Q : QW} {σ : SW} {a0 a1 a2 a3 a4 a5 a6 a7 a8 a9 a10 a11 a12 a13 a14 a15 a16 a17 a18 a19 a20 a21 a22 a23 : Option W} : wVar 24 (a0 :: a1 :: a2 :: a3 :: a4 :: a5 :: a6 :: a7 :: a8 :: a9 :: a10 :: a11 :: a12 :: a13 :: a14 :: a15 :: a16 :: a17 :: a18 :: a19 :: a20 :: a21 :: a22 :: a23 :: some w :: σ) G Q = Q w G := rfl
theorem g_24 {w : W} {o : Option W} {G : Gp} {P : SW → Gp → Prop} {σ : SW} {a0 a1 a2 a3 a4 a5 a6 a7 a8 a9 a10 a11 a12 a13 a14 a15 a16 a17 a18 a19 a20 a21 a22 a23 : Option W} : gN 24 w (a0 :: a1 :: a2 :: a3 :: a4 :: a5 :: a6 :: a7 :: a8 :: a9 :: a10 :: a11 :: a12 :: a13 :: a14 :: a15 :: a16 :: a17 :: a18 :: a19 :: a20 :: a21 :: a22 :: a23 :: o :: σ) G P = P (a0 :: a1 :: a2 :: a3 :: a4 :: a5 :: a6 :: a7 :: a8 :: a9 :: a10 :: a11 :: a12 :: a13 :: a14 :: a15 :: a16 :: a17 :: a18 :: a19 :: a20 :: a21 :: a22 :: a23 :: some w :: σ) G := rfl
theorem u_24 {te : TEw} {r : RW2} {w : W} {D : EndsW} {G : Gp} {σ : SW} {a0 a1 a2 a3 a4 a5 a6 a7 a8 a9 a10 a11 a12 a13 a14 a15 a16 a17 a18 a19 a20 a21 a22 a23 : Option W} : wAug 24 te r D (a0 :: a1 :: a2 :: a3 :: a4 :: a5 :: a6 :: a7 :: a8 :: a9 :: a10 :: a11 :: a12 :: a13 :: a14 :: a15 :: a16 :: a17 :: a18 :: a19 :: a20 :: a21 :: a22 :: a23 :: some w :: σ) G = te (a0 :: a1 :: a2 :: a3 :: a4 :: a5 :: a6 :: a7 :: a8 :: a9 :: a10 :: a11 :: a12 :: a13 :: a14 :: a15 :: a16 :: a17 :: a18 :: a19 :: a20 :: a21 :: a22 :: a23 :: some w :: σ) G fun y G1 => r w y G1 fun z G2 => D.nx (a0 :: a1 :: a2 :: a3 :: a4 :: a5 :: a6 :: a7 :: a8 :: a9 :: a10 :: a11 :: a12 :: a13 :: a14 :: a15 :: a16 :: a17 :: a18 :: a19 :: a20 :: a21 :: a22 :: a23 :: some z :: σ) G2 := rfl
theorem v_25 {w : W} {G : Gp} {Q : QW} {σ : SW} {a0 a1 a2 a3 a4 a5 a6 a7 a8 a9 a10 a11 a12 a13 a14 a15 a16 a17 a18 a19 a20 a21 a22 a23 a24 : Option W} : wVar 25 (a0 :: a1 :: a2 :: a3 :: a4 :: a5 :: a6 :: a7 :: a8 :: a9 :: a10 :: a11 :: a12 :: a13 :: a14 :: a15 :: a16 :: a17 :: a18 :: a19 :: a20 :: a21 :: a22 :: a23 :: a24 :: some w :: σ) G Q = Q w G := rfl
theorem g_25 {w : W} {o : Option W} {G : Gp} {P : SW → Gp → Prop} {σ : SW} {a0 a1 a2 a3 a4 a5 a6 a7 a8 a9 a10 a11 a12 a13 a14 a15 a16 a17 a18 a19 a20 a21 a22 a23 a24 : Option W} : gN 25 w (a0 :: a1 :: a2 :: a3 :: a4 :: a5 :: a6 :: a7 :: a8 :: a9 :: a10 :: a11 :: a12 :: a13 :: a14 :: a15 :: a16 :: a17 :: a18 :: a19 :: a20 :: a21 :: a22 :: a23 :: a24 :: o :: σ) G P = P (a0 :: a1 :: a2 :: a3 :: a4 :: a5 :: a6 :: a7 :: a8 :: a9 :: a10 :: a11 :: a12 :: a13 :: a14 :: a15 :: a16 :: a17 :: a18 :: a19 :: a20 :: a21 :: a22 :: a23 :: a24 :: some w :: σ) G := rfl
theorem u_25 {te : TEw} {r : RW2} {w : W} {D : EndsW} {G : Gp} {σ : SW} {a0 a1 a2 a3 a4 a5 a6 a7 a8 a9 a10 a11 a12 a13 a14 a15 a16 a17 a18 a19 a20 a21 a22 a23 a24 : Option W} : wAug 25 te r D (a0 :: a1 :: a2 :: a3 :: a4 :: a5 :: a6 :: a7 :: a8 :: a9 :: a10 :: a11 :: a12 :: a13 :: a14 :: a15 :: a16 :: a17 :: a18 :: a19 :: a20 :: a21 :: a22 :: a23 :: a24 :: some w :: σ) G = te (a0 :: a1 :: a2 :: a3 :: a4 :: a5 :: a6 :: a7 :: a8 :: a9 :: a10 :: a11 :: a12 :: a13 :: a14 :: a15 :: a16 :: a17 :: a18 :: a19 :: a20 :: a21 :: a22 :: a23 :: a24 :: some w :: σ) G fun y G1 => r w y G1 fun z G2 => D.nx (a0 :: a1 :: a2 :: a3 :: a4 :: a5 :: a6 :: a7 :: a8 :: a9 :: a10 :: a11 :: a12 :: a13 :: a14 :: a15 :: a16 :: a17 :: a18 :: a19 :: a20 :: a21 :: a22 :: a23 :: a24 :: some z :: σ) G2 := rfl
theorem f_0 {t : TSw} {p : Addr} {D : EndsW} {G : Gp} {σ : SW} : wFz 0 t D (some (.ref p) :: σ) G = isG (G p) fun ws => t D (some (.lst ws) :: σ) (gdel G p) := rfl
theorem fl_0 {t : TSw} {ws : List W} {D : EndsW} {G : Gp} {σ : SW} : wFz 0 t D (some (.lst ws) :: σ) G = t D (some (.lst ws) :: σ) G := rfl
theorem fn_0 {t : TSw} {ws : List W} {D : EndsW} {G : Gp} {σ : SW} : wFzN 0 t D (some (.lst ws) :: σ) G = fzL ws G fun zs G' => t D (some (.lst zs) :: σ) G' := rfl
theorem f_1 {t : TSw} {p : Addr} {D : EndsW} {G : Gp} {σ : SW} {a0 : Option W} : wFz 1 t D (a0 :: some (.ref p) :: σ) G = isG (G p) fun ws => t D (a0 :: some (.lst ws) :: σ) (gdel G p) := rfl
theorem fl_1 {t : TSw} {ws : List W} {D : EndsW} {G : Gp} {σ : SW} {a0 : Option W} : wFz 1 t D (a0 :: some (.lst ws) :: σ) G = t D (a0 :: some (.lst ws) :: σ) G := rfl
theorem fn_1 {t : TSw} {ws : List W} {D : EndsW} {G : Gp} {σ : SW} {a0 : Option W} : wFzN 1 t D (a0 :: some (.lst ws) :: σ) G = fzL ws G fun zs G' => t D (a0 :: some (.lst zs) :: σ) G' := rfl
theorem f_2 {t : TSw} {p : Addr} {D : EndsW} {G : Gp} {σ : SW} {a0 a1 : Option W} : wFz 2 t D (a0 :: a1 :: some (.ref p) :: σ) G = isG (G p) fun ws => t D (a0 :: a1 :: some (.lst ws) :: σ) (gdel G p) := rfl
theorem fl_2 {t : TSw} {ws : List W} {D : EndsW} {G : Gp} {σ : SW} {a0 a1 : Option W} : wFz 2 t D (a0 :: a1 :: some (.lst ws) :: σ) G = t D (a0 :: a1 :: some (.lst ws) :: σ) G := rfl
theorem fn_2 {t : TSw} {ws : List W} {D : EndsW} {G : Gp} {σ : SW} {a0 a1 : Option W} : wFzN 2 t D (a0 :: a1 :: some (.lst ws) :: σ) G = fzL ws G fun zs G' => t D (a0 :: a1 :: some (.lst zs) :: σ) G' := rfl
theorem f_3 {t : TSw} {p : Addr} {D : EndsW} {G : Gp} {σ : SW} {a0 a1 a2 : Option W} : wFz 3 t D (a0 :: a1 :: a2 :: some (.ref p) :: σ) G = isG (G p) fun ws => t D (a0 :: a1 :: a2 :: some (.lst ws) :: σ) (gdel G p) := rfl
theorem fl_3 {t : TSw} {ws : List W} {D : EndsW} {G : Gp} {σ : SW} {a0 a1 a2 : Option W} : wFz 3 t D (a0 :: a1 :: a2 :: some (.lst ws) :: σ) G = t D (a0 :: a1 :: a2 :: some (.lst ws) :: σ) G := rfl
theorem fn_3 {t : TSw} {ws : List W} {D : EndsW} {G : Gp} {σ : SW} {a0 a1 a2 : Option W} : wFzN 3 t D (a0 :: a1 :: a2 :: some (.lst ws) :: σ) G = fzL ws G fun zs G' => t D (a0 :: a1 :: a2 :: some (.lst zs) :: σ) G' := rfl
theorem f_4 {t : TSw} {p : Addr} {D : EndsW} {G : Gp} {σ : SW} {a0 a1 a2 a3 : Option W} : wFz 4 t D (a0 :: a1 :: a2 :: a3 :: some (.ref p) :: σ) G = isG (G p) fun ws => t D (a0 :: a1 :: a2 :: a3 :: some (.lst ws) :: σ) (gdel G p) := rfl
theorem fl_4 {t : TSw} {ws : List W} {D : EndsW} {G : Gp} {σ : SW} {a0 a1 a2 a3 : Option W} : wFz 4 t D (a0 :: a1 :: a2 :: a3 :: some (.lst ws) :: σ) G = t D (a0 :: a1 :: a2 :: a3 :: some (.lst ws) :: σ) G := rfl
theorem fn_4 {t : TSw} {ws : List W} {D : EndsW} {G : Gp} {σ : SW} {a0 a1 a2 a3 : Option W} : wFzN 4 t D (a0 :: a1 :: a2 :: a3 :: some (.lst ws) :: σ) G = fzL ws G fun zs G' => t D (a0 :: a1 :: a2 :: a3 :: some (.lst zs) :: σ) G' := rfl
theorem f_5 {t : TSw} {p : Addr} {D : EndsW} {G : Gp} {σ : SW} {a0 a1 a2 a3 a4 : Option W} : wFz 5 t D (a0 :: a1 :: a2 :: a3 :: a4 :: some (.ref p) :: σ) G = isG (G p) fun ws => t D (a0 :: a1 :: a2 :: a3 :: a4 :: some (.lst ws) :: σ) (gdel G p) := rfl
theorem fl_5 {t : TSw} {ws : List W} {D : EndsW} {G : Gp} {σ : SW} {a0 a1 a2 a3 a4 : Option W} : wFz 5 t D (a0 :: a1 :: a2 :: a3 :: a4 :: some (.lst ws) :: σ) G = t D (a0 :: a1 :: a2 :: a3 :: a4 :: some (.lst ws) :: σ) G := rfl
theorem fn_5 {t : TSw} {ws : List W} {D : EndsW} {G : Gp} {σ : SW} {a0 a1 a2 a3 a4 : Option W} : wFzN 5 t D (a0 :: a1 :: a2 :: a3 :: a4 :: some (.lst ws) :: σ) G = fzL ws G fun zs G' => t D (a0 :: a1 :: a2 :: a3 :: a4 :: some (.lst zs) :: σ) G' := rfl
theorem f_6 {t : TSw} {p : Addr} {D : EndsW} {G : Gp} {σ : SW} {a0 a1 a2 a3 a4 a5 : Option W} : wFz 6 t D (a0 :: a1 :: a2 :: a3 :: a4 :: a5 :: some (.ref p) :: σ) G = isG (G p) fun ws => t D (a0 :: a1 :: a2 :: a3 :: a4 :: a5 :: some (.lst ws) :: σ) (gdel G p) := rfl
theorem fl_6 {t : TSw} {ws : List W} {D : EndsW} {G : Gp} {σ : SW} {a0 a1 a2 a3 a4 a5 : Option W} : wFz 6 t D (a0 :: a1 :: a2 :: a3 :: a4 :: a5 :: some (.lst ws) :: σ) G = t D (a0 :: a1 :: a2 :: a3 :: a4 :: a5 :: some (.lst ws) :: σ) G := rfl
theorem fn_6 {t : TSw} {ws : List W} {D : EndsW} {G : Gp} {σ : SW} {a0 a1 a2 a3 a4 a5 : Option W} : wFzN 6 t D (a0 :: a1 :: a2 :: a3 :: a4 :: a5 :: some (.lst ws) :: σ) G = fzL ws G fun zs G' => t D (a0 :: a1 :: a2 :: a3 :: a4 :: a5 :: some (.lst zs) :: σ) G' := rfl
theorem f_7 {t : TSw} {p : Addr} {D : EndsW} {G : Gp} {σ : SW} {a0 a1 a2 a3 a4 a5 a6 : Option W} : wFz 7 t D (a0 :: a1 :: a2 :: a3 :: a4 :: a5 :: a6 :: some (.ref p) :: σ) G = isG (G p) fun ws => t D (a0 :: a1 :: a2 :: a3 :: a4 :: a5 :: a6 :: some (.lst ws) :: σ) (gdel G p) := rfl
theorem fl_7 {t : TSw} {ws : List W} {D : EndsW} {G : Gp} {σ : SW} {a0 a1 a2 a3 a4 a5 a6 : Option W} : wFz 7 t D (a0 :: a1 :: a2 :: a3 :: a4 :: a5 :: a6 :: some (.lst ws) :: σ) G = t D (a0 :: a1 :: a2 :: a3 :: a4 :: a5 :: a6 :: some (.lst ws) :: σ) G := rfl
theorem fn_7 {t : TSw} {ws : List W} {D : EndsW} {G : Gp} {σ : SW} {a0 a1 a2 a3 a4 a5 a6 : Option W} : wFzN 7 t D (a0 :: a1 :: a2 :: a3 :: a4 :: a5 :: a6 :: some (.lst ws) :: σ) G = fzL ws G fun zs G' => t D (a0 :: a1 :: a2 :: a3 :: a4 :: a5 :: a6 :: some (.lst zs) :: σ) G' := rfl
theorem f_8 {t : TSw} {p : Addr} {D : EndsW} {G : Gp} {σ : SW} {a0 a1 a2 a3 a4 a5 a6 a7 : Option W} : wFz 8 t D (a0 :: a1 :: a2 :: a3 :: a4 :: a5 :: a6 :: a7 :: some (.ref p) :: σ) G = isG (G p) fun ws => t D (a0 :: a1 :: a2 :: a3 :: a4 :: a5 :: a6 :: a7 :: some (.lst ws) :: σ) (gdel G p) := rfl
theorem fl_8 {t : TSw} {ws : List W} {D : EndsW} {G : Gp} {σ : SW} {a0 a1 a2 a3 a4 a5 a6 a7 : Option W} : wFz 8 t D (a0 :: a1 :: a2 :: a3 :: a4 :: a5 :: a6 :: a7 :: some (.lst ws) :: σ) G = t D (a0 :: a1 :: a2 :: a3 :: a4 :: a5 :: a6 :: a7 :: some (.lst ws) :: σ) G := rfl
theorem fn_8 {t : TSw} {ws : List W} {D : EndsW} {G : Gp} {σ : SW} {a0 a1 a2 a3 a4 a5 a6 a7 : Option W} : wFzN 8 t D (a0 :: a1 :: a2 :: a3 :: a4 :: a5 :: a6 :: a7 :: some (.lst ws) :: σ) G = fzL ws G fun zs G' => t D (a0 :: a1 :: a2 :: a3 :: a4 :: a5 :: a6 :: a7 :: some (.lst zs) :: σ) G' := rfl
theorem f_9 {t : TSw} {p : Addr} {D : EndsW} {G : Gp} {σ : SW} {a0 a1 a2 a3 a4 a5 a6 a7 a8 : Option W} : wFz 9 t D (a0 :: a1 :: a2 :: a3 :: a4 :: a5 :: a6 :: a7 :: a8 :: some (.ref p) :: σ) G = isG (G p) fun ws => t D (a0 :: a1 :: a2 :: a3 :: a4 :: a5 :: a6 :: a7 :: a8 :: some (.lst ws) :: σ) (gdel G p) := rfl
theorem fl_9 {t : TSw} {ws : List W} {D : EndsW} {G : Gp} {σ : SW} {a0 a1 a2 a3 a4 a5 a6 a7 a8 : Option W} : wFz 9 t D (a0 :: a1 :: a2 :: a3 :: a4 :: a5 :: a6 :: a7 :: a8 :: some (.lst ws) :: σ) G = t D (a0 :: a1 :: a2 :: a3 :: a4 :: a5 :: a6 :: a7 :: a8 :: some (.lst ws) :: σ) G := rfl
theorem fn_9 {t : TSw} {ws : List W} {D : EndsW} {G : Gp} {σ : SW} {a0 a1 a2 a3 a4 a5 a6 a7 a8 : Option W} : wFzN 9 t D (a0 :: a1 :: a2 :: a3 :: a4 :: a5 :: a6 :: a7 :: a8 :: some (.lst ws) :: σ) G = fzL ws G fun zs G' => t D (a0 :: a1 :: a2 :: a3 :: a4 :: a5 :: a6 :: a7 :: a8 :: some (.lst zs) :: σ) G' := rfl
theorem f_10 {t : TSw} {p : Addr} {D : EndsW} {G : Gp} {σ : SW} {a0 a1 a2 a3 a4 a5 a6 a7 a8 a9 : Option W} : wFz 10 t D (a0 :: a1 :: a2 :: a3 :: a4 :: a5 :: a6 :: a7 :: a8 :: a9 :: some (.ref p) :: σ) G = isG (G p) fun ws => t D (a0 :: a1 :: a2 :: a3 :: a4 :: a5 :: a6 :: a7 :: a8 :: a9 :: some (.lst ws) :: σ) (gdel G p) := rfl
theorem fl_10 {t : TSw} {ws : List W} {D : EndsW} {G : Gp} {σ : SW} {a0 a1 a2 a3 a4 a5 a6 a7 a8 a9 : Option W} : wFz 10 t D (a0 :: a1 :: a2 :: a3 :: a4 :: a5 :: a6 :: a7 :: a8 :: a9 :: some (.lst ws) :: σ) G = t D (a0 :: a1 :: a2 :: a3 :: a4 :: a5 :: a6 :: a7 :: a8 :: a9 :: some (.lst ws) :: σ) G := rfl
theorem fn_10 {t : TSw} {ws : List W} {D : EndsW} {G : Gp} {σ : SW} {a0 a1 a2 a3 a4 a5 a6 a7 a8 a9 : Option W} : wFzN 10 t D (a0 :: a1 :: a2 :: a3 :: a4 :: a5 :: a6 :: a7 :: a8 :: a9 :: some (.lst ws) :: σ) G = fzL ws G fun zs G' => t D (a0 :: a1 :: a2 :: a3 :: a4 :: a5 :: a6 :: a7 :: a8 :: a9 :: some (.lst zs) :: σ) G' := rfl
theorem f_11 {t : TSw} {p : Addr} {D : EndsW} {G : Gp} {σ : SW} {a0 a1 a2 a3 a4 a5 a6 a7 a8 a9 a10 : Option W} : wFz 11 t D (a0 :: a1 :: a2 :: a3 :: a4 :: a5 :: a6 :: a7 :: a8 :: a9 :: a10 :: some (.ref p) :: σ) G = isG (G p) fun ws => t D (a0 :: a1 :: a2 :: a3 :: a4 :: a5 :: a6 :: a7 :: a8 :: a9 :: a10 :: some (.lst ws) :: σ) (gdel G p) := rfl
theorem fl_11 {t : TSw} {ws : List W} {D : EndsW} {G : Gp} {σ : SW} {a0 a1 a2 a3 a4 a5 a6 a7 a8 a9 a10 : Option W} : wFz 11 t D (a0 :: a1 :: a2 :: a3 :: a4 :: a5 :: a6 :: a7 :: a8 :: a9 :: a10 :: some (.lst ws) :: σ) G = t D (a0 :: a1 :: a2 :: a3 :: a4 :: a5 :: a6 :: a7 :: a8 :: a9 :: a10 :: some (.lst ws) :: σ) G := rfl
theorem fn_11 {t : TSw} {ws : List W} {D : EndsW} {G : Gp} {σ : SW} {a0 a1 a2 a3 a4 a5 a6 a7 a8 a9 a10 : Option W} : wFzN 11 t D (a0 :: a1 :: a2 :: a3 :: a4 :: a5 :: a6 :: a7 :: a8 :: a9 :: a10 :: some (.lst ws) :: σ) G = fzL ws G fun zs G' => t D (a0 :: a1 :: a2 :: a3 :: a4 :: a5 :: a6 :: a7 :: a8 :: a9 :: a10 :: some (.lst zs) :: σ) G' := rfl
theorem f_12 {t : TSw} {p : Addr} {D : EndsW} {G : Gp} {σ : SW} {a0 a1 a2 a3 a4 a5 a6 a7 a8 a9 a10 a11 : Option W} : wFz 12 t D (a0 :: a1 :: a2 :: a3 :: a4 :: a5 :: a6 :: a7 :: a8 :: a9 :: a10 :: a11 :: some (.ref p) :: σ) G = isG (G p) fun ws => t D (a0 :: a1 :: a2 :: a3 :: a4 :: a5 :: a6 :: a7 :: a8 :: a9 :: a10 :: a11 :: some (.lst ws) :: σ) (gdel G p) := rfl
theorem fl_12 {t : TSw} {ws : List W} {D : EndsW} {G : Gp} {σ : SW} {a0 a1 a2 a3 a4 a5 a6 a7 a8 a9 a10 a11 : Option W} : wFz 12 t D (a0 :: a1 :: a2 :: a3 :: a4 :: a5 :: a6 :: a7 :: a8 :: a9 :: a10 :: a11 :: some (.lst ws) :: σ) G = t D (a0 :: a1 :: a2 :: a3 :: a4 :: a5 :: a6 :: a7 :: a8 :: a9 :: a10 :: a11 :: some (.lst ws) :: σ) G := rfl
theorem fn_12 {t : TSw} {ws : List W} {D : EndsW} {G : Gp} {σ : SW} {a0 a1 a2 a3 a4 a5 a6 a7 a8 a9 a10 a11 : Option W} : wFzN 12 t D (a0 :: a1 :: a2 :: a3 :: a4 :: a5 :: a6 :: a7 :: a8 :: a9 :: a10 :: a11 :: some (.lst ws) :: σ) G = fzL ws G fun zs G' => t D (a0 :: a1 :: a2 :: a3 :: a4 :: a5 :: a6 :: a7 :: a8 :: a9 :: a10 :: a11 :: some (.lst zs) :: σ) G' := rfl
theorem f_13 {t : TSw} {p : Addr} {D : EndsW} {G : Gp} {σ : SW} {a0 a1 a2 a3 a4 a5 a6 a7 a8 a9 a10 a11 a12 : Option W} : wFz 13 t D (a0 :: a1 :: a2 :: a3 :: a4 :: a5 :: a6 :: a7 :: a8 :: a9 :: a10 :: a11 :: a12 :: some (.ref p) :: σ) G = isG (G p) fun ws => t D (a0 :: a1 :: a2 :: a3 :: a4 :: a5 :: a6 :: a7 :: a8 :: a9 :: a10 :: a11 :: a12 :: some (.lst ws) :: σ) (gdel G p) := rfl
theorem fl_13 {t : TSw} {ws : List W} {D : EndsW} {G : Gp} {σ : SW} {a0 a1 a2 a3 a4 a5 a6 a7 a8 a9 a10 a11 a12 : Option W} : wFz 13 t D (a0 :: a1 :: a2 :: a3 :: a4 :: a5 :: a6 :: a7 :: a8 :: a9 :: a10 :: a11 :: a12 :: some (.lst ws) :: σ) G = t D (a0 :: a1 :: a2 :: a3 :: a4 :: a5 :: a6 :: a7 :: a8 :: a9 :: a10 :: a11 :: a12 :: some (.lst ws) :: σ) G := rfl
theorem fn_13 {t : TSw} {ws : List W} {D : EndsW} {G : Gp} {σ : SW} {a0 a1 a2 a3 a4 a5 a6 a7 a8 a9 a10 a11 a12 : Option W} : wFzN 13 t D (a0 :: a1 :: a2 :: a3 :: a4 :: a5 :: a6 :: a7 :: a8 :: a9 :: a10 :: a11 :: a12 :: some (.lst ws) :: σ) G = fzL ws G fun zs G' => t D (a0 :: a1 :: a2 :: a3 :: a4 :: a5 :: a6 :: a7 :: a8 :: a9 :: a10 :: a11 :: a12 :: some (.lst zs) :: σ) G' := rfl
theorem f_14 {t : TSw} {p : Addr} {D : EndsW} {G : Gp} {σ : SW} {a0 a1 a2 a3 a4 a5 a6 a7 a8 a9 a10 a11 a12 a13 : Option W} : wFz 14 t D (a0 :: a1 :: a2 :: a3 :: a4 :: a5 :: a6 :: a7 :: a8 :: a9 :: a10 :: a11 :: a12 :: a13 :: some (.ref p) :: σ) G = isG (G p) fun ws => t D (a0 :: a1 :: a2 :: a3 :: a4 :: a5 :: a6 :: a7 :: a8 :: a9 :: a10 :: a11 :: a12 :: a13 :: some (.lst ws) :: σ) (gdel G p) := rfl
theorem fl_14 {t : TSw} {ws : List W} {D : EndsW} {G : Gp} {σ : SW} {a0 a1 a2 a3 a4 a5 a6 a7 a8 a9 a10 a11 a12 a13 : Option W} : wFz 14 t D (a0 :: a1 :: a2 :: a3 :: a4 :: a5 :: a6 :: a7 :: a8 :: a9 :: a10 :: a11 :: a12 :: a13 :: some (.lst ws) :: σ) G = t D (a0 :: a1 :: a2 :: a3 :: a4 :: a5 :: a6 :: a7 :: a8 :: a9 :: a10 :: a11 :: a12 :: a13 :: some (.lst ws) :: σ) G := rfl
theorem fn_14 {t : TSw} {ws : List W} {D : EndsW} {G : Gp} {σ : SW} {a0 a1 a2 a3 a4 a5 a6 a7 a8 a9 a10 a11 a12 a13 : Option W} : wFzN 14 t D (a0 :: a1 :: a2 :: a3 :: a4 :: a5 :: a6 :: a7 :: a8 :: a9 :: a10 :: a11 :: a12 :: a13 :: some (.lst ws) :: σ) G = fzL ws G fun zs G' => t D (a0 :: a1 :: a2 :: a3 :: a4 :: a5 :: a6 :: a7 :: a8 :: a9 :: a10 :: a11 :: a12 :: a13 :: some (.lst zs) :: σ) G' := rfl
theorem f_15 {t : TSw} {p : Addr} {D : EndsW} {G : Gp} {σ : SW} {a0 a1 a2 a3 a4 a5 a6 a7 a8 a9 a10 a11 a12 a13 a14 : Option W} : wFz 15 t D (a0 :: a1 :: a2 :: a3 :: a4 :: a5 :: a6 :: a7 :: a8 :: a9 :: a10 :: a11 :: a12 :: a13 :: a14 :: some (.ref p) :: σ) G = isG (G p) fun ws => t D (a0 :: a1 :: a2 :: a3 :: a4 :: a5 :: a6 :: a7 :: a8 :: a9 :: a10 :: a11 :: a12 :: a13 :: a14 :: some (.lst ws) :: σ) (gdel G p) := rfl
theorem fl_15 {t : TSw} {ws : List W} {D : EndsW} {G : Gp} {σ : SW} {a0 a1 a2 a3 a4 a5 a6 a7 a8 a9 a10 a11 a12 a13 a14 : Option W} : wFz 15 t D (a0 :: a1 :: a2 :: a3 :: a4 :: a5 :: a6 :: a7 :: a8 :: a9 :: a10 :: a11 :: a12 :: a13 :: a14 :: some (.lst ws) :: σ) G = t D (a0 :: a1 :: a2 :: a3 :: a4 :: a5 :: a6 :: a7 :: a8 :: a9 :: a10 :: a11 :: a12 :: a13 :: a14 :: some (.lst ws) :: σ) G := rfl
theorem fn_15 {t : TSw} {ws : List W} {D : EndsW} {G : Gp} {σ : SW} {a0 a1 a2 a3 a4 a5 a6 a7 a8 a9 a10 a11 a12 a13 a14 : Option W} : wFzN 15 t D (a0 :: a1 :: a2 :: a3 :: a4 :: a5 :: a6 :: a7 :: a8 :: a9 :: a10 :: a11 :: a12 :: a13 :: a14 :: some (.lst ws) :: σ) G = fzL ws G fun zs G' => t D (a0 :: a1 :: a2 :: a3 :: a4 :: a5 :: a6 :: a7 :: a8 :: a9 :: a10 :: a11 :: a12 :: a13 :: a14 :: some (.lst zs) :: σ) G' := rfl
theorem f_16 {t : TSw} {p : Addr} {D : EndsW} {G : Gp} {σ : SW} {a0 a1 a2 a3 a4 a5 a6 a7 a8 a9 a10 a11 a12 a13 a14 a15 : Option W} : wFz 16 t D (a0 :: a1 :: a2 :: a3 :: a4 :: a5 :: a6 :: a7 :: a8 :: a9 :: a10 :: a11 :: a12 :: a13 :: a14 :: a15 :: some (.ref p) :: σ) G = isG (G p) fun ws => t D (a0 :: a1 :: a2 :: a3 :: a4 :: a5 :: a6 :: a7 :: a8 :: a9 :: a10 :: a11 :: a12 :: a13 :: a14 :: a15 :: some (.lst ws) :: σ) (gdel G p) := rfl
theorem fl_16 {t : TSw} {ws : List W} {D : EndsW} {G : Gp} {σ : SW} {a0 a1 a2 a3 a4 a5 a6 a7 a8 a9 a10 a11 a12 a13 a14 a15 : Option W} : wFz 16 t D (a0 :: a1 :: a2 :: a3 :: a4 :: a5 :: a6 :: a7 :: a8 :: a9 :: a10 :: a11 :: a12 :: a13 :: a14 :: a15 :: some (.lst ws) :: σ) G = t D (a0 :: a1 :: a2 :: a3 :: a4 :: a5 :: a6 :: a7 :: a8 :: a9 :: a10 :: a11 :: a12 :: a13 :: a14 :: a15 :: some (.lst ws) :: σ) G := rfl
theorem fn_16 {t : TSw} {ws : List W} {D : EndsW} {G : Gp} {σ : SW} {a0 a1 a2 a3 a4 a5 a6 a7 a8 a9 a10 a11 a12 a13 a14 a15 : Option W} : wFzN 16 t D (a0 :: a1 :: a2 :: a3 :: a4 :: a5 :: a6 :: a7 :: a8 :: a9 :: a10 :: a11 :: a12 :: a13 :: a14 :: a15 :: some (.lst ws) :: σ) G = fzL ws G fun zs G' => t D (a0 :: a1 :: a2 :: a3 :: a4 :: a5 :: a6 :: a7 :: a8 :: a9 :: a10 :: a11 :: a12 :: a13 :: a14 :: a15 :: some (.lst zs) :: σ) G' := rfl
theorem f_17 {t : TSw} {p : Addr} {D : EndsW} {G : Gp} {σ : SW} {a0 a1 a2 a3 a4 a5 a6 a7 a8 a9 a10 a11 a12 a13 a14 a15 a16 : Option W} : wFz 17 t D (a0 :: a1 :: a2 :: a3 :: a4 :: a5 :: a6 :: a7 :: a8 :: a9 :: a10 :: a11 :: a12 :: a13 :: a14 :: a15 :: a16 :: some (.ref p) :: σ) G = isG (G p) fun ws => t D (a0 :: a1 :: a2 :: a3 :: a4 :: a5 :: a6 :: a7 :: a8 :: a9 :: a10 :: a11 :: a12 :: a13 :: a14 :: a15 :: a16 :: some (.lst ws) :: σ) (gdel G p) := rfl
theorem fl_17 {t : TSw} {ws : List W} {D : EndsW} {G : Gp} {σ : SW} {a0 a1 a2 a3 a4 a5 a6 a7 a8 a9 a10 a11 a12 a13 a14 a15 a16 : Option W} : wFz 17 t D (a0 :: a1 :: a2 :: a3 :: a4 :: a5 :: a6 :: a7 :: a8 :: a9 :: a10 :: a11 :: a12 :: a13 :: a14 :: a15 :: a16 :: some (.lst ws) :: σ) G = t D (a0 :: a1 :: a2 :: a3 :: a4 :: a5 :: a6 :: a7 :: a8 :: a9 :: a10 :: a11 :: a12 :: a13 :: a14 :: a15 :: a16 :: some (.lst ws) :: σ) G := rfl
theorem fn_17 {t : TSw} {ws : List W} {D : EndsW} {G : Gp} {σ : SW} {a0 a1 a2 a3 a4 a5 a6 a7 a8 a9 a10 a11 a12 a13 a14 a15 a16 : Option W} : wFzN 17 t D (a0 :: a1 :: a2 :: a3 :: a4 :: a5 :: a6 :: a7 :: a8 :: a9 :: a10 :: a11 :: a12 :: a13 :: a14 :: a15 :: a16 :: some (.lst ws) :: σ) G = fzL ws G fun zs G' => t D (a0 :: a1 :: a2 :: a3 :: a4 :: a5 :: a6 :: a7 :: a8 :: a9 :: a10 :: a11 :: a12 :: a13 :: a14 :: a15 :: a16 :: some (.lst zs) :: σ) G' := rfl
theorem f_18 {t : TSw} {p : Addr} {D : EndsW} {G : Gp} {σ : SW} {a0 a1 a2 a3 a4 a5 a6 a7 a8 a9 a10 a11 a12 a13 a14 a15 a16 a17 : Option W} : wFz 18 t D (a0 :: a1 :: a2 :: a3 :: a4 :: a5 :: a6 :: a7 :: a8 :: a9 :: a10 :: a11 :: a12 :: a13 :: a14 :: a15 :: a16 :: a17 :: some (.ref p) :: σ) G = isG (G p) fun ws => t D (a0 :: a1 :: a2 :: a3 :: a4 :: a5 :: a6 :: a7 :: a8 :: a9 :: a10 :: a11 :: a12 :: a13 :: a14 :: a15 :: a16 :: a17 :: some (.lst ws) :: σ) (gdel G p) := rfl
theorem fl_18 {t : TSw} {ws : List W} {D : EndsW} {G : Gp} {σ : SW} {a0 a1 a2 a3 a4 a5 a6 a7 a8 a9 a10 a11 a12 a13 a14 a15 a16 a17 : Option W} : wFz 18 t D (a0 :: a1 :: a2 :: a3 :: a4 :: a5 :: a6 :: a7 :: a8 :: a9 :: a10 :: a11 :: a12 :: a13 :: a14 :: a15 :: a16 :: a17 :: some (.lst ws) :: σ) G = t D (a0 :: a1 :: a2 :: a3 :: a4 :: a5 :: a6 :: a7 :: a8 :: a9 :: a10 :: a11 :: a12 :: a13 :: a14 :: a15 :: a16 :: a17 :: some (.lst ws) :: σ) G := rfl
theorem fn_18 {t : TSw} {ws : List W} {D : EndsW} {G : Gp} {σ : SW} {a0 a1 a2 a3 a4 a5 a6 a7 a8 a9 a10 a11 a12 a13 a14 a15 a16 a17 : Option W} : wFzN 18 t D (a0 :: a1 :: a2 :: a3 :: a4 :: a5 :: a6 :: a7 :: a8 :: a9 :: a10 :: a11 :: a12 :: a13 :: a14 :: a15 :: a16 :: a17 :: some (.lst ws) :: σ) G = fzL ws G fun zs G' => t D (a0 :: a1 :: a2 :: a3 :: a4 :: a5 :: a6 :: a7 :: a8 :: a9 :: a10 :: a11 :: a12 :: a13 :: a14 :: a15 :: a16 :: a17 :: some (.lst zs) :: σ) G' := rfl
theorem f_19 {t : TSw} {p : Addr} {D : EndsW} {G : Gp} {σ : SW} {a0 a1 a2 a3 a4 a5 a6 a7 a8 a9 a10 a11 a12 a13 a14 a15 a16 a17 a18 : Option W} : wFz 19 t D (a0 :: a1 :: a2 :: a3 :: a4 :: a5 :: a6 :: a7 :: a8 :: a9 :: a10 :: a11 :: a12 :: a13 :: a14 :: a15 :: a16 :: a17 :: a18 :: some (.ref p) :: σ) G = isG (G p) fun ws => t D (a0 :: a1 :: a2 :: a3 :: a4 :: a5 :: a6 :: a7 :: a8 :: a9 :: a10 :: a11 :: a12 :: a13 :: a14 :: a15 :: a16 :: a17 :: a18 :: some (.lst ws) :: σ) (gdel G p) := rfl
theorem fl_19 {t : TSw} {ws : List W} {D : EndsW} {G : Gp} {σ : SW} {a0 a1 a2 a3 a4 a5 a6 a7 a8 a9 a10 a11 a12 a13 a14 a15 a16 a17 a18 : Option W} : wFz 19 t D (a0 :: a1 :: a2 :: a3 :: a4 :: a5 :: a6 :: a7 :: a8 :: a9 :: a10 :: a11 :: a12 :: a13 :: a14 :: a15 :: a16 :: a17 :: a18 :: some (.lst ws) :: σ) G = t D (a0 :: a1 :: a2 :: a3 :: a4 :: a5 :: a6 :: a7 :: a8 :: a9 :: a10 :: a11 :: a12 :: a13 :: a14 :: a15 :: a16 :: a17 :: a18 :: some (.lst ws) :: σ) G := rfl
theorem fn_19 {t : TSw} {ws : List W} {D : EndsW} {G : Gp} {σ : SW} {a0 a1 a2 a3 a4 a5 a6 a7 a8 a9 a10 a11 a12 a13 a14 a15 a16 a17 a18 : Option W} : wFzN 19 t D (a0 :: a1 :: a2 :: a3 :: a4 :: a5 :: a6 :: a7 :: a8 :: a9 :: a10 :: a11 :: a12 :: a13 :: a14 :: a15 :: a16 :: a17 :: a18 :: some (.lst ws) :: σ) G = fzL ws G fun zs G' => t D (a0 :: a1 :: a2 :: a3 :: a4 :: a5 :: a6 :: a7 :: a8 :: a9 :: a10 :: a11 :: a12 :: a13 :: a14 :: a15 :: a16 :: a17 :: a18 :: some (.lst zs) :: σ) G' := rfl
theorem f_20 {t : TSw} {p : Addr} {D : EndsW} {G : Gp} {σ : SW} {a0 a1 a2 a3 a4 a5 a6 a7 a8 a9 a10 a11 a12 a13 a14 a15 a16 a17 a18 a19 : Option W} : wFz 20 t D (a0 :: a1 :: a2 :: a3 :: a4 :: a5 :: a6 :: a7 :: a8 :: a9 :: a10 :: a11 :: a12 :: a13 :: a14 :: a15 :: a16 :: a17 :: a18 :: a19 :: some (.ref p) :: σ) G = isG (G p) fun ws => t D (a0 :: a1 :: a2 :: a3 :: a4 :: a5 :: a6 :: a7 :: a8 :: a9 :: a10 :: a11 :: a12 :: a13 :: a14 :: a15 :: a16 :: a17 :: a18 :: a19 :: some (.lst ws) :: σ) (gdel G p) := rfl
theorem fl_20 {t : TSw} {ws : List W} {D : EndsW} {G : Gp} {σ : SW} {a0 a1 a2 a3 a4 a5 a6 a7 a8 a9 a10 a11 a12 a13 a14 a15 a16 a17 a18 a19 : Option W} : wFz 20 t D (a0 :: a1 :: a2 :: a3 :: a4 :: a5 :: a6 :: a7 :: a8 :: a9 :: a10 :: a11 :: a12 :: a13 :: a14 :: a15 :: a16 :: a17 :: a18 :: a19 :: some (.lst ws) :: σ) G = t D (a0 :: a1 :: a2 :: a3 :: a4 :: a5 :: a6 :: a7 :: a8 :: a9 :: a10 :: a11 :: a12 :: a13 :: a14 :: a15 :: a16 :: a17 :: a18 :: a19 :: some (.lst ws) :: σ) G := rfl
theorem fn_20 {t : TSw} {ws : List W} {D : EndsW} {G : Gp} {σ : SW} {a0 a1 a2 a3 a4 a5 a6 a7 a8 a9 a10 a11 a12 a13 a14 a15 a16 a17 a18 a19 : Option W} : wFzN 20 t D (a0 :: a1 :: a2 :: a3 :: a4 :: a5 :: a6 :: a7 :: a8 :: a9 :: a10 :: a11 :: a12 :: a13 :: a14 :: a15 :: a16 :: a17 :: a18 :: a19 :: some (.lst ws) :: σ) G = fzL ws G fun zs G' => t D (a0 :: a1 :: a2 :: a3 :: a4 :: a5 :: a6 :: a7 :: a8 :: a9 :: a10 :: a11 :: a12 :: a13 :: a14 :: a15 :: a16 :: a17 :: a18 :: a19 :: some (.lst zs) :: σ) G' := rfl
theorem f_21 {t : TSw} {p : Addr} {D : EndsW} {G : Gp} {σ : SW} {a0 a1 a2 a3 a4 a5 a6 a7 a8 a9 a10 a11 a12 a13 a14 a15 a16 a17 a18 a19 a20 : Option W} : wFz 21 t D (a0 :: a1 :: a2 :: a3 :: a4 :: a5 :: a6 :: a7 :: a8 :: a9 :: a10 :: a11 :: a12 :: a13 :: a14 :: a15 :: a16 :: a17 :: a18 :: a19 :: a20 :: some (.ref p) :: σ) G = isG (G p) fun ws => t D (a0 :: a1 :: a2 :: a3 :: a4 :: a5 :: a6 :: a7 :: a8 :: a9 :: a10 :: a11 :: a12 :: a13 :: a14 :: a15 :: a16 :: a17 :: a18 :: a19 :: a20 :: some (.lst ws) :: σ) (gdel G p) := rfl
theorem fl_21 {t : TSw} {ws : List W} {D : EndsW} {G : Gp} {σ : SW} {a0 a1 a2 a3 a4 a5 a6 a7 a8 a9 a10 a11 a12 a13 a14 a15 a16 a17 a18 a19 a20 : Option W} : wFz 21 t D (a0 :: a1 :: a2 :: a3 :: a4 :: a5 :: a6 :: a7 :: a8 :: a9 :: a10 :: a11 :: a12 :: a13 :: a14 :: a15 :: a16 :: a17 :: a18 :: a19 :: a20 :: some (.lst ws) :: σ) G = t D (a0 :: a1 :: a2 :: a3 :: a4 :: a5 :: a6 :: a7 :: a8 :: a9 :: a10 :: a11 :: a12 :: a13 :: a14 :: a15 :: a16 :: a17 :: a18 :: a19 :: a20 :: some (.lst ws) :: σ) G := rfl
theorem fn_21 {t : TSw} {ws : List W} {D : EndsW} {G : Gp} {σ : SW} {a0 a1 a2 a3 a4 a5 a6 a7 a8 a9 a10 a11 a12 a13 a14 a15 a16 a17 a18 a19 a20 : Option W} : wFzN 21 t D (a0 :: a1 :: a2 :: a3 :: a4 :: a5 :: a6 :: a7 :: a8 :: a9 :: a10 :: a11 :: a12 :: a13 :: a14 :: a15 :: a16 :: a17 :: a18 :: a19 :: a20 :: some (.lst ws) :: σ) G = fzL ws G fun zs G' => t D (a0 :: a1 :: a2 :: a3 :: a4 :: a5 :: a6 :: a7 :: a8 :: a9 :: a10 :: a11 :: a12 :: a13 :: a14 :: a15 :: a16 :: a17 :: a18 :: a19 :: a20 :: some (.lst zs) :: σ) G' := rfl
theorem f_22 {t : TSw} {p : Addr} {D : EndsW} {G : Gp} {σ : SW} {a0 a1 a2 a3 a4 a5 a6 a7 a8 a9 a10 a11 a12 a13 a14 a15 a16 a17 a18 a19 a20 a21 : Option W} : wFz 22 t D (a0 :: a1 :: a2 :: a3 :: a4 :: a5 :: a6 :: a7 :: a8 :: a9 :: a10 :: a11 :: a12 :: a13 :: a14 :: a15 :: a16 :: a17 :: a18 :: a19 :: a20 :: a21 :: some (.ref p) :: σ) G = isG (G p) fun ws => t D (a0 :: a1 :: a2 :: a3 :: a4 :: a5 :: a6 :: a7 :: a8 :: a9 :: a10 :: a11 :: a12 :: a13 :: a14 :: a15 :: a16 :: a17 :: a18 :: a19 :: a20 :: a21 :: some (.lst ws) :: σ) (gdel G p) := rfl
theorem fl_22 {t : TSw} {ws : List W} {D : EndsW} {G : Gp} {σ : SW} {a0 a1 a2 a3 a4 a5 a6 a7 a8 a9 a10 a11 a12 a13 a14 a15 a16 a17 a18 a19 a20 a21 : Option W} : wFz 22 t D (a0 :: a1 :: a2 :: a3 :: a4 :: a5 :: a6 :: a7 :: a8 :: a9 :: a10 :: a11 :: a12 :: a13 :: a14 :: a15 :: a16 :: a17 :: a18 :: a19 :: a20 :: a21 :: some (.lst ws) :: σ) G = t D (a0 :: a1 :: a2 :: a3 :: a4 :: a5 :: a6 :: a7 :: a8 :: a9 :: a10 :: a11 :: a12 :: a13 :: a14 :: a15 :: a16 :: a17 :: a18 :: a19 :: a20 :: a21 :: some (.lst ws) :: σ) G := rfl
theorem fn_22 {t : TSw} {ws : List W} {D : EndsW} {G : Gp} {σ : SW} {a0 a1 a2 a3 a4 a5 a6 a7 a8 a9 a10 a11 a12 a13 a14 a15 a16 a17 a18 a19 a20 a21 : Option W} : wFzN 22 t D (a0 :: a1 :: a2 :: a3 :: a4 :: a5 :: a6 :: a7 :: a8 :: a9 :: a10 :: a11 :: a12 :: a13 :: a14 :: a15 :: a16 :: a17 :: a18 :: a19 :: a20 :: a21 :: some (.lst ws) :: σ) G = fzL ws G fun zs G' => t D (a0 :: a1 :: a2 :: a3 :: a4 :: a5 :: a6 :: a7 :: a8 :: a9 :: a10 :: a11 :: a12 :: a13 :: a14 :: a15 :: a16 :: a17 :: a18 :: a19 :: a20 :: a21 :: some (.lst zs) :: σ) G' := rfl
theorem f_23 {t : TSw} {p : Addr} {D : EndsW} {G : Gp} {σ : SW} {a0 a1 a2 a3 a4 a5 a6 a7 a8 a9 a10 a11 a12 a13 a14 a15 a16 a17 a18 a19 a20 a21 a22 : Option W} : wFz 23 t D (a0 :: a1 :: a2 :: a3 :: a4 :: a5 :: a6 :: a7 :: a8 :: a9 :: a10 :: a11 :: a12 :: a13 :: a14 :: a15 :: a16 :: a17 :: a18 :: a19 :: a20 :: a21 :: a22 :: some (.ref p) :: σ) G = isG (G p) fun ws => t D (a0 :: a1 :: a2 :: a3 :: a4 :: a5 :: a6 :: a7 :: a8 :: a9 :: a10 :: a11 :: a12 :: a13 :: a14 :: a15 :: a16 :: a17 :: a18 :: a19 :: a20 :: a21 :: a22 :: some (.lst ws) :: σ) (gdel G p) := rfl
theorem fl_23 {t : TSw} {ws : List W} {D : EndsW} {G : Gp} {σ : SW} {a0 a1 a2 a3 a4 a5 a6 a7 a8 a9 a10 a11 a12 a13 a14 a15 a16 a17 a18 a19 a20 a21 a22 : Option W} : wFz 23 t D (a0 :: a1 :: a2 :: a3 :: a4 :: a5 :: a6 :: a7 :: a8 :: a9 :: a10 :: a11 :: a12 :: a13 :: a14 :: a15 :: a16 :: a17 :: a18 :: a19 :: a20 :: a21 :: a22 :: some (.lst ws) :: σ) G = t D (a0 :: a1 :: a2 :: a3 :: a4 :: a5 :: a6 :: a7 :: a8 :: a9 :: a10 :: a11 :: a12 :: a13 :: a14 :: a15 :: a16 :: a17 :: a18 :: a19 :: a20 :: a21 :: a22 :: some (.lst ws) :: σ) G := rfl
theorem fn_23 {t : TSw} {ws : List W} {D : EndsW} {G : Gp} {σ : SW} {a0 a1 a2 a3 a4 a5 a6 a7 a8 a9 a10 a11 a12 a13 a14 a15 a16 a17 a18 a19 a20 a21 a22 : Option W} : wFzN 23 t D (a0 :: a1 :: a2 :: a3 :: a4 :: a5 :: a6 :: a7 :: a8 :: a9 :: a10 :: a11 :: a12 :: a13 :: a14 :: a15 :: a16 :: a17 :: a18 :: a19 :: a20 :: a21 :: a22 :: some (.lst ws) :: σ) G = fzL ws G fun zs G' => t D (a0 :: a1 :: a2 :: a3 :: a4 :: a5 :: a6 :: a7 :: a8 :: a9 :: a10 :: a11 :: a12 :: a13 :: a14 :: a15 :: a16 :: a17 :: a18 :: a19 :: a20 :: a21 :: a22 :: some (.lst zs) :: σ) G' := rfl
theorem f_24 {t : TSw} {p : Addr} {D : EndsW} {G : Gp} {σ : SW} {a0 a1 a2 a3 a4 a5 a6 a7 a8 a9 a10 a11 a12 a13 a14 a15 a16 a17 a18 a19 a20 a21 a22 a23 : Option W} : wFz 24 t D (a0 :: a1 :: a2 :: a3 :: a4 :: a5 :: a6 :: a7 :: a8 :: a9 :: a10 :: a11 :: a12 :: a13 :: a14 :: a15 :: a16 :: a17 :: a18 :: a19 :: a20 :: a21 :: a22 :: a23 :: some (.ref p) :: σ) G = isG (G p) fun ws => t D (a0 :: a1 :: a2 :: a3 :: a4 :: a5 :: a6 :: a7 :: a8 :: a9 :: a10 :: a11 :: a12 :: a13 :: a14 :: a15 :: a16 :: a17 :: a18 :: a19 :: a20 :: a21 :: a22 :: a23 :: some (.lst ws) :: σ) (gdel G p) := rfl
theorem fl_24 {t : TSw} {ws : List W} {D : EndsW} {G : Gp} {σ : SW} {a0 a1 a2 a3 a4 a5 a6 a7 a8 a9 a10 a11 a12 a13 a14 a15 a16 a17 a18 a19 a20 a21 a22 a23 : Option W} : wFz 24 t D (a0 :: a1 :: a2 :: a3 :: a4 :: a5 :: a6 :: a7 :: a8 :: a9 :: a10 :: a11 :: a12 :: a13 :: a14 :: a15 :: a16 :: a17 :: a18 :: a19 :: a20 :: a21 :: a22 :: a23 :: some (.lst ws) :: σ) G = t D (a0 :: a1 :: a2 :: a3 :: a4 :: a5 :: a6 :: a7 :: a8 :: a9 :: a10 :: a11 :: a12 :: a13 :: a14 :: a15 :: a16 :: a17 :: a18 :: a19 :: a20 :: a21 :: a22 :: a23 :: some (.lst ws) :: σ) G := rfl
theorem fn_24 {t : TSw} {ws : List W} {D : EndsW} {G : Gp} {σ : SW} {a0 a1 a2 a3 a4 a5 a6 a7 a8 a9 a10 a11 a12 a13 a14 a15 a16 a17 a18 a19 a20 a21 a22 a23 : Option W} : wFzN 24 t D (a0 :: a1 :: a2 :: a3 :: a4 :: a5 :: a6 :: a7 :: a8 :: a9 :: a10 :: a11 :: a12 :: a13 :: a14 :: a15 :: a16 :: a17 :: a18 :: a19 :: a20 :: a21 :: a22 :: a23 :: some (.lst ws) :: σ) G = fzL ws G fun zs G' => t D (a0 :: a1 :: a2 :: a3 :: a4 :: a5 :: a6 :: a7 :: a8 :: a9 :: a10 :: a11 :: a12 :: a13 :: a14 :: a15 :: a16 :: a17 :: a18 :: a19 :: a20 :: a21 :: a22 :: a23 :: some (.lst zs) :: σ) G' := rfl
theorem f_25 {t : TSw} {p : Addr} {D : EndsW} {G : Gp} {σ : SW} {a0 a1 a2 a3 a4 a5 a6 a7 a8 a9 a10 a11 a12 a13 a14 a15 a16 a17 a18 a19 a20 a21 a22 a23 a24 : Option W} : wFz 25 t D (a0 :: a1 :: a2 :: a3 :: a4 :: a5 :: a6 :: a7 :: a8 :: a9 :: a10 :: a11 :: a12 :: a13 :: a14 :: a15 :: a16 :: a17 :: a18 :: a19 :: a20 :: a21 :: a22 :: a23 :: a24 :: some (.ref p) :: σ) G = isG (G p) fun ws => t D (a0 :: a1 :: a2 :: a3 :: a4 :: a5 :: a6 :: a7 :: a8 :: a9 :: a10 :: a11 :: a12 :: a13 :: a14 :: a15 :: a16 :: a17 :: a18 :: a19 :: a20 :: a21 :: a22 :: a23 :: a24 :: some (.lst ws) :: σ) (gdel G p) := rfl
theorem fl_25 {t : TSw} {ws : List W} {D : EndsW} {G : Gp} {σ : SW} {a0 a1 a2 a3 a4 a5 a6 a7 a8 a9 a10 a11 a12 a13 a14 a15 a16 a17 a18 a19 a20 a21 a22 a23 a24 : Option W} : wFz 25 t D (a0 :: a1 :: a2 :: a3 :: a4 :: a5 :: a6 :: a7 :: a8 :: a9 :: a10 :: a11 :: a12 :: a13 :: a14 :: a15 :: a16 :: a17 :: a18 :: a19 :: a20 :: a21 :: a22 :: a23 :: a24 :: some (.lst ws) :: σ) G = t D (a0 :: a1 :: a2 :: a3 :: a4 :: a5 :: a6 :: a7 :: a8 :: a9 :: a10 :: a11 :: a12 :: a13 :: a14 :: a15 :: a16 :: a17 :: a18 :: a19 :: a20 :: a21 :: a22 :: a23 :: a24 :: some (.lst ws) :: σ) G := rfl
theorem fn_25 {t : TSw} {ws : List W} {D : EndsW} {G : Gp} {σ : SW} {a0 a1 a2 a3 a4 a5 a6 a7 a8 a9 a10 a11 a12 a13 a14 a15 a16 a17 a18 a19 a20 a21 a22 a23 a24 : Option W} : wFzN 25 t D (a0 :: a1 :: a2 :: a3 :: a4 :: a5 :: a6 :: a7 :: a8 :: a9 :: a10 :: a11 :: a12 :: a13 :: a14 :: a15 :: a16 :: a17 :: a18 :: a19 :: a20 :: a21 :: a22 :: a23 :: a24 :: some (.lst ws) :: σ) G = fzL ws G fun zs G' => t D (a0 :: a1 :: a2 :: a3 :: a4 :: a5 :: a6 :: a7 :: a8 :: a9 :: a10 :: a11 :: a12 :: a13 :: a14 :: a15 :: a16 :: a17 :: a18 :: a19 :: a20 :: a21 :: a22 :: a23 :: a24 :: some (.lst zs) :: σ) G' := rfl
end WL

namespace WL
open PySem PySem.Spec PyProof.Rows L2
local macro_rules | `(tactic| walk_at "w") => `(tactic| try simp only [↓a_seq, ↓a_asg, ↓a_ifS, ↓a_ret, ↓a_retN, ↓a_next, ↓a_break, ↓a_cont, ↓a_drop, ↓a_for, ↓a_C, ↓a_op, ↓a_un, ↓a_neg, ↓a_CB, ↓a_call, ↓a_nil, ↓a_cons, ↓a_tup, ↓a_lst, ↓a_lstM, ↓a_test, ↓a_and, ↓a_or, ↓a_not, ↓a_yes, ↓a_andV, ↓a_orV, ↓a_notV, ↓a_if, ↓a_isN, ↓a_notN, ↓a_chain, ↓a_BM, ↓a_BM0, ↓a_seqI, ↓a_R1, ↓a_R2, ↓a_zip2, ↓a_zipG2, ↓a_zipG3, ↓a_enumG, ↓a_enum, ↓a_lc, ↓a_lcM, ↓a_lcR, ↓a_forR, ↓a_seqR, ↓a_zip2R, ↓a_zipR, ↓a_lstRg, ↓a_lstRgM, ↓a_lcP, ↓a_slice, ↓a_sliceM, ↓a_pN, ↓a_pS, ↓a_augIx, ↓a_gIx, ↓a_par, ↓a_setF, ↓a_meth, ↓a_make, ↓a_makeZ, ↓a_dnew, ↓a_done, ↓a_dput, ↓a_dget, ↓a_din, ↓a_lenD, ↓v_0, ↓g_0, ↓u_0, ↓v_1, ↓g_1, ↓u_1, ↓v_2, ↓g_2, ↓u_2, ↓v_3, ↓g_3, ↓u_3, ↓v_4, ↓g_4, ↓u_4, ↓v_5, ↓g_5, ↓u_5, ↓v_6, ↓g_6, ↓u_6, ↓v_7, ↓g_7, ↓u_7, ↓v_8, ↓g_8, ↓u_8, ↓v_9, ↓g_9, ↓u_9, ↓v_10, ↓g_10, ↓u_10, ↓v_11, ↓g_11, ↓u_11, ↓v_12, ↓g_12, ↓u_12, ↓v_13, ↓g_13, ↓u_13, ↓v_14, ↓g_14, ↓u_14, ↓v_15, ↓g_15, ↓u_15, ↓v_16, ↓g_16, ↓u_16, ↓v_17, ↓g_17, ↓u_17, ↓v_18, ↓g_18, ↓u_18, ↓v_19, ↓g_19, ↓u_19, ↓v_20, ↓g_20, ↓u_20, ↓v_21, ↓g_21, ↓u_21, ↓v_22, ↓g_22, ↓u_22, ↓v_23, ↓g_23, ↓u_23, ↓v_24, ↓g_24, ↓u_24, ↓v_25, ↓g_25, ↓u_25, ↓f_0, ↓fl_0, ↓fn_0, ↓f_1, ↓fl_1, ↓fn_1, ↓f_2, ↓fl_2, ↓fn_2, ↓f_3, ↓fl_3, ↓fn_3, ↓f_4, ↓fl_4, ↓fn_4, ↓f_5, ↓fl_5, ↓fn_5, ↓f_6, ↓fl_6, ↓fn_6, ↓f_7, ↓fl_7, ↓fn_7, ↓f_8, ↓fl_8, ↓fn_8, ↓f_9, ↓fl_9, ↓fn_9, ↓f_10, ↓fl_10, ↓fn_10, ↓f_11, ↓fl_11, ↓fn_11, ↓f_12, ↓fl_12, ↓fn_12, ↓f_13, ↓fl_13, ↓fn_13, ↓f_14, ↓fl_14, ↓fn_14, ↓f_15, ↓fl_15, ↓fn_15, ↓f_16, ↓fl_16, ↓fn_16, ↓f_17, ↓fl_17, ↓fn_17, ↓f_18, ↓fl_18, ↓fn_18, ↓f_19, ↓fl_19, ↓fn_19, ↓f_20, ↓fl_20, ↓fn_20, ↓f_21, ↓fl_21, ↓fn_21, ↓f_22, ↓fl_22, ↓fn_22, ↓f_23, ↓fl_23, ↓fn_23, ↓f_24, ↓fl_24, ↓fn_24, ↓f_25, ↓fl_25, ↓fn_25, ↓asL_lst, ↓asL_scr, ↓asL_gup, ↓wIx_tup, ↓wIx_lst, ↓wIx_scr, ↓wIx_ref, ↓wIx_str, ↓wAdd_int, ↓wAdd_str, ↓wAdd_tup, ↓wAdd_lst, ↓wII_int, ↓wI2_int, ↓wI1_int, ↓wI1N_int, ↓wI2N_int, ↓wLen_tup, ↓wLen_lst, ↓wLen_scr, ↓wLen_ref, ↓wLen_str, ↓wInt_int, ↓wInt_bl, ↓wStrI_int, ↓wEq_int, ↓wEq_str, ↓wEq_bl, ↓wNe_bl, ↓wNe_int, ↓wNe_str, ↓wEq_tup, ↓wNe_tup, ↓wEq_lst, ↓wNe_lst, ↓setIx_ref, ↓gT_tup, ↓gT_lst, ↓gT_ref, ↓gsC_cons, ↓gsN_nil, ↓wAppend_ref, ↓wPop_ref, ↓wExtend_ref, ↓rgO_int, ↓wAddM_lst, ↓wIsB_bl, ↓wReverse_ref, ↓wRepT_tup, ↓wNotB_bl, ↓wInD_lst, ↓wPopAt_ref, ↓wInsert_ref, ↓refR_ref, ↓seqOf_tup, ↓seqOf_lst, ↓seqOf_scr, ↓seqOf_ref, ↓rng1_int, ↓rng2_int, ↓wIsi_non, ↓wIsi_bl, ↓wIsi_int, ↓wIsi_str, ↓wIsi_tup, ↓wIsi_lst, ↓wIsi_ref, ↓wAll_lst, ↓wAny_lst, ↓wSum_lst, ↓wTuple_tup, ↓wTuple_lst, ↓wTuple_ref, ↓wList_tup, ↓wList_lst, ↓wList_ref, ↓wListM_tup, ↓wListM_lst, ↓wCut_tup, ↓wCut_lst, ↓wCut_ref, ↓wCut_str, ↓wRep_lst, ↓wRepM_lst, ↓zipOf_tup, ↓zipOf_lst, ↓enumOf_lst, ↓enumOf_scr, ↓zipG2_eq, ↓zipG3_eq, ↓enumG_eq, ↓wSorted_eq, ↓wSortedM_eq, ↓wClear_ref, ↓wGet_ref, ↓truO_bl, ↓intO_int, ↓isS_some, ↓isG_lst, ↓setF_ref, ↓isI_ins, ↓dPut_ref, ↓isD_dic, ↓insOf_gup, ↓dicOf_gup, keyOf, nk, rangeW_length, sset, skill, swipe, swipe.sforget, lcW, wIn, seqs, inW, eqW, flatW, kdIs, isNon, gup_same, gup_gup, at0, at1, at2, at3, at4, at5, at6, at7, ix0, ix1, ix2, ix3, ix4, ix5, W.bl.injEq, exists_eq_left', List.length_cons, List.length_nil, List.length_map, Nat.zero_add, Nat.reduceAdd, List.set, List.map_cons, List.map_nil, Option.isSome_some, List.all_cons, List.all_nil, List.any_cons, List.any_nil, List.cons_append, List.nil_append, Bool.and_true, Bool.and_self, Bool.or_false, Bool.true_and, Bool.false_and, Bool.and_false, true_and, decide_true, decide_false, Bool.not_true, Bool.not_false, Bool.not_not, Bool.false_eq_true, if_true, if_false, ite_self, beq_self_eq_true])

/-- slots: _law_bag_here 0, _law_many 1, _law_digit 2 -/
def t__law_take : TSw := (wSeq (wIfS (wTest (wOp wGt (wOp wIx (wVar 0) (wC (.int 0))) (wC (.int 0)))) (wSeq (wAsg (wOp wMod (wOp wIx (wVar 0) (wC (.int 0))) (wVar 1)) (gN 2))
    (wSeq (wAsg (wOp wFdiv (wOp wIx (wVar 0) (wC (.int 0))) (wVar 1)) (gIx (wVar 0) (wC (.int 0))))
    (wRet (wVar 2)))) wNext)
    (wSeq (wAsg (wOp wMod (wOp wAdd (wOp wMul (wOp wIx (wVar 0) (wC (.int 1))) (wC (.int 48271))) (wC (.int 7919))) (wC (.int 2147483647))) (gIx (wVar 0) (wC (.int 1))))
    (wRet (wOp wMod (wOp wMod (wOp wMul (wOp wFdiv (wOp wMod (wOp wPow (wOp wIx (wVar 0) (wC (.int 1))) (wC (.int 3))) (wC (.int 2147483587))) (wC (.int 7))) (wC (.int 69621))) (wC (.int 1073741789))) (wVar 1)))))
theorem rd__law_take (ws : List W) (G : Gp) (Q : QW) (E) (h : sp__law_take ws G Q E) : t__law_take { nx := fun _ G' => Q .non G', rt := Cl Q } (startW ["_law_bag_here", "_law_many", "_law_digit"] ws) G := by
  obtain ⟨p, m, c, x, rfl, g, hc, hx, hx2, hm, q⟩ := h
  show t__law_take _ [some (.ref p), some (.int m), none] G
  rw [show G = gup G p (bagO c x) from (gup_self g).symm]
  unfold t__law_take
  walk_at "w"
  split
  · rename_i hp
    rw [fmodP (by omega), fdivP (by omega)]
    exact ⟨by omega, by omega, .inl (q _ _ _ (Int.emod_nonneg _ (by omega)) (Int.emod_lt_of_pos _ hm) (Int.ediv_nonneg hc (by omega)) hx hx2)⟩
  · rw [fmodP (j := 2147483647), fmodP (j := 2147483587), fmodP (j := 1073741789), fmodP (by omega), fdivP]
    have b1 := Int.emod_nonneg (x * 48271 + 7919) (show (2147483647 : Int) ≠ 0 by decide)
    have b2 := Int.emod_lt_of_pos (x * 48271 + 7919) (show (0 : Int) < 2147483647 by decide)
    generalize (x * 48271 + 7919) % 2147483647 = y at b1 b2 ⊢
    have b3 := Int.emod_nonneg (y ^ (3 : Int).toNat) (show (2147483587 : Int) ≠ 0 by decide)
    have b4 := Int.emod_lt_of_pos (y ^ (3 : Int).toNat) (show (0 : Int) < 2147483587 by decide)
    generalize (y ^ (3 : Int).toNat) % 2147483587 = z at b3 b4 ⊢
    refine ⟨cm64 (by omega) (by omega), by decide, cp64 (by omega) (by omega), by decide, by decide, cm64 (by omega) (by omega), by decide, by omega, .inl (q _ _ _ (Int.emod_nonneg _ (by omega)) (Int.emod_lt_of_pos _ hm) hc b1 (by omega))⟩
/-- slots: _law_script 0, _law_at 1, _law_cell 2, _law_mix 3, _law_k 4 -/
def t__law_bag_b1 : TSw := (wAsg (wOp wMod (wOp wAdd (wOp wAdd (wOp wMul (wVar 3) (wC (.int 48271))) (wOp wMul (wOp wMod (wOp wIx (wVar 0) (wVar 4)) (wC (.int 2147483587))) (wOp wAdd (wVar 4) (wC (.int 3))))) (wVar 4)) (wC (.int 2147483629))) (gN 3))
def t__law_bag_r1 : TSw := (wRet (wLstM (wCons (wVar 2) (wCons (wVar 3) wNil))))
def t__law_bag_r2 : TSw := (wSeq (wIfS (wTest (wOp wLt (wVar 2) (wOp wPow (wC (.int 10)) (wC (.int 18))))) (wAsg (wC (.int 0)) (gN 2)) wNext)
    t__law_bag_r1)
def t__law_bag_r3 : TSw := (wSeq (wAsg (wOp wMod (wOp wPow (wOp wAdd (wOp wAdd (wOp wMod (wVar 2) (wC (.int 2147483629))) (wOp wMul (wC (.int 104729)) (wVar 1))) (wC (.int 17))) (wC (.int 5))) (wC (.int 2147483647))) (gN 3))
    (wSeq (wFor [false, true, false, false, true] (iR1 (wCons (wCB (wI2N fun i j => .int (if j < i then j else i)) (wCons (wCB wLen (wCons (wVar 0) wNil)) (wCons (wC (.int 60)) wNil))) wNil)) (gN 4) t__law_bag_b1)
    t__law_bag_r2))
def t__law_bag : TSw := (wSeq (wAsg (wC (.int 0)) (gN 2))
    (wSeq (wIfS (wTest (wOp wLt (wVar 1) (wCB wLen (wCons (wVar 0) wNil)))) (wAsg (wCB (wI1N fun i => .int (if i < 0 then -i else i)) (wCons (wOp wIx (wVar 0) (wVar 1)) wNil)) (gN 2)) wNext)
    t__law_bag_r3))
theorem rd__law_bag (ws : List W) (G : Gp) (Q : QW) (E) (h : sp__law_bag ws G Q E) : t__law_bag { nx := fun _ G' => Q .non G', rt := Cl Q } (startW ["_law_script", "_law_at", "_law_cell", "_law_mix", "_law_k"] ws) G := by
  obtain ⟨ns, k, rfl, hl, hk0, hk1, q⟩ := h
  show t__law_bag _ [some (.scr (ns.map W.int)), some (.int k), none, none, none] G
  have ll : ((ns.map W.int).length : Int) = ns.length := by rw [List.length_map]
  have rest2 : ∀ c x, 0 ≤ c → 0 ≤ x → x < 2147483648 → t__law_bag_r2 { nx := fun _ G' => Q .non G', rt := Cl Q } [some (.scr (ns.map W.int)), none, some (.int c), some (.int x), none] G := by
    intro c x hc hx hx2
    unfold t__law_bag_r2 t__law_bag_r1
    walk_at "w"
    refine ⟨cp64 (by omega) (by omega), ?_⟩
    split
    · exact ⟨by decide, fun p hp => .inl (q p _ _ hp (Int.le_refl 0) hx hx2)⟩
    · exact ⟨by decide, fun p hp => .inl (q p _ _ hp hc hx hx2)⟩
  have rest3 : ∀ c, 0 ≤ c → t__law_bag_r3 { nx := fun _ G' => Q .non G', rt := Cl Q } [some (.scr (ns.map W.int)), some (.int k), some (.int c), none, none] G := by
    intro c hc
    unfold t__law_bag_r3
    walk_at "w"
    rw [fmodP (j := 2147483629), fmodP (j := 2147483647)]
    have b1 := Int.emod_nonneg c (show (2147483629 : Int) ≠ 0 by decide)
    have b2 := Int.emod_lt_of_pos c (show (0 : Int) < 2147483629 by decide)
    refine ⟨by decide, cm64 (by omega) (by omega), cp64 (by omega) (by omega), by decide, ?_, ?_, ?_⟩
    · split <;> omega
    · split <;> omega
    generalize (c % 2147483629 + 104729 * k + 17) ^ (5 : Int).toNat = y
    have b3 := Int.emod_nonneg y (show (2147483647 : Int) ≠ 0 by decide)
    have b4 := Int.emod_lt_of_pos y (show (0 : Int) < 2147483647 by decide)
    refine forW_inv (fun σ G1 => G1 = G ∧ ∃ x, 0 ≤ x ∧ x < 2147483648 ∧ σ = [some (.scr (ns.map W.int)), none, some (.int c), some (.int x), none]) _ _ _ ⟨rfl, _, b3, by omega, rfl⟩ ?_ ?_
    · rintro w hw σ G1 N ⟨rfl, x, hx, hx2, rfl⟩ hN
      obtain ⟨i, hi, rfl⟩ := rangeW_mem hw
      have hi2 : i < ns.length ∧ i < 60 := by
        by_cases h6 : (60 : Int) < ns.length
        · rw [if_pos h6] at hi; omega
        · rw [if_neg h6] at hi; omega
      have ea : atI (ns.map W.int) (0 + (i : Int)) = some (.int ns[i]) := by
        rw [Int.zero_add]
        exact at_nat (by rw [List.getElem?_map, List.getElem?_eq_getElem hi2.1]; rfl)
      unfold t__law_bag_b1
      walk_at "w"
      rw [ea]
      walk_at "w"
      rw [fmodP (j := 2147483587), fmodP (j := 2147483629)]
      have c1 := Int.emod_nonneg ns[i] (show (2147483587 : Int) ≠ 0 by decide)
      have c2 := Int.emod_lt_of_pos ns[i] (show (0 : Int) < 2147483587 by decide)
      generalize ns[i] % 2147483587 = z at c1 c2 ⊢
      refine ⟨cm64 (by omega) (by omega), by decide, cm64 (by omega) (by omega), by decide, hN _ _ ⟨rfl, _, Int.emod_nonneg _ (by decide), Int.lt_trans (Int.emod_lt_of_pos _ (by decide)) (by decide), rfl⟩⟩
    · rintro σ G1 ⟨rfl, x, hx, hx2, rfl⟩
      exact rest2 c x hc hx hx2
  unfold t__law_bag
  walk_at "w"
  split
  · rename_i hlt
    have hlt := of_decide_eq_true hlt
    obtain ⟨v, ev, mv⟩ := at_in (l := ns.map W.int) hk0 (by rw [ll]; exact hlt)
    obtain ⟨i, _, rfl⟩ := List.mem_map.mp mv
    rw [ev]
    walk_at "w"
    exact rest3 _ (by split <;> omega)
  · exact rest3 0 (Int.le_refl 0)
theorem len__law_take (ws G Q E) (h : sp__law_take ws G Q E) : ws.length = 2 := by obtain ⟨_, _, _, _, rfl, _⟩ := h; rfl
theorem len__law_bag (ws G Q E) (h : sp__law_bag ws G Q E) : ws.length = 2 := by obtain ⟨_, _, rfl, _⟩ := h; rfl
theorem len_law (ws G Q E) (h : sp_law ws G Q E) : ws.length = 1 := by obtain ⟨_, rfl, _⟩ := h; rfl
end WL


namespace WL
open PySem PySem.Spec PyProof.Rows L2
local macro_rules | `(tactic| walk_at "w") => `(tactic| try simp only [↓a_seq, ↓a_asg, ↓a_ifS, ↓a_ret, ↓a_retN, ↓a_next, ↓a_break, ↓a_cont, ↓a_drop, ↓a_for, ↓a_C, ↓a_op, ↓a_un, ↓a_neg, ↓a_CB, ↓a_call, ↓a_nil, ↓a_cons, ↓a_tup, ↓a_lst, ↓a_lstM, ↓a_test, ↓a_and, ↓a_or, ↓a_not, ↓a_yes, ↓a_andV, ↓a_orV, ↓a_notV, ↓a_if, ↓a_isN, ↓a_notN, ↓a_chain, ↓a_BM, ↓a_BM0, ↓a_seqI, ↓a_R1, ↓a_R2, ↓a_zip2, ↓a_zipG2, ↓a_zipG3, ↓a_enumG, ↓a_enum, ↓a_lc, ↓a_lcM, ↓a_lcR, ↓a_forR, ↓a_seqR, ↓a_zip2R, ↓a_zipR, ↓a_lstRg, ↓a_lstRgM, ↓a_lcP, ↓a_slice, ↓a_sliceM, ↓a_pN, ↓a_pS, ↓a_augIx, ↓a_gIx, ↓a_par, ↓a_setF, ↓a_meth, ↓a_make, ↓a_makeZ, ↓a_dnew, ↓a_done, ↓a_dput, ↓a_dget, ↓a_din, ↓a_lenD, ↓v_0, ↓g_0, ↓u_0, ↓v_1, ↓g_1, ↓u_1, ↓v_2, ↓g_2, ↓u_2, ↓v_3, ↓g_3, ↓u_3, ↓v_4, ↓g_4, ↓u_4, ↓v_5, ↓g_5, ↓u_5, ↓v_6, ↓g_6, ↓u_6, ↓v_7, ↓g_7, ↓u_7, ↓v_8, ↓g_8, ↓u_8, ↓v_9, ↓g_9, ↓u_9, ↓v_10, ↓g_10, ↓u_10, ↓v_11, ↓g_11, ↓u_11, ↓v_12, ↓g_12, ↓u_12, ↓v_13, ↓g_13, ↓u_13, ↓v_14, ↓g_14, ↓u_14, ↓v_15, ↓g_15, ↓u_15, ↓v_16, ↓g_16, ↓u_16, ↓v_17, ↓g_17, ↓u_17, ↓v_18, ↓g_18, ↓u_18, ↓v_19, ↓g_19, ↓u_19, ↓v_20, ↓g_20, ↓u_20, ↓v_21, ↓g_21, ↓u_21, ↓v_22, ↓g_22, ↓u_22, ↓v_23, ↓g_23, ↓u_23, ↓v_24, ↓g_24, ↓u_24, ↓v_25, ↓g_25, ↓u_25, ↓f_0, ↓fl_0, ↓fn_0, ↓f_1, ↓fl_1, ↓fn_1, ↓f_2, ↓fl_2, ↓fn_2, ↓f_3, ↓fl_3, ↓fn_3, ↓f_4, ↓fl_4, ↓fn_4, ↓f_5, ↓fl_5, ↓fn_5, ↓f_6, ↓fl_6, ↓fn_6, ↓f_7, ↓fl_7, ↓fn_7, ↓f_8, ↓fl_8, ↓fn_8, ↓f_9, ↓fl_9, ↓fn_9, ↓f_10, ↓fl_10, ↓fn_10, ↓f_11, ↓fl_11, ↓fn_11, ↓f_12, ↓fl_12, ↓fn_12, ↓f_13, ↓fl_13, ↓fn_13, ↓f_14, ↓fl_14, ↓fn_14, ↓f_15, ↓fl_15, ↓fn_15, ↓f_16, ↓fl_16, ↓fn_16, ↓f_17, ↓fl_17, ↓fn_17, ↓f_18, ↓fl_18, ↓fn_18, ↓f_19, ↓fl_19, ↓fn_19, ↓f_20, ↓fl_20, ↓fn_20, ↓f_21, ↓fl_21, ↓fn_21, ↓f_22, ↓fl_22, ↓fn_22, ↓f_23, ↓fl_23, ↓fn_23, ↓f_24, ↓fl_24, ↓fn_24, ↓f_25, ↓fl_25, ↓fn_25, ↓asL_lst, ↓asL_scr, ↓asL_gup, ↓wIx_tup, ↓wIx_lst, ↓wIx_scr, ↓wIx_ref, ↓wIx_str, ↓wAdd_int, ↓wAdd_str, ↓wAdd_tup, ↓wAdd_lst, ↓wII_int, ↓wI2_int, ↓wI1_int, ↓wI1N_int, ↓wI2N_int, ↓wLen_tup, ↓wLen_lst, ↓wLen_scr, ↓wLen_ref, ↓wLen_str, ↓wInt_int, ↓wInt_bl, ↓wStrI_int, ↓wEq_int, ↓wEq_str, ↓wEq_bl, ↓wNe_bl, ↓wNe_int, ↓wNe_str, ↓wEq_tup, ↓wNe_tup, ↓wEq_lst, ↓wNe_lst, ↓setIx_ref, ↓gT_tup, ↓gT_lst, ↓gT_ref, ↓gsC_cons, ↓gsN_nil, ↓wAppend_ref, ↓wPop_ref, ↓wExtend_ref, ↓rgO_int, ↓wAddM_lst, ↓wIsB_bl, ↓wReverse_ref, ↓wRepT_tup, ↓wNotB_bl, ↓wInD_lst, ↓wPopAt_ref, ↓wInsert_ref, ↓refR_ref, ↓seqOf_tup, ↓seqOf_lst, ↓seqOf_scr, ↓seqOf_ref, ↓rng1_int, ↓rng2_int, ↓wIsi_non, ↓wIsi_bl, ↓wIsi_int, ↓wIsi_str, ↓wIsi_tup, ↓wIsi_lst, ↓wIsi_ref, ↓wAll_lst, ↓wAny_lst, ↓wSum_lst, ↓wTuple_tup, ↓wTuple_lst, ↓wTuple_ref, ↓wList_tup, ↓wList_lst, ↓wList_ref, ↓wListM_tup, ↓wListM_lst, ↓wCut_tup, ↓wCut_lst, ↓wCut_ref, ↓wCut_str, ↓wRep_lst, ↓wRepM_lst, ↓zipOf_tup, ↓zipOf_lst, ↓enumOf_lst, ↓enumOf_scr, ↓zipG2_eq, ↓zipG3_eq, ↓enumG_eq, ↓wSorted_eq, ↓wSortedM_eq, ↓wClear_ref, ↓wGet_ref, ↓truO_bl, ↓intO_int, ↓isS_some, ↓isG_lst, ↓setF_ref, ↓isI_ins, ↓dPut_ref, ↓isD_dic, ↓insOf_gup, ↓dicOf_gup, keyOf, nk, rangeW_length, sset, skill, swipe, swipe.sforget, lcW, wIn, seqs, inW, eqW, flatW, kdIs, isNon, gup_same, gup_gup, at0, at1, at2, at3, at4, at5, at6, at7, ix0, ix1, ix2, ix3, ix4, ix5, W.bl.injEq, exists_eq_left', List.length_cons, List.length_nil, List.length_map, Nat.zero_add, Nat.reduceAdd, List.set, List.map_cons, List.map_nil, Option.isSome_some, List.all_cons, List.all_nil, List.any_cons, List.any_nil, List.cons_append, List.nil_append, Bool.and_true, Bool.and_self, Bool.or_false, Bool.true_and, Bool.false_and, Bool.and_false, true_and, decide_true, decide_false, Bool.not_true, Bool.not_false, Bool.not_not, Bool.false_eq_true, if_true, if_false, ite_self, beq_self_eq_true])

/-! ### fractions: the rationals -/
abbrev fr (q : Rat) : W := .tup [.int q.num, .int (q.den : Int)]
theorem natAbs_fmod_lt (u : Int) {v : Int} (h : v ≠ 0) : (u.fmod v).natAbs < v.natAbs := by
  rw [Int.fmod_eq_emod]
  have h1 := Int.emod_nonneg u h
  have h2 : u % v < v.natAbs := Int.emod_lt u h
  by_cases c : 0 ≤ v ∨ v ∣ u
  · rw [if_pos c]; omega
  · rw [if_neg c]
    have h3 : u % v ≠ 0 := fun z => c (.inr (Int.dvd_of_emod_eq_zero z))
    omega
theorem gcd_fmod (u v : Int) : Int.gcd v (u.fmod v) = Int.gcd u v := by
  rw [Int.fmod_def, Int.gcd_sub_mul_left_right, Int.gcd_comm]
def sp_common : Spw := fun ws G Q _ => ∃ a b, ws = [.int a, .int b] ∧ Q (.int (Int.gcd a b : Nat)) G
theorem len_common (ws G Q E) (h : sp_common ws G Q E) : ws.length = 2 := by obtain ⟨_, _, rfl, _⟩ := h; rfl
/-- slots: one 0, other 1 -/
def t_common_b1 : TSw := (wPar 0 1 (wCons (wVar 1) (wCons (wOp wMod (wVar 0) (wVar 1)) wNil)))
def t_common_r1 : TSw := (wRet (wCB (wI1N fun i => .int (if i < 0 then -i else i)) (wCons (wVar 0) wNil)))
def t_common : TSw := (wSeq (wWhile [false, false] (wTest (wOp wNe (wVar 1) (wC (.int 0)))) t_common_b1)
    t_common_r1)
theorem rd_common (ws : List W) (G : Gp) (Q : QW) (E) (h : sp_common ws G Q E) : t_common { nx := fun _ G' => Q .non G', rt := Cl Q } (startW ["one", "other"] ws) G := by
  obtain ⟨a, b, rfl, q⟩ := h
  show t_common _ [some (.int a), some (.int b)] G
  unfold t_common
  walk_at "w"
  refine ⟨fun m σ G1 => G1 = G ∧ ∃ u v, Int.gcd u v = Int.gcd a b ∧ m = v.natAbs ∧ σ = [some (.int u), some (.int v)], ⟨_, rfl, a, b, rfl, rfl, rfl⟩, ?_⟩
  rintro m σ G1 ⟨rfl, u, v, e, rfl, rfl⟩
  walk_at "w"
  by_cases hv : v = 0
  · subst hv
    rw [if_neg (by simp)]
    unfold t_common_r1
    walk_at "w"
    refine .inl ?_
    rw [Int.gcd_zero_right] at e
    rw [show (if u < 0 then -u else u) = ((Int.gcd a b : Nat) : Int) by rw [← e]; split <;> omega]
    exact q
  · rw [if_pos (by simpa using hv)]
    unfold t_common_b1
    walk_at "w"
    exact ⟨hv, _, natAbs_fmod_lt u hv, v, _, (gcd_fmod u v).trans e, rfl, rfl⟩
/-- the quotients by a sign's greatest common divisor -/
theorem fdiv_exact {a b : Int} (h : b ∣ a) : a.fdiv b = a / b := by rw [Int.fdiv_eq_ediv, if_pos (.inr h)]; omega
theorem divInt_parts {a b : Int} (hb : b ≠ 0) (p : Int) (hp : p = if b < 0 then -((Int.gcd a b : Nat) : Int) else ((Int.gcd a b : Nat) : Int)) :
    p ≠ 0 ∧ a.fdiv p = (Rat.divInt a b).num ∧ b.fdiv p = ((Rat.divInt a b).den : Int) := by
  have g0 : 0 < Int.gcd a b := Int.gcd_pos_of_ne_zero_right a hb
  have da : ((Int.gcd a b : Nat) : Int) ∣ a := Int.gcd_dvd_left a b
  have db : ((Int.gcd a b : Nat) : Int) ∣ b := Int.gcd_dvd_right a b
  have hn := Rat.num_divInt a b
  have hd := Rat.den_divInt a b
  rw [if_neg hb] at hd
  rw [hn, hd, Int.gcd_comm b a]
  by_cases c : b < 0
  · rw [if_pos c] at hp
    subst hp
    refine ⟨by omega, ?_, ?_⟩
    · rw [fdiv_exact (Int.neg_dvd.mpr da), Int.sign_eq_neg_one_of_neg c, Int.ediv_neg, show -1 * a = -a by omega, Int.neg_ediv_of_dvd da]
    · rw [fdiv_exact (Int.neg_dvd.mpr db), Int.ediv_neg, Int.natCast_ediv, ← Int.neg_ediv_of_dvd db]
      rw [show ((b.natAbs : Nat) : Int) = -b by omega]
  · rw [if_neg c] at hp
    subst hp
    refine ⟨by omega, ?_, ?_⟩
    · rw [fdiv_exact da, Int.sign_eq_one_of_pos (by omega), Int.one_mul]
    · rw [fdiv_exact db, Int.natCast_ediv, show ((b.natAbs : Nat) : Int) = b by omega]
def sp_fraction : Spw := fun ws G Q _ => ∃ a b, ws = [.int a, .int b] ∧ b ≠ 0 ∧ Q (fr (Rat.divInt a b)) G
theorem len_fraction (ws G Q E) (h : sp_fraction ws G Q E) : ws.length = 2 := by obtain ⟨_, _, rfl, _⟩ := h; rfl
/-- slots: top 0, bottom 1, part 2 -/
def t_fraction_r1 : TSw := (wRet (wTup (wCons (wOp wFdiv (wVar 0) (wVar 2)) (wCons (wOp wFdiv (wVar 1) (wVar 2)) wNil))))
def t_fraction : TSw := (wSeq (wIfS (wTest (wOp wEq (wVar 1) (wC (.int 0)))) wNever wNext)
    (wSeq (wAsg (wCall sp_common (wCons (wVar 0) (wCons (wVar 1) wNil))) (gN 2))
    (wSeq (wIfS (wTest (wOp wLt (wVar 1) (wC (.int 0)))) (wAsg (wNeg (wVar 2)) (gN 2)) wNext)
    t_fraction_r1)))
theorem rd_fraction (ws : List W) (G : Gp) (Q : QW) (E) (h : sp_fraction ws G Q E) : t_fraction { nx := fun _ G' => Q .non G', rt := Cl Q } (startW ["top", "bottom", "part"] ws) G := by
  obtain ⟨a, b, rfl, hb, q⟩ := h
  show t_fraction _ [some (.int a), some (.int b), none] G
  unfold t_fraction
  walk_at "w"
  rw [if_neg (by simpa using hb)]
  refine ⟨a, b, rfl, ?_⟩
  walk_at "w"
  have two : 2 ≤ sizeLine := by decide
  by_cases c : b < 0
  · rw [if_pos (decide_eq_true c)]
    obtain ⟨h0, h1, h2⟩ := divInt_parts (a := a) hb _ (if_pos c).symm
    unfold t_fraction_r1
    walk_at "w"
    rw [h1, h2]
    exact ⟨h0, h0, two, .inl q⟩
  · rw [if_neg (by simp; omega)]
    obtain ⟨h0, h1, h2⟩ := divInt_parts (a := a) hb _ (if_neg c).symm
    unfold t_fraction_r1
    walk_at "w"
    rw [h1, h2]
    exact ⟨h0, h0, two, .inl q⟩
/-! ### sums, differences, products, quotients -/
/-- of so many bits -/
def sz (n : Nat) (q : Rat) : Prop := q.num.natAbs < 2 ^ n ∧ q.den < 2 ^ n
theorem sz_mono {n m : Nat} {q : Rat} (h : sz n q) (hm : n ≤ m) : sz m q :=
  ⟨Nat.lt_of_lt_of_le h.1 (Nat.pow_le_pow_right (by decide) hm), Nat.lt_of_lt_of_le h.2 (Nat.pow_le_pow_right (by decide) hm)⟩
theorem sz_pos {n : Nat} {q : Rat} (h : sz n q) : 0 < n := by
  have h1 := h.2
  have h2 := q.den_pos
  cases n with
  | zero => rw [Nat.pow_zero] at h1; omega
  | succ n => exact Nat.succ_pos n
theorem sz_divInt {a b : Int} {n : Nat} (hb : b ≠ 0) (ha : a.natAbs < 2 ^ n) (hb2 : b.natAbs < 2 ^ n) : sz n (Rat.divInt a b) := by
  obtain ⟨h0, h1, h2⟩ := divInt_parts (a := a) hb _ rfl
  have da : (if b < 0 then -((Int.gcd a b : Nat) : Int) else ((Int.gcd a b : Nat) : Int)) ∣ a := by
    split
    · exact Int.neg_dvd.mpr (Int.gcd_dvd_left a b)
    · exact Int.gcd_dvd_left a b
  have db : (if b < 0 then -((Int.gcd a b : Nat) : Int) else ((Int.gcd a b : Nat) : Int)) ∣ b := by
    split
    · exact Int.neg_dvd.mpr (Int.gcd_dvd_right a b)
    · exact Int.gcd_dvd_right a b
  rw [fdiv_exact da] at h1
  rw [fdiv_exact db] at h2
  have e1 := Int.natAbs_ediv_le_natAbs a (if b < 0 then -((Int.gcd a b : Nat) : Int) else ((Int.gcd a b : Nat) : Int))
  have e2 := Int.natAbs_ediv_le_natAbs b (if b < 0 then -((Int.gcd a b : Nat) : Int) else ((Int.gcd a b : Nat) : Int))
  rw [h1] at e1
  rw [h2] at e2
  exact ⟨by omega, by omega⟩
theorem natAbs_mul_lt {i j : Int} {a b : Nat} (ha : i.natAbs < 2 ^ a) (hb : j.natAbs < 2 ^ b) : (i * j).natAbs < 2 ^ (a + b) := by
  rw [Int.natAbs_mul, Nat.pow_add]
  exact Nat.mul_lt_mul'' ha hb
theorem sz_num {n : Nat} {q : Rat} (h : sz n q) : q.num.natAbs < 2 ^ n := h.1
theorem sz_den {n : Nat} {q : Rat} (h : sz n q) : (q.den : Int).natAbs < 2 ^ n := h.2
theorem add_divInt (u v : Rat) : u + v = Rat.divInt (u.num * v.den + v.num * u.den) (u.den * v.den) := by
  have hu : (u.den : Int) ≠ 0 := by have := u.den_pos; omega
  have hv : (v.den : Int) ≠ 0 := by have := v.den_pos; omega
  have e := Rat.divInt_add_divInt u.num v.num hu hv
  rw [Rat.num_divInt_den, Rat.num_divInt_den] at e
  exact e
theorem sub_divInt (u v : Rat) : u - v = Rat.divInt (u.num * v.den - v.num * u.den) (u.den * v.den) := by
  have hu : (u.den : Int) ≠ 0 := by have := u.den_pos; omega
  have hv : (v.den : Int) ≠ 0 := by have := v.den_pos; omega
  have e := Rat.divInt_sub_divInt u.num v.num hu hv
  rw [Rat.num_divInt_den, Rat.num_divInt_den] at e
  exact e
theorem mul_divInt (u v : Rat) : u * v = Rat.divInt (u.num * v.num) (u.den * v.den) := by
  have e := Rat.divInt_mul_divInt u.num v.num (d₁ := u.den) (d₂ := v.den)
  rw [Rat.num_divInt_den, Rat.num_divInt_den] at e
  exact e
theorem div_divInt (u v : Rat) : u / v = Rat.divInt (u.num * v.den) (u.den * v.num) := by
  have e := Rat.divInt_mul_divInt u.num v.den (d₁ := u.den) (d₂ := v.num)
  rw [← Rat.inv_divInt v.num v.den, Rat.num_divInt_den, Rat.num_divInt_den, ← Rat.div_def] at e
  exact e
/-- so many bits, of a sum, a difference, a product, a quotient -/
theorem natAbs_add_lt {i j : Int} {n : Nat} (ha : i.natAbs < 2 ^ n) (hb : j.natAbs < 2 ^ n) : (i + j).natAbs < 2 ^ (n + 1) := by
  rw [Nat.pow_succ]; omega
theorem natAbs_sub_lt {i j : Int} {n : Nat} (ha : i.natAbs < 2 ^ n) (hb : j.natAbs < 2 ^ n) : (i - j).natAbs < 2 ^ (n + 1) := by
  rw [Nat.pow_succ]; omega
theorem pow_up {i : Int} {n m : Nat} (h : i.natAbs < 2 ^ n) (e : n ≤ m) : i.natAbs < 2 ^ m := Nat.lt_of_lt_of_le h (Nat.pow_le_pow_right (by decide) e)
theorem den_ne (u v : Rat) : (u.den : Int) * v.den ≠ 0 := Int.mul_ne_zero (by have := u.den_pos; omega) (by have := v.den_pos; omega)
theorem sz_add {u v : Rat} {a b : Nat} (hu : sz a u) (hv : sz b v) : sz (a + b + 1) (u + v) := by
  rw [add_divInt]
  refine sz_divInt (den_ne u v) (natAbs_add_lt (natAbs_mul_lt (sz_num hu) (sz_den hv)) ?_) (pow_up (natAbs_mul_lt (sz_den hu) (sz_den hv)) (by omega))
  rw [Nat.add_comm a b]
  exact natAbs_mul_lt (sz_num hv) (sz_den hu)
theorem sz_sub {u v : Rat} {a b : Nat} (hu : sz a u) (hv : sz b v) : sz (a + b + 1) (u - v) := by
  rw [sub_divInt]
  refine sz_divInt (den_ne u v) (natAbs_sub_lt (natAbs_mul_lt (sz_num hu) (sz_den hv)) ?_) (pow_up (natAbs_mul_lt (sz_den hu) (sz_den hv)) (by omega))
  rw [Nat.add_comm a b]
  exact natAbs_mul_lt (sz_num hv) (sz_den hu)
theorem sz_mul {u v : Rat} {a b : Nat} (hu : sz a u) (hv : sz b v) : sz (a + b) (u * v) := by
  rw [mul_divInt]
  exact sz_divInt (den_ne u v) (natAbs_mul_lt (sz_num hu) (sz_num hv)) (natAbs_mul_lt (sz_den hu) (sz_den hv))
theorem num_ne {v : Rat} (h : v ≠ 0) : v.num ≠ 0 := fun e => h (Rat.num_eq_zero.mp e)
theorem sz_div {u v : Rat} {a b : Nat} (h : v ≠ 0) (hu : sz a u) (hv : sz b v) : sz (a + b) (u / v) := by
  rw [div_divInt]
  exact sz_divInt (Int.mul_ne_zero (by have := u.den_pos; omega) (num_ne h)) (natAbs_mul_lt (sz_num hu) (sz_den hv)) (natAbs_mul_lt (sz_den hu) (sz_num hv))
/-- two fractions of so many bits together -/
def sz2 (u v : Rat) : Prop := ∃ a b, sz a u ∧ sz b v ∧ a + b ≤ 134000000
theorem sz2.m1 {u v : Rat} (h : sz2 u v) : CMulX u.num v.den := by obtain ⟨a, b, h1, h2, h3⟩ := h; exact cmX (sz_num h1) (sz_den h2) (sz_pos h1) (sz_pos h2) (by omega)
theorem sz2.m2 {u v : Rat} (h : sz2 u v) : CMulX v.num u.den := by obtain ⟨a, b, h1, h2, h3⟩ := h; exact cmX (sz_num h2) (sz_den h1) (sz_pos h2) (sz_pos h1) (by omega)
theorem sz2.m3 {u v : Rat} (h : sz2 u v) : CMulX u.den v.den := by obtain ⟨a, b, h1, h2, h3⟩ := h; exact cmX (sz_den h1) (sz_den h2) (sz_pos h1) (sz_pos h2) (by omega)
theorem sz2.m4 {u v : Rat} (h : sz2 u v) : CMulX u.num v.num := by obtain ⟨a, b, h1, h2, h3⟩ := h; exact cmX (sz_num h1) (sz_num h2) (sz_pos h1) (sz_pos h2) (by omega)
theorem sz2.m5 {u v : Rat} (h : sz2 u v) : CMulX u.den v.num := by obtain ⟨a, b, h1, h2, h3⟩ := h; exact cmX (sz_den h1) (sz_num h2) (sz_pos h1) (sz_pos h2) (by omega)
def sp_plus : Spw := fun ws G Q _ => ∃ u v, ws = [fr u, fr v] ∧ sz2 u v ∧ Q (fr (u + v)) G
theorem len_plus (ws G Q E) (h : sp_plus ws G Q E) : ws.length = 2 := by obtain ⟨_, _, rfl, _⟩ := h; rfl
/-- slots: u 0, v 1 -/
def t_plus : TSw := (wRet (wCall sp_fraction (wCons (wOp wAdd (wOp wMul (wOp wIx (wVar 0) (wC (.int 0))) (wOp wIx (wVar 1) (wC (.int 1)))) (wOp wMul (wOp wIx (wVar 1) (wC (.int 0))) (wOp wIx (wVar 0) (wC (.int 1))))) (wCons (wOp wMul (wOp wIx (wVar 0) (wC (.int 1))) (wOp wIx (wVar 1) (wC (.int 1)))) wNil))))
theorem rd_plus (ws : List W) (G : Gp) (Q : QW) (E) (h : sp_plus ws G Q E) : t_plus { nx := fun _ G' => Q .non G', rt := Cl Q } (startW ["u", "v"] ws) G := by
  obtain ⟨u, v, rfl, s, q⟩ := h
  show t_plus _ [some (fr u), some (fr v)] G
  unfold t_plus
  walk_at "w"
  exact ⟨s.m1, s.m2, s.m3, _, _, rfl, den_ne u v, .inl (by rw [← add_divInt]; exact q)⟩
def sp_minus : Spw := fun ws G Q _ => ∃ u v, ws = [fr u, fr v] ∧ sz2 u v ∧ Q (fr (u - v)) G
theorem len_minus (ws G Q E) (h : sp_minus ws G Q E) : ws.length = 2 := by obtain ⟨_, _, rfl, _⟩ := h; rfl
/-- slots: u 0, v 1 -/
def t_minus : TSw := (wRet (wCall sp_fraction (wCons (wOp wSub (wOp wMul (wOp wIx (wVar 0) (wC (.int 0))) (wOp wIx (wVar 1) (wC (.int 1)))) (wOp wMul (wOp wIx (wVar 1) (wC (.int 0))) (wOp wIx (wVar 0) (wC (.int 1))))) (wCons (wOp wMul (wOp wIx (wVar 0) (wC (.int 1))) (wOp wIx (wVar 1) (wC (.int 1)))) wNil))))
theorem rd_minus (ws : List W) (G : Gp) (Q : QW) (E) (h : sp_minus ws G Q E) : t_minus { nx := fun _ G' => Q .non G', rt := Cl Q } (startW ["u", "v"] ws) G := by
  obtain ⟨u, v, rfl, s, q⟩ := h
  show t_minus _ [some (fr u), some (fr v)] G
  unfold t_minus
  walk_at "w"
  exact ⟨s.m1, s.m2, s.m3, _, _, rfl, den_ne u v, .inl (by rw [← sub_divInt]; exact q)⟩
def sp_times : Spw := fun ws G Q _ => ∃ u v, ws = [fr u, fr v] ∧ sz2 u v ∧ Q (fr (u * v)) G
theorem len_times (ws G Q E) (h : sp_times ws G Q E) : ws.length = 2 := by obtain ⟨_, _, rfl, _⟩ := h; rfl
/-- slots: u 0, v 1 -/
def t_times : TSw := (wRet (wCall sp_fraction (wCons (wOp wMul (wOp wIx (wVar 0) (wC (.int 0))) (wOp wIx (wVar 1) (wC (.int 0)))) (wCons (wOp wMul (wOp wIx (wVar 0) (wC (.int 1))) (wOp wIx (wVar 1) (wC (.int 1)))) wNil))))
theorem rd_times (ws : List W) (G : Gp) (Q : QW) (E) (h : sp_times ws G Q E) : t_times { nx := fun _ G' => Q .non G', rt := Cl Q } (startW ["u", "v"] ws) G := by
  obtain ⟨u, v, rfl, s, q⟩ := h
  show t_times _ [some (fr u), some (fr v)] G
  unfold t_times
  walk_at "w"
  exact ⟨s.m4, s.m3, _, _, rfl, den_ne u v, .inl (by rw [← mul_divInt]; exact q)⟩
def sp_is_less : Spw := fun ws G Q _ => ∃ u v : Rat, ws = [fr u, fr v] ∧ sz2 u v ∧ Q (.bl (decide (u < v))) G
theorem len_is_less (ws G Q E) (h : sp_is_less ws G Q E) : ws.length = 2 := by obtain ⟨_, _, rfl, _⟩ := h; rfl
/-- slots: u 0, v 1 -/
def t_is_less : TSw := (wRet (wOp wLt (wOp wMul (wOp wIx (wVar 0) (wC (.int 0))) (wOp wIx (wVar 1) (wC (.int 1)))) (wOp wMul (wOp wIx (wVar 1) (wC (.int 0))) (wOp wIx (wVar 0) (wC (.int 1))))))
theorem rd_is_less (ws : List W) (G : Gp) (Q : QW) (E) (h : sp_is_less ws G Q E) : t_is_less { nx := fun _ G' => Q .non G', rt := Cl Q } (startW ["u", "v"] ws) G := by
  obtain ⟨u, v, rfl, s, q⟩ := h
  show t_is_less _ [some (fr u), some (fr v)] G
  unfold t_is_less
  walk_at "w"
  refine ⟨s.m1, s.m2, .inl ?_⟩
  rw [show decide (u.num * (v.den : Int) < v.num * (u.den : Int)) = decide (u < v) from decide_eq_decide.mpr (Rat.lt_iff u v).symm]
  exact q
end WL


namespace WL
open PySem PySem.Spec PyProof.Rows L2

/-! ### data that may be compared -/
def wD (d : Nat) (w : W) : Prop := wpure w = true ∧ (wdat w).canLay0 = true ∧ (wdat w).depth ≤ d
theorem wD_int {i : Int} : wD 0 (.int i) := ⟨rfl, by simp [wdat, PyData.canLay0], by simp [wdat, PyData.depth]⟩
theorem wD_bl {b : Bool} : wD 0 (.bl b) := ⟨rfl, by simp [wdat, PyData.canLay0], by simp [wdat, PyData.depth]⟩
theorem wD_non : wD 0 .non := ⟨rfl, by simp [wdat, PyData.canLay0], by simp [wdat, PyData.depth]⟩
theorem wD_mono {d e : Nat} {w : W} (h : wD d w) (l : d ≤ e) : wD e w := ⟨h.1, h.2.1, Nat.le_trans h.2.2 l⟩
theorem wDs {d : Nat} : ∀ {ws : List W}, (∀ w ∈ ws, wD d w) → wpures ws = true ∧ PyData.canLayAll0 (wdats ws) = true ∧ PyData.depthAll (wdats ws) ≤ d
  | [], _ => ⟨rfl, by simp [wdats, PyData.canLayAll0], by simp [wdats, PyData.depthAll]⟩
  | w :: ws, h => by
    obtain ⟨a, b, c⟩ := h w (.head _)
    obtain ⟨a', b', c'⟩ := wDs (d := d) (ws := ws) fun v m => h v (.tail _ m)
    refine ⟨by simp [wpures, a, a'], by simp [wdats, PyData.canLayAll0, b, b'], ?_⟩
    simp only [wdats, PyData.depthAll]
    omega
theorem wD_tup {d : Nat} {ws : List W} (h : ∀ w ∈ ws, wD d w) : wD (d + 1) (.tup ws) := by
  obtain ⟨a, b, c⟩ := wDs h
  exact ⟨by simpa [wpure] using a, by simpa [wdat, PyData.canLay0] using b, by simpa [wdat, PyData.depth] using c⟩
theorem wD_lst {d : Nat} {ws : List W} (h : ∀ w ∈ ws, wD d w) : wD (d + 1) (.lst ws) := by
  obtain ⟨a, b, c⟩ := wDs h
  exact ⟨by simpa [wpure] using a, by simpa [wdat, PyData.canLay0] using b, by simpa [wdat, PyData.depth] using c⟩
theorem wOk_of {d : Nat} {w : W} (h : wD d w) (l : d ≤ 64) : wOk w := ⟨h.1, by unfold SeqAt.shaped; rw [h.2.1, Bool.true_and]; exact decide_eq_true (Nat.le_trans h.2.2 l)⟩
theorem weqb_self {d : Nat} {w : W} (h : wD d w) : weqb w w = true := SeqAt.eqv_refl _ h.2.1
theorem wD_fr (u : Rat) : wD 1 (fr u) := wD_tup fun w h => by
  simp only [List.mem_cons, List.not_mem_nil, or_false] at h
  rcases h with rfl | rfl <;> exact wD_int
theorem wNe_lref {p : Addr} {ws us : List W} {G : Gp} {Q : QW} (h : G p = some (.lst ws)) : wNe (.ref p) (.lst us) G Q = (wOk (.lst ws) ∧ wOk (.lst us) ∧ Q (.bl (!weqb (.lst ws) (.lst us))) G) := by
  have e : wder G (.ref p) = .lst ws := by show (match G p with | some (.lst ws) => W.lst ws | _ => .ref p) = .lst ws; rw [h]
  have f : wNe (.ref p) (.lst us) G Q = (wOk (wder G (.ref p)) ∧ wOk (wder G (.lst us)) ∧ Q (.bl (!weqb (wder G (.ref p)) (wder G (.lst us)))) G) := rfl
  rw [f, e]
  rfl
theorem wEq_lref {p : Addr} {ws us : List W} {G : Gp} {Q : QW} (h : G p = some (.lst ws)) : wEq (.ref p) (.lst us) G Q = (wOk (.lst ws) ∧ wOk (.lst us) ∧ Q (.bl (weqb (.lst ws) (.lst us))) G) := by
  have e : wder G (.ref p) = .lst ws := by show (match G p with | some (.lst ws) => W.lst ws | _ => .ref p) = .lst ws; rw [h]
  have f : wEq (.ref p) (.lst us) G Q = (wOk (wder G (.ref p)) ∧ wOk (wder G (.lst us)) ∧ Q (.bl (weqb (wder G (.ref p)) (wder G (.lst us)))) G) := rfl
  rw [f, e]
  rfl
/-! ### two things in the small heap -/
theorem wNe_lrr {p : Addr} {ws us : List W} {G : Gp} {Q : QW} (h : G p = some (.lst ws)) : wNe (.lst us) (.ref p) G Q = (wOk (.lst us) ∧ wOk (.lst ws) ∧ Q (.bl (!weqb (.lst us) (.lst ws))) G) := by
  show (wOk (wder G (.lst us)) ∧ wOk (wder G (.ref p)) ∧ Q (.bl (!weqb (wder G (.lst us)) (wder G (.ref p)))) G) = _
  have e : wder G (.ref p) = .lst ws := by simp only [wder, h]
  rw [e]
  rfl
theorem wEq_lrr {p : Addr} {ws us : List W} {G : Gp} {Q : QW} (h : G p = some (.lst ws)) : wEq (.lst us) (.ref p) G Q = (wOk (.lst us) ∧ wOk (.lst ws) ∧ Q (.bl (weqb (.lst us) (.lst ws))) G) := by
  show (wOk (wder G (.lst us)) ∧ wOk (wder G (.ref p)) ∧ Q (.bl (weqb (wder G (.lst us)) (wder G (.ref p)))) G) = _
  have e : wder G (.ref p) = .lst ws := by simp only [wder, h]
  rw [e]
  rfl
theorem gup_in {G : Gp} {p q : Addr} {a b r : GO} (h : p ≠ q) : gup (gup (gup G p a) q r) p b = gup (gup G p b) q r := by
  funext x
  unfold gup
  by_cases c : x = p
  · subst c; rw [if_pos rfl, if_neg h, if_pos rfl]
  · rw [if_neg c, if_neg c, if_neg c]
theorem gup_fresh {G : Gp} {p q : Addr} {a : GO} (h : gup G p a q = none) : q ≠ p ∧ G q = none := by
  unfold gup at h
  split at h
  · cases h
  · exact ⟨by assumption, h⟩
/-! ### cuts -/
theorem cut_from {α : Type} (f : α → W) (xs : List α) {k : Nat} (h : k ≤ xs.length) : cutW (xs.map f) (some ((k : Nat) : Int)) none = (xs.drop k).map f := by
  unfold cutW
  rw [HT.sIx_nat, HT.sIx_none, List.length_map, Nat.min_eq_left h, List.map_drop]
  rw [List.take_of_length_le (by rw [List.length_drop, List.length_map]; omega)]
theorem cut_1 {α : Type} (f : α → W) (xs : List α) (h : 1 ≤ xs.length) : cutW (xs.map f) (some 1) none = (xs.drop 1).map f := cut_from f xs (k := 1) h
theorem cut_to {α : Type} (f : α → W) (xs : List α) {k : Nat} (h : k ≤ xs.length) : cutW (xs.map f) none (some ((k : Nat) : Int)) = (xs.take k).map f := by
  unfold cutW
  rw [HT.sIx_nat, HT.sIx_none, List.length_map, Nat.min_eq_left h, List.map_take, Nat.sub_zero, List.drop_zero]
/-! ### comprehensions -/
theorem lcW_mapA {α : Type} {gw : TGw} {te : TEw} {σ : SW} {G : Gp} (g h : α → W) : ∀ (xs : List α) (acc : List W) (Q : List W → Gp → Prop),
    (∀ x ∈ xs, ∀ P : QW, P (h x) G → gw (g x) σ G fun σ1 G1 => te σ1 G1 P) → Q (acc ++ xs.map h) G → lcW gw wYes te σ (xs.map g) acc G Q
  | [], acc, Q, _, q => by simpa [lcW] using q
  | x :: xs, acc, Q, hh, q => by
    have h1 := hh x (.head _) (fun y G3 => lcW gw wYes te σ (xs.map g) (acc ++ [y]) G3 Q) (lcW_mapA g h xs (acc ++ [h x]) Q (fun w' hw => hh w' (.tail _ hw)) (by simpa using q))
    simpa only [List.map_cons, lcW, wYes, if_true] using h1
theorem lcW_m {α : Type} {gw : TGw} {te : TEw} {σ : SW} {G : Gp} (g h : α → W) (xs : List α) (Q : List W → Gp → Prop) (hs : ∀ x ∈ xs, ∀ P : QW, P (h x) G → gw (g x) σ G fun σ1 G1 => te σ1 G1 P) (hd : Q (xs.map h) G) : lcW gw wYes te σ (xs.map g) [] G Q :=
  lcW_mapA g h xs [] Q hs (by rw [List.nil_append]; exact hd)
theorem lcR_mapA {α : Type} {p : Addr} {us : List W} {gw : TGw} {te : TEw} {σ : SW} {G : Gp} (hp : G p = some (.lst us)) (g h : α → W) : ∀ (xs : List α) (acc : List W) (Q : List W → Gp → Prop),
    (∀ x ∈ xs, ∀ P : QW, P (h x) G → gw (g x) σ G fun σ1 G1 => te σ1 G1 P) → Q (acc ++ xs.map h) G → lcR p us gw wYes te σ (xs.map g) acc G Q
  | [], acc, Q, _, q => ⟨hp, by simpa using q⟩
  | x :: xs, acc, Q, hh, q => ⟨hp, hh x (.head _) (fun y G3 => lcR p us gw wYes te σ (xs.map g) (acc ++ [y]) G3 Q) (lcR_mapA hp g h xs (acc ++ [h x]) Q (fun w' hw => hh w' (.tail _ hw)) (by simpa using q))⟩
/-- a comprehension that draws: P by what was told and the heap -/
theorem lcW_step {gw : TGw} {te : TEw} {σ : SW} (P : Nat → List W → Gp → Prop) : ∀ (items : List W) (k : Nat) (acc : List W) (G : Gp) (Q : List W → Gp → Prop), P k acc G →
    (∀ w ∈ items, ∀ k acc G (N : QW), P k acc G → (∀ y G', P (k + 1) (acc ++ [y]) G' → N y G') → gw w σ G fun σ1 G1 => te σ1 G1 N) → (∀ acc G, P (k + items.length) acc G → Q acc G) → lcW gw wYes te σ items acc G Q
  | [], k, acc, G, Q, p, _, q => by simpa [lcW] using q acc G p
  | w :: ws, k, acc, G, Q, p, hh, q => by
    have h1 := hh w (.head _) k acc G (fun y G3 => lcW gw wYes te σ ws (acc ++ [y]) G3 Q) p fun y G' p' => lcW_step P ws (k + 1) _ G' Q p' (fun w' m => hh w' (.tail _ m)) fun acc G p2 => q acc G (by rw [List.length_cons]; rw [show k + (ws.length + 1) = k + 1 + ws.length by omega]; exact p2)
    simpa only [lcW, wYes, if_true] using h1
/-! ### the bag stands -/
abbrev BagAt (p : Addr) (G : Gp) : Prop := ∃ c x, G p = some (bagO c x) ∧ 0 ≤ c ∧ 0 ≤ x ∧ x < 2147483648
theorem asL_at {G : Gp} {p : Addr} {ws : List W} (h : G p = some (.lst ws)) : asL G (.ref p) = some ws := by
  show (match G p with | some (.lst ws) => some ws | _ => none) = _
  rw [h]
theorem isG_at {G : Gp} {p : Addr} {ws : List W} {P : List W → Prop} (h : G p = some (.lst ws)) : isG (G p) P = P ws := by rw [h, isG_lst]
theorem BagAt.up {p q : Addr} {G : Gp} {o : GO} (h : BagAt p G) (ne : p ≠ q) : BagAt p (gup G q o) := by
  obtain ⟨c, x, g, r⟩ := h
  exact ⟨c, x, by rw [gup_ne ne]; exact g, r⟩
theorem BagAt.del {p q : Addr} {G : Gp} (h : BagAt p G) (ne : p ≠ q) : BagAt p (gdel G q) := by
  obtain ⟨c, x, g, r⟩ := h
  exact ⟨c, x, by rw [gdel_ne ne]; exact g, r⟩
theorem BagAt.ne {p q : Addr} {G : Gp} (h : BagAt p G) (n : G q = none) : p ≠ q := fun z => by
  obtain ⟨c, x, g, r⟩ := h
  rw [← z, g] at n; cases n
/-! ### a thing put in -/
def insL {α : Type} (k : Nat) (x : α) (xs : List α) : List α := xs.take k ++ [x] ++ xs.drop k
theorem ins_len {α : Type} {k : Nat} {x : α} {xs : List α} : (insL k x xs).length = xs.length + 1 := by
  unfold insL
  rw [List.length_append, List.length_append, List.length_take, List.length_drop, List.length_singleton]
  omega
theorem ins_mem {α : Type} {k : Nat} {x y : α} {xs : List α} (h : y ∈ insL k x xs) : y = x ∨ y ∈ xs := by
  unfold insL at h
  rcases List.mem_append.mp h with h | h
  · rcases List.mem_append.mp h with h | h
    · exact .inr (List.mem_of_mem_take h)
    · exact .inl (List.mem_singleton.mp h)
  · exact .inr (List.mem_of_mem_drop h)
theorem ins_map {α β : Type} (f : α → β) {k : Nat} {x : α} {xs : List α} : (xs.map f).take k ++ [f x] ++ (xs.map f).drop k = (insL k x xs).map f := by
  unfold insL
  rw [List.map_append, List.map_append, List.map_take, List.map_drop]
  rfl
theorem ins_mem' {α : Type} {k : Nat} {x y : α} {xs : List α} (h : y = x ∨ y ∈ xs) : y ∈ insL k x xs := by
  unfold insL
  rcases h with h | h
  · rw [h]; simp
  · rw [← List.take_append_drop k xs] at h
    rcases List.mem_append.mp h with h | h
    · exact List.mem_append.mpr (.inl (List.mem_append.mpr (.inl h)))
    · exact List.mem_append.mpr (.inr h)
theorem lcW_filterA {α : Type} {gw : TGw} {tt : TTw} {te : TEw} {σ : SW} {G : Gp} (g h : α → W) (c : α → Bool) : ∀ (xs : List α) (acc : List W) (Q : List W → Gp → Prop),
    (∀ x ∈ xs, ∀ (R : QW) (P : Gp → Prop), (c x = true → R (h x) G) → (c x = false → P G) → gw (g x) σ G fun σ1 G1 => tt σ1 G1 fun b G2 => if b = true then te σ1 G2 R else P G2) → Q (acc ++ (xs.filter c).map h) G → lcW gw tt te σ (xs.map g) acc G Q
  | [], acc, Q, _, q => by simpa [lcW] using q
  | x :: xs, acc, Q, hh, q => by
    have h1 := hh x (.head _) (fun y G3 => lcW gw tt te σ (xs.map g) (acc ++ [y]) G3 Q) (fun G2 => lcW gw tt te σ (xs.map g) acc G2 Q)
      (fun e => lcW_filterA g h c xs (acc ++ [h x]) Q (fun w' hw => hh w' (.tail _ hw)) (by simpa [List.filter_cons, e] using q))
      (fun e => lcW_filterA g h c xs acc Q (fun w' hw => hh w' (.tail _ hw)) (by simpa [List.filter_cons, e] using q))
    simpa only [List.map_cons, lcW] using h1
theorem lcP_mapA {α : Type} {I : Gp → Prop} {gw : TGw} {te : TEw} {σ : SW} {G : Gp} (hI : I G) (g h : α → W) : ∀ (xs : List α) (acc : List W) (Q : List W → Gp → Prop),
    (∀ x ∈ xs, ∀ P : QW, P (h x) G → gw (g x) σ G fun σ1 G1 => te σ1 G1 P) → Q (acc ++ xs.map h) G → lcP I gw wYes te σ (xs.map g) acc G Q
  | [], acc, Q, _, q => ⟨hI, by simpa using q⟩
  | x :: xs, acc, Q, hh, q => ⟨hI, hh x (.head _) (fun y G3 => lcP I gw wYes te σ (xs.map g) (acc ++ [y]) G3 Q) (lcP_mapA hI g h xs (acc ++ [h x]) Q (fun w' hw => hh w' (.tail _ hw)) (by simpa using q))⟩
theorem gdel_in {G : Gp} {p r : Addr} {o u : GO} (hp : G p = none) (ne : r ≠ p) : gdel (gup (gup G p o) r u) p = gup G r u := by
  funext c
  unfold gdel gup
  by_cases c1 : c = p
  · subst c1; rw [if_pos rfl, if_neg (Ne.symm ne), hp]
  · rw [if_neg c1]
    by_cases c2 : c = r
    · rw [if_pos c2, if_pos c2]
    · rw [if_neg c2, if_neg c2, if_neg c1]
/-- a list told, another one forgotten -/
theorem tell_drop {ws : List W} {Q : QW} {G : Gp} {p r : Addr} {o : GO} (h : tellL ws Q G) (hp : G p = none) (hr : gup G p o r = none) : Cl Q (.ref r) (gup (gup G p o) r (.lst ws)) := by
  obtain ⟨ne, hr'⟩ := gup_fresh hr
  have e := gdel_in (o := o) (u := .lst ws) hp ne
  rcases h with h | h
  · refine .inr ⟨[p], .inr ⟨r, ws, rfl, ?_, ?_⟩⟩
    · show gdel _ p r = _
      rw [e, gup_same]
    · show Q _ (gdel (gdel _ p) r)
      rw [e, gdel_gup hr']; exact h
  · refine .inr ⟨[p], .inl ?_⟩
    show Q _ (gdel _ p)
    rw [e]; exact h r hr'
end WL


namespace WL
open PySem PySem.Spec PyProof.Rows L2

/-! ### what is left behind in the small heap -/
def Trash (G G1 : Gp) : Prop := ∃ ps : List Addr, (∀ p ∈ ps, G p = none) ∧ ∀ q, q ∉ ps → G1 q = G q
theorem Trash.refl {G : Gp} : Trash G G := ⟨[], fun _ h => (by cases h), fun _ _ => rfl⟩
theorem Trash.free {G G1 : Gp} {p : Addr} (t : Trash G G1) (h : G1 p = none) : G p = none := by
  obtain ⟨ps, a, b⟩ := t
  by_cases c : p ∈ ps
  · exact a p c
  · rw [← b p c]; exact h
theorem Trash.at {G G1 : Gp} {p : Addr} {o : GO} (t : Trash G G1) (h : G p = some o) : G1 p = some o := by
  obtain ⟨ps, a, b⟩ := t
  by_cases c : p ∈ ps
  · rw [a p c] at h; cases h
  · rw [b p c]; exact h
theorem Trash.trans {G G1 G2 : Gp} (t : Trash G G1) (u : Trash G1 G2) : Trash G G2 := by
  obtain ⟨ps, a, b⟩ := t
  have fr := fun p h => Trash.free ⟨ps, a, b⟩ (p := p) h
  obtain ⟨qs, c, d⟩ := u
  refine ⟨ps ++ qs, fun p hp => ?_, fun q hq => ?_⟩
  · rcases List.mem_append.mp hp with hp | hp
    · exact a p hp
    · exact fr p (c p hp)
  · rw [List.mem_append] at hq
    rw [d q (fun z => hq (.inr z)), b q (fun z => hq (.inl z))]
theorem Trash.new {G G1 : Gp} {p : Addr} (t : Trash G G1) (h : G1 p = none) (o : GO) : Trash G (gup G1 p o) :=
  t.trans ⟨[p], fun q hq => by rw [List.mem_singleton.mp hq]; exact h, fun q hq => gup_ne (by simpa using hq)⟩
theorem Trash.chg {G G1 : Gp} {p : Addr} (t : Trash G G1) (h : G p = none) (o : GO) : Trash G (gup G1 p o) := by
  obtain ⟨ps, a, b⟩ := t
  refine ⟨p :: ps, fun q hq => ?_, fun q hq => ?_⟩
  · rcases List.mem_cons.mp hq with rfl | hq
    · exact h
    · exact a q hq
  · rw [List.mem_cons] at hq
    rw [gup_ne (fun z => hq (.inl z)), b q (fun z => hq (.inr z))]
theorem Trash.set {G G1 : Gp} {p : Addr} (t : Trash G G1) (h : G p ≠ none) (o : GO) : Trash (gup G p o) (gup G1 p o) := by
  obtain ⟨ps, a, b⟩ := t
  have np : p ∉ ps := fun z => h (a p z)
  refine ⟨ps, fun q hq => ?_, fun q hq => ?_⟩
  · rw [gup_ne (fun z => np (by rw [← z]; exact hq))]; exact a q hq
  · unfold gup
    by_cases c : q = p
    · rw [if_pos c, if_pos c]
    · rw [if_neg c, if_neg c]; exact b q hq
theorem Trash.del {G G1 : Gp} {p : Addr} (t : Trash G G1) (h : G p = none) : Trash G (gdel G1 p) := by
  obtain ⟨ps, a, b⟩ := t
  refine ⟨p :: ps, fun q hq => ?_, fun q hq => ?_⟩
  · rcases List.mem_cons.mp hq with rfl | hq
    · exact h
    · exact a q hq
  · rw [List.mem_cons] at hq
    rw [gdel_ne (fun z => hq (.inl z)), b q (fun z => hq (.inr z))]
theorem foldl_gdel {q : Addr} : ∀ (ps : List Addr) (G : Gp), ps.foldl gdel G q = if q ∈ ps then none else G q
  | [], G => by simp
  | p :: ps, G => by
    rw [List.foldl_cons, foldl_gdel ps]
    by_cases c : q ∈ ps
    · simp [c]
    · by_cases d : q = p
      · simp [c, d, gdel_same]
      · simp [c, d, gdel_ne d]
theorem Trash.drop {G G1 : Gp} (t : Trash G G1) : ∃ ps : List Addr, ps.foldl gdel G1 = G := by
  obtain ⟨ps, a, b⟩ := t
  refine ⟨ps, ?_⟩
  funext q
  rw [foldl_gdel]
  by_cases c : q ∈ ps
  · rw [if_pos c, a q c]
  · rw [if_neg c, b q c]
/-- a value told, what is left behind forgotten -/
theorem Trash.cl {Q : QW} {w : W} {G G1 : Gp} (t : Trash G G1) (h : Q w G) : Cl Q w G1 := by
  obtain ⟨ps, e⟩ := t.drop
  exact .inr ⟨ps, .inl (by rw [e]; exact h)⟩
/-- a list told, what is left behind forgotten -/
theorem tellL.junk {ws : List W} {Q : QW} {G G1 : Gp} {r : Addr} (h : tellL ws Q G) (n : G r = none) (t : Trash (gup G r (.lst ws)) G1) : Cl Q (.ref r) G1 := by
  obtain ⟨ps, e⟩ := t.drop
  refine .inr ⟨ps, ?_⟩
  rw [e]
  rcases h with h | h
  · exact .inr ⟨r, ws, rfl, gup_same, by rw [gdel_gup n]; exact h⟩
  · exact .inl (h r n)
end WL


namespace WL
open PySem PySem.Spec PyProof.Rows L2

/-! ### tables of numbers: one place settled after the other (plain) -/
def sm : Nat → (Nat → Rat) → Rat
  | 0, _ => 0
  | n + 1, f => sm n f + f n
theorem sm_succ (n : Nat) (f : Nat → Rat) : sm (n + 1) f = sm n f + f n := rfl
theorem sm_congr : ∀ {n : Nat} {f g : Nat → Rat}, (∀ c, c < n → f c = g c) → sm n f = sm n g
  | 0, _, _, _ => rfl
  | n + 1, f, g, h => by
    show sm n f + f n = sm n g + g n
    rw [sm_congr fun c hc => h c (by omega), h n (by omega)]
theorem sm_add : ∀ (n : Nat) (f g : Nat → Rat), sm n (fun c => f c + g c) = sm n f + sm n g
  | 0, _, _ => by show (0 : Rat) = 0 + 0; grind
  | n + 1, f, g => by
    show sm n _ + _ = (sm n f + f n) + (sm n g + g n)
    rw [sm_add n f g]
    grind
theorem sm_mul (k : Rat) : ∀ (n : Nat) (f : Nat → Rat), sm n (fun c => k * f c) = k * sm n f
  | 0, _ => by simp [sm]
  | n + 1, f => by
    show sm n _ + _ = k * (sm n f + f n)
    rw [sm_mul k n f]
    grind
theorem sm_zero : ∀ (n : Nat), sm n (fun _ => 0) = 0
  | 0 => rfl
  | n + 1 => by
    show sm n _ + 0 = 0
    rw [sm_zero n]
    grind
theorem sm_one {i : Nat} {f : Nat → Rat} : ∀ {n : Nat}, i < n → (∀ c, c < n → c ≠ i → f c = 0) → sm n f = f i
  | 0, h, _ => absurd h (by omega)
  | n + 1, h, z => by
    show sm n f + f n = f i
    by_cases c : i = n
    · subst c
      rw [sm_congr (g := fun _ => 0) fun c hc => z c (by omega) (by omega), sm_zero]
      grind
    · rw [sm_one (i := i) (by omega) fun c hc => z c (by omega), z n (by omega) (by omega)]
      grind
theorem sm_sub (n : Nat) (f g : Nat → Rat) (k : Rat) : sm n (fun c => f c - k * g c) = sm n f - k * sm n g := by
  rw [sm_congr (g := fun c => f c + (-k) * g c) fun c _ => by grind, sm_add, sm_mul]
  grind
/-- y goes with every row -/
def Ker (n m : Nat) (M : Nat → Nat → Rat) (y : Nat → Rat) : Prop := ∀ i, i < n → sm m (fun c => M i c * y c) = 0
/-- the columns ahead of p are settled -/
def Uni (n p : Nat) (M : Nat → Nat → Rat) : Prop := ∀ i, i < n → ∀ c, c < p → M i c = if i = c then 1 else 0
def stepF (p : Nat) (M : Nat → Nat → Rat) : Nat → Nat → Rat := fun i c => if i = p then M p c / M p p else M i c - M i p * (M p c / M p p)
def swapN (p k i : Nat) : Nat := if i = p then k else if i = k then p else i
def swapF (p k : Nat) (M : Nat → Nat → Rat) : Nat → Nat → Rat := fun i c => M (swapN p k i) c
theorem swapN_lt {n p k i : Nat} (hp : p < n) (hk : k < n) (hi : i < n) : swapN p k i < n := by unfold swapN; split <;> (try split) <;> omega
theorem swapN_swapN {p k i : Nat} : swapN p k (swapN p k i) = i := by unfold swapN; grind
theorem ker_swap {n m p k : Nat} {M : Nat → Nat → Rat} {y : Nat → Rat} (hp : p < n) (hk : k < n) : Ker n m (swapF p k M) y ↔ Ker n m M y := by
  constructor
  · intro h i hi
    have := h (swapN p k i) (swapN_lt hp hk hi)
    unfold swapF at this
    rw [swapN_swapN] at this
    exact this
  · intro h i hi
    exact h _ (swapN_lt hp hk hi)
theorem ker_step {n m p : Nat} {M : Nat → Nat → Rat} {y : Nat → Rat} (hp : p < n) (hz : M p p ≠ 0) : Ker n m (stepF p M) y ↔ Ker n m M y := by
  have lead : sm m (fun c => stepF p M p c * y c) = sm m (fun c => M p c * y c) / M p p := by
    rw [sm_congr (g := fun c => (1 / M p p) * (M p c * y c)) fun c _ => by unfold stepF; rw [if_pos rfl]; grind, sm_mul]
    grind
  have rest : ∀ i, i ≠ p → sm m (fun c => stepF p M i c * y c) = sm m (fun c => M i c * y c) - M i p * (sm m (fun c => M p c * y c) / M p p) := fun i hi => by
    rw [← lead, ← sm_sub]
    refine sm_congr fun c _ => ?_
    unfold stepF
    rw [if_neg hi, if_pos rfl]
    grind
  constructor
  · intro h
    have h0 : sm m (fun c => M p c * y c) = 0 := by
      have := h p hp
      rw [lead] at this
      grind
    intro i hi
    by_cases c : i = p
    · rw [c]; exact h0
    · have := h i hi
      rw [rest i c, h0] at this
      grind
  · intro h i hi
    by_cases c : i = p
    · rw [c, lead, h p hp]; grind
    · rw [rest i c, h p hp, h i hi]; grind
theorem uni_swap {n p k : Nat} {M : Nat → Nat → Rat} (h : Uni n p M) (hp : p < n) (hk : k < n) (hpk : p ≤ k) : Uni n p (swapF p k M) := by
  intro i hi c hc
  unfold swapF
  rw [h _ (swapN_lt hp hk hi) c hc]
  unfold swapN
  grind
theorem uni_step {n p : Nat} {M : Nat → Nat → Rat} (h : Uni n p M) (hp : p < n) (hz : M p p ≠ 0) : Uni n (p + 1) (stepF p M) := by
  intro i hi c hc
  unfold stepF
  by_cases e : c = p
  · subst e
    by_cases d : i = c
    · subst d; rw [if_pos rfl, if_pos rfl]; grind
    · rw [if_neg d, if_neg d]; grind
  · have h1 := h p hp c (by omega)
    have h2 := h i hi c (by omega)
    rw [if_neg (by omega)] at h1
    by_cases d : i = p
    · subst d; rw [if_pos rfl, if_neg (by omega), h1]; grind
    · rw [if_neg d, h1, h2]; grind
theorem uni_full {n : Nat} {M : Nat → Nat → Rat} {y : Nat → Rat} (h : Uni n n M) (k : Ker n (n + 1) M y) {i : Nat} (hi : i < n) : y i + M i n * y n = 0 := by
  have e := k i hi
  have e2 : sm n (fun c => M i c * y c) = M i i * y i := sm_one (f := fun c => M i c * y c) hi fun c hc ne => by rw [h i hi c hc, if_neg (Ne.symm ne)]; grind
  have e3 : sm (n + 1) (fun c => M i c * y c) = sm n (fun c => M i c * y c) + M i n * y n := rfl
  rw [e3, e2, h i hi i hi, if_pos rfl] at e
  grind
theorem uni_stop {n p : Nat} {M : Nat → Nat → Rat} (h : Uni n p M) (hp : p < n) (z : ∀ i, p ≤ i → i < n → M i p = 0) : ∃ y : Nat → Rat, Ker n (n + 1) M y ∧ y n = 0 ∧ y p = 1 := by
  refine ⟨fun c => if c < p then -M c p else if c = p then 1 else 0, fun i hi => ?_, ?_, ?_⟩
  · have a : ∀ m, m ≤ p → sm m (fun c => M i c * (if c < p then -M c p else if c = p then 1 else 0)) = if i < m then -M i p else 0 := by
      intro m
      induction m with
      | zero => intro _; rfl
      | succ m ih =>
        intro hm
        rw [sm_succ, ih (by omega)]
        rw [h i hi m (by omega), if_pos (show m < p by omega)]
        by_cases e : i = m
        · subst e; rw [if_neg (by omega), if_pos rfl, if_pos (by omega)]; grind
        · rw [if_neg e]
          by_cases f : i < m
          · rw [if_pos f, if_pos (by omega)]; grind
          · rw [if_neg f, if_neg (by omega)]; grind
    have b : ∀ d, sm (p + 1 + d) (fun c => M i c * (if c < p then -M c p else if c = p then 1 else 0)) = 0 := by
      intro d
      induction d with
      | zero =>
        rw [show p + 1 + 0 = p + 1 from rfl, sm_succ, a p (Nat.le_refl p)]
        rw [if_neg (show ¬ p < p by omega), if_pos rfl]
        by_cases e : i < p
        · rw [if_pos e]; grind
        · rw [if_neg e, z i (by omega) hi]; grind
      | succ d ih =>
        rw [show p + 1 + (d + 1) = (p + 1 + d) + 1 from rfl, sm_succ, ih]
        rw [if_neg (show ¬ p + 1 + d < p by omega), if_neg (show ¬ p + 1 + d = p by omega)]
        grind
    have := b (n - p)
    rw [show p + 1 + (n - p) = n + 1 by omega] at this
    exact this
  · show (if n < p then _ else _) = _
    rw [if_neg (by omega), if_neg (by omega)]
  · show (if p < p then _ else _) = _
    rw [if_neg (by omega), if_pos rfl]
/-- some rows, each so many times, put together are noughts -/
def Dep (n : Nat) (M : Nat → Nat → Rat) : Prop := ∃ v : Nat → Rat, (∃ i, i < n ∧ v i ≠ 0) ∧ ∀ c, c < n → sm n (fun i => v i * M i c) = 0
theorem sm_setone {n p : Nat} {f : Nat → Rat} {a : Rat} (hp : p < n) : sm n (fun i => if i = p then a else f i) = sm n f + (a - f p) := by
  have e : sm n (fun i => if i = p then a - f p else 0) = a - f p := by
    rw [sm_one (i := p) hp fun c hc ne => by rw [if_neg ne], if_pos rfl]
  rw [← e, ← sm_add]
  refine sm_congr fun c _ => ?_
  by_cases d : c = p
  · subst d; rw [if_pos rfl, if_pos rfl]; grind
  · rw [if_neg d, if_neg d]; grind
theorem sm_swap {n p k : Nat} (hp : p < n) (hk : k < n) (f : Nat → Rat) : sm n (fun i => f (swapN p k i)) = sm n f := by
  by_cases c : p = k
  · subst c
    refine sm_congr fun i _ => ?_
    unfold swapN
    by_cases d : i = p
    · subst d; rw [if_pos rfl]
    · rw [if_neg d, if_neg d]
  · have h1 : ∀ i, f (swapN p k i) = if i = k then f p else (if i = p then f k else f i) := fun i => by
      unfold swapN
      by_cases d : i = p
      · subst d; rw [if_pos rfl, if_neg c, if_pos rfl]
      · rw [if_neg d, if_neg d]; split <;> rfl
    rw [sm_congr fun i _ => h1 i, sm_setone hk, sm_setone hp, if_neg (Ne.symm c)]
    grind
theorem dep_swap {n p k : Nat} {M : Nat → Nat → Rat} (hp : p < n) (hk : k < n) (h : Dep n M) : Dep n (swapF p k M) := by
  obtain ⟨v, ⟨i, hi, vi⟩, z⟩ := h
  refine ⟨fun i => v (swapN p k i), ⟨swapN p k i, swapN_lt hp hk hi, by show v (swapN p k (swapN p k i)) ≠ 0; rw [swapN_swapN]; exact vi⟩, fun c hc => ?_⟩
  exact (sm_swap hp hk (fun i => v i * M i c)).trans (z c hc)
theorem dep_step {n p : Nat} {M : Nat → Nat → Rat} (hp : p < n) (hz : M p p ≠ 0) (h : Dep n M) : Dep n (stepF p M) := by
  obtain ⟨v, ⟨i, hi, vi⟩, z⟩ := h
  have zp := z p hp
  refine ⟨fun i => if i = p then sm n (fun i => v i * M i p) + v p * M p p - v p * M p p else v i, ?_, fun c hc => ?_⟩
  all_goals skip
  · by_cases d : ∃ j, j < n ∧ j ≠ p ∧ v j ≠ 0
    · obtain ⟨j, hj, jp, vj⟩ := d
      exact ⟨j, hj, by show (if j = p then _ else _) ≠ _; rw [if_neg jp]; exact vj⟩
    · exfalso
      have allz : ∀ j, j < n → j ≠ p → v j = 0 := fun j hj jp => Classical.byContradiction fun h => d ⟨j, hj, jp, h⟩
      have ip : i = p := Classical.byContradiction fun h => vi (allz i hi h)
      rw [sm_one (f := fun i => v i * M i p) hp fun c hc ne => by rw [allz c hc ne]; grind] at zp
      have : v p = 0 := by grind
      exact vi (by rw [ip]; exact this)
  · have e1 : ∀ i, (if i = p then sm n (fun i => v i * M i p) + v p * M p p - v p * M p p else v i) * stepF p M i c = if i = p then (sm n (fun i => v i * M i p)) * (M p c / M p p) else v i * M i c - (M p c / M p p) * (v i * M i p) := fun i => by
      unfold stepF
      by_cases d : i = p
      · rw [if_pos d, if_pos d, if_pos d]; grind
      · rw [if_neg d, if_neg d, if_neg d]; grind
    rw [sm_congr fun i _ => e1 i, sm_setone (f := fun i => v i * M i c - (M p c / M p p) * (v i * M i p)) hp, sm_sub, z c hc, zp]
    grind
theorem dep_full {n : Nat} {M : Nat → Nat → Rat} (h : Uni n n M) (d : Dep n M) : False := by
  obtain ⟨v, ⟨i, hi, vi⟩, z⟩ := d
  have := z i hi
  rw [sm_one (f := fun j => v j * M j i) hi fun c hc ne => by rw [h c hc i hi, if_neg ne]; grind, h i hi i hi, if_pos rfl] at this
  exact vi (by grind)
/-! ### sums over a list -/
def lsum {α : Type} (f : α → Rat) : List α → Rat
  | [] => 0
  | x :: xs => f x + lsum f xs
theorem lsum_append {α : Type} (f : α → Rat) : ∀ xs ys : List α, lsum f (xs ++ ys) = lsum f xs + lsum f ys
  | [], ys => by show lsum f ys = 0 + lsum f ys; grind
  | x :: xs, ys => by
    show f x + lsum f (xs ++ ys) = f x + lsum f xs + lsum f ys
    rw [lsum_append f xs ys]; grind
end WL


namespace WL
open PySem PySem.Spec PyProof.Rows L2
local macro_rules | `(tactic| walk_at "w") => `(tactic| try simp only [↓a_seq, ↓a_asg, ↓a_ifS, ↓a_ret, ↓a_retN, ↓a_next, ↓a_break, ↓a_cont, ↓a_drop, ↓a_for, ↓a_C, ↓a_op, ↓a_un, ↓a_neg, ↓a_CB, ↓a_call, ↓a_nil, ↓a_cons, ↓a_tup, ↓a_lst, ↓a_lstM, ↓a_test, ↓a_and, ↓a_or, ↓a_not, ↓a_yes, ↓a_andV, ↓a_orV, ↓a_notV, ↓a_if, ↓a_isN, ↓a_notN, ↓a_chain, ↓a_BM, ↓a_BM0, ↓a_seqI, ↓a_R1, ↓a_R2, ↓a_zip2, ↓a_zipG2, ↓a_zipG3, ↓a_enumG, ↓a_enum, ↓a_lc, ↓a_lcM, ↓a_lcR, ↓a_forR, ↓a_seqR, ↓a_zip2R, ↓a_zipR, ↓a_lstRg, ↓a_lstRgM, ↓a_lcP, ↓a_slice, ↓a_sliceM, ↓a_pN, ↓a_pS, ↓a_augIx, ↓a_gIx, ↓a_par, ↓a_setF, ↓a_meth, ↓a_make, ↓a_makeZ, ↓a_dnew, ↓a_done, ↓a_dput, ↓a_dget, ↓a_din, ↓a_lenD, ↓v_0, ↓g_0, ↓u_0, ↓v_1, ↓g_1, ↓u_1, ↓v_2, ↓g_2, ↓u_2, ↓v_3, ↓g_3, ↓u_3, ↓v_4, ↓g_4, ↓u_4, ↓v_5, ↓g_5, ↓u_5, ↓v_6, ↓g_6, ↓u_6, ↓v_7, ↓g_7, ↓u_7, ↓v_8, ↓g_8, ↓u_8, ↓v_9, ↓g_9, ↓u_9, ↓v_10, ↓g_10, ↓u_10, ↓v_11, ↓g_11, ↓u_11, ↓v_12, ↓g_12, ↓u_12, ↓v_13, ↓g_13, ↓u_13, ↓v_14, ↓g_14, ↓u_14, ↓v_15, ↓g_15, ↓u_15, ↓v_16, ↓g_16, ↓u_16, ↓v_17, ↓g_17, ↓u_17, ↓v_18, ↓g_18, ↓u_18, ↓v_19, ↓g_19, ↓u_19, ↓v_20, ↓g_20, ↓u_20, ↓v_21, ↓g_21, ↓u_21, ↓v_22, ↓g_22, ↓u_22, ↓v_23, ↓g_23, ↓u_23, ↓v_24, ↓g_24, ↓u_24, ↓v_25, ↓g_25, ↓u_25, ↓f_0, ↓fl_0, ↓fn_0, ↓f_1, ↓fl_1, ↓fn_1, ↓f_2, ↓fl_2, ↓fn_2, ↓f_3, ↓fl_3, ↓fn_3, ↓f_4, ↓fl_4, ↓fn_4, ↓f_5, ↓fl_5, ↓fn_5, ↓f_6, ↓fl_6, ↓fn_6, ↓f_7, ↓fl_7, ↓fn_7, ↓f_8, ↓fl_8, ↓fn_8, ↓f_9, ↓fl_9, ↓fn_9, ↓f_10, ↓fl_10, ↓fn_10, ↓f_11, ↓fl_11, ↓fn_11, ↓f_12, ↓fl_12, ↓fn_12, ↓f_13, ↓fl_13, ↓fn_13, ↓f_14, ↓fl_14, ↓fn_14, ↓f_15, ↓fl_15, ↓fn_15, ↓f_16, ↓fl_16, ↓fn_16, ↓f_17, ↓fl_17, ↓fn_17, ↓f_18, ↓fl_18, ↓fn_18, ↓f_19, ↓fl_19, ↓fn_19, ↓f_20, ↓fl_20, ↓fn_20, ↓f_21, ↓fl_21, ↓fn_21, ↓f_22, ↓fl_22, ↓fn_22, ↓f_23, ↓fl_23, ↓fn_23, ↓f_24, ↓fl_24, ↓fn_24, ↓f_25, ↓fl_25, ↓fn_25, ↓asL_lst, ↓asL_scr, ↓asL_gup, ↓wIx_tup, ↓wIx_lst, ↓wIx_scr, ↓wIx_ref, ↓wIx_str, ↓wAdd_int, ↓wAdd_str, ↓wAdd_tup, ↓wAdd_lst, ↓wII_int, ↓wI2_int, ↓wI1_int, ↓wI1N_int, ↓wI2N_int, ↓wLen_tup, ↓wLen_lst, ↓wLen_scr, ↓wLen_ref, ↓wLen_str, ↓wInt_int, ↓wInt_bl, ↓wStrI_int, ↓wEq_int, ↓wEq_str, ↓wEq_bl, ↓wNe_bl, ↓wNe_int, ↓wNe_str, ↓wEq_tup, ↓wNe_tup, ↓wEq_lst, ↓wNe_lst, ↓setIx_ref, ↓gT_tup, ↓gT_lst, ↓gT_ref, ↓gsC_cons, ↓gsN_nil, ↓wAppend_ref, ↓wPop_ref, ↓wExtend_ref, ↓rgO_int, ↓wAddM_lst, ↓wIsB_bl, ↓wReverse_ref, ↓wRepT_tup, ↓wNotB_bl, ↓wInD_lst, ↓wPopAt_ref, ↓wInsert_ref, ↓refR_ref, ↓seqOf_tup, ↓seqOf_lst, ↓seqOf_scr, ↓seqOf_ref, ↓rng1_int, ↓rng2_int, ↓wIsi_non, ↓wIsi_bl, ↓wIsi_int, ↓wIsi_str, ↓wIsi_tup, ↓wIsi_lst, ↓wIsi_ref, ↓wAll_lst, ↓wAny_lst, ↓wSum_lst, ↓wTuple_tup, ↓wTuple_lst, ↓wTuple_ref, ↓wList_tup, ↓wList_lst, ↓wList_ref, ↓wListM_tup, ↓wListM_lst, ↓wCut_tup, ↓wCut_lst, ↓wCut_ref, ↓wCut_str, ↓wRep_lst, ↓wRepM_lst, ↓zipOf_tup, ↓zipOf_lst, ↓enumOf_lst, ↓enumOf_scr, ↓zipG2_eq, ↓zipG3_eq, ↓enumG_eq, ↓wSorted_eq, ↓wSortedM_eq, ↓wClear_ref, ↓wGet_ref, ↓truO_bl, ↓intO_int, ↓isS_some, ↓isG_lst, ↓setF_ref, ↓isI_ins, ↓dPut_ref, ↓isD_dic, ↓insOf_gup, ↓dicOf_gup, keyOf, nk, rangeW_length, sset, skill, swipe, swipe.sforget, lcW, wIn, seqs, inW, eqW, flatW, kdIs, isNon, gup_same, gup_gup, at0, at1, at2, at3, at4, at5, at6, at7, ix0, ix1, ix2, ix3, ix4, ix5, W.bl.injEq, exists_eq_left', List.length_cons, List.length_nil, List.length_map, Nat.zero_add, Nat.reduceAdd, List.set, List.map_cons, List.map_nil, Option.isSome_some, List.all_cons, List.all_nil, List.any_cons, List.any_nil, List.cons_append, List.nil_append, Bool.and_true, Bool.and_self, Bool.or_false, Bool.true_and, Bool.false_and, Bool.and_false, true_and, decide_true, decide_false, Bool.not_true, Bool.not_false, Bool.not_not, Bool.false_eq_true, if_true, if_false, ite_self, beq_self_eq_true])

/-! ### data that is the same -/
theorem wOk_fr (u : Rat) : wOk (fr u) := ⟨rfl, by simp [wdat, wdats, SeqAt.shaped, PyData.canLay0, PyData.canLayAll0, PyData.depth, PyData.depthAll]⟩
theorem weqb_fr (u v : Rat) : weqb (fr u) (fr v) = decide (u = v) := by
  simp only [weqb, wdat, wdats, PyData.eqv, PyData.eqvAll, Bool.and_true]
  by_cases h : u = v
  · subst h; simp
  · rw [decide_eq_false h]
    by_cases c : u.num = v.num
    · have d : u.den ≠ v.den := fun d => h (Rat.ext c d)
      simp only [c, beq_self_eq_true, Bool.true_and, beq_eq_false_iff_ne]
      omega
    · simp [c]
/-! ### the law's own reckoning -/
def sp__law_frac : Spw := fun ws G Q _ => ∃ a b, ws = [.int a, .int b] ∧ b ≠ 0 ∧ Q (fr (Rat.divInt a b)) G
theorem len__law_frac (ws G Q E) (h : sp__law_frac ws G Q E) : ws.length = 2 := by obtain ⟨_, _, rfl, _⟩ := h; rfl
/-- slots: _law_top 0, _law_bottom 1, _law_one 2, _law_other 3 -/
def t__law_frac_b1 : TSw := (wPar 2 3 (wCons (wVar 3) (wCons (wOp wMod (wVar 2) (wVar 3)) wNil)))
def t__law_frac_r1 : TSw := (wRet (wTup (wCons (wOp wFdiv (wVar 0) (wVar 2)) (wCons (wOp wFdiv (wVar 1) (wVar 2)) wNil))))
def t__law_frac_r2 : TSw := (wSeq (wIfS (wTest (wOp wLt (wVar 1) (wC (.int 0)))) (wAsg (wNeg (wVar 2)) (gN 2)) wNext)
    t__law_frac_r1)
def t__law_frac : TSw := (wSeq (wPar 2 3 (wCons (wCB (wI1N fun i => .int (if i < 0 then -i else i)) (wCons (wVar 0) wNil)) (wCons (wCB (wI1N fun i => .int (if i < 0 then -i else i)) (wCons (wVar 1) wNil)) wNil)))
    (wSeq (wWhile [false, false, false, false] (wTest (wOp wNe (wVar 3) (wC (.int 0)))) t__law_frac_b1)
    t__law_frac_r2))
theorem rd__law_frac (ws : List W) (G : Gp) (Q : QW) (E) (h : sp__law_frac ws G Q E) : t__law_frac { nx := fun _ G' => Q .non G', rt := Cl Q } (startW ["_law_top", "_law_bottom", "_law_one", "_law_other"] ws) G := by
  obtain ⟨a, b, rfl, hb, q⟩ := h
  show t__law_frac _ [some (.int a), some (.int b), none, none] G
  have two : 2 ≤ sizeLine := by decide
  unfold t__law_frac
  walk_at "w"
  have ab : ∀ x : Int, (if x < 0 then -x else x) = ((x.natAbs : Nat) : Int) := fun x => by split <;> omega
  rw [ab, ab]
  refine ⟨fun m σ G1 => G1 = G ∧ ∃ u v : Nat, Int.gcd (u : Int) (v : Int) = Int.gcd a b ∧ m = v ∧ σ = [some (.int a), some (.int b), some (.int (u : Int)), some (.int (v : Int))], ⟨_, rfl, a.natAbs, b.natAbs, by simp [Int.gcd], rfl, rfl⟩, ?_⟩
  rintro m σ G1 ⟨rfl, u, v, e, rfl, rfl⟩
  walk_at "w"
  by_cases hv : m = 0
  · subst hv
    rw [if_neg (by simp)]
    have eu : u = Int.gcd a b := by
      rw [← e]
      simp [Int.gcd]
    rw [eu]
    unfold t__law_frac_r2 t__law_frac_r1
    walk_at "w"
    by_cases c : b < 0
    · rw [if_pos (decide_eq_true c)]
      obtain ⟨h0, h1, h2⟩ := divInt_parts (a := a) hb _ (if_pos c).symm
      rw [h1, h2]
      exact ⟨h0, h0, two, .inl q⟩
    · rw [if_neg (by simp; omega)]
      obtain ⟨h0, h1, h2⟩ := divInt_parts (a := a) hb _ (if_neg c).symm
      rw [h1, h2]
      exact ⟨h0, h0, two, .inl q⟩
  · rw [if_pos (by simpa using hv)]
    unfold t__law_frac_b1
    walk_at "w"
    rw [fmodP (by omega)]
    have hp : 0 < m := Nat.pos_of_ne_zero hv
    refine ⟨by omega, u % m, Nat.mod_lt _ hp, m, u % m, ?_, rfl, ?_⟩
    · rw [← e]
      have := gcd_fmod (u : Int) (m : Int)
      rw [fmodP (by omega)] at this
      rw [← this]
      simp
    · simp [skill]
def sp__law_plus : Spw := fun ws G Q _ => ∃ u v, ws = [fr u, fr v] ∧ sz2 u v ∧ Q (fr (u + v)) G
theorem len__law_plus (ws G Q E) (h : sp__law_plus ws G Q E) : ws.length = 2 := by obtain ⟨_, _, rfl, _⟩ := h; rfl
/-- slots: _law_u 0, _law_v 1 -/
def t__law_plus : TSw := (wRet (wCall sp__law_frac (wCons (wOp wAdd (wOp wMul (wOp wIx (wVar 0) (wC (.int 0))) (wOp wIx (wVar 1) (wC (.int 1)))) (wOp wMul (wOp wIx (wVar 1) (wC (.int 0))) (wOp wIx (wVar 0) (wC (.int 1))))) (wCons (wOp wMul (wOp wIx (wVar 0) (wC (.int 1))) (wOp wIx (wVar 1) (wC (.int 1)))) wNil))))
theorem rd__law_plus (ws : List W) (G : Gp) (Q : QW) (E) (h : sp__law_plus ws G Q E) : t__law_plus { nx := fun _ G' => Q .non G', rt := Cl Q } (startW ["_law_u", "_law_v"] ws) G := by
  obtain ⟨u, v, rfl, s, q⟩ := h
  show t__law_plus _ [some (fr u), some (fr v)] G
  unfold t__law_plus
  walk_at "w"
  exact ⟨s.m1, s.m2, s.m3, _, _, rfl, den_ne u v, .inl (by rw [← add_divInt]; exact q)⟩
theorem sz_neg {n : Nat} {u : Rat} (h : sz n u) : sz n (-u) := ⟨by rw [Rat.neg_num, Int.natAbs_neg]; exact h.1, by rw [Rat.neg_den]; exact h.2⟩
theorem fr_neg (v : Rat) : W.tup [.int (-v.num), .int ((v.den : Nat) : Int)] = fr (-v) := by
  show _ = W.tup [.int (-v).num, .int (((-v).den : Nat) : Int)]
  rw [Rat.neg_num, Rat.neg_den]
def sp__law_minus : Spw := fun ws G Q _ => ∃ u v, ws = [fr u, fr v] ∧ sz2 u v ∧ Q (fr (u - v)) G
theorem len__law_minus (ws G Q E) (h : sp__law_minus ws G Q E) : ws.length = 2 := by obtain ⟨_, _, rfl, _⟩ := h; rfl
/-- slots: _law_u 0, _law_v 1 -/
def t__law_minus : TSw := (wRet (wCall sp__law_plus (wCons (wVar 0) (wCons (wTup (wCons (wNeg (wOp wIx (wVar 1) (wC (.int 0)))) (wCons (wOp wIx (wVar 1) (wC (.int 1))) wNil))) wNil))))
theorem rd__law_minus (ws : List W) (G : Gp) (Q : QW) (E) (h : sp__law_minus ws G Q E) : t__law_minus { nx := fun _ G' => Q .non G', rt := Cl Q } (startW ["_law_u", "_law_v"] ws) G := by
  obtain ⟨u, v, rfl, ⟨a, b, s1, s2, s3⟩, q⟩ := h
  show t__law_minus _ [some (fr u), some (fr v)] G
  unfold t__law_minus
  walk_at "w"
  rw [fr_neg]
  exact ⟨by decide, u, -v, rfl, ⟨a, b, s1, sz_neg s2, s3⟩, .inl (by rw [← Rat.sub_eq_add_neg]; exact q)⟩
def sp__law_times : Spw := fun ws G Q _ => ∃ u v, ws = [fr u, fr v] ∧ sz2 u v ∧ Q (fr (u * v)) G
theorem len__law_times (ws G Q E) (h : sp__law_times ws G Q E) : ws.length = 2 := by obtain ⟨_, _, rfl, _⟩ := h; rfl
/-- slots: _law_u 0, _law_v 1 -/
def t__law_times : TSw := (wRet (wCall sp__law_frac (wCons (wOp wMul (wOp wIx (wVar 0) (wC (.int 0))) (wOp wIx (wVar 1) (wC (.int 0)))) (wCons (wOp wMul (wOp wIx (wVar 0) (wC (.int 1))) (wOp wIx (wVar 1) (wC (.int 1)))) wNil))))
theorem rd__law_times (ws : List W) (G : Gp) (Q : QW) (E) (h : sp__law_times ws G Q E) : t__law_times { nx := fun _ G' => Q .non G', rt := Cl Q } (startW ["_law_u", "_law_v"] ws) G := by
  obtain ⟨u, v, rfl, s, q⟩ := h
  show t__law_times _ [some (fr u), some (fr v)] G
  unfold t__law_times
  walk_at "w"
  exact ⟨s.m4, s.m3, _, _, rfl, den_ne u v, .inl (by rw [← mul_divInt]; exact q)⟩
end WL


namespace WL
open PySem PySem.Spec PyProof.Rows L2
local macro_rules | `(tactic| walk_at "w") => `(tactic| try simp only [↓a_seq, ↓a_asg, ↓a_ifS, ↓a_ret, ↓a_retN, ↓a_next, ↓a_break, ↓a_cont, ↓a_drop, ↓a_for, ↓a_C, ↓a_op, ↓a_un, ↓a_neg, ↓a_CB, ↓a_call, ↓a_nil, ↓a_cons, ↓a_tup, ↓a_lst, ↓a_lstM, ↓a_test, ↓a_and, ↓a_or, ↓a_not, ↓a_yes, ↓a_andV, ↓a_orV, ↓a_notV, ↓a_if, ↓a_isN, ↓a_notN, ↓a_chain, ↓a_BM, ↓a_BM0, ↓a_seqI, ↓a_R1, ↓a_R2, ↓a_zip2, ↓a_zipG2, ↓a_zipG3, ↓a_enumG, ↓a_enum, ↓a_lc, ↓a_lcM, ↓a_lcR, ↓a_forR, ↓a_seqR, ↓a_zip2R, ↓a_zipR, ↓a_lstRg, ↓a_lstRgM, ↓a_lcP, ↓a_slice, ↓a_sliceM, ↓a_pN, ↓a_pS, ↓a_augIx, ↓a_gIx, ↓a_par, ↓a_setF, ↓a_meth, ↓a_make, ↓a_makeZ, ↓a_dnew, ↓a_done, ↓a_dput, ↓a_dget, ↓a_din, ↓a_lenD, ↓v_0, ↓g_0, ↓u_0, ↓v_1, ↓g_1, ↓u_1, ↓v_2, ↓g_2, ↓u_2, ↓v_3, ↓g_3, ↓u_3, ↓v_4, ↓g_4, ↓u_4, ↓v_5, ↓g_5, ↓u_5, ↓v_6, ↓g_6, ↓u_6, ↓v_7, ↓g_7, ↓u_7, ↓v_8, ↓g_8, ↓u_8, ↓v_9, ↓g_9, ↓u_9, ↓v_10, ↓g_10, ↓u_10, ↓v_11, ↓g_11, ↓u_11, ↓v_12, ↓g_12, ↓u_12, ↓v_13, ↓g_13, ↓u_13, ↓v_14, ↓g_14, ↓u_14, ↓v_15, ↓g_15, ↓u_15, ↓v_16, ↓g_16, ↓u_16, ↓v_17, ↓g_17, ↓u_17, ↓v_18, ↓g_18, ↓u_18, ↓v_19, ↓g_19, ↓u_19, ↓v_20, ↓g_20, ↓u_20, ↓v_21, ↓g_21, ↓u_21, ↓v_22, ↓g_22, ↓u_22, ↓v_23, ↓g_23, ↓u_23, ↓v_24, ↓g_24, ↓u_24, ↓v_25, ↓g_25, ↓u_25, ↓f_0, ↓fl_0, ↓fn_0, ↓f_1, ↓fl_1, ↓fn_1, ↓f_2, ↓fl_2, ↓fn_2, ↓f_3, ↓fl_3, ↓fn_3, ↓f_4, ↓fl_4, ↓fn_4, ↓f_5, ↓fl_5, ↓fn_5, ↓f_6, ↓fl_6, ↓fn_6, ↓f_7, ↓fl_7, ↓fn_7, ↓f_8, ↓fl_8, ↓fn_8, ↓f_9, ↓fl_9, ↓fn_9, ↓f_10, ↓fl_10, ↓fn_10, ↓f_11, ↓fl_11, ↓fn_11, ↓f_12, ↓fl_12, ↓fn_12, ↓f_13, ↓fl_13, ↓fn_13, ↓f_14, ↓fl_14, ↓fn_14, ↓f_15, ↓fl_15, ↓fn_15, ↓f_16, ↓fl_16, ↓fn_16, ↓f_17, ↓fl_17, ↓fn_17, ↓f_18, ↓fl_18, ↓fn_18, ↓f_19, ↓fl_19, ↓fn_19, ↓f_20, ↓fl_20, ↓fn_20, ↓f_21, ↓fl_21, ↓fn_21, ↓f_22, ↓fl_22, ↓fn_22, ↓f_23, ↓fl_23, ↓fn_23, ↓f_24, ↓fl_24, ↓fn_24, ↓f_25, ↓fl_25, ↓fn_25, ↓asL_lst, ↓asL_scr, ↓asL_gup, ↓wIx_tup, ↓wIx_lst, ↓wIx_scr, ↓wIx_ref, ↓wIx_str, ↓wAdd_int, ↓wAdd_str, ↓wAdd_tup, ↓wAdd_lst, ↓wII_int, ↓wI2_int, ↓wI1_int, ↓wI1N_int, ↓wI2N_int, ↓wLen_tup, ↓wLen_lst, ↓wLen_scr, ↓wLen_ref, ↓wLen_str, ↓wInt_int, ↓wInt_bl, ↓wStrI_int, ↓wEq_int, ↓wEq_str, ↓wEq_bl, ↓wNe_bl, ↓wNe_int, ↓wNe_str, ↓wEq_tup, ↓wNe_tup, ↓wEq_lst, ↓wNe_lst, ↓setIx_ref, ↓gT_tup, ↓gT_lst, ↓gT_ref, ↓gsC_cons, ↓gsN_nil, ↓wAppend_ref, ↓wPop_ref, ↓wExtend_ref, ↓rgO_int, ↓wAddM_lst, ↓wIsB_bl, ↓wReverse_ref, ↓wRepT_tup, ↓wNotB_bl, ↓wInD_lst, ↓wPopAt_ref, ↓wInsert_ref, ↓refR_ref, ↓seqOf_tup, ↓seqOf_lst, ↓seqOf_scr, ↓seqOf_ref, ↓rng1_int, ↓rng2_int, ↓wIsi_non, ↓wIsi_bl, ↓wIsi_int, ↓wIsi_str, ↓wIsi_tup, ↓wIsi_lst, ↓wIsi_ref, ↓wAll_lst, ↓wAny_lst, ↓wSum_lst, ↓wTuple_tup, ↓wTuple_lst, ↓wTuple_ref, ↓wList_tup, ↓wList_lst, ↓wList_ref, ↓wListM_tup, ↓wListM_lst, ↓wCut_tup, ↓wCut_lst, ↓wCut_ref, ↓wCut_str, ↓wRep_lst, ↓wRepM_lst, ↓zipOf_tup, ↓zipOf_lst, ↓enumOf_lst, ↓enumOf_scr, ↓zipG2_eq, ↓zipG3_eq, ↓enumG_eq, ↓wSorted_eq, ↓wSortedM_eq, ↓wClear_ref, ↓wGet_ref, ↓truO_bl, ↓intO_int, ↓isS_some, ↓isG_lst, ↓setF_ref, ↓isI_ins, ↓dPut_ref, ↓isD_dic, ↓insOf_gup, ↓dicOf_gup, keyOf, nk, rangeW_length, sset, skill, swipe, swipe.sforget, lcW, wIn, seqs, inW, eqW, flatW, kdIs, isNon, gup_same, gup_gup, at0, at1, at2, at3, at4, at5, at6, at7, ix0, ix1, ix2, ix3, ix4, ix5, W.bl.injEq, exists_eq_left', List.length_cons, List.length_nil, List.length_map, Nat.zero_add, Nat.reduceAdd, List.set, List.map_cons, List.map_nil, Option.isSome_some, List.all_cons, List.all_nil, List.any_cons, List.any_nil, List.cons_append, List.nil_append, Bool.and_true, Bool.and_self, Bool.or_false, Bool.true_and, Bool.false_and, Bool.and_false, true_and, decide_true, decide_false, Bool.not_true, Bool.not_false, Bool.not_not, Bool.false_eq_true, if_true, if_false, ite_self, beq_self_eq_true])

/-! ### tables: the walk -/
abbrev rowW (r : List Rat) : W := .lst (r.map fun q => fr q)
abbrev rowsW (R : List (List Rat)) : List W := R.map fun r => rowW r
def ent (R : List (List Rat)) (i c : Nat) : Rat := (R.getD i []).getD c 0
def Tall (R : List (List Rat)) (m : Nat) : Prop := ∀ r ∈ R, r.length = m
theorem Tall.at {R : List (List Rat)} {m k : Nat} (h : Tall R m) (hk : k < R.length) : R[k].length = m := h _ (List.getElem_mem hk)
theorem ent_at {R : List (List Rat)} {k c : Nat} (hk : k < R.length) (hc : c < R[k].length) : R[k][c] = ent R k c := by unfold ent; simp [hk, hc]
theorem atI_map {α : Type} (f : α → W) (xs : List α) {k : Nat} (h : k < xs.length) : L2.atI (xs.map f) ((k : Nat) : Int) = some (f xs[k]) := by
  unfold L2.atI
  simp [L2.ixN, h]
/-! ### a row less another, so many times -/
theorem zip_rows : ∀ (r l : List Rat), (r.map fun q => fr q).zipWith tup2 (l.map fun q => fr q) = (r.zip l).map fun x => tup2 (fr x.1) (fr x.2)
  | [], _ => rfl
  | _ :: _, [] => rfl
  | a :: r, b :: l => by
    simp only [List.map_cons, List.zipWith_cons_cons, List.zip_cons_cons]
    rw [zip_rows r l]
def lessL (r : List Rat) (a : Rat) (l : List Rat) : List Rat := (r.zip l).map fun x => x.1 - a * x.2
/-! ### one place settled, as lists -/
def leadL (R : List (List Rat)) (p : Nat) : List Rat := (R.getD p []).map fun u => u / ent R p p
def swapL (R : List (List Rat)) (p k : Nat) : List (List Rat) := (R.set p (R.getD k [])).set k (R.getD p [])
def stepL (R : List (List Rat)) (p : Nat) : List (List Rat) := (R.map fun r => lessL r (r.getD p 0) (leadL R p)).set p (leadL R p)
def AllSz (b : Nat) (R : List (List Rat)) : Prop := ∀ r ∈ R, ∀ q ∈ r, sz b q
def bd (b : Nat) : Nat → Nat
  | 0 => b
  | k + 1 => 4 * bd b k + 1
theorem bd_mono {b : Nat} : ∀ {k n : Nat}, k ≤ n → bd b k ≤ bd b n
  | k, 0, h => by rw [Nat.le_zero.mp h]; exact Nat.le_refl _
  | k, n + 1, h => by
    by_cases c : k = n + 1
    · rw [c]; exact Nat.le_refl _
    · have := bd_mono (b := b) (show k ≤ n by omega)
      show _ ≤ 4 * bd b n + 1
      omega
theorem getD_mem {R : List (List Rat)} {k : Nat} (h : k < R.length) : R.getD k [] ∈ R := by
  rw [List.getD_eq_getElem?_getD, List.getElem?_eq_getElem h]
  exact List.getElem_mem h
theorem lessL_len {r l : List Rat} {a : Rat} (h : r.length = l.length) : (lessL r a l).length = r.length := by
  unfold lessL
  rw [List.length_map, List.length_zip]
  omega
theorem swapL_len {R : List (List Rat)} {p k : Nat} : (swapL R p k).length = R.length := by unfold swapL; rw [List.length_set, List.length_set]
theorem stepL_len {R : List (List Rat)} {p : Nat} : (stepL R p).length = R.length := by unfold stepL; rw [List.length_set, List.length_map]
theorem tall_set {R : List (List Rat)} {m p : Nat} {r : List Rat} (h : Tall R m) (e : r.length = m) : Tall (R.set p r) m := fun z hz => by
  rcases List.mem_or_eq_of_mem_set hz with hz | hz
  · exact h z hz
  · rw [hz]; exact e
theorem all_set {b : Nat} {R : List (List Rat)} {p : Nat} {r : List Rat} (h : AllSz b R) (e : ∀ q ∈ r, sz b q) : AllSz b (R.set p r) := fun z hz => by
  rcases List.mem_or_eq_of_mem_set hz with hz | hz
  · exact h z hz
  · rw [hz]; exact e
theorem swapL_tall {R : List (List Rat)} {m p k : Nat} (h : Tall R m) (hp : p < R.length) (hk : k < R.length) : Tall (swapL R p k) m := tall_set (tall_set h (h _ (getD_mem hk))) (h _ (getD_mem hp))
theorem swapL_all {R : List (List Rat)} {b p k : Nat} (h : AllSz b R) (hp : p < R.length) (hk : k < R.length) : AllSz b (swapL R p k) := all_set (all_set h (h _ (getD_mem hk))) (h _ (getD_mem hp))
theorem leadL_len {R : List (List Rat)} {m p : Nat} (h : Tall R m) (hp : p < R.length) : (leadL R p).length = m := by unfold leadL; rw [List.length_map]; exact h _ (getD_mem hp)
theorem stepL_tall {R : List (List Rat)} {m p : Nat} (h : Tall R m) (hp : p < R.length) : Tall (stepL R p) m := by
  refine tall_set (fun z hz => ?_) (leadL_len h hp)
  obtain ⟨r, hr, rfl⟩ := List.mem_map.mp hz
  rw [lessL_len (by rw [h r hr, leadL_len h hp])]
  exact h r hr
theorem getD_sz {b : Nat} {r : List Rat} {c : Nat} (h : ∀ q ∈ r, sz b q) (hc : c < r.length) : sz b (r.getD c 0) := by
  rw [List.getD_eq_getElem?_getD, List.getElem?_eq_getElem hc]
  exact h _ (List.getElem_mem hc)
theorem ent_sz {b m : Nat} {R : List (List Rat)} {i c : Nat} (h : AllSz b R) (ht : Tall R m) (hi : i < R.length) (hc : c < m) : sz b (ent R i c) := getD_sz (h _ (getD_mem hi)) (by rw [ht _ (getD_mem hi)]; exact hc)
theorem lead_sz {b m : Nat} {R : List (List Rat)} {p : Nat} (h : AllSz b R) (ht : Tall R m) (hp : p < R.length) (hm : p < m) (hz : ent R p p ≠ 0) : ∀ q ∈ leadL R p, sz (b + b) q := fun q hq => by
  obtain ⟨u, hu, rfl⟩ := List.mem_map.mp hq
  exact sz_div hz (h _ (getD_mem hp) u hu) (ent_sz h ht hp hm)
theorem stepL_all {b m : Nat} {R : List (List Rat)} {p : Nat} (h : AllSz b R) (ht : Tall R m) (hp : p < R.length) (hm : p < m) (hz : ent R p p ≠ 0) : AllSz (4 * b + 1) (stepL R p) := by
  have hl := lead_sz h ht hp hm hz
  refine all_set (fun z hz => ?_) fun q hq => sz_mono (hl q hq) (by omega)
  obtain ⟨r, hr, rfl⟩ := List.mem_map.mp hz
  intro q hq
  obtain ⟨⟨u, v⟩, hx, rfl⟩ := List.mem_map.mp hq
  obtain ⟨hu, hv⟩ := List.of_mem_zip hx
  exact sz_mono (sz_sub (h r hr u hu) (sz_mul (getD_sz (h r hr) (by rw [ht r hr]; exact hm)) (hl v hv))) (by omega)
theorem ent_set {R : List (List Rat)} {p i c : Nat} {r : List Rat} (hp : p < R.length) : ent (R.set p r) i c = if i = p then r.getD c 0 else ent R i c := by
  unfold ent
  by_cases d : i = p
  · subst d
    rw [if_pos rfl, show (R.set i r).getD i [] = r by rw [List.getD_eq_getElem?_getD, List.getElem?_set_self hp, Option.getD_some]]
  · rw [if_neg d, show (R.set p r).getD i [] = R.getD i [] by rw [List.getD_eq_getElem?_getD, List.getElem?_set_ne (Ne.symm d), ← List.getD_eq_getElem?_getD]]
theorem ent_swap {R : List (List Rat)} {p k i c : Nat} (hp : p < R.length) (hk : k < R.length) : ent (swapL R p k) i c = swapF p k (ent R) i c := by
  unfold swapL swapF swapN
  rw [ent_set (by rw [List.length_set]; exact hk), ent_set hp]
  show (if i = k then ent R p c else if i = p then ent R k c else ent R i c) = _
  grind
theorem getD_div {r : List Rat} {a : Rat} {c : Nat} (hc : c < r.length) : (r.map fun u => u / a).getD c 0 = r.getD c 0 / a := by
  simp [List.getD_eq_getElem?_getD, hc]
theorem getD_less {r l : List Rat} {a : Rat} {c : Nat} (hc : c < r.length) (hl : c < l.length) : (lessL r a l).getD c 0 = r.getD c 0 - a * l.getD c 0 := by
  unfold lessL
  have hz : c < (r.zip l).length := by rw [List.length_zip]; omega
  simp [List.getD_eq_getElem?_getD, hc, hl, List.getElem?_eq_getElem hz]
theorem ent_step {R : List (List Rat)} {m p i c : Nat} (ht : Tall R m) (hp : p < R.length) (hi : i < R.length) (hc : c < m) : ent (stepL R p) i c = stepF p (ent R) i c := by
  have hl : (leadL R p).getD c 0 = ent R p c / ent R p p := getD_div (by rw [ht _ (getD_mem hp)]; exact hc)
  unfold stepL
  rw [ent_set (by rw [List.length_map]; exact hp), hl]
  unfold stepF
  by_cases d : i = p
  · rw [if_pos d, if_pos d]
  · rw [if_neg d, if_neg d]
    have e : ent (R.map fun r => lessL r (r.getD p 0) (leadL R p)) i c = (lessL (R.getD i []) ((R.getD i []).getD p 0) (leadL R p)).getD c 0 := by
      show (List.getD (R.map fun r => lessL r (r.getD p 0) (leadL R p)) i []).getD c 0 = _
      simp [List.getD_eq_getElem?_getD, hi]
    rw [e, getD_less (by rw [ht _ (getD_mem hi)]; exact hc) (by rw [leadL_len ht hp]; exact hc), hl]
    rfl
theorem ker_congr {n m : Nat} {M M' : Nat → Nat → Rat} {y : Nat → Rat} (h : ∀ i c, i < n → c < m → M i c = M' i c) : Ker n m M y ↔ Ker n m M' y := by
  constructor <;> intro k i hi
  · rw [← k i hi]; exact sm_congr fun c hc => by rw [h i c hi hc]
  · rw [← k i hi]; exact sm_congr fun c hc => by rw [h i c hi hc]
theorem uni_congr {n p m : Nat} {M M' : Nat → Nat → Rat} (hm : p ≤ m) (h : ∀ i c, i < n → c < m → M i c = M' i c) (u : Uni n p M') : Uni n p M := fun i hi c hc => by rw [h i c hi (by omega)]; exact u i hi c hc
theorem dep_congr {n m : Nat} {M M' : Nat → Nat → Rat} (hm : n ≤ m) (h : ∀ i c, i < n → c < m → M i c = M' i c) (d : Dep n M') : Dep n M := by
  obtain ⟨v, e, z⟩ := d
  exact ⟨v, e, fun c hc => by rw [← z c hc]; exact sm_congr fun i hi => by rw [h i c hi (by omega)]⟩
/-- what a place's settling keeps -/
structure Keeps (n b : Nat) (R0 R : List (List Rat)) (p : Nat) : Prop where
  len : R.length = n
  tall : Tall R (n + 1)
  uni : Uni n p (ent R)
  ker : ∀ y, Ker n (n + 1) (ent R) y ↔ Ker n (n + 1) (ent R0) y
  dep : Dep n (ent R0) → Dep n (ent R)
  all : AllSz (bd b p) R
theorem Keeps.step {n b p k : Nat} {R0 R : List (List Rat)} (h : Keeps n b R0 R p) (hp : p < n) (hk : k < n) (hpk : p ≤ k) (hz : ent R k p ≠ 0) : ent (swapL R p k) p p ≠ 0 ∧ Keeps n b R0 (stepL (swapL R p k) p) (p + 1) := by
  have pl : p < R.length := by rw [h.len]; exact hp
  have kl : k < R.length := by rw [h.len]; exact hk
  have es : ∀ i c, i < n → c < n + 1 → ent (swapL R p k) i c = swapF p k (ent R) i c := fun i c _ _ => ent_swap pl kl
  have nz : ent (swapL R p k) p p ≠ 0 := by
    rw [ent_swap pl kl]
    unfold swapF swapN
    rw [if_pos rfl]
    exact hz
  have pl2 : p < (swapL R p k).length := by rw [swapL_len]; exact pl
  have t2 := swapL_tall h.tall pl kl
  have e2 : ∀ i c, i < n → c < n + 1 → ent (stepL (swapL R p k) p) i c = stepF p (ent (swapL R p k)) i c := fun i c hi hc => ent_step t2 pl2 (by rw [swapL_len, h.len]; exact hi) hc
  refine ⟨nz, by rw [stepL_len, swapL_len, h.len], stepL_tall t2 pl2, ?_, fun y => ?_, fun d => ?_, ?_⟩
  · exact uni_congr (by omega) e2 (uni_step (uni_congr (by omega) es (uni_swap h.uni hp hk hpk)) hp nz)
  · rw [ker_congr e2, ker_step hp nz, ker_congr es, ker_swap hp hk]
    exact h.ker y
  · exact dep_congr (by omega) e2 (dep_step hp nz (dep_congr (by omega) es (dep_swap hp hk (h.dep d))))
  · exact stepL_all (swapL_all h.all pl kl) t2 pl2 (by omega) nz
/-! ### solved -/
def Nonsing (n : Nat) (M : Nat → Nat → Rat) : Prop := ∀ y : Nat → Rat, (∀ i, i < n → sm n (fun c => M i c * y c) = 0) → ∀ c, c < n → y c = 0
/-- some rows put together are noughts, or some columns -/
def Sing (n : Nat) (M : Nat → Nat → Rat) : Prop := Dep n M ∨ ∃ y : Nat → Rat, (∃ i, i < n ∧ y i ≠ 0) ∧ ∀ i, i < n → sm n (fun c => M i c * y c) = 0
def augL (T : List (List Rat)) (bs : List Rat) : List (List Rat) := (T.zip bs).map fun x => x.1 ++ [x.2]
structure Table (n b : Nat) (T : List (List Rat)) (bs : List Rat) : Prop where
  len : T.length = n
  lenb : bs.length = n
  tall : Tall T n
  few : n ≤ 900
  all : AllSz b T
  allb : ∀ q ∈ bs, sz b q
  small : bd b n ≤ 30000000
theorem aug_len {n b : Nat} {T : List (List Rat)} {bs : List Rat} (h : Table n b T bs) : (augL T bs).length = n := by
  unfold augL
  rw [List.length_map, List.length_zip, h.len, h.lenb]
  omega
theorem aug_ent {n b : Nat} {T : List (List Rat)} {bs : List Rat} (h : Table n b T bs) {i c : Nat} (hi : i < n) : ent (augL T bs) i c = if c < n then ent T i c else if c = n then bs.getD i 0 else 0 := by
  have h1 : i < T.length := by rw [h.len]; exact hi
  have h2 : i < bs.length := by rw [h.lenb]; exact hi
  have h3 : i < (T.zip bs).length := by rw [List.length_zip]; omega
  have h4 : T[i].length = n := h.tall.at h1
  have e : (augL T bs).getD i [] = T[i] ++ [bs[i]] := by
    unfold augL
    simp [List.getD_eq_getElem?_getD, List.getElem?_eq_getElem h3]
  unfold ent
  rw [e, show T.getD i [] = T[i] by simp [List.getD_eq_getElem?_getD, h1], show bs.getD i 0 = bs[i] by simp [List.getD_eq_getElem?_getD, h2]]
  by_cases d : c < n
  · rw [if_pos d]
    simp [List.getD_eq_getElem?_getD, List.getElem?_append_left (show c < T[i].length by omega)]
  · rw [if_neg d]
    by_cases f : c = n
    · rw [if_pos f]
      simp [List.getD_eq_getElem?_getD, List.getElem?_append_right (show T[i].length ≤ c by omega), show c - T[i].length = 0 by omega]
    · rw [if_neg f]
      simp [List.getD_eq_getElem?_getD, List.getElem?_append_right (show T[i].length ≤ c by omega), List.getElem?_eq_none (show [bs[i]].length ≤ c - T[i].length by rw [List.length_singleton]; omega)]
theorem aug_keeps {n b : Nat} {T : List (List Rat)} {bs : List Rat} (h : Table n b T bs) : Keeps n b (augL T bs) (augL T bs) 0 := by
  refine ⟨aug_len h, fun r hr => ?_, fun i hi c hc => absurd hc (by omega), fun y => Iff.rfl, id, fun r hr => ?_⟩
  all_goals
    obtain ⟨⟨u, v⟩, hx, rfl⟩ := List.mem_map.mp hr
    obtain ⟨hu, hv⟩ := List.of_mem_zip hx
  · show (u ++ [v]).length = n + 1
    rw [List.length_append, h.tall u hu, List.length_singleton]
  · intro q hq
    rcases List.mem_append.mp hq with hq | hq
    · exact h.all u hu q hq
    · rw [List.mem_singleton] at hq
      rw [hq]
      exact h.allb v hv
theorem aug_ker0 {n b : Nat} {T : List (List Rat)} {bs : List Rat} (h : Table n b T bs) {y : Nat → Rat} (z : y n = 0) (k : Ker n (n + 1) (ent (augL T bs)) y) : ∀ i, i < n → sm n (fun c => ent T i c * y c) = 0 := fun i hi => by
  have e := k i hi
  rw [sm_succ, z] at e
  have e2 : sm n (fun c => ent (augL T bs) i c * y c) = sm n (fun c => ent T i c * y c) := sm_congr fun c hc => by rw [aug_ent h hi, if_pos hc]
  rw [e2] at e
  grind
theorem aug_ker1 {n b : Nat} {T : List (List Rat)} {bs : List Rat} (h : Table n b T bs) {x : List Rat} (hx : x.length = n) (s : ∀ i, i < n → sm n (fun c => ent T i c * x.getD c 0) = bs.getD i 0) : Ker n (n + 1) (ent (augL T bs)) (fun c => if c < n then x.getD c 0 else -1) := fun i hi => by
  rw [sm_succ, aug_ent h hi, if_neg (show ¬ n < n by omega), if_pos rfl]
  show _ + _ * (if n < n then x.getD n 0 else -1) = _
  rw [if_neg (show ¬ n < n by omega), ← s i hi]
  have e2 : sm n (fun c => ent (augL T bs) i c * (if c < n then x.getD c 0 else -1)) = sm n (fun c => ent T i c * x.getD c 0) := sm_congr fun c hc => by rw [aug_ent h hi, if_pos hc, if_pos hc]
  rw [e2]
  grind
theorem aug_dep {n b : Nat} {T : List (List Rat)} {bs : List Rat} (h : Table n b T bs) (d : Dep n (ent T)) : Dep n (ent (augL T bs)) := by
  obtain ⟨v, e, z⟩ := d
  exact ⟨v, e, fun c hc => by rw [← z c hc]; exact sm_congr fun i hi => by rw [aug_ent h hi, if_pos hc]⟩
/-- the last column is what was asked for -/
theorem keeps_end {n b : Nat} {T R : List (List Rat)} {bs x : List Rat} (h : Table n b T bs) (k : Keeps n b (augL T bs) R n) (hx : x.length = n) (s : ∀ i, i < n → sm n (fun c => ent T i c * x.getD c 0) = bs.getD i 0) : R.map (fun r => r.getD n 0) = x := by
  have kk := (k.ker _).mpr (aug_ker1 h hx s)
  refine List.ext_getElem (by rw [List.length_map, k.len, hx]) fun i h1 h2 => ?_
  have hi : i < n := by omega
  have e := uni_full k.uni kk hi
  rw [if_pos hi, if_neg (by omega)] at e
  have e3 : ent R i n = x.getD i 0 := by grind
  rw [List.getElem_map]
  rw [List.length_map] at h1
  have e4 : ent R i n = R[i].getD n 0 := by unfold ent; rw [show R.getD i [] = R[i] by simp [List.getD_eq_getElem?_getD, h1]]
  rw [← e4, e3]
  simp [List.getD_eq_getElem?_getD, h2]
theorem keeps_sol {n b : Nat} {T R : List (List Rat)} {bs : List Rat} (h : Table n b T bs) (k : Keeps n b (augL T bs) R n) {i : Nat} (hi : i < n) : sm n (fun c => ent T i c * (R.map (fun r => r.getD n 0)).getD c 0) = bs.getD i 0 := by
  have ev : ∀ c, c < n → (R.map (fun r => r.getD n 0)).getD c 0 = ent R c n := fun c hc => by
    have : c < R.length := by rw [k.len]; exact hc
    unfold ent
    simp [List.getD_eq_getElem?_getD, this]
  have kr : Ker n (n + 1) (ent R) (fun c => if c < n then ent R c n else -1) := fun j hj => by
    rw [sm_succ]
    show _ + _ * (if n < n then ent R n n else -1) = _
    rw [if_neg (show ¬ n < n by omega), sm_one (i := j) hj (fun c hc ne => by rw [k.uni j hj c hc, if_neg (Ne.symm ne)]; grind), k.uni j hj j hj, if_pos rfl]
    show 1 * (if j < n then ent R j n else -1) + _ = _
    rw [if_pos hj]
    grind
  have e := (k.ker _).mp kr i hi
  rw [sm_succ, aug_ent h hi, if_neg (show ¬ n < n by omega), if_pos rfl] at e
  have e1 : (if n < n then ent R n n else (-1 : Rat)) = -1 := if_neg (show ¬ n < n by omega)
  have e' := e
  simp only [e1] at e'
  have e2 : sm n (fun c => ent (augL T bs) i c * (if c < n then ent R c n else -1)) = sm n (fun c => ent T i c * (R.map (fun r => r.getD n 0)).getD c 0) := sm_congr fun c hc => by rw [aug_ent h hi, if_pos hc, if_pos hc, ev c hc]
  rw [e2] at e'
  grind
theorem keeps_stop {n b p : Nat} {T R : List (List Rat)} {bs : List Rat} (h : Table n b T bs) (k : Keeps n b (augL T bs) R p) (hp : p < n) (z : ∀ i, p ≤ i → i < R.length → ent R i p = 0) (ns : Nonsing n (ent T)) : False := by
  obtain ⟨y, ky, yn, yp⟩ := uni_stop k.uni hp fun i h1 h2 => z i h1 (by rw [k.len]; exact h2)
  have := ns y (aug_ker0 h yn ((k.ker y).mp ky)) p hp
  rw [yp] at this
  grind
theorem keeps_sing {n b : Nat} {T R : List (List Rat)} {bs : List Rat} (h : Table n b T bs) (k : Keeps n b (augL T bs) R n) (s : Sing n (ent T)) : False := by
  rcases s with d | ⟨y, ⟨i, hi, yi⟩, z⟩
  · exact dep_full k.uni (k.dep (aug_dep h d))
  · have kk : Ker n (n + 1) (ent (augL T bs)) (fun c => if c < n then y c else 0) := fun j hj => by
      rw [sm_succ]
      have e2 : sm n (fun c => ent (augL T bs) j c * (if c < n then y c else 0)) = sm n (fun c => ent T j c * y c) := sm_congr fun c hc => by rw [aug_ent h hj, if_pos hc, if_pos hc]
      rw [e2, z j hj]
      show 0 + _ * (if n < n then y n else 0) = 0
      rw [if_neg (show ¬ n < n by omega)]
      grind
    have e := uni_full k.uni ((k.ker _).mpr kk) hi
    rw [if_pos hi, if_neg (show ¬ n < n by omega)] at e
    exact yi (by grind)
theorem ixN_natW {n j : Nat} (h : j < n) : L2.ixN n ((j : Nat) : Int) = some j := by simp [L2.ixN, h]
theorem atI_rows {R : List (List Rat)} {k : Nat} (h : k < R.length) : L2.atI (rowsW R) ((k : Nat) : Int) = some (rowW (R.getD k [])) := by
  rw [atI_map _ _ h, show R.getD k [] = R[k] by simp [List.getD_eq_getElem?_getD, h]]
theorem atI_frs {r : List Rat} {k : Nat} (h : k < r.length) : L2.atI (r.map fun q => fr q) ((k : Nat) : Int) = some (fr (r.getD k 0)) := by
  rw [atI_map _ _ h, show r.getD k 0 = r[k] by simp [List.getD_eq_getElem?_getD, h]]
theorem atI_last {r : List Rat} {n : Nat} (h : r.length = n + 1) : L2.atI (r.map fun q => fr q) (-1) = some (fr (r.getD n 0)) := by
  unfold L2.atI
  rw [show L2.ixN (r.map fun q => fr q).length (-1) = some n by
    unfold L2.ixN
    rw [List.length_map, h, if_neg (by decide), if_pos (by omega)]
    congr 1
    omega]
  have hn : n < r.length := by omega
  simp [List.getD_eq_getElem?_getD, hn]
theorem rows_swap {R : List (List Rat)} {i k : Nat} : ((rowsW R).set i (rowW (R.getD k []))).set k (rowW (R.getD i [])) = rowsW (swapL R i k) := by
  unfold swapL rowsW
  rw [List.map_set, List.map_set]
/-! ### what several laws over tables use -/
def dotL (n : Nat) (r : List Rat) (y : Nat → Rat) : Rat := sm n fun c => r.getD c 0 * y c
def moreL (r : List Rat) (a : Rat) (l : List Rat) : List Rat := (r.zip l).map fun x => x.1 + a * x.2
theorem more_len {r l : List Rat} {a : Rat} (h : r.length = l.length) : (moreL r a l).length = r.length := by unfold moreL; rw [List.length_map, List.length_zip]; omega
theorem bag_in {G : Gp} {p q : Addr} {a r : GO} (h : p ≠ q) : gup (gup G p a) q r p = some a := by rw [gup_ne h, gup_same]
theorem zip_more {r l : List Rat} : (r.map fun q => fr q).zipWith tup2 (l.map fun q => fr q) = (r.zip l).map fun x => .tup [fr x.1, fr x.2] := zip_rows r l
theorem rows_set {R : List (List Rat)} {i : Nat} {r : List Rat} : (rowsW R).set i (rowW r) = rowsW (R.set i r) := by unfold rowsW; rw [List.map_set]
theorem wD_frs (x : List Rat) : wD 2 (.lst (x.map fun q => fr q)) := wD_lst fun w h => by
  obtain ⟨q, _, rfl⟩ := List.mem_map.mp h
  exact wD_fr q
theorem wD_rows (R : List (List Rat)) : wD 3 (.lst (rowsW R)) := wD_lst fun w h => by
  obtain ⟨q, _, rfl⟩ := List.mem_map.mp h
  exact wD_frs q
end WL


namespace WL
open PySem PySem.Spec PyProof.Rows L2

/-! ### what hangs together (plain) -/
/-- a set that no line leaves -/
def Shut (es : List (Nat × Nat)) (S : Nat → Prop) : Prop := ∀ e ∈ es, S e.1 ↔ S e.2
def Conn (n : Nat) (es : List (Nat × Nat)) : Prop := ∀ S : Nat → Prop, S 0 → Shut es S → ∀ v, v < n → S v
theorem full_of_nodup : ∀ (n : Nat) (l : List Nat), l.Nodup → (∀ x ∈ l, x < n) → l.length ≤ n ∧ (l.length = n → ∀ v, v < n → v ∈ l)
  | 0, [], _, _ => ⟨Nat.le_refl _, fun _ v hv => absurd hv (by omega)⟩
  | 0, x :: l, _, h => absurd (h x (.head _)) (by omega)
  | n + 1, l, nd, h => by
    by_cases c : n ∈ l
    · have nd2 := nd.erase n
      have len := List.length_erase_of_mem c
      have h2 : ∀ x ∈ l.erase n, x < n := fun x hx => by
        have h3 := h x (List.mem_of_mem_erase hx)
        have h4 : x ≠ n := fun z => by rw [z] at hx; exact (nd.not_mem_erase) hx
        omega
      obtain ⟨a, b⟩ := full_of_nodup n (l.erase n) nd2 h2
      have pos : 0 < l.length := List.length_pos_of_mem c
      refine ⟨by omega, fun e v hv => ?_⟩
      by_cases d : v = n
      · rw [d]; exact c
      · exact List.mem_of_mem_erase (b (by omega) v (by omega))
    · have h2 : ∀ x ∈ l, x < n := fun x hx => by
        have := h x hx
        have : x ≠ n := fun z => c (z ▸ hx)
        omega
      obtain ⟨a, b⟩ := full_of_nodup n l nd h2
      exact ⟨by omega, fun e => absurd e (by omega)⟩
/-- what was met from 0 on, and nothing beyond, is all: then it hangs together -/
theorem met_conn {n : Nat} {es : List (Nat × Nat)} {met : List Nat} (nd : met.Nodup) (lt : ∀ x ∈ met, x < n) (h0 : 0 ∈ met) (sh : Shut es (· ∈ met)) (all : ∀ S : Nat → Prop, S 0 → Shut es S → ∀ v ∈ met, S v) : met.length = n ↔ Conn n es := by
  obtain ⟨a, b⟩ := full_of_nodup n met nd lt
  constructor
  · intro e S s0 sS v hv
    exact all S s0 sS v (b e v hv)
  · intro c
    have f := c (· ∈ met) h0 sh
    have g := List.nodup_range.length_le_of_subset (l₁ := List.range n) (l₂ := met) fun v hv => f v (List.mem_range.mp hv)
    rw [List.length_range] at g
    omega
/-- what was met, what is left to look from; done: p alone is still looked from, along the first k lines -/
structure Seek (n : Nat) (es : List (Nat × Nat)) (met left : List Nat) : Prop where
  nd : met.Nodup
  lt : ∀ x ∈ met, x < n
  h0 : 0 ∈ met
  sub : ∀ x ∈ left, x ∈ met
  all : ∀ S : Nat → Prop, S 0 → Shut es S → ∀ v ∈ met, S v
def DoneAt (es : List (Nat × Nat)) (met : List Nat) (v : Nat) : Prop := ∀ e ∈ es, (e.1 = v → e.2 ∈ met) ∧ (e.2 = v → e.1 ∈ met)
theorem DoneAt.mono {es : List (Nat × Nat)} {met met' : List Nat} {v : Nat} (h : DoneAt es met v) (m : ∀ x ∈ met, x ∈ met') : DoneAt es met' v := fun e he => ⟨fun z => m _ ((h e he).1 z), fun z => m _ ((h e he).2 z)⟩
theorem seek_start {n : Nat} {es : List (Nat × Nat)} (hn : 0 < n) : Seek n es [0] [0] :=
  ⟨by simp, fun x hx => by rw [List.mem_singleton.mp hx]; exact hn, .head _, fun _ h => h, fun S s0 _ v hv => by rw [List.mem_singleton.mp hv]; exact s0⟩
theorem seek_add {n : Nat} {es : List (Nat × Nat)} {met left : List Nat} {p t : Nat} (h : Seek n es met left) (hp : p ∈ met) (ht : t ∉ met) (tn : t < n) (e : (p, t) ∈ es ∨ (t, p) ∈ es) : Seek n es (met ++ [t]) (left ++ [t]) := by
  refine ⟨?_, fun x hx => ?_, List.mem_append.mpr (.inl h.h0), fun x hx => ?_, fun S s0 sS v hv => ?_⟩
  · rw [List.nodup_append]
    refine ⟨h.nd, by simp, fun a ha b hb => ?_⟩
    rw [List.mem_singleton.mp hb]
    exact fun z => ht (z ▸ ha)
  · rcases List.mem_append.mp hx with hx | hx
    · exact h.lt x hx
    · rw [List.mem_singleton.mp hx]; exact tn
  · rcases List.mem_append.mp hx with hx | hx
    · exact List.mem_append.mpr (.inl (h.sub x hx))
    · exact List.mem_append.mpr (.inr hx)
  · rcases List.mem_append.mp hv with hv | hv
    · exact h.all S s0 sS v hv
    · rw [List.mem_singleton.mp hv]
      have sp := h.all S s0 sS p hp
      rcases e with e | e
      · exact (sS _ e).mp sp
      · exact (sS _ e).mpr sp
theorem seek_end {n : Nat} {es : List (Nat × Nat)} {met : List Nat} (h : Seek n es met []) (d : ∀ v ∈ met, DoneAt es met v) : met.length = n ↔ Conn n es :=
  met_conn h.nd h.lt h.h0 (fun e he => ⟨fun z => (d _ z e he).1 rfl, fun z => (d _ z e he).2 rfl⟩) h.all
theorem seek_len {n : Nat} {es : List (Nat × Nat)} {met left : List Nat} (h : Seek n es met left) : met.length ≤ n := (full_of_nodup n met h.nd h.lt).1
/-! the law's way: labels -/
structure Lab (n : Nat) (es : List (Nat × Nat)) (f : Nat → Nat) : Prop where
  z : f 0 = 0
  same : ∀ e ∈ es, f e.1 = f e.2
  set : ∀ S : Nat → Prop, Shut es S → ∀ v, v < n → (S v ↔ S (f v))
  lt : ∀ v, v < n → f v < n
theorem lab_start {n : Nat} : Lab n [] (fun v => v) := ⟨rfl, fun e he => (by cases he), fun _ _ _ _ => Iff.rfl, fun _ h => h⟩
def relab (f : Nat → Nat) (a b : Nat) : Nat → Nat := fun v => if f v = max (f a) (f b) then min (f a) (f b) else f v
theorem lab_step {n a b : Nat} {es : List (Nat × Nat)} {f : Nat → Nat} (h : Lab n es f) (ha : a < n) (hb : b < n) : Lab n (es ++ [(a, b)]) (relab f a b) := by
  have hfa := h.lt a ha
  have hfb := h.lt b hb
  refine ⟨?_, fun e he => ?_, fun S sS v hv => ?_, fun v hv => ?_⟩
  · unfold relab; rw [h.z]; split <;> omega
  · rcases List.mem_append.mp he with he | he
    · unfold relab; rw [h.same e he]
    · rw [List.mem_singleton.mp he]
      show relab f a b a = relab f a b b
      unfold relab
      split <;> split <;> omega
  · have sE : Shut es S := fun e he => sS e (List.mem_append.mpr (.inl he))
    have sab : S a ↔ S b := sS (a, b) (List.mem_append.mpr (.inr (.head _)))
    have s1 := h.set S sE a ha
    have s2 := h.set S sE b hb
    have s3 := h.set S sE v hv
    unfold relab
    by_cases c : f v = max (f a) (f b)
    · rw [if_pos c, s3, c]
      by_cases d : f a ≤ f b
      · rw [Nat.max_eq_right d, Nat.min_eq_left d, ← s2, ← s1]; exact sab.symm
      · rw [Nat.max_eq_left (by omega), Nat.min_eq_right (by omega), ← s2, ← s1]; exact sab
    · rw [if_neg c]; exact s3
  · have := h.lt v hv
    unfold relab
    split <;> omega
theorem lab_end {n : Nat} {es : List (Nat × Nat)} {f : Nat → Nat} (h : Lab n es f) : (∀ v, v < n → f v = 0) ↔ Conn n es := by
  constructor
  · intro z S s0 sS v hv
    have := h.set S sS v hv
    rw [z v hv] at this
    exact this.mpr s0
  · intro c v hv
    exact c (fun v => f v = 0) h.z (fun e he => by show f e.1 = 0 ↔ f e.2 = 0; rw [h.same e he]) v hv
noncomputable def connB (n : Nat) (es : List (Nat × Nat)) : Bool := @decide (Conn n es) (Classical.propDecidable _)
theorem connB_of {n : Nat} {es : List (Nat × Nat)} {p : Prop} [Decidable p] (h : p ↔ Conn n es) : decide p = connB n es := by
  unfold connB
  by_cases c : p
  · rw [decide_eq_true c]; symm; exact @decide_eq_true _ (Classical.propDecidable _) (h.mp c)
  · rw [decide_eq_false c]; symm; exact @decide_eq_false _ (Classical.propDecidable _) fun z => c (h.mpr z)
theorem connB_iff {n : Nat} {es : List (Nat × Nat)} : connB n es = true ↔ Conn n es := by
  unfold connB
  exact @decide_eq_true_iff _ (Classical.propDecidable _)
/-! lines -/
structure Ln where
  a : Nat
  b : Nat
  s : Nat
  m : Nat
def Ln.e (l : Ln) : Nat × Nat := (l.a, l.b)
structure LnOk (n : Nat) (l : Ln) : Prop where
  a : l.a < n
  b : l.b < n
  ne : l.a ≠ l.b
  s : 1 ≤ l.s ∧ l.s ≤ 9
  m : l.m ≤ 99
abbrev lineW (l : Ln) : W := .tup [.int ((l.a : Nat) : Int), .int ((l.b : Nat) : Int), .int ((l.s : Nat) : Int), .int ((l.m : Nat) : Int)]
abbrev linesW (ls : List Ln) : List W := ls.map fun l => lineW l
abbrev netW (n : Nat) (ls : List Ln) : W := .tup [.int ((n : Nat) : Int), .tup (linesW ls)]
abbrev edges (ls : List Ln) : List (Nat × Nat) := ls.map Ln.e
def dropL (ls : List Ln) (k : Nat) : List Ln := ls.take k ++ ls.drop (k + 1)
end WL


namespace WL
open PySem PySem.Spec PyProof.Rows L2
local macro_rules | `(tactic| walk_at "w") => `(tactic| try simp only [↓a_seq, ↓a_asg, ↓a_ifS, ↓a_ret, ↓a_retN, ↓a_next, ↓a_break, ↓a_cont, ↓a_drop, ↓a_for, ↓a_C, ↓a_op, ↓a_un, ↓a_neg, ↓a_CB, ↓a_call, ↓a_nil, ↓a_cons, ↓a_tup, ↓a_lst, ↓a_lstM, ↓a_test, ↓a_and, ↓a_or, ↓a_not, ↓a_yes, ↓a_andV, ↓a_orV, ↓a_notV, ↓a_if, ↓a_isN, ↓a_notN, ↓a_chain, ↓a_BM, ↓a_BM0, ↓a_seqI, ↓a_R1, ↓a_R2, ↓a_zip2, ↓a_zipG2, ↓a_zipG3, ↓a_enumG, ↓a_enum, ↓a_lc, ↓a_lcM, ↓a_lcR, ↓a_forR, ↓a_seqR, ↓a_zip2R, ↓a_zipR, ↓a_lstRg, ↓a_lstRgM, ↓a_lcP, ↓a_slice, ↓a_sliceM, ↓a_pN, ↓a_pS, ↓a_augIx, ↓a_gIx, ↓a_par, ↓a_setF, ↓a_meth, ↓a_make, ↓a_makeZ, ↓a_dnew, ↓a_done, ↓a_dput, ↓a_dget, ↓a_din, ↓a_lenD, ↓v_0, ↓g_0, ↓u_0, ↓v_1, ↓g_1, ↓u_1, ↓v_2, ↓g_2, ↓u_2, ↓v_3, ↓g_3, ↓u_3, ↓v_4, ↓g_4, ↓u_4, ↓v_5, ↓g_5, ↓u_5, ↓v_6, ↓g_6, ↓u_6, ↓v_7, ↓g_7, ↓u_7, ↓v_8, ↓g_8, ↓u_8, ↓v_9, ↓g_9, ↓u_9, ↓v_10, ↓g_10, ↓u_10, ↓v_11, ↓g_11, ↓u_11, ↓v_12, ↓g_12, ↓u_12, ↓v_13, ↓g_13, ↓u_13, ↓v_14, ↓g_14, ↓u_14, ↓v_15, ↓g_15, ↓u_15, ↓v_16, ↓g_16, ↓u_16, ↓v_17, ↓g_17, ↓u_17, ↓v_18, ↓g_18, ↓u_18, ↓v_19, ↓g_19, ↓u_19, ↓v_20, ↓g_20, ↓u_20, ↓v_21, ↓g_21, ↓u_21, ↓v_22, ↓g_22, ↓u_22, ↓v_23, ↓g_23, ↓u_23, ↓v_24, ↓g_24, ↓u_24, ↓v_25, ↓g_25, ↓u_25, ↓f_0, ↓fl_0, ↓fn_0, ↓f_1, ↓fl_1, ↓fn_1, ↓f_2, ↓fl_2, ↓fn_2, ↓f_3, ↓fl_3, ↓fn_3, ↓f_4, ↓fl_4, ↓fn_4, ↓f_5, ↓fl_5, ↓fn_5, ↓f_6, ↓fl_6, ↓fn_6, ↓f_7, ↓fl_7, ↓fn_7, ↓f_8, ↓fl_8, ↓fn_8, ↓f_9, ↓fl_9, ↓fn_9, ↓f_10, ↓fl_10, ↓fn_10, ↓f_11, ↓fl_11, ↓fn_11, ↓f_12, ↓fl_12, ↓fn_12, ↓f_13, ↓fl_13, ↓fn_13, ↓f_14, ↓fl_14, ↓fn_14, ↓f_15, ↓fl_15, ↓fn_15, ↓f_16, ↓fl_16, ↓fn_16, ↓f_17, ↓fl_17, ↓fn_17, ↓f_18, ↓fl_18, ↓fn_18, ↓f_19, ↓fl_19, ↓fn_19, ↓f_20, ↓fl_20, ↓fn_20, ↓f_21, ↓fl_21, ↓fn_21, ↓f_22, ↓fl_22, ↓fn_22, ↓f_23, ↓fl_23, ↓fn_23, ↓f_24, ↓fl_24, ↓fn_24, ↓f_25, ↓fl_25, ↓fn_25, ↓asL_lst, ↓asL_scr, ↓asL_gup, ↓wIx_tup, ↓wIx_lst, ↓wIx_scr, ↓wIx_ref, ↓wIx_str, ↓wAdd_int, ↓wAdd_str, ↓wAdd_tup, ↓wAdd_lst, ↓wII_int, ↓wI2_int, ↓wI1_int, ↓wI1N_int, ↓wI2N_int, ↓wLen_tup, ↓wLen_lst, ↓wLen_scr, ↓wLen_ref, ↓wLen_str, ↓wInt_int, ↓wInt_bl, ↓wStrI_int, ↓wEq_int, ↓wEq_str, ↓wEq_bl, ↓wNe_bl, ↓wNe_int, ↓wNe_str, ↓wEq_tup, ↓wNe_tup, ↓wEq_lst, ↓wNe_lst, ↓setIx_ref, ↓gT_tup, ↓gT_lst, ↓gT_ref, ↓gsC_cons, ↓gsN_nil, ↓wAppend_ref, ↓wPop_ref, ↓wExtend_ref, ↓rgO_int, ↓wAddM_lst, ↓wIsB_bl, ↓wReverse_ref, ↓wRepT_tup, ↓wNotB_bl, ↓wInD_lst, ↓wPopAt_ref, ↓wInsert_ref, ↓refR_ref, ↓seqOf_tup, ↓seqOf_lst, ↓seqOf_scr, ↓seqOf_ref, ↓rng1_int, ↓rng2_int, ↓wIsi_non, ↓wIsi_bl, ↓wIsi_int, ↓wIsi_str, ↓wIsi_tup, ↓wIsi_lst, ↓wIsi_ref, ↓wAll_lst, ↓wAny_lst, ↓wSum_lst, ↓wTuple_tup, ↓wTuple_lst, ↓wTuple_ref, ↓wList_tup, ↓wList_lst, ↓wList_ref, ↓wListM_tup, ↓wListM_lst, ↓wCut_tup, ↓wCut_lst, ↓wCut_ref, ↓wCut_str, ↓wRep_lst, ↓wRepM_lst, ↓zipOf_tup, ↓zipOf_lst, ↓enumOf_lst, ↓enumOf_scr, ↓zipG2_eq, ↓zipG3_eq, ↓enumG_eq, ↓wSorted_eq, ↓wSortedM_eq, ↓wClear_ref, ↓wGet_ref, ↓truO_bl, ↓intO_int, ↓isS_some, ↓isG_lst, ↓setF_ref, ↓isI_ins, ↓dPut_ref, ↓isD_dic, ↓insOf_gup, ↓dicOf_gup, keyOf, nk, rangeW_length, sset, skill, swipe, swipe.sforget, lcW, wIn, seqs, inW, eqW, flatW, kdIs, isNon, gup_same, gup_gup, at0, at1, at2, at3, at4, at5, at6, at7, ix0, ix1, ix2, ix3, ix4, ix5, W.bl.injEq, exists_eq_left', List.length_cons, List.length_nil, List.length_map, Nat.zero_add, Nat.reduceAdd, List.set, List.map_cons, List.map_nil, Option.isSome_some, List.all_cons, List.all_nil, List.any_cons, List.any_nil, List.cons_append, List.nil_append, Bool.and_true, Bool.and_self, Bool.or_false, Bool.true_and, Bool.false_and, Bool.and_false, true_and, decide_true, decide_false, Bool.not_true, Bool.not_false, Bool.not_not, Bool.false_eq_true, if_true, if_false, ite_self, beq_self_eq_true])

/-! ### lines, walked -/
abbrev natsW (xs : List Nat) : List W := xs.map fun v => W.int ((v : Nat) : Int)
theorem wD_nats (xs : List Nat) : wD 1 (.lst (natsW xs)) := wD_lst fun w h => by
  obtain ⟨q, _, rfl⟩ := List.mem_map.mp h
  exact wD_int
theorem nats_mem {v : Nat} {xs : List Nat} : (natsW xs).any (fun y => eqW y (.int ((v : Nat) : Int))) = decide (v ∈ xs) := by
  induction xs with
  | nil => rfl
  | cons x xs ih =>
    show (eqW _ _ || (natsW xs).any _) = _
    rw [ih]
    show (decide ((x : Int) = (v : Int)) || decide (v ∈ xs)) = _
    by_cases c : v = x
    · subst c; simp
    · have c' : ¬ ((x : Int) = (v : Int)) := by omega
      simp [c, c']
theorem bag_at {G : Gp} {p q : Addr} {a r : GO} (h : q ≠ p) : gup (gup G p a) q r p = some a := by rw [gup_ne (Ne.symm h), gup_same]
def AsLines (lw : W) (ls : List Ln) : Prop := lw = .tup (linesW ls) ∨ lw = .lst (linesW ls)
def sp_hangs_together : Spw := fun ws G Q _ => ∃ (n : Nat) (lw : W) (ls : List Ln), ws = [.int ((n : Nat) : Int), lw] ∧ AsLines lw ls ∧ 1 ≤ n ∧ n ≤ 1000 ∧ (∀ l ∈ ls, LnOk n l) ∧ Q (.bl (connB n (edges ls))) G
theorem len_hangs_together (ws G Q E) (h : sp_hangs_together ws G Q E) : ws.length = 2 := by obtain ⟨_, _, _, rfl, _⟩ := h; rfl
/-- slots: many 0, lines 1, met 2, left 3, place 4, one 5, other 6, stiffness 7, most 8, there 9 -/
def t_hangs_together_b1 : TSw := (wIfS (wTest (wOp (wIn false) (wVar 4) (wTup (wCons (wVar 5) (wCons (wVar 6) wNil))))) (wSeq (wAsg (wOp wSub (wOp wAdd (wVar 5) (wVar 6)) (wVar 4)) (gN 9))
    (wIfS (wTest (wOp (wIn true) (wVar 9) (wVar 2))) (wSeq (wDrop (wBM wM_append (wVar 2) (wCons (wVar 9) wNil)))
    (wDrop (wBM wM_append (wVar 3) (wCons (wVar 9) wNil)))) wNext)) wNext)
def t_hangs_together_b2 : TSw := (wSeq (wAsg (wBM0 wM_pop (wVar 3)) (gN 4))
    (wFor [false, false, false, false, false, true, true, true, true, true] (iSeqW (wVar 1)) (gT 4 (gsC (gN 5) (gsC (gN 6) (gsC (gN 7) (gsC (gN 8) gsN))))) t_hangs_together_b1))
def t_hangs_together_r1 : TSw := (wRet (wOp wEq (wCB wLen (wCons (wVar 2) wNil)) (wVar 0)))
def t_hangs_together : TSw := (wSeq (wAsg (wLstM (wCons (wC (.int 0)) wNil)) (gN 2))
    (wSeq (wAsg (wLstM (wCons (wC (.int 0)) wNil)) (gN 3))
    (wSeq (wWhile [false, false, false, false, true, true, true, true, true, true] (wTest (wOp wNe (wVar 3) (wLst wNil))) t_hangs_together_b2)
    t_hangs_together_r1)))
theorem rd_hangs_together (ws : List W) (G : Gp) (Q : QW) (E) (h : sp_hangs_together ws G Q E) : t_hangs_together { nx := fun _ G' => Q .non G', rt := Cl Q } (startW ["many", "lines", "met", "left", "place", "one", "other", "stiffness", "most", "there"] ws) G := by
  obtain ⟨n, lw, ls, rfl, hlw, n1, n2, ok, q⟩ := h
  show t_hangs_together _ [some (.int n), some lw, none, none, none, none, none, none, none, none] G
  have big : 2000 < sizeLine := by decide
  have hseq : ∀ (G : Gp) (R : List W → Gp → Prop), seqOf lw G R = R (linesW ls) G := by rcases hlw with rfl | rfl <;> exact fun _ _ => rfl
  unfold t_hangs_together
  walk_at "w"
  refine ⟨by decide, fun p1 hp1 => ⟨by decide, fun p2 hp2 => ?_⟩⟩
  obtain ⟨ne, hp2⟩ := gup_fresh hp2
  refine ⟨fun m σ G1 => ∃ met left, G1 = gup (gup G p1 (.lst (natsW met))) p2 (.lst (natsW left)) ∧ σ = [some (.int n), some lw, some (.ref p1), some (.ref p2), none, none, none, none, none, none] ∧ Seek n (edges ls) met left ∧ (∀ v ∈ met, v ∉ left → DoneAt (edges ls) met v) ∧ m = 2 * (n - met.length) + left.length ∧ m ≤ 2 * n, ⟨_, [0], [0], rfl, rfl, seek_start (by omega), fun v h1 h2 => absurd h1 h2, rfl, by simp; omega⟩, ?_⟩
  rintro m σ G1 ⟨met, left, rfl, rfl, sk, dn, rfl, bnd⟩
  walk_at "w"
  rw [wNe_lref gup_same]
  refine ⟨by decide, wOk_of (wD_nats left) (by decide), wOk_of (wD_nats []) (by decide), ?_⟩
  walk_at "w"
  rcases List.eq_nil_or_concat left with rfl | ⟨left, p, rfl⟩
  · rw [show weqb (W.lst (natsW [])) (W.lst []) = true from weqb_self (wD_nats [])]
    unfold t_hangs_together_r1
    walk_at "w"
    rw [asL_at (bag_at ne)]
    walk_at "w"
    have e : decide (((met.length : Nat) : Int) = ((n : Nat) : Int)) = connB n (edges ls) := connB_of (by
      rw [← seek_end sk fun v hv => dn v hv (by simp)]
      omega)
    rw [e]
    refine .inr ⟨[p2, p1], .inl ?_⟩
    show Q _ (gdel (gdel (gup (gup G p1 _) p2 _) p2) p1)
    rw [gdel_gup (by rw [gup_ne ne]; exact hp2), gdel_gup hp1]
    exact q
  · rw [List.concat_eq_append] at *
    have en : natsW (left ++ [p]) = natsW left ++ [.int (p : Int)] := by unfold natsW; rw [List.map_append]; rfl
    have e0 : weqb (W.lst (natsW (left ++ [p]))) (W.lst []) = false := by
      cases left <;> simp [weqb, wdat, wdats, PyData.eqv, PyData.eqvAll]
    rw [e0]
    unfold t_hangs_together_b2
    walk_at "w"
    rw [en]
    rw [show (natsW left ++ [W.int (p : Int)])[(left ++ [p]).length - 1]? = some (.int (p : Int)) by simp]
    walk_at "w"
    rw [hseq, List.dropLast_concat]
    have hpm : p ∈ met := sk.sub p (List.mem_append.mpr (.inr (.head _)))
    have sk1 : Seek n (edges ls) met left := ⟨sk.nd, sk.lt, sk.h0, fun x hx => sk.sub x (List.mem_append.mpr (.inl hx)), sk.all⟩
    have dn1 : ∀ v ∈ met, v ≠ p → v ∉ left → DoneAt (edges ls) met v := fun v hv ne hl => dn v hv fun z => by
      rcases List.mem_append.mp z with z | z
      · exact hl z
      · exact ne (List.mem_singleton.mp z)
    have lm := seek_len sk
    rw [List.length_append, List.length_singleton] at bnd
    refine forW_ix (fun k σ G1 => ∃ met' left', G1 = gup (gup G p1 (.lst (natsW met'))) p2 (.lst (natsW left')) ∧ σ = [some (.int n), some lw, some (.ref p1), some (.ref p2), some (.int p), none, none, none, none, none] ∧ Seek n (edges ls) met' left' ∧ p ∈ met' ∧ (∀ v ∈ met', v ≠ p → v ∉ left' → DoneAt (edges ls) met' v) ∧ DoneAt ((edges ls).take k) met' p ∧ 2 * (n - met'.length) + left'.length ≤ 2 * (n - met.length) + left.length) _ 0 _ _ ⟨met, left, rfl, rfl, sk1, hpm, dn1, fun e he => (by simp at he), Nat.le_refl _⟩ ?_ ?_
    · rintro k w hw σ G1 N ⟨met', left', rfl, rfl, sk', hp', dn', dp', lm'⟩ hN
      rw [Nat.zero_add] at hN dp'
      rw [List.getElem?_map] at hw
      by_cases hk : k < ls.length
      · rw [List.getElem?_eq_getElem hk] at hw
        injection hw with hw
        subst hw
        have okl := ok _ (List.getElem_mem hk)
        have hke : k < (edges ls).length := by rw [List.length_map]; exact hk
        have ee : (edges ls).take (k + 1) = (edges ls).take k ++ [(ls[k].a, ls[k].b)] := by
          rw [List.take_succ_eq_append_getElem hke, List.getElem_map]
          rfl
        have em : (ls[k].a, ls[k].b) ∈ edges ls := List.mem_map.mpr ⟨_, List.getElem_mem hk, rfl⟩
        rw [ee] at hN
        generalize ls[k] = l at okl em hN ⊢
        unfold t_hangs_together_b1
        walk_at "w"
        refine ⟨by decide, ?_⟩
        by_cases hp : p = l.a ∨ p = l.b
        · obtain ⟨t, et, tn, ed, e1, e2⟩ : ∃ t : Nat, (l.a : Int) + (l.b : Int) - (p : Int) = (t : Int) ∧ t < n ∧ ((p, t) ∈ edges ls ∨ (t, p) ∈ edges ls) ∧ (l.a = p → l.b = t) ∧ (l.b = p → l.a = t) := by
            rcases hp with h | h
            · exact ⟨l.b, by omega, okl.b, .inl (by rw [h]; exact em), fun _ => rfl, fun z => by omega⟩
            · exact ⟨l.a, by omega, okl.a, .inr (by rw [h]; exact em), fun z => by omega, fun _ => rfl⟩
          rw [et]
          rw [if_pos (by rcases hp with h | h <;> simp [h])]
          rw [asL_at (bag_at ne)]
          walk_at "w"
          have fl : (natsW met').all flatW = true := by simp [flatW]
          have key := nats_mem (v := t) (xs := met')
          unfold eqW at key
          rw [key]
          refine ⟨fl, ?_⟩
          by_cases tm : t ∈ met'
          · rw [decide_eq_true tm, if_neg (by decide)]
            refine hN _ _ ⟨met', left', rfl, rfl, sk', hp', dn', fun e he => ?_, lm'⟩
            rcases List.mem_append.mp he with he | he
            · exact dp' e he
            · rw [List.mem_singleton.mp he]
              exact ⟨fun z => by rw [e1 z]; exact tm, fun z => by rw [e2 z]; exact tm⟩
          · rw [decide_eq_false tm, if_pos (by decide)]
            have sk2 := seek_add sk' hp' tm tn ed
            have l2 := seek_len sk2
            rw [List.length_append, List.length_singleton] at l2
            rw [isG_at (bag_at ne)]
            rw [gup_in (Ne.symm ne), asL_at gup_same]
            have lw1 : met'.length ≤ 1000 := by omega
            have lw2 : left'.length ≤ 2000 := by omega
            refine ⟨by rw [List.length_map]; omega, rfl, ?_⟩
            rw [isG_at gup_same, gup_gup]
            have e3 : natsW met' ++ [.int (t : Int)] = natsW (met' ++ [t]) := by unfold natsW; rw [List.map_append]; rfl
            have e4 : natsW left' ++ [.int (t : Int)] = natsW (left' ++ [t]) := by unfold natsW; rw [List.map_append]; rfl
            rw [e3, e4]
            have mm : ∀ x ∈ met', x ∈ met' ++ [t] := fun x hx => List.mem_append.mpr (.inl hx)
            refine ⟨by rw [List.length_map]; omega, hN _ _ ⟨met' ++ [t], left' ++ [t], rfl, rfl, sk2, mm _ hp', fun v hv vp vl => ?_, fun e he => ?_, ?_⟩⟩
            · rcases List.mem_append.mp hv with hv | hv
              · exact (dn' v hv vp fun z => vl (List.mem_append.mpr (.inl z))).mono mm
              · exact absurd (List.mem_append.mpr (.inr hv)) vl
            · rcases List.mem_append.mp he with he | he
              · exact dp'.mono mm e he
              · rw [List.mem_singleton.mp he]
                exact ⟨fun z => by rw [e1 z]; exact List.mem_append.mpr (.inr (.head _)), fun z => by rw [e2 z]; exact List.mem_append.mpr (.inr (.head _))⟩
            · rw [List.length_append, List.length_append, List.length_singleton]; omega
        · rw [if_neg (by simp only [not_or] at hp; simp; omega)]
          refine hN _ _ ⟨met', left', rfl, rfl, sk', hp', dn', fun e he => ?_, lm'⟩
          rcases List.mem_append.mp he with he | he
          · exact dp' e he
          · rw [List.mem_singleton.mp he]
            exact ⟨fun z => absurd (.inl z.symm) hp, fun z => absurd (.inr z.symm) hp⟩
      · rw [List.getElem?_eq_none (by omega)] at hw; cases hw
    · rintro σ G1 ⟨met', left', rfl, rfl, sk', hp', dn', dp', lm'⟩
      rw [Nat.zero_add, List.length_map, ← List.length_map (f := Ln.e), List.take_length] at dp'
      refine ⟨_, ?_, met', left', rfl, rfl, sk', fun v hv hl => ?_, rfl, by omega⟩
      · rw [List.length_append, List.length_singleton]; omega
      · by_cases c : v = p
        · rw [c]; exact dp'
        · exact dn' v hv c hl
/-! ### the law's way -/
theorem weqb_nats : ∀ (xs ys : List Nat), weqb (.lst (natsW xs)) (.lst (natsW ys)) = decide (xs = ys)
  | [], [] => by simp [weqb, wdat, wdats, PyData.eqv, PyData.eqvAll]
  | [], _ :: _ => by simp [weqb, wdat, wdats, PyData.eqv, PyData.eqvAll]
  | _ :: _, [] => by simp [weqb, wdat, wdats, PyData.eqv, PyData.eqvAll]
  | x :: xs, y :: ys => by
    have ih := weqb_nats xs ys
    simp only [weqb, wdat, wdats, PyData.eqv, PyData.eqvAll, List.map_cons] at ih ⊢
    rw [ih]
    by_cases c : x = y
    · subst c; simp
    · have c' : ¬ ((x : Int) = (y : Int)) := by omega
      simp [c, c']
theorem atI_nats {xs : List Nat} {k : Nat} (h : k < xs.length) : L2.atI (natsW xs) ((k : Nat) : Int) = some (.int ((xs[k] : Nat) : Int)) := by
  unfold L2.atI
  simp [L2.ixN, h]
/-! ### nets, drawn -/
theorem conn_more {n : Nat} {es es' : List (Nat × Nat)} (h : Conn n es) (m : ∀ e ∈ es, e ∈ es') : Conn n es' := fun S s0 sS => h S s0 fun e he => sS e (m e he)
theorem conn_next {n v : Nat} {es : List (Nat × Nat)} {e : Nat × Nat} (h : Conn n es) (hv : v < n) (he : e = (n, v) ∨ e = (v, n)) : Conn (n + 1) (es ++ [e]) := fun S s0 sS u hu => by
  have c := h S s0 fun e he => sS e (List.mem_append.mpr (.inl he))
  by_cases d : u = n
  · have z := sS e (List.mem_append.mpr (.inr (.head _)))
    rcases he with he | he
    · rw [he] at z; rw [d]; exact z.mpr (c v hv)
    · rw [he] at z; rw [d]; exact z.mp (c v hv)
  · exact c u (by omega)
structure Net (n : Nat) (ls : List Ln) : Prop where
  n1 : 1 ≤ n
  n4 : n ≤ 4
  few : ls.length ≤ 6
  ok : ∀ l ∈ ls, LnOk n l
  conn : Conn n (edges ls)
end WL


namespace WL
open PySem PySem.Spec PyProof.Rows L2
local macro_rules | `(tactic| walk_at "w") => `(tactic| try simp only [↓a_seq, ↓a_asg, ↓a_ifS, ↓a_ret, ↓a_retN, ↓a_next, ↓a_break, ↓a_cont, ↓a_drop, ↓a_for, ↓a_C, ↓a_op, ↓a_un, ↓a_neg, ↓a_CB, ↓a_call, ↓a_nil, ↓a_cons, ↓a_tup, ↓a_lst, ↓a_lstM, ↓a_test, ↓a_and, ↓a_or, ↓a_not, ↓a_yes, ↓a_andV, ↓a_orV, ↓a_notV, ↓a_if, ↓a_isN, ↓a_notN, ↓a_chain, ↓a_BM, ↓a_BM0, ↓a_seqI, ↓a_R1, ↓a_R2, ↓a_zip2, ↓a_zipG2, ↓a_zipG3, ↓a_enumG, ↓a_enum, ↓a_lc, ↓a_lcM, ↓a_lcR, ↓a_forR, ↓a_seqR, ↓a_zip2R, ↓a_zipR, ↓a_lstRg, ↓a_lstRgM, ↓a_lcP, ↓a_slice, ↓a_sliceM, ↓a_pN, ↓a_pS, ↓a_augIx, ↓a_gIx, ↓a_par, ↓a_setF, ↓a_meth, ↓a_make, ↓a_makeZ, ↓a_dnew, ↓a_done, ↓a_dput, ↓a_dget, ↓a_din, ↓a_lenD, ↓v_0, ↓g_0, ↓u_0, ↓v_1, ↓g_1, ↓u_1, ↓v_2, ↓g_2, ↓u_2, ↓v_3, ↓g_3, ↓u_3, ↓v_4, ↓g_4, ↓u_4, ↓v_5, ↓g_5, ↓u_5, ↓v_6, ↓g_6, ↓u_6, ↓v_7, ↓g_7, ↓u_7, ↓v_8, ↓g_8, ↓u_8, ↓v_9, ↓g_9, ↓u_9, ↓v_10, ↓g_10, ↓u_10, ↓v_11, ↓g_11, ↓u_11, ↓v_12, ↓g_12, ↓u_12, ↓v_13, ↓g_13, ↓u_13, ↓v_14, ↓g_14, ↓u_14, ↓v_15, ↓g_15, ↓u_15, ↓v_16, ↓g_16, ↓u_16, ↓v_17, ↓g_17, ↓u_17, ↓v_18, ↓g_18, ↓u_18, ↓v_19, ↓g_19, ↓u_19, ↓v_20, ↓g_20, ↓u_20, ↓v_21, ↓g_21, ↓u_21, ↓v_22, ↓g_22, ↓u_22, ↓v_23, ↓g_23, ↓u_23, ↓v_24, ↓g_24, ↓u_24, ↓v_25, ↓g_25, ↓u_25, ↓f_0, ↓fl_0, ↓fn_0, ↓f_1, ↓fl_1, ↓fn_1, ↓f_2, ↓fl_2, ↓fn_2, ↓f_3, ↓fl_3, ↓fn_3, ↓f_4, ↓fl_4, ↓fn_4, ↓f_5, ↓fl_5, ↓fn_5, ↓f_6, ↓fl_6, ↓fn_6, ↓f_7, ↓fl_7, ↓fn_7, ↓f_8, ↓fl_8, ↓fn_8, ↓f_9, ↓fl_9, ↓fn_9, ↓f_10, ↓fl_10, ↓fn_10, ↓f_11, ↓fl_11, ↓fn_11, ↓f_12, ↓fl_12, ↓fn_12, ↓f_13, ↓fl_13, ↓fn_13, ↓f_14, ↓fl_14, ↓fn_14, ↓f_15, ↓fl_15, ↓fn_15, ↓f_16, ↓fl_16, ↓fn_16, ↓f_17, ↓fl_17, ↓fn_17, ↓f_18, ↓fl_18, ↓fn_18, ↓f_19, ↓fl_19, ↓fn_19, ↓f_20, ↓fl_20, ↓fn_20, ↓f_21, ↓fl_21, ↓fn_21, ↓f_22, ↓fl_22, ↓fn_22, ↓f_23, ↓fl_23, ↓fn_23, ↓f_24, ↓fl_24, ↓fn_24, ↓f_25, ↓fl_25, ↓fn_25, ↓asL_lst, ↓asL_scr, ↓asL_gup, ↓wIx_tup, ↓wIx_lst, ↓wIx_scr, ↓wIx_ref, ↓wIx_str, ↓wAdd_int, ↓wAdd_str, ↓wAdd_tup, ↓wAdd_lst, ↓wII_int, ↓wI2_int, ↓wI1_int, ↓wI1N_int, ↓wI2N_int, ↓wLen_tup, ↓wLen_lst, ↓wLen_scr, ↓wLen_ref, ↓wLen_str, ↓wInt_int, ↓wInt_bl, ↓wStrI_int, ↓wEq_int, ↓wEq_str, ↓wEq_bl, ↓wNe_bl, ↓wNe_int, ↓wNe_str, ↓wEq_tup, ↓wNe_tup, ↓wEq_lst, ↓wNe_lst, ↓setIx_ref, ↓gT_tup, ↓gT_lst, ↓gT_ref, ↓gsC_cons, ↓gsN_nil, ↓wAppend_ref, ↓wPop_ref, ↓wExtend_ref, ↓rgO_int, ↓wAddM_lst, ↓wIsB_bl, ↓wReverse_ref, ↓wRepT_tup, ↓wNotB_bl, ↓wInD_lst, ↓wPopAt_ref, ↓wInsert_ref, ↓refR_ref, ↓seqOf_tup, ↓seqOf_lst, ↓seqOf_scr, ↓seqOf_ref, ↓rng1_int, ↓rng2_int, ↓wIsi_non, ↓wIsi_bl, ↓wIsi_int, ↓wIsi_str, ↓wIsi_tup, ↓wIsi_lst, ↓wIsi_ref, ↓wAll_lst, ↓wAny_lst, ↓wSum_lst, ↓wTuple_tup, ↓wTuple_lst, ↓wTuple_ref, ↓wList_tup, ↓wList_lst, ↓wList_ref, ↓wListM_tup, ↓wListM_lst, ↓wCut_tup, ↓wCut_lst, ↓wCut_ref, ↓wCut_str, ↓wRep_lst, ↓wRepM_lst, ↓zipOf_tup, ↓zipOf_lst, ↓enumOf_lst, ↓enumOf_scr, ↓zipG2_eq, ↓zipG3_eq, ↓enumG_eq, ↓wSorted_eq, ↓wSortedM_eq, ↓wClear_ref, ↓wGet_ref, ↓truO_bl, ↓intO_int, ↓isS_some, ↓isG_lst, ↓setF_ref, ↓isI_ins, ↓dPut_ref, ↓isD_dic, ↓insOf_gup, ↓dicOf_gup, keyOf, nk, rangeW_length, sset, skill, swipe, swipe.sforget, lcW, wIn, seqs, inW, eqW, flatW, kdIs, isNon, gup_same, gup_gup, at0, at1, at2, at3, at4, at5, at6, at7, ix0, ix1, ix2, ix3, ix4, ix5, W.bl.injEq, exists_eq_left', List.length_cons, List.length_nil, List.length_map, Nat.zero_add, Nat.reduceAdd, List.set, List.map_cons, List.map_nil, Option.isSome_some, List.all_cons, List.all_nil, List.any_cons, List.any_nil, List.cons_append, List.nil_append, Bool.and_true, Bool.and_self, Bool.or_false, Bool.true_and, Bool.false_and, Bool.and_false, true_and, decide_true, decide_false, Bool.not_true, Bool.not_false, Bool.not_not, Bool.false_eq_true, if_true, if_false, ite_self, beq_self_eq_true])

/-! ### things of any kind -/
mutual
def datB : W → Bool
  | .non => true
  | .bl _ => true
  | .int _ => true
  | .str _ => true
  | .tup ws => datsB ws
  | .lst ws => datsB ws
  | _ => false
def datsB : List W → Bool
  | [] => true
  | w :: ws => datB w && datsB ws
end
theorem dats_all : ∀ {ws : List W}, datsB ws = true ↔ ∀ w ∈ ws, datB w = true
  | [] => by simp [datsB]
  | w :: ws => by
    simp only [datsB, Bool.and_eq_true, dats_all (ws := ws), List.mem_cons, forall_eq_or_imp]
def wholeB : W → Bool
  | .int _ => true
  | _ => false
def fromB (w : W) (lo hi : Int) : Bool := match w with
  | .int i => decide (lo ≤ i) && decide (i ≤ hi)
  | _ => false
theorem from_int {w : W} {lo hi : Int} (h : fromB w lo hi = true) : ∃ i, w = .int i ∧ lo ≤ i ∧ i ≤ hi := by
  cases w with
  | int i =>
    have h' : (decide (lo ≤ i) && decide (i ≤ hi)) = true := h
    rw [Bool.and_eq_true] at h'
    exact ⟨i, rfl, of_decide_eq_true h'.1, of_decide_eq_true h'.2⟩
  | _ => cases h
/-! ### lines and nets, of things of any kind -/
def intEqB : W → W → Bool
  | .int a, .int b => decide (a = b)
  | _, _ => false
def lineB (n : Int) : W → Bool
  | .tup [a, b, s, m] => fromB a 0 (n - 1) && (fromB b 0 (n - 1) && (!intEqB a b && (fromB s 1 9 && fromB m 0 99)))
  | _ => false
def natOf : W → Nat
  | .int i => i.toNat
  | _ => 0
def lnOf : W → Ln
  | .tup [a, b, s, m] => ⟨natOf a, natOf b, natOf s, natOf m⟩
  | _ => ⟨0, 0, 0, 0⟩
theorem line_of {n : Nat} {w : W} (h : lineB n w = true) : w = lineW (lnOf w) ∧ LnOk n (lnOf w) := by
  match w, h with
  | .tup [a, b, s, m], h =>
    simp only [lineB, Bool.and_eq_true, Bool.not_eq_true'] at h
    obtain ⟨h1, h2, h3, h4, h5⟩ := h
    obtain ⟨a, rfl, a0, a1⟩ := from_int h1
    obtain ⟨b, rfl, b0, b1⟩ := from_int h2
    obtain ⟨s, rfl, s0, s1⟩ := from_int h4
    obtain ⟨m, rfl, m0, m1⟩ := from_int h5
    have h3' : decide (a = b) = false := h3
    have ne := of_decide_eq_false h3'
    refine ⟨?_, ⟨by show a.toNat < n; omega, by show b.toNat < n; omega, by show a.toNat ≠ b.toNat; omega, ⟨by show 1 ≤ s.toNat; omega, by show s.toNat ≤ 9; omega⟩, by show m.toNat ≤ 99; omega⟩⟩
    show W.tup [.int a, .int b, .int s, .int m] = .tup [.int ((a.toNat : Nat) : Int), .int ((b.toNat : Nat) : Int), .int ((s.toNat : Nat) : Int), .int ((m.toNat : Nat) : Int)]
    rw [Int.toNat_of_nonneg a0, Int.toNat_of_nonneg b0, Int.toNat_of_nonneg (by omega : 0 ≤ s), Int.toNat_of_nonneg m0]
theorem lines_of {n : Nat} : ∀ {ws : List W}, ws.all (lineB n) = true → ws = linesW (ws.map lnOf) ∧ ∀ l ∈ ws.map lnOf, LnOk n l
  | [], _ => ⟨rfl, by simp⟩
  | w :: ws, h => by
    simp only [List.all_cons, Bool.and_eq_true] at h
    obtain ⟨h1, h2⟩ := line_of h.1
    obtain ⟨h3, h4⟩ := lines_of h.2
    refine ⟨?_, fun l hl => ?_⟩
    · show w :: ws = lineW (lnOf w) :: linesW (ws.map lnOf)
      rw [← h1, ← h3]
    · rcases List.mem_cons.mp hl with rfl | hl
      · exact h2
      · exact h4 l hl
noncomputable def netB : W → Bool
  | .tup [m, .tup lines] => fromB m 1 4 && (decide (lines.length ≤ 6) && (lines.all (lineB (natOf m)) && connB (natOf m) (edges (lines.map lnOf))))
  | _ => false
end WL


namespace WL
open PySem PySem.Spec PyProof.Rows L2

/-! ### heights that give no stream at any place but 0 are all 0 (plain) -/
/-- what a line takes at place i -/
def flowAt (z : Nat → Rat) (l : Ln) (i : Nat) : Rat := (if i = l.a then (l.s : Rat) * (z l.a - z l.b) else 0) + (if i = l.b then (l.s : Rat) * (z l.b - z l.a) else 0)
def outAt (ls : List Ln) (z : Nat → Rat) (i : Nat) : Rat := lsum (fun l => flowAt z l i) ls
theorem lsum_add {α : Type} (f g : α → Rat) : ∀ xs : List α, lsum (fun x => f x + g x) xs = lsum f xs + lsum g xs
  | [] => by show (0 : Rat) = 0 + 0; grind
  | x :: xs => by
    show f x + g x + lsum _ xs = f x + lsum f xs + (g x + lsum g xs)
    rw [lsum_add f g xs]; grind
theorem lsum_mul {α : Type} (k : Rat) (f : α → Rat) : ∀ xs : List α, lsum (fun x => k * f x) xs = k * lsum f xs
  | [] => by show (0 : Rat) = k * 0; grind
  | x :: xs => by
    show k * f x + lsum _ xs = k * (f x + lsum f xs)
    rw [lsum_mul k f xs]; grind
theorem sm_swap2 {α : Type} (F : Nat → α → Rat) (xs : List α) : ∀ n, sm n (fun i => lsum (F i) xs) = lsum (fun x => sm n fun i => F i x) xs
  | 0 => by
    show (0 : Rat) = lsum (fun _ => 0) xs
    induction xs with
    | nil => rfl
    | cons x xs ih => show (0 : Rat) = 0 + lsum _ xs; rw [← ih]; grind
  | n + 1 => by
    rw [sm_succ, sm_swap2 F xs n, ← lsum_add]
    rfl
theorem lsum_congr {α : Type} {f g : α → Rat} : ∀ {xs : List α}, (∀ x ∈ xs, f x = g x) → lsum f xs = lsum g xs
  | [], _ => rfl
  | x :: xs, h => by
    show f x + lsum f xs = g x + lsum g xs
    rw [h x (.head _), lsum_congr fun y m => h y (.tail _ m)]
theorem lsum_zero_of {α : Type} {f : α → Rat} : ∀ {xs : List α}, (∀ x ∈ xs, 0 ≤ f x) → lsum f xs = 0 → ∀ x ∈ xs, f x = 0
  | [], _, _, x, m => by cases m
  | y :: ys, h, e, x, m => by
    have h0 := h y (.head _)
    have nn : ∀ zs : List α, (∀ x ∈ zs, 0 ≤ f x) → 0 ≤ lsum f zs := fun zs => by
      induction zs with
      | nil => intro _; show (0 : Rat) ≤ 0; grind
      | cons z zs ih =>
        intro hz
        have a := hz z (.head _)
        have b := ih fun x m => hz x (.tail _ m)
        show 0 ≤ f z + lsum f zs
        grind
    have h1 := nn ys fun x m => h x (.tail _ m)
    have e' : f y + lsum f ys = 0 := e
    rcases List.mem_cons.mp m with rfl | m
    · grind
    · exact lsum_zero_of (fun x m => h x (.tail _ m)) (by grind) x m
theorem sm_flow {n : Nat} {z : Nat → Rat} {l : Ln} (ha : l.a < n) (hb : l.b < n) : sm n (fun i => z i * flowAt z l i) = (l.s : Rat) * ((z l.a - z l.b) * (z l.a - z l.b)) := by
  have e : ∀ i, z i * flowAt z l i = (if i = l.a then z l.a * ((l.s : Rat) * (z l.a - z l.b)) else 0) + (if i = l.b then z l.b * ((l.s : Rat) * (z l.b - z l.a)) else 0) := fun i => by
    unfold flowAt
    by_cases c : i = l.a <;> by_cases d : i = l.b <;> simp only [c, d, if_true, if_false] <;> grind
  rw [sm_congr fun i _ => e i, sm_add]
  rw [sm_one (f := fun i => if i = l.a then z l.a * ((l.s : Rat) * (z l.a - z l.b)) else 0) ha fun c _ ne => if_neg ne, sm_one (f := fun i => if i = l.b then z l.b * ((l.s : Rat) * (z l.b - z l.a)) else 0) hb fun c _ ne => if_neg ne]
  rw [if_pos rfl, if_pos rfl]
  grind
theorem flat_zero {n : Nat} {ls : List Ln} {z : Nat → Rat} (ok : ∀ l ∈ ls, LnOk n l) (cn : Conn n (edges ls)) (z0 : z 0 = 0) (h : ∀ i, 1 ≤ i → i < n → outAt ls z i = 0) : ∀ v, v < n → z v = 0 := by
  have e1 : sm n (fun i => z i * outAt ls z i) = 0 := by
    rw [← sm_zero n]
    refine sm_congr fun i hi => ?_
    by_cases c : i = 0
    · rw [c, z0]; grind
    · rw [h i (by omega) hi]; grind
  have e2 : sm n (fun i => z i * outAt ls z i) = lsum (fun l : Ln => (l.s : Rat) * ((z l.a - z l.b) * (z l.a - z l.b))) ls := by
    unfold outAt
    rw [sm_congr (g := fun i => lsum (fun l => z i * flowAt z l i) ls) fun i _ => (lsum_mul _ _ _).symm, sm_swap2 (fun i l => z i * flowAt z l i)]
    exact lsum_congr fun l hl => sm_flow (ok l hl).a (ok l hl).b
  rw [e2] at e1
  have sq : ∀ x : Rat, 0 ≤ x * x := fun x => by
    by_cases c : 0 ≤ x
    · exact Rat.mul_nonneg c c
    · have : 0 ≤ -x := by grind
      have := Rat.mul_nonneg this this
      grind
  have nz := lsum_zero_of (fun l hl => Rat.mul_nonneg (by exact_mod_cast Nat.zero_le l.s) (sq _)) e1
  refine cn (fun v => z v = 0) z0 fun e he => ?_
  obtain ⟨l, hl, rfl⟩ := List.mem_map.mp he
  have s1 := (ok l hl).s.1
  have q := nz l hl
  have sp : (l.s : Rat) ≠ 0 := fun w => by
    have : l.s = 0 := by exact_mod_cast w
    omega
  have d : z l.a - z l.b = 0 := by
    have := Rat.mul_eq_zero.mp q
    rcases this with w | w
    · exact absurd w sp
    · rcases Rat.mul_eq_zero.mp w with w | w <;> exact w
  show z l.a = 0 ↔ z l.b = 0
  constructor <;> intro w <;> grind
end WL


namespace WL
open PySem PySem.Spec PyProof.Rows L2

/-! ### a list of lists of whole numbers that are changed -/
abbrev refsW (ps : List Addr) : List W := ps.map W.ref
abbrev intsW (xs : List Int) : List W := xs.map W.int
structure Nst (G : Gp) (ps : List Addr) (rs : List (List Int)) (G1 : Gp) : Prop where
  nd : ps.Nodup
  len : rs.length = ps.length
  here : ∀ i (h : i < ps.length), G1 ps[i] = some (.lst (intsW (rs.getD i [])))
  out : ∀ q, q ∉ ps → G1 q = G q
  new : ∀ p ∈ ps, G p = none
theorem Nst.nil {G : Gp} : Nst G [] [] G := ⟨List.nodup_nil, rfl, fun i h => absurd h (by simp), fun _ _ => rfl, fun _ h => by cases h⟩
theorem Nst.some {G G1 : Gp} {ps : List Addr} {rs : List (List Int)} (h : Nst G ps rs G1) {p : Addr} (hp : p ∈ ps) : G1 p ≠ none := by
  obtain ⟨i, hi, rfl⟩ := List.getElem_of_mem hp
  rw [h.here i hi]; simp
theorem Nst.push {G G1 : Gp} {ps : List Addr} {rs : List (List Int)} (h : Nst G ps rs G1) {p : Addr} (n : G1 p = none) (r : List Int) : Nst G (ps ++ [p]) (rs ++ [r]) (gup G1 p (.lst (intsW r))) := by
  have np : p ∉ ps := fun z => h.some z n
  refine ⟨?_, by rw [List.length_append, List.length_append, h.len]; rfl, fun i hi => ?_, fun q hq => ?_, fun q hq => ?_⟩
  · rw [List.nodup_append]
    refine ⟨h.nd, by simp, fun a ha b hb z => ?_⟩
    rw [List.mem_singleton] at hb
    exact np (by rw [← hb, ← z]; exact ha)
  · rw [List.length_append, List.length_singleton] at hi
    by_cases c : i < ps.length
    · rw [List.getElem_append_left c, gup_ne (fun z => np (by rw [← z]; exact List.getElem_mem c)), h.here i c]
      have : i < rs.length := by rw [h.len]; exact c
      simp [List.getD_eq_getElem?_getD, List.getElem?_append_left this]
    · have e : i = ps.length := by omega
      subst e
      have e2 : (rs ++ [r]).getD ps.length [] = r := by rw [← h.len]; simp [List.getD_eq_getElem?_getD]
      rw [e2, List.getElem_concat_length rfl, gup_same]
  · have : q ≠ p := fun z => hq (List.mem_append.mpr (.inr (by simp [z])))
    rw [gup_ne this]
    exact h.out q fun z => hq (List.mem_append.mpr (.inl z))
  · rcases List.mem_append.mp hq with hq | hq
    · exact h.new q hq
    · rw [List.mem_singleton.mp hq, ← h.out p np]; exact n
theorem Nst.set {G G1 : Gp} {ps : List Addr} {rs : List (List Int)} (h : Nst G ps rs G1) {i : Nat} (hi : i < ps.length) (r : List Int) : Nst G ps (rs.set i r) (gup G1 ps[i] (.lst (intsW r))) := by
  refine ⟨h.nd, by rw [List.length_set]; exact h.len, fun j hj => ?_, fun q hq => ?_, h.new⟩
  · by_cases c : j = i
    · subst c
      rw [gup_same]
      have : j < rs.length := by rw [h.len]; exact hi
      simp [List.getD_eq_getElem?_getD, this]
    · have ne : ps[j] ≠ ps[i] := fun z => by
        have pw := List.pairwise_iff_getElem.mp h.nd
        rcases Nat.lt_or_gt_of_ne c with l | l
        · exact pw j i hj hi l z
        · exact pw i j hi hj l z.symm
      rw [gup_ne ne, h.here j hj]
      simp [List.getD_eq_getElem?_getD, List.getElem?_set, Ne.symm c]
  · rw [gup_ne (fun z => hq (by rw [z]; exact List.getElem_mem hi))]
    exact h.out q hq
theorem Nst.fz {G : Gp} : ∀ {ps : List Addr} {rs : List (List Int)} {G1 : Gp} {R : List W → Gp → Prop}, Nst G ps rs G1 → R (rs.map fun r => .lst (intsW r)) G → fzL (refsW ps) G1 R
  | [], [], G1, R, h, t => by
    have e : G1 = G := by funext q; exact h.out q (by simp)
    show R [] G1
    rw [e]; exact t
  | [], _ :: _, G1, R, h, _ => by have := h.len; simp at this
  | _ :: _, [], G1, R, h, _ => by have := h.len; simp at this
  | p :: ps, r :: rs, G1, R, h, t => by
    have e : G1 p = _ := h.here 0 (by simp)
    show isG (G1 p) fun us => fzL (refsW ps) (gdel G1 p) fun zs G' => R (.lst us :: zs) G'
    rw [e]
    show fzL (refsW ps) (gdel G1 p) fun zs G' => R (.lst (intsW r) :: zs) G'
    have nd := List.nodup_cons.mp h.nd
    refine Nst.fz (rs := rs) (R := fun zs G' => R (.lst (intsW r) :: zs) G') ⟨nd.2, by have := h.len; simpa using this, fun i hi => ?_, fun q hq => ?_, fun q hq => h.new q (.tail _ hq)⟩ t
    · have := h.here (i + 1) (by simpa using hi)
      rw [gdel_ne (fun z => nd.1 (by rw [← z]; exact List.getElem_mem hi))]
      simpa using this
    · by_cases c : q = p
      · rw [c, gdel_same]; exact (h.new p (.head _)).symm
      · rw [gdel_ne c]; exact h.out q (by simp [c, hq])
/-- a square table by its entries -/
def rowL (n : Nat) (f : Nat → Int) : List Int := (List.range n).map f
def tabL (n : Nat) (M : Nat → Nat → Int) : List (List Int) := (List.range n).map fun i => rowL n (M i)
def upd2 (M : Nat → Nat → Int) (a b : Nat) (v : Int) : Nat → Nat → Int := fun i j => if i = a ∧ j = b then v else M i j
theorem tabL_get {n i : Nat} {M : Nat → Nat → Int} (hi : i < n) : (tabL n M).getD i [] = rowL n (M i) := by
  unfold tabL; simp [List.getD_eq_getElem?_getD, hi]
theorem rowL_set {n i j : Nat} {M : Nat → Nat → Int} {v : Int} : (rowL n (M i)).set j v = rowL n (upd2 M i j v i) := by
  unfold rowL
  refine List.ext_getElem (by simp) fun k h1 h2 => ?_
  simp only [List.getElem_set, List.getElem_map, List.getElem_range, upd2, true_and]
  by_cases c : j = k
  · rw [if_pos c, if_pos c.symm]
  · rw [if_neg c, if_neg (Ne.symm c)]
theorem tabL_set {n i j : Nat} {M : Nat → Nat → Int} {v : Int} : (tabL n M).set i ((rowL n (M i)).set j v) = tabL n (upd2 M i j v) := by
  rw [rowL_set]
  unfold tabL
  refine List.ext_getElem (by simp) fun k h1 h2 => ?_
  simp only [List.getElem_set, List.getElem_map, List.getElem_range]
  by_cases c : i = k
  · rw [if_pos c, c]
  · rw [if_neg c]
    unfold rowL
    refine List.map_congr_left fun q _ => ?_
    unfold upd2
    rw [if_neg (fun z => c z.1.symm)]
theorem map_set' {α β : Type} (f : α → β) (xs : List α) (j : Nat) (v : α) : (xs.map f).set j (f v) = (xs.set j v).map f := by rw [List.map_set]
theorem nst_aug {G G1 : Gp} {ps : List Addr} {n i j r a b s : Nat} {M : Nat → Nat → Int} {x : Int} {wr : RW2} {f : Int → Int → Int} {D : EndsW} {σ : SW}
    (h : Nst G ps (tabL n M) G1) (hwr : ∀ x y G Q, Q (.int (f x y)) G → wr (.int x) (.int y) G Q)
    (e1 : slot σ r = some (.lst (refsW ps))) (ea : slot σ a = some (.int ((i : Nat) : Int))) (eb : slot σ b = some (.int ((j : Nat) : Int))) (es : slot σ s = some (.int x))
    (hi : i < n) (hj : j < n) (hn : n ≤ 1000) (q : ∀ G2, Nst G ps (tabL n (upd2 M i j (f (M i j) x))) G2 → D.nx σ G2) :
    wAugIx (wOp wIx (wVar r) (wVar a)) (wVar b) (wVar s) wr D σ G1 := by
  have big : 1000 < sizeLine := by decide
  have lp : ps.length = n := by rw [← h.len]; simp [tabL]
  have hip : i < ps.length := by omega
  have hg := h.here i hip
  rw [tabL_get hi] at hg
  have ln : (rowL n (M i)).length = n := by simp [rowL]
  show isS (slot σ r) fun x => isS (slot σ a) fun y => wIx x y G1 fun o G2 => isS (slot σ b) fun k => wGet o k G2 fun x G3 => isS (slot σ s) fun y => wr x y G3 fun z G5 => setIx o k z G5 fun G6 => D.nx σ G6
  rw [e1, ea]
  show isS (L2.atI (refsW ps) ((i : Nat) : Int)) fun o => isS (slot σ b) fun k => wGet o k G1 fun x G3 => isS (slot σ s) fun y => wr x y G3 fun z G5 => setIx o k z G5 fun G6 => D.nx σ G6
  rw [L2.atI_nat (j := i) (by rw [List.getElem?_map, List.getElem?_eq_getElem hip]; rfl), eb]
  show wGet (.ref ps[i]) (.int ((j : Nat) : Int)) G1 fun x G3 => isS (slot σ s) fun y => wr x y G3 fun z G5 => setIx (.ref ps[i]) (.int ((j : Nat) : Int)) z G5 fun G6 => D.nx σ G6
  rw [wGet_ref]
  refine ⟨by omega, ?_⟩
  rw [hg]
  refine ⟨by rw [List.length_map, ln]; omega, ?_⟩
  rw [show ((j : Nat) : Int).toNat = j by omega, List.getElem?_map]
  rw [show (rowL n (M i))[j]? = some (M i j) by unfold rowL; simp [hj]]
  show isS (slot σ s) fun y => wr (.int (M i j)) y G1 fun z G5 => setIx (.ref ps[i]) (.int ((j : Nat) : Int)) z G5 fun G6 => D.nx σ G6
  rw [es]
  refine hwr _ _ _ _ ?_
  rw [setIx_ref, hg]
  show isS (L2.ixN (intsW (rowL n (M i))).length ((j : Nat) : Int)) _
  rw [ixK (by rw [List.length_map, ln]; exact hj)]
  show D.nx σ (gup G1 ps[i] (.lst ((intsW (rowL n (M i))).set j (.int _))))
  rw [map_set' W.int]
  refine q _ ?_
  have := h.set hip ((rowL n (M i)).set j (f (M i j) x))
  rw [tabL_set] at this
  exact this
end WL


namespace WL
open PySem PySem.Spec PyProof.Rows L2

/-! ### heights and streams (plain) -/
def ind (i a : Nat) : Int := if i = a then 1 else 0
def lapZ (l : Ln) (i j : Nat) : Int := (l.s : Int) * ((ind i l.a - ind i l.b) * (ind j l.a - ind j l.b))
def lapI (ls : List Ln) (i j : Nat) : Int := (ls.map fun l => lapZ l i j).sum
theorem lapI_append (xs ys : List Ln) (i j : Nat) : lapI (xs ++ ys) i j = lapI xs i j + lapI ys i j := by unfold lapI; rw [List.map_append, List.sum_append]
def lapS (M : Nat → Nat → Int) (l : Ln) : Nat → Nat → Int :=
  let M1 := upd2 M l.a l.a (M l.a l.a + (l.s : Int))
  let M2 := upd2 M1 l.b l.b (M1 l.b l.b + (l.s : Int))
  let M3 := upd2 M2 l.a l.b (M2 l.a l.b - (l.s : Int))
  upd2 M3 l.b l.a (M3 l.b l.a - (l.s : Int))
theorem lapS_eq {M : Nat → Nat → Int} {l : Ln} (h : l.a ≠ l.b) : lapS M l = fun i j => M i j + lapZ l i j := by
  funext i j
  unfold lapS upd2 lapZ ind
  by_cases c1 : i = l.a <;> by_cases c2 : i = l.b <;> by_cases c3 : j = l.a <;> by_cases c4 : j = l.b <;> simp [c1, c2, c3, c4, h, Ne.symm h] <;> omega
theorem sm_shift (f : Nat → Rat) : ∀ n, sm (n + 1) f = f 0 + sm n (fun c => f (c + 1))
  | 0 => by show (0 : Rat) + f 0 = f 0 + 0; grind
  | n + 1 => by rw [sm_succ, sm_shift f n, sm_succ]; grind
theorem ind_sm {n a : Nat} (ha : a < n) (f : Nat → Rat) : sm n (fun j => ((ind j a : Int) : Rat) * f j) = f a := by
  rw [sm_one ha fun c hc ne => by unfold ind; rw [if_neg ne]; grind]
  unfold ind
  rw [if_pos rfl]; grind
theorem ind_cast (i a : Nat) : ((ind i a : Int) : Rat) = if i = a then 1 else 0 := by
  unfold ind
  split <;> rfl
theorem lap_flow {n : Nat} {l : Ln} (ha : l.a < n) (hb : l.b < n) (z : Nat → Rat) (i : Nat) : sm n (fun j => ((lapZ l i j : Int) : Rat) * z j) = flowAt z l i := by
  have e : ∀ j, ((lapZ l i j : Int) : Rat) * z j = ((l.s : Int) : Rat) * (((ind i l.a : Int) : Rat) - ((ind i l.b : Int) : Rat)) * (((ind j l.a : Int) : Rat) * z j - 1 * (((ind j l.b : Int) : Rat) * z j)) := fun j => by
    unfold lapZ
    rw [Rat.intCast_mul, Rat.intCast_mul, Rat.intCast_sub, Rat.intCast_sub]
    grind
  rw [sm_congr fun j _ => e j]
  rw [sm_mul, sm_sub, ind_sm ha, ind_sm hb, ind_cast, ind_cast, Rat.intCast_natCast]
  unfold flowAt
  clear e
  split <;> split <;> grind
theorem lap_out {n : Nat} {ls : List Ln} (ok : ∀ l ∈ ls, LnOk n l) (z : Nat → Rat) (i : Nat) : sm n (fun j => ((lapI ls i j : Int) : Rat) * z j) = outAt ls z i := by
  induction ls with
  | nil =>
    show sm n (fun j => ((0 : Int) : Rat) * z j) = 0
    rw [← sm_zero n]
    exact sm_congr fun j _ => by grind
  | cons l ls ih =>
    show _ = flowAt z l i + outAt ls z i
    rw [← ih fun l m => ok l (.tail _ m), ← lap_flow (ok l (.head _)).a (ok l (.head _)).b z i, ← sm_add]
    refine sm_congr fun j _ => ?_
    have : lapI (l :: ls) i j = lapZ l i j + lapI ls i j := by unfold lapI; rw [List.map_cons, List.sum_cons]
    rw [this, Rat.intCast_add]
    grind
theorem flow_sum {n : Nat} {l : Ln} (ha : l.a < n) (hb : l.b < n) (z : Nat → Rat) : sm n (fun i => flowAt z l i) = 0 := by
  unfold flowAt
  rw [sm_add]
  rw [sm_one (f := fun i => if i = l.a then (l.s : Rat) * (z l.a - z l.b) else 0) ha fun c _ ne => if_neg ne, sm_one (f := fun i => if i = l.b then (l.s : Rat) * (z l.b - z l.a) else 0) hb fun c _ ne => if_neg ne]
  rw [if_pos rfl, if_pos rfl]
  grind
theorem out_sum {n : Nat} {ls : List Ln} (ok : ∀ l ∈ ls, LnOk n l) (z : Nat → Rat) : sm n (fun i => outAt ls z i) = 0 := by
  unfold outAt
  rw [sm_swap2 (fun i l => flowAt z l i)]
  rw [lsum_congr (g := fun _ => 0) fun l hl => flow_sum (ok l hl).a (ok l hl).b z]
  generalize ls = xs
  induction xs with
  | nil => rfl
  | cons x xs ih => show (0 : Rat) + lsum _ xs = 0; rw [ih]; grind
/-- the heights of puts -/
structure IsH (n : Nat) (ls : List Ln) (x h : List Rat) : Prop where
  len : h.length = n
  zero : h.getD 0 0 = 0
  out : ∀ i, i < n → outAt ls (fun v => h.getD v 0) i = x.getD i 0
theorem flow_sub (y z : Nat → Rat) (k : Rat) (l : Ln) (i : Nat) : flowAt (fun v => y v - k * z v) l i = flowAt y l i - k * flowAt z l i := by
  unfold flowAt
  by_cases c1 : i = l.a <;> by_cases c2 : i = l.b <;> simp only [c1, c2, if_true, if_false] <;> grind
theorem out_sub (y z : Nat → Rat) (k : Rat) : ∀ (ls : List Ln) (i : Nat), outAt ls (fun v => y v - k * z v) i = outAt ls y i - k * outAt ls z i
  | [], i => by show (0 : Rat) = 0 - k * 0; grind
  | l :: ls, i => by
    show flowAt _ l i + outAt ls _ i = flowAt y l i + outAt ls y i - k * (flowAt z l i + outAt ls z i)
    rw [flow_sub, out_sub y z k ls i]
    grind
theorem isH_uniq {n : Nat} {ls : List Ln} {x h h' : List Rat} (net : Net n ls) (a : IsH n ls x h) (b : IsH n ls x h') : h = h' := by
  have z := flat_zero (z := fun v => h.getD v 0 - 1 * h'.getD v 0) net.ok net.conn (by rw [a.zero, b.zero]; grind) fun i _ hi => by
    rw [out_sub, a.out i hi, b.out i hi]; grind
  refine List.ext_getElem (by rw [a.len, b.len]) fun i h1 h2 => ?_
  have := z i (by rw [← a.len]; exact h1)
  simp only [List.getD_eq_getElem?_getD, h1, h2, List.getElem?_eq_getElem, Option.getD_some] at this
  grind
def strm (ls : List Ln) (h : List Rat) : List Rat := ls.map fun l => (l.s : Rat) * (h.getD l.a 0 - h.getD l.b 0)
theorem lsum_getD (x : List Rat) : ∀ n, x.length = n → lsum (fun q => q) x = sm n (fun i => x.getD i 0) := by
  induction x with
  | nil => intro n h; rw [← h]; rfl
  | cons q x ih =>
    intro n h
    rw [List.length_cons] at h
    subst h
    rw [sm_shift]
    show q + lsum _ x = _
    rw [ih x.length rfl]
    rfl
/-- the grounded table is nonsingular -/
def lapT (n : Nat) (ls : List Ln) : List (List Rat) := (List.range (n - 1)).map fun i => (List.range (n - 1)).map fun c => ((lapI ls (i + 1) (c + 1) : Int) : Rat)
theorem lapT_ent {n : Nat} {ls : List Ln} {i c : Nat} (hi : i < n - 1) (hc : c < n - 1) : ent (lapT n ls) i c = ((lapI ls (i + 1) (c + 1) : Int) : Rat) := by
  unfold ent lapT
  simp [List.getD_eq_getElem?_getD, hi, hc]
theorem lap_row {m : Nat} {ls : List Ln} (ok : ∀ l ∈ ls, LnOk (m + 1) l) (y : Nat → Rat) {i : Nat} (hi : i < m) : sm m (fun c => ent (lapT (m + 1) ls) i c * y c) = outAt ls (fun v => if v = 0 then 0 else y (v - 1)) (i + 1) := by
  rw [← lap_out ok, sm_shift, if_pos rfl]
  rw [show ((lapI ls (i + 1) 0 : Int) : Rat) * 0 = 0 by grind]
  have : sm m (fun c => ent (lapT (m + 1) ls) i c * y c) = sm m (fun c => ((lapI ls (i + 1) (c + 1) : Int) : Rat) * (if c + 1 = 0 then 0 else y (c + 1 - 1))) := sm_congr fun c hc => by
    rw [lapT_ent (by omega) (by omega), if_neg (by omega)]
    rfl
  rw [this]
  grind
theorem lap_ns {m : Nat} {ls : List Ln} (net : Net (m + 1) ls) : Nonsing m (ent (lapT (m + 1) ls)) := fun y h c hc => by
  have := flat_zero (z := fun v => if v = 0 then 0 else y (v - 1)) net.ok net.conn (if_pos rfl) (fun i h1 hi => by
    have := h (i - 1) (by omega)
    rw [lap_row net.ok y (by omega)] at this
    rw [show i - 1 + 1 = i by omega] at this
    exact this) (c + 1) (by omega)
  simpa using this
theorem isH_of {m : Nat} {ls : List Ln} {x p : List Rat} (net : Net (m + 1) ls) (lp : p.length = m + 1) (bal : lsum (fun q => q) p = 0) (lx : x.length = m)
    (s : ∀ i, i < m → sm m (fun c => ent (lapT (m + 1) ls) i c * x.getD c 0) = (p.drop 1).getD i 0) : IsH (m + 1) ls p (0 :: x) := by
  have e0 : (fun v => (0 :: x : List Rat).getD v 0) = fun v => if v = 0 then 0 else x.getD (v - 1) 0 := by
    funext v
    cases v with
    | zero => rfl
    | succ v => simp
  have pos : ∀ i, i < m → outAt ls (fun v => (0 :: x : List Rat).getD v 0) (i + 1) = p.getD (i + 1) 0 := fun i hi => by
    rw [e0, ← lap_row net.ok (fun c => x.getD c 0) hi, s i hi]
    simp [List.getD_eq_getElem?_getD, Nat.add_comm]
  refine ⟨by rw [List.length_cons, lx], rfl, fun i hi => ?_⟩
  cases i with
  | succ i => exact pos i (by omega)
  | zero =>
    have e1 := out_sum net.ok (fun v => (0 :: x : List Rat).getD v 0)
    rw [sm_shift] at e1
    rw [lsum_getD p (m + 1) lp, sm_shift] at bal
    rw [sm_congr fun c hc => pos c hc] at e1
    grind
theorem sz_int {k : Int} {b : Nat} (h : k.natAbs < 2 ^ b) (hb : 0 < b) : sz b (k : Rat) := ⟨h, Nat.one_lt_two_pow (by omega)⟩
theorem lapZ_le {l : Ln} {n i j : Nat} (h : LnOk n l) : (lapZ l i j).natAbs ≤ 9 := by
  have h9 := h.s.2
  have a1 := h.s.1
  unfold lapZ ind
  split <;> split <;> split <;> split <;> simp <;> omega
theorem lapI_le {ls : List Ln} {n i j : Nat} (h : ∀ l ∈ ls, LnOk n l) : (lapI ls i j).natAbs ≤ 9 * ls.length := by
  induction ls with
  | nil => simp [lapI]
  | cons l ls ih =>
    have a := ih fun l m => h l (.tail _ m)
    have b := lapZ_le (i := i) (j := j) (h l (.head _))
    have : lapI (l :: ls) i j = lapZ l i j + lapI ls i j := by unfold lapI; rw [List.map_cons, List.sum_cons]
    rw [this, List.length_cons]
    omega
def hB (b : Nat) : Nat := 64 * b + 405
def sB (b : Nat) : Nat := 128 * b + 815
theorem getD_szn {b : Nat} {r : List Rat} {c : Nat} (h : ∀ q ∈ r, sz b q) (hb : 0 < b) : sz b (r.getD c 0) := by
  by_cases hc : c < r.length
  · exact getD_sz h hc
  · rw [List.getD_eq_getElem?_getD, List.getElem?_eq_none (by omega)]
    exact sz_int (k := 0) (by simpa using Nat.two_pow_pos b) hb
theorem sz_nat {k b : Nat} (h : k < 2 ^ b) (hb : 0 < b) : sz b (k : Rat) := sz_int (k := (k : Int)) (by simpa using h) hb
theorem strm_sz {n b : Nat} {ls : List Ln} {h : List Rat} (ok : ∀ l ∈ ls, LnOk n l) (hh : ∀ q ∈ h, sz (hB b) q) : ∀ q ∈ strm ls h, sz (sB b) q := fun q hq => by
  obtain ⟨l, hl, rfl⟩ := List.mem_map.mp hq
  have h9 := (ok l hl).s.2
  have p : 0 < hB b := by unfold hB; omega
  exact sz_mono (sz_mul (sz_nat (b := 4) (by omega) (by decide)) (sz_sub (getD_szn hh p) (getD_szn hh p))) (by unfold sB hB; omega)
/-! ### one unit; a line lost -/
def unitN (n a b : Nat) : List Rat := (List.range n).map fun i => ((ind i a - ind i b : Int) : Rat)
theorem unitN_get {n a b i : Nat} (hi : i < n) : (unitN n a b).getD i 0 = ((ind i a : Int) : Rat) - ((ind i b : Int) : Rat) := by
  unfold unitN; simp [List.getD_eq_getElem?_getD, hi, Rat.intCast_sub]
theorem unitN_len {n a b : Nat} : (unitN n a b).length = n := by simp [unitN]
theorem unitN_sz {n a b : Nat} : ∀ q ∈ unitN n a b, sz 1 q := fun q hq => by
  obtain ⟨i, _, rfl⟩ := List.mem_map.mp hq
  refine sz_int ?_ (by decide)
  unfold ind; split <;> split <;> decide
theorem unitN_bal {n a b : Nat} (ha : a < n) (hb : b < n) : lsum (fun q => q) (unitN n a b) = 0 := by
  rw [lsum_getD _ n unitN_len, sm_congr fun i hi => unitN_get hi]
  have e : sm n (fun i => ((ind i a : Int) : Rat) - ((ind i b : Int) : Rat)) = sm n (fun i => ((ind i a : Int) : Rat) * 1 - 1 * (((ind i b : Int) : Rat) * 1)) := sm_congr fun i _ => by grind
  rw [e, sm_sub, ind_sm ha (fun _ => 1), ind_sm hb (fun _ => 1)]
  grind
theorem outAt_append (xs ys : List Ln) (z : Nat → Rat) (i : Nat) : outAt (xs ++ ys) z i = outAt xs z i + outAt ys z i := lsum_append _ _ _
theorem split_at {α : Type} {xs : List α} {k : Nat} (h : k < xs.length) : xs = xs.take k ++ xs[k] :: xs.drop (k + 1) := by
  rw [List.getElem_cons_drop, List.take_append_drop]
theorem out_drop {ls : List Ln} {k : Nat} (h : k < ls.length) (z : Nat → Rat) (i : Nat) : outAt ls z i = outAt (dropL ls k) z i + flowAt z ls[k] i := by
  have e : outAt ls z i = outAt (ls.take k ++ ls[k] :: ls.drop (k + 1)) z i := congrArg (fun l => outAt l z i) (split_at h)
  rw [e, outAt_append]
  show outAt _ z i + (flowAt z _ i + outAt _ z i) = _
  unfold dropL
  rw [outAt_append]
  grind
theorem flow_ind (z : Nat → Rat) (l : Ln) (i : Nat) (ne : l.a ≠ l.b) : flowAt z l i = (l.s : Rat) * (z l.a - z l.b) * (((ind i l.a : Int) : Rat) - ((ind i l.b : Int) : Rat)) := by
  rw [ind_cast, ind_cast]
  unfold flowAt
  split <;> split <;> grind
theorem getD_in {x : List Rat} {c : Nat} (h : c < x.length) : x.getD c 0 = x[c] := by simp [List.getD_eq_getElem?_getD, h]
theorem strm_len {ls : List Ln} {h : List Rat} : (strm ls h).length = ls.length := by simp [strm]
theorem strm_get {ls : List Ln} {h : List Rat} {k : Nat} (hk : k < ls.length) : (strm ls h).getD k 0 = (ls[k].s : Rat) * (h.getD ls[k].a 0 - h.getD ls[k].b 0) := by
  unfold strm; simp [List.getD_eq_getElem?_getD, hk]
theorem net_drop' {n k : Nat} {ls : List Ln} (h : Net n ls) (c : Conn n (edges (dropL ls k))) : Net n (dropL ls k) :=
  ⟨h.n1, h.n4, by
    have := h.few
    unfold dropL
    rw [List.length_append, List.length_take, List.length_drop]
    omega, fun l hl => h.ok l (by
    rcases List.mem_append.mp hl with h | h
    · exact List.mem_of_mem_take h
    · exact List.mem_of_mem_drop h), c⟩
/-- the share of a line for its own places is not 1, if it can be lost -/
theorem share_ne {n k : Nat} {ls : List Ln} {g : List Rat} (net : Net n ls) (hk : k < ls.length) (net' : Net n (dropL ls k)) (hg : IsH n ls (unitN n ls[k].a ls[k].b) g) : (strm ls g).getD k 0 ≠ 1 := fun e => by
  rw [strm_get hk] at e
  have okl := net.ok _ (List.getElem_mem hk)
  have z := flat_zero (z := fun v => g.getD v 0) net'.ok net'.conn hg.zero fun i _ hi => by
    have h1 := hg.out i hi
    rw [out_drop hk, unitN_get hi, flow_ind _ _ _ okl.ne] at h1
    rw [e] at h1
    grind
  rw [z _ okl.a, z _ okl.b] at e
  grind
theorem add_getD {h g : List Rat} {k : Rat} (e : h.length = g.length) (v : Nat) : ((h.zip g).map fun x => x.1 + k * x.2).getD v 0 = h.getD v 0 + k * g.getD v 0 := by
  by_cases c : v < h.length
  · have c2 : v < g.length := by omega
    have c3 : v < ((h.zip g).map fun x => x.1 + k * x.2).length := by simp; omega
    simp only [List.getD_eq_getElem?_getD, List.getElem?_eq_getElem c, List.getElem?_eq_getElem c2, List.getElem?_eq_getElem c3, Option.getD_some, List.getElem_map, List.getElem_zip]
  · have c2 : ¬ v < g.length := by omega
    have c3 : ¬ v < ((h.zip g).map fun x => x.1 + k * x.2).length := by simp; omega
    simp only [List.getD_eq_getElem?_getD, List.getElem?_eq_none (Nat.not_lt.mp c), List.getElem?_eq_none (Nat.not_lt.mp c2), List.getElem?_eq_none (Nat.not_lt.mp c3), Option.getD_none]
    grind
theorem out_lin (y z : Nat → Rat) (k : Rat) (ls : List Ln) (i : Nat) : outAt ls (fun v => y v + k * z v) i = outAt ls y i + k * outAt ls z i := by
  have e : (fun v => y v + k * z v) = fun v => y v - (-k) * z v := by funext v; grind
  rw [e, out_sub]; grind
/-- with a line lost: the heights by the ones ahead and the ones of a unit at its places -/
theorem loss_heights {n k : Nat} {ls : List Ln} {x h g : List Rat} (net : Net n ls) (hk : k < ls.length) (net' : Net n (dropL ls k)) (hh : IsH n ls x h) (hg : IsH n ls (unitN n ls[k].a ls[k].b) g) :
    IsH n (dropL ls k) x ((h.zip g).map fun v => v.1 + ((strm ls h).getD k 0 / (1 - (strm ls g).getD k 0)) * v.2) := by
  have ne := share_ne net hk net' hg
  have okl := net.ok _ (List.getElem_mem hk)
  have el : h.length = g.length := by rw [hh.len, hg.len]
  refine ⟨by simp [hh.len, hg.len], by rw [add_getD el, hh.zero, hg.zero]; grind, fun i hi => ?_⟩
  have e1 : (fun v => ((h.zip g).map fun v => v.1 + ((strm ls h).getD k 0 / (1 - (strm ls g).getD k 0)) * v.2).getD v 0) = fun v => h.getD v 0 + ((strm ls h).getD k 0 / (1 - (strm ls g).getD k 0)) * g.getD v 0 := by
    funext v; exact add_getD el v
  rw [e1]
  generalize hp : (strm ls h).getD k 0 / (1 - (strm ls g).getD k 0) = p
  have e2 := out_drop hk (fun v => h.getD v 0 + p * g.getD v 0) i
  rw [out_lin, hh.out i hi, hg.out i hi, unitN_get hi, flow_ind _ _ _ okl.ne] at e2
  have a1 := strm_get (h := h) hk
  have a2 := strm_get (h := g) hk
  have e3 : (ls[k].s : Rat) * ((h.getD ls[k].a 0 + p * g.getD ls[k].a 0) - (h.getD ls[k].b 0 + p * g.getD ls[k].b 0)) = p := by
    have : (ls[k].s : Rat) * ((h.getD ls[k].a 0 + p * g.getD ls[k].a 0) - (h.getD ls[k].b 0 + p * g.getD ls[k].b 0)) = (strm ls h).getD k 0 + p * (strm ls g).getD k 0 := by rw [a1, a2]; grind
    rw [this, ← hp]
    grind
  rw [e3] at e2
  grind
theorem strm_lin {ls : List Ln} {h g : List Rat} {p : Rat} (e : h.length = g.length) {j : Nat} (hj : j < ls.length) : (strm ls ((h.zip g).map fun v => v.1 + p * v.2)).getD j 0 = (strm ls h).getD j 0 + p * (strm ls g).getD j 0 := by
  rw [strm_get hj, strm_get hj, strm_get hj, add_getD e, add_getD e]
  grind
/-- what runs with a line lost, in the numbers of the whole net -/
def lossL (ls : List Ln) (k : Nat) (h : List Rat) : List Rat := (strm ls h).set k 0
theorem loss_get {n k : Nat} {ls : List Ln} {x h g h' : List Rat} (net : Net n ls) (hk : k < ls.length) (net' : Net n (dropL ls k)) (hh : IsH n ls x h) (hg : IsH n ls (unitN n ls[k].a ls[k].b) g) (h1 : IsH n (dropL ls k) x h') {j : Nat} (hj : j < ls.length) :
    (strm ls h').getD j 0 = (strm ls h).getD j 0 + ((strm ls h).getD k 0 / (1 - (strm ls g).getD k 0)) * (strm ls g).getD j 0 := by
  have := isH_uniq net' h1 (loss_heights net hk net' hh hg)
  rw [this, strm_lin (by rw [hh.len, hg.len]) hj]
theorem lossL_eq {n k : Nat} {ls : List Ln} {x h g h' : List Rat} (net : Net n ls) (hk : k < ls.length) (net' : Net n (dropL ls k)) (hh : IsH n ls x h) (hg : IsH n ls (unitN n ls[k].a ls[k].b) g) (h1 : IsH n (dropL ls k) x h') :
    (((strm ls h).zip (strm ls g)).map fun v => v.1 + ((strm ls h).getD k 0 / (1 - (strm ls g).getD k 0)) * v.2).set k 0 = lossL ls k h' := by
  unfold lossL
  congr 1
  refine List.ext_getElem (by simp [strm_len]) fun j j1 j2 => ?_
  have hj : j < ls.length := by simpa [strm_len] using j2
  have := loss_get net hk net' hh hg h1 hj
  have e := add_getD (h := strm ls h) (g := strm ls g) (k := ((strm ls h).getD k 0 / (1 - (strm ls g).getD k 0))) (by simp [strm_len]) j
  rw [← this] at e
  have j3 : j < (((strm ls h).zip (strm ls g)).map fun x => x.1 + ((strm ls h).getD k 0 / (1 - (strm ls g).getD k 0)) * x.2).length := by simpa using j1
  exact (getD_in j3).symm.trans (e.trans (getD_in j2))
def lB (b : Nat) : Nat := 256 * b + 4000
end WL


namespace WL
open PySem PySem.Spec PyProof.Rows L2
local macro_rules | `(tactic| walk_at "w") => `(tactic| try simp only [↓a_seq, ↓a_asg, ↓a_ifS, ↓a_ret, ↓a_retN, ↓a_next, ↓a_break, ↓a_cont, ↓a_drop, ↓a_for, ↓a_C, ↓a_op, ↓a_un, ↓a_neg, ↓a_CB, ↓a_call, ↓a_nil, ↓a_cons, ↓a_tup, ↓a_lst, ↓a_lstM, ↓a_test, ↓a_and, ↓a_or, ↓a_not, ↓a_yes, ↓a_andV, ↓a_orV, ↓a_notV, ↓a_if, ↓a_isN, ↓a_notN, ↓a_chain, ↓a_BM, ↓a_BM0, ↓a_seqI, ↓a_R1, ↓a_R2, ↓a_zip2, ↓a_zipG2, ↓a_zipG3, ↓a_enumG, ↓a_enum, ↓a_lc, ↓a_lcM, ↓a_lcR, ↓a_forR, ↓a_seqR, ↓a_zip2R, ↓a_zipR, ↓a_lstRg, ↓a_lstRgM, ↓a_lcP, ↓a_slice, ↓a_sliceM, ↓a_pN, ↓a_pS, ↓a_augIx, ↓a_gIx, ↓a_par, ↓a_setF, ↓a_meth, ↓a_make, ↓a_makeZ, ↓a_dnew, ↓a_done, ↓a_dput, ↓a_dget, ↓a_din, ↓a_lenD, ↓v_0, ↓g_0, ↓u_0, ↓v_1, ↓g_1, ↓u_1, ↓v_2, ↓g_2, ↓u_2, ↓v_3, ↓g_3, ↓u_3, ↓v_4, ↓g_4, ↓u_4, ↓v_5, ↓g_5, ↓u_5, ↓v_6, ↓g_6, ↓u_6, ↓v_7, ↓g_7, ↓u_7, ↓v_8, ↓g_8, ↓u_8, ↓v_9, ↓g_9, ↓u_9, ↓v_10, ↓g_10, ↓u_10, ↓v_11, ↓g_11, ↓u_11, ↓v_12, ↓g_12, ↓u_12, ↓v_13, ↓g_13, ↓u_13, ↓v_14, ↓g_14, ↓u_14, ↓v_15, ↓g_15, ↓u_15, ↓v_16, ↓g_16, ↓u_16, ↓v_17, ↓g_17, ↓u_17, ↓v_18, ↓g_18, ↓u_18, ↓v_19, ↓g_19, ↓u_19, ↓v_20, ↓g_20, ↓u_20, ↓v_21, ↓g_21, ↓u_21, ↓v_22, ↓g_22, ↓u_22, ↓v_23, ↓g_23, ↓u_23, ↓v_24, ↓g_24, ↓u_24, ↓v_25, ↓g_25, ↓u_25, ↓f_0, ↓fl_0, ↓fn_0, ↓f_1, ↓fl_1, ↓fn_1, ↓f_2, ↓fl_2, ↓fn_2, ↓f_3, ↓fl_3, ↓fn_3, ↓f_4, ↓fl_4, ↓fn_4, ↓f_5, ↓fl_5, ↓fn_5, ↓f_6, ↓fl_6, ↓fn_6, ↓f_7, ↓fl_7, ↓fn_7, ↓f_8, ↓fl_8, ↓fn_8, ↓f_9, ↓fl_9, ↓fn_9, ↓f_10, ↓fl_10, ↓fn_10, ↓f_11, ↓fl_11, ↓fn_11, ↓f_12, ↓fl_12, ↓fn_12, ↓f_13, ↓fl_13, ↓fn_13, ↓f_14, ↓fl_14, ↓fn_14, ↓f_15, ↓fl_15, ↓fn_15, ↓f_16, ↓fl_16, ↓fn_16, ↓f_17, ↓fl_17, ↓fn_17, ↓f_18, ↓fl_18, ↓fn_18, ↓f_19, ↓fl_19, ↓fn_19, ↓f_20, ↓fl_20, ↓fn_20, ↓f_21, ↓fl_21, ↓fn_21, ↓f_22, ↓fl_22, ↓fn_22, ↓f_23, ↓fl_23, ↓fn_23, ↓f_24, ↓fl_24, ↓fn_24, ↓f_25, ↓fl_25, ↓fn_25, ↓asL_lst, ↓asL_scr, ↓asL_gup, ↓wIx_tup, ↓wIx_lst, ↓wIx_scr, ↓wIx_ref, ↓wIx_str, ↓wAdd_int, ↓wAdd_str, ↓wAdd_tup, ↓wAdd_lst, ↓wII_int, ↓wI2_int, ↓wI1_int, ↓wI1N_int, ↓wI2N_int, ↓wLen_tup, ↓wLen_lst, ↓wLen_scr, ↓wLen_ref, ↓wLen_str, ↓wInt_int, ↓wInt_bl, ↓wStrI_int, ↓wEq_int, ↓wEq_str, ↓wEq_bl, ↓wNe_bl, ↓wNe_int, ↓wNe_str, ↓wEq_tup, ↓wNe_tup, ↓wEq_lst, ↓wNe_lst, ↓setIx_ref, ↓gT_tup, ↓gT_lst, ↓gT_ref, ↓gsC_cons, ↓gsN_nil, ↓wAppend_ref, ↓wPop_ref, ↓wExtend_ref, ↓rgO_int, ↓wAddM_lst, ↓wIsB_bl, ↓wReverse_ref, ↓wRepT_tup, ↓wNotB_bl, ↓wInD_lst, ↓wPopAt_ref, ↓wInsert_ref, ↓refR_ref, ↓seqOf_tup, ↓seqOf_lst, ↓seqOf_scr, ↓seqOf_ref, ↓rng1_int, ↓rng2_int, ↓wIsi_non, ↓wIsi_bl, ↓wIsi_int, ↓wIsi_str, ↓wIsi_tup, ↓wIsi_lst, ↓wIsi_ref, ↓wAll_lst, ↓wAny_lst, ↓wSum_lst, ↓wTuple_tup, ↓wTuple_lst, ↓wTuple_ref, ↓wList_tup, ↓wList_lst, ↓wList_ref, ↓wListM_tup, ↓wListM_lst, ↓wCut_tup, ↓wCut_lst, ↓wCut_ref, ↓wCut_str, ↓wRep_lst, ↓wRepM_lst, ↓zipOf_tup, ↓zipOf_lst, ↓enumOf_lst, ↓enumOf_scr, ↓zipG2_eq, ↓zipG3_eq, ↓enumG_eq, ↓wSorted_eq, ↓wSortedM_eq, ↓wClear_ref, ↓wGet_ref, ↓truO_bl, ↓intO_int, ↓isS_some, ↓isG_lst, ↓setF_ref, ↓isI_ins, ↓dPut_ref, ↓isD_dic, ↓insOf_gup, ↓dicOf_gup, keyOf, nk, rangeW_length, sset, skill, swipe, swipe.sforget, lcW, wIn, seqs, inW, eqW, flatW, kdIs, isNon, gup_same, gup_gup, at0, at1, at2, at3, at4, at5, at6, at7, ix0, ix1, ix2, ix3, ix4, ix5, W.bl.injEq, exists_eq_left', List.length_cons, List.length_nil, List.length_map, Nat.zero_add, Nat.reduceAdd, List.set, List.map_cons, List.map_nil, Option.isSome_some, List.all_cons, List.all_nil, List.any_cons, List.any_nil, List.cons_append, List.nil_append, Bool.and_true, Bool.and_self, Bool.or_false, Bool.true_and, Bool.false_and, Bool.and_false, true_and, decide_true, decide_false, Bool.not_true, Bool.not_false, Bool.not_not, Bool.false_eq_true, if_true, if_false, ite_self, beq_self_eq_true])

/-! ### a line lost -/
noncomputable def dueL (n : Nat) (ls : List Ln) : List Nat := (List.range ls.length).filter fun k => connB n (edges (dropL ls k))
theorem drop_mem {ls : List Ln} {k : Nat} {l : Ln} (h : l ∈ dropL ls k) : l ∈ ls := by
  rcases List.mem_append.mp h with h | h
  · exact List.mem_of_mem_take h
  · exact List.mem_of_mem_drop h
theorem drop_len {ls : List Ln} {k : Nat} (h : k < ls.length) : (dropL ls k).length + 1 = ls.length := by
  unfold dropL
  rw [List.length_append, List.length_take, List.length_drop]
  omega
theorem drop_len' {ls : List Ln} {k : Nat} : (dropL ls k).length ≤ ls.length := by
  unfold dropL
  rw [List.length_append, List.length_take, List.length_drop]
  omega
theorem due_mem {n k : Nat} {ls : List Ln} (h : k ∈ dueL n ls) : k < ls.length ∧ connB n (edges (dropL ls k)) = true := by
  unfold dueL at h
  rw [List.mem_filter, List.mem_range] at h
  exact h
theorem net_drop {n k : Nat} {ls : List Ln} (h : Net n ls) (m : k ∈ dueL n ls) : Net n (dropL ls k) :=
  ⟨h.n1, h.n4, Nat.le_trans drop_len' h.few, fun l hl => h.ok l (drop_mem hl), connB_iff.mp (due_mem m).2⟩
theorem cut_lines {ls : List Ln} {k : Nat} (h : k < ls.length) : cutW (linesW ls) none (some ((k : Nat) : Int)) ++ cutW (linesW ls) (some (((k + 1 : Nat)) : Int)) none = linesW (dropL ls k) := by
  rw [cut_to _ _ (by omega), cut_from _ _ (by omega), ← List.map_append]
  rfl
theorem wD_net (n : Nat) (ls : List Ln) : wD 3 (netW n ls) := wD_tup fun w h => by
  simp only [List.mem_cons, List.not_mem_nil, or_false] at h
  rcases h with rfl | rfl
  · exact wD_mono wD_int (by decide)
  · refine wD_tup fun w h => ?_
    obtain ⟨l, _, rfl⟩ := List.mem_map.mp h
    refine wD_tup fun w h => ?_
    simp only [List.mem_cons, List.not_mem_nil, or_false] at h
    rcases h with rfl | rfl | rfl | rfl <;> exact wD_int
theorem lnOf_line (l : Ln) : lnOf (lineW l) = l := rfl
theorem line_ok {n : Nat} {l : Ln} (h : LnOk n l) : lineB n (lineW l) = true := by
  have h1 := h.a
  have h2 := h.b
  have h3 := h.ne
  have h4 := h.s
  have h5 := h.m
  show (fromB _ _ _ && (fromB _ _ _ && (!intEqB _ _ && (fromB _ _ _ && fromB _ _ _)))) = true
  simp only [fromB, intEqB, Bool.and_eq_true, decide_eq_true_eq, Bool.not_eq_true', decide_eq_false_iff_not]
  omega
theorem net_ok {n : Nat} {ls : List Ln} (h : Net n ls) : netB (netW n ls) = true := by
  have e : (linesW ls).map lnOf = ls := by rw [List.map_map]; simp [Function.comp_def, lnOf_line]
  show (fromB _ 1 4 && (decide ((linesW ls).length ≤ 6) && ((linesW ls).all (lineB n) && connB n (edges ((linesW ls).map lnOf))))) = true
  rw [e, connB_iff.mpr h.conn, decide_eq_true (show (linesW ls).length ≤ 6 by rw [List.length_map]; exact h.few)]
  have h1 := h.n1
  have h4 := h.n4
  have a : (linesW ls).all (lineB n) = true := List.all_eq_true.mpr fun w hw => by
    obtain ⟨l, hl, rfl⟩ := List.mem_map.mp hw
    exact line_ok (h.ok l hl)
  rw [a]
  simp [fromB]
  omega
theorem net_dat (n : Nat) (ls : List Ln) : datB (netW n ls) = true := by
  have a : datsB (linesW ls) = true := dats_all.mpr fun w hw => by
    obtain ⟨l, _, rfl⟩ := List.mem_map.mp hw
    rfl
  show (true && (datsB (linesW ls) && true)) = true
  rw [a]; rfl
theorem due_len {n : Nat} {ls : List Ln} : (dueL n ls).length ≤ ls.length := by
  unfold dueL
  exact Nat.le_trans (List.length_filter_le _ _) (by rw [List.length_range]; exact Nat.le_refl _)
def sp_left_lines : Spw := fun ws G Q _ => ∃ n ls k, ws = [netW n ls, .int ((k : Nat) : Int)] ∧ k < ls.length ∧ ls.length ≤ 1000 ∧ Q (.tup (linesW (dropL ls k))) G
theorem len_left_lines (ws G Q E) (h : sp_left_lines ws G Q E) : ws.length = 2 := by obtain ⟨_, _, _, rfl, _⟩ := h; rfl
/-- slots: net 0, line 1 -/
def t_left_lines : TSw := (wRet (wOp wAdd (wSlice (wOp wIx (wVar 0) (wC (.int 1))) wpNone (wpSome (wVar 1))) (wSlice (wOp wIx (wVar 0) (wC (.int 1))) (wpSome (wOp wAdd (wVar 1) (wC (.int 1)))) wpNone)))
theorem rd_left_lines (ws : List W) (G : Gp) (Q : QW) (E) (h : sp_left_lines ws G Q E) : t_left_lines { nx := fun _ G' => Q .non G', rt := Cl Q } (startW ["net", "line"] ws) G := by
  obtain ⟨n, ls, k, rfl, hk, few, q⟩ := h
  show t_left_lines _ [some (netW n ls), some (.int k)] G
  have big : 1000 < sizeLine := by decide
  have l1 := congrArg List.length (cut_lines hk)
  rw [List.length_append, List.length_map] at l1
  have l2 := drop_len hk
  unfold t_left_lines
  walk_at "w"
  rw [show ((k : Nat) : Int) + 1 = ((k + 1 : Nat) : Int) by omega, cut_lines hk]
  exact ⟨by omega, .inl q⟩
def sp_losable : Spw := fun ws G Q _ => ∃ n ls, ws = [netW n ls] ∧ Net n ls ∧ tellL (natsW (dueL n ls)) Q G
theorem len_losable (ws G Q E) (h : sp_losable ws G Q E) : ws.length = 1 := by obtain ⟨_, _, rfl, _⟩ := h; rfl
/-- slots: net 0, k 1 -/
def t_losable : TSw := (wRet (wLcM [1] (iR1 (wCons (wCB wLen (wCons (wOp wIx (wVar 0) (wC (.int 1))) wNil)) wNil)) (gN 1) (wTest (wCall sp_hangs_together (wCons (wOp wIx (wVar 0) (wC (.int 0))) (wCons (wCall sp_left_lines (wCons (wVar 0) (wCons (wVar 1) wNil))) wNil)))) (wVar 1)))
theorem rd_losable (ws : List W) (G : Gp) (Q : QW) (E) (h : sp_losable ws G Q E) : t_losable { nx := fun _ G' => Q .non G', rt := Cl Q } (startW ["net", "k"] ws) G := by
  obtain ⟨n, ls, rfl, net, q⟩ := h
  show t_losable _ [some (netW n ls), none] G
  have big : 1000 < sizeLine := by decide
  have few := net.few
  unfold t_losable
  walk_at "w"
  rw [show ((ls.length : Nat) : Int).toNat = ls.length by omega]
  refine ⟨by omega, by omega, by omega, ?_⟩
  refine lcW_filterA (fun k : Nat => W.int (0 + (k : Int))) (fun k => .int ((k : Nat) : Int)) (fun k => connB n (edges (dropL ls k))) _ _ _ ?_ ?_
  · intro k hk R P hR hP
    rw [List.mem_range] at hk
    rw [Int.zero_add]
    walk_at "w"
    refine ⟨n, ls, k, rfl, hk, by omega, ?_⟩
    walk_at "w"
    refine ⟨n, _, dropL ls k, rfl, .inl rfl, net.n1, by have := net.n4; omega, fun l hl => net.ok l (drop_mem hl), ?_⟩
    walk_at "w"
    cases c : connB n (edges (dropL ls k)) with
    | true => rw [if_pos rfl]; exact hR c
    | false => rw [if_neg (by decide)]; exact hP c
  · intro p hp
    exact q.cl hp
end WL


namespace WL
open PySem PySem.Spec PyProof.Rows L2
local macro_rules | `(tactic| walk_at "w") => `(tactic| try simp only [↓a_seq, ↓a_asg, ↓a_ifS, ↓a_ret, ↓a_retN, ↓a_next, ↓a_break, ↓a_cont, ↓a_drop, ↓a_for, ↓a_C, ↓a_op, ↓a_un, ↓a_neg, ↓a_CB, ↓a_call, ↓a_nil, ↓a_cons, ↓a_tup, ↓a_lst, ↓a_lstM, ↓a_test, ↓a_and, ↓a_or, ↓a_not, ↓a_yes, ↓a_andV, ↓a_orV, ↓a_notV, ↓a_if, ↓a_isN, ↓a_notN, ↓a_chain, ↓a_BM, ↓a_BM0, ↓a_seqI, ↓a_R1, ↓a_R2, ↓a_zip2, ↓a_zipG2, ↓a_zipG3, ↓a_enumG, ↓a_enum, ↓a_lc, ↓a_lcM, ↓a_lcR, ↓a_forR, ↓a_seqR, ↓a_zip2R, ↓a_zipR, ↓a_lstRg, ↓a_lstRgM, ↓a_lcP, ↓a_slice, ↓a_sliceM, ↓a_pN, ↓a_pS, ↓a_augIx, ↓a_gIx, ↓a_par, ↓a_setF, ↓a_meth, ↓a_make, ↓a_makeZ, ↓a_dnew, ↓a_done, ↓a_dput, ↓a_dget, ↓a_din, ↓a_lenD, ↓v_0, ↓g_0, ↓u_0, ↓v_1, ↓g_1, ↓u_1, ↓v_2, ↓g_2, ↓u_2, ↓v_3, ↓g_3, ↓u_3, ↓v_4, ↓g_4, ↓u_4, ↓v_5, ↓g_5, ↓u_5, ↓v_6, ↓g_6, ↓u_6, ↓v_7, ↓g_7, ↓u_7, ↓v_8, ↓g_8, ↓u_8, ↓v_9, ↓g_9, ↓u_9, ↓v_10, ↓g_10, ↓u_10, ↓v_11, ↓g_11, ↓u_11, ↓v_12, ↓g_12, ↓u_12, ↓v_13, ↓g_13, ↓u_13, ↓v_14, ↓g_14, ↓u_14, ↓v_15, ↓g_15, ↓u_15, ↓v_16, ↓g_16, ↓u_16, ↓v_17, ↓g_17, ↓u_17, ↓v_18, ↓g_18, ↓u_18, ↓v_19, ↓g_19, ↓u_19, ↓v_20, ↓g_20, ↓u_20, ↓v_21, ↓g_21, ↓u_21, ↓v_22, ↓g_22, ↓u_22, ↓v_23, ↓g_23, ↓u_23, ↓v_24, ↓g_24, ↓u_24, ↓v_25, ↓g_25, ↓u_25, ↓f_0, ↓fl_0, ↓fn_0, ↓f_1, ↓fl_1, ↓fn_1, ↓f_2, ↓fl_2, ↓fn_2, ↓f_3, ↓fl_3, ↓fn_3, ↓f_4, ↓fl_4, ↓fn_4, ↓f_5, ↓fl_5, ↓fn_5, ↓f_6, ↓fl_6, ↓fn_6, ↓f_7, ↓fl_7, ↓fn_7, ↓f_8, ↓fl_8, ↓fn_8, ↓f_9, ↓fl_9, ↓fn_9, ↓f_10, ↓fl_10, ↓fn_10, ↓f_11, ↓fl_11, ↓fn_11, ↓f_12, ↓fl_12, ↓fn_12, ↓f_13, ↓fl_13, ↓fn_13, ↓f_14, ↓fl_14, ↓fn_14, ↓f_15, ↓fl_15, ↓fn_15, ↓f_16, ↓fl_16, ↓fn_16, ↓f_17, ↓fl_17, ↓fn_17, ↓f_18, ↓fl_18, ↓fn_18, ↓f_19, ↓fl_19, ↓fn_19, ↓f_20, ↓fl_20, ↓fn_20, ↓f_21, ↓fl_21, ↓fn_21, ↓f_22, ↓fl_22, ↓fn_22, ↓f_23, ↓fl_23, ↓fn_23, ↓f_24, ↓fl_24, ↓fn_24, ↓f_25, ↓fl_25, ↓fn_25, ↓asL_lst, ↓asL_scr, ↓asL_gup, ↓wIx_tup, ↓wIx_lst, ↓wIx_scr, ↓wIx_ref, ↓wIx_str, ↓wAdd_int, ↓wAdd_str, ↓wAdd_tup, ↓wAdd_lst, ↓wII_int, ↓wI2_int, ↓wI1_int, ↓wI1N_int, ↓wI2N_int, ↓wLen_tup, ↓wLen_lst, ↓wLen_scr, ↓wLen_ref, ↓wLen_str, ↓wInt_int, ↓wInt_bl, ↓wStrI_int, ↓wEq_int, ↓wEq_str, ↓wEq_bl, ↓wNe_bl, ↓wNe_int, ↓wNe_str, ↓wEq_tup, ↓wNe_tup, ↓wEq_lst, ↓wNe_lst, ↓setIx_ref, ↓gT_tup, ↓gT_lst, ↓gT_ref, ↓gsC_cons, ↓gsN_nil, ↓wAppend_ref, ↓wPop_ref, ↓wExtend_ref, ↓rgO_int, ↓wAddM_lst, ↓wIsB_bl, ↓wReverse_ref, ↓wRepT_tup, ↓wNotB_bl, ↓wInD_lst, ↓wPopAt_ref, ↓wInsert_ref, ↓refR_ref, ↓seqOf_tup, ↓seqOf_lst, ↓seqOf_scr, ↓seqOf_ref, ↓rng1_int, ↓rng2_int, ↓wIsi_non, ↓wIsi_bl, ↓wIsi_int, ↓wIsi_str, ↓wIsi_tup, ↓wIsi_lst, ↓wIsi_ref, ↓wAll_lst, ↓wAny_lst, ↓wSum_lst, ↓wTuple_tup, ↓wTuple_lst, ↓wTuple_ref, ↓wList_tup, ↓wList_lst, ↓wList_ref, ↓wListM_tup, ↓wListM_lst, ↓wCut_tup, ↓wCut_lst, ↓wCut_ref, ↓wCut_str, ↓wRep_lst, ↓wRepM_lst, ↓zipOf_tup, ↓zipOf_lst, ↓enumOf_lst, ↓enumOf_scr, ↓zipG2_eq, ↓zipG3_eq, ↓enumG_eq, ↓wSorted_eq, ↓wSortedM_eq, ↓wClear_ref, ↓wGet_ref, ↓truO_bl, ↓intO_int, ↓isS_some, ↓isG_lst, ↓setF_ref, ↓isI_ins, ↓dPut_ref, ↓isD_dic, ↓insOf_gup, ↓dicOf_gup, keyOf, nk, rangeW_length, sset, skill, swipe, swipe.sforget, lcW, wIn, seqs, inW, eqW, flatW, kdIs, isNon, gup_same, gup_gup, at0, at1, at2, at3, at4, at5, at6, at7, ix0, ix1, ix2, ix3, ix4, ix5, W.bl.injEq, exists_eq_left', List.length_cons, List.length_nil, List.length_map, Nat.zero_add, Nat.reduceAdd, List.set, List.map_cons, List.map_nil, Option.isSome_some, List.all_cons, List.all_nil, List.any_cons, List.any_nil, List.cons_append, List.nil_append, Bool.and_true, Bool.and_self, Bool.or_false, Bool.true_and, Bool.false_and, Bool.and_false, true_and, decide_true, decide_false, Bool.not_true, Bool.not_false, Bool.not_not, Bool.false_eq_true, if_true, if_false, ite_self, beq_self_eq_true])

/-- a list told by a def as its caller's frozen one -/
theorem TL.cl {Q : QW} {G : Gp} {p : Addr} {ws : List W} (n : G p = none) (h : Q (.lst ws) G) : Cl Q (.ref p) (gup G p (.lst ws)) := (show tellL ws Q G from .inl h).cl n
/-! ### drawing -/
/-- only the bag has changed -/
def BagUp (p : Addr) (G G' : Gp) : Prop := ∃ c x, G' = gup G p (bagO c x) ∧ 0 ≤ c ∧ 0 ≤ x ∧ x < 2147483648
theorem BagUp.at {p : Addr} {G G' : Gp} (h : BagUp p G G') : BagAt p G' := by
  obtain ⟨c, x, rfl, r⟩ := h
  exact ⟨c, x, gup_same, r⟩
theorem BagUp.ne {p q : Addr} {G G' : Gp} (h : BagUp p G G') (ne : q ≠ p) : G' q = G q := by
  obtain ⟨c, x, rfl, r⟩ := h
  exact gup_ne ne
theorem BagUp.refl {p : Addr} {G : Gp} (h : BagAt p G) : BagUp p G G := by
  obtain ⟨c, x, g, r⟩ := h
  exact ⟨c, x, (gup_self g).symm, r⟩
theorem BagUp.trans {p : Addr} {G G' G'' : Gp} (h : BagUp p G G') (h' : BagUp p G' G'') : BagUp p G G'' := by
  obtain ⟨c, x, rfl, r⟩ := h
  obtain ⟨c', x', rfl, r'⟩ := h'
  exact ⟨c', x', gup_gup, r'⟩
theorem take_up {p : Addr} {m : Int} {G : Gp} {Q : QW} {E} (h : BagAt p G) (hm : 0 < m) (q : ∀ (d : Nat) G', (d : Int) < m → BagUp p G G' → Q (.int ((d : Nat) : Int)) G') : sp__law_take [.ref p, .int m] G Q E := by
  obtain ⟨c, x, g, hc, hx, hx2⟩ := h
  refine ⟨p, m, c, x, rfl, g, hc, hx, hx2, hm, fun d c' x' d0 d1 hc' hx' hx2' => ?_⟩
  obtain ⟨k, rfl⟩ : ∃ k : Nat, d = (k : Int) := ⟨d.toNat, by omega⟩
  exact q k _ d1 ⟨c', x', rfl, hc', hx', hx2'⟩
theorem bag_up {ns : List Int} {k : Int} {G : Gp} {Q : QW} {E} (hl : ns.length ≤ 63) (h0 : 0 ≤ k) (h1 : k < 1000) (q : ∀ p G', G p = none → BagAt p G' → (∀ r, r ≠ p → G' r = G r) → Q (.ref p) G') : sp__law_bag [.scr (ns.map W.int), .int k] G Q E :=
  ⟨ns, k, rfl, hl, h0, h1, fun p c x hp hc hx hx2 => q p _ hp ⟨c, x, gup_same, hc, hx, hx2⟩ fun r hr => gup_ne hr⟩
theorem isS_at {l : List W} {d : Nat} {P : W → Prop} (h : d < l.length) (q : ∀ w ∈ l, P w) : isS (L2.atI l ((d : Nat) : Int)) P := by
  rw [L2.atI_nat (List.getElem?_eq_getElem h)]
  exact q _ (List.getElem_mem h)
end WL


namespace WL
open PySem PySem.Spec PyProof.Rows L2
local macro_rules | `(tactic| walk_at "w") => `(tactic| try simp only [↓a_seq, ↓a_asg, ↓a_ifS, ↓a_ret, ↓a_retN, ↓a_next, ↓a_break, ↓a_cont, ↓a_drop, ↓a_for, ↓a_C, ↓a_op, ↓a_un, ↓a_neg, ↓a_CB, ↓a_call, ↓a_nil, ↓a_cons, ↓a_tup, ↓a_lst, ↓a_lstM, ↓a_test, ↓a_and, ↓a_or, ↓a_not, ↓a_yes, ↓a_andV, ↓a_orV, ↓a_notV, ↓a_if, ↓a_isN, ↓a_notN, ↓a_chain, ↓a_BM, ↓a_BM0, ↓a_seqI, ↓a_R1, ↓a_R2, ↓a_zip2, ↓a_zipG2, ↓a_zipG3, ↓a_enumG, ↓a_enum, ↓a_lc, ↓a_lcM, ↓a_lcR, ↓a_forR, ↓a_seqR, ↓a_zip2R, ↓a_zipR, ↓a_lstRg, ↓a_lstRgM, ↓a_lcP, ↓a_slice, ↓a_sliceM, ↓a_pN, ↓a_pS, ↓a_augIx, ↓a_gIx, ↓a_par, ↓a_setF, ↓a_meth, ↓a_make, ↓a_makeZ, ↓a_dnew, ↓a_done, ↓a_dput, ↓a_dget, ↓a_din, ↓a_lenD, ↓v_0, ↓g_0, ↓u_0, ↓v_1, ↓g_1, ↓u_1, ↓v_2, ↓g_2, ↓u_2, ↓v_3, ↓g_3, ↓u_3, ↓v_4, ↓g_4, ↓u_4, ↓v_5, ↓g_5, ↓u_5, ↓v_6, ↓g_6, ↓u_6, ↓v_7, ↓g_7, ↓u_7, ↓v_8, ↓g_8, ↓u_8, ↓v_9, ↓g_9, ↓u_9, ↓v_10, ↓g_10, ↓u_10, ↓v_11, ↓g_11, ↓u_11, ↓v_12, ↓g_12, ↓u_12, ↓v_13, ↓g_13, ↓u_13, ↓v_14, ↓g_14, ↓u_14, ↓v_15, ↓g_15, ↓u_15, ↓v_16, ↓g_16, ↓u_16, ↓v_17, ↓g_17, ↓u_17, ↓v_18, ↓g_18, ↓u_18, ↓v_19, ↓g_19, ↓u_19, ↓v_20, ↓g_20, ↓u_20, ↓v_21, ↓g_21, ↓u_21, ↓v_22, ↓g_22, ↓u_22, ↓v_23, ↓g_23, ↓u_23, ↓v_24, ↓g_24, ↓u_24, ↓v_25, ↓g_25, ↓u_25, ↓f_0, ↓fl_0, ↓fn_0, ↓f_1, ↓fl_1, ↓fn_1, ↓f_2, ↓fl_2, ↓fn_2, ↓f_3, ↓fl_3, ↓fn_3, ↓f_4, ↓fl_4, ↓fn_4, ↓f_5, ↓fl_5, ↓fn_5, ↓f_6, ↓fl_6, ↓fn_6, ↓f_7, ↓fl_7, ↓fn_7, ↓f_8, ↓fl_8, ↓fn_8, ↓f_9, ↓fl_9, ↓fn_9, ↓f_10, ↓fl_10, ↓fn_10, ↓f_11, ↓fl_11, ↓fn_11, ↓f_12, ↓fl_12, ↓fn_12, ↓f_13, ↓fl_13, ↓fn_13, ↓f_14, ↓fl_14, ↓fn_14, ↓f_15, ↓fl_15, ↓fn_15, ↓f_16, ↓fl_16, ↓fn_16, ↓f_17, ↓fl_17, ↓fn_17, ↓f_18, ↓fl_18, ↓fn_18, ↓f_19, ↓fl_19, ↓fn_19, ↓f_20, ↓fl_20, ↓fn_20, ↓f_21, ↓fl_21, ↓fn_21, ↓f_22, ↓fl_22, ↓fn_22, ↓f_23, ↓fl_23, ↓fn_23, ↓f_24, ↓fl_24, ↓fn_24, ↓f_25, ↓fl_25, ↓fn_25, ↓asL_lst, ↓asL_scr, ↓asL_gup, ↓wIx_tup, ↓wIx_lst, ↓wIx_scr, ↓wIx_ref, ↓wIx_str, ↓wAdd_int, ↓wAdd_str, ↓wAdd_tup, ↓wAdd_lst, ↓wII_int, ↓wI2_int, ↓wI1_int, ↓wI1N_int, ↓wI2N_int, ↓wLen_tup, ↓wLen_lst, ↓wLen_scr, ↓wLen_ref, ↓wLen_str, ↓wInt_int, ↓wInt_bl, ↓wStrI_int, ↓wEq_int, ↓wEq_str, ↓wEq_bl, ↓wNe_bl, ↓wNe_int, ↓wNe_str, ↓wEq_tup, ↓wNe_tup, ↓wEq_lst, ↓wNe_lst, ↓setIx_ref, ↓gT_tup, ↓gT_lst, ↓gT_ref, ↓gsC_cons, ↓gsN_nil, ↓wAppend_ref, ↓wPop_ref, ↓wExtend_ref, ↓rgO_int, ↓wAddM_lst, ↓wIsB_bl, ↓wReverse_ref, ↓wRepT_tup, ↓wNotB_bl, ↓wInD_lst, ↓wPopAt_ref, ↓wInsert_ref, ↓refR_ref, ↓seqOf_tup, ↓seqOf_lst, ↓seqOf_scr, ↓seqOf_ref, ↓rng1_int, ↓rng2_int, ↓wIsi_non, ↓wIsi_bl, ↓wIsi_int, ↓wIsi_str, ↓wIsi_tup, ↓wIsi_lst, ↓wIsi_ref, ↓wAll_lst, ↓wAny_lst, ↓wSum_lst, ↓wTuple_tup, ↓wTuple_lst, ↓wTuple_ref, ↓wList_tup, ↓wList_lst, ↓wList_ref, ↓wListM_tup, ↓wListM_lst, ↓wCut_tup, ↓wCut_lst, ↓wCut_ref, ↓wCut_str, ↓wRep_lst, ↓wRepM_lst, ↓zipOf_tup, ↓zipOf_lst, ↓enumOf_lst, ↓enumOf_scr, ↓zipG2_eq, ↓zipG3_eq, ↓enumG_eq, ↓wSorted_eq, ↓wSortedM_eq, ↓wClear_ref, ↓wGet_ref, ↓truO_bl, ↓intO_int, ↓isS_some, ↓isG_lst, ↓setF_ref, ↓isI_ins, ↓dPut_ref, ↓isD_dic, ↓insOf_gup, ↓dicOf_gup, keyOf, nk, rangeW_length, sset, skill, swipe, swipe.sforget, lcW, wIn, seqs, inW, eqW, flatW, kdIs, isNon, gup_same, gup_gup, at0, at1, at2, at3, at4, at5, at6, at7, ix0, ix1, ix2, ix3, ix4, ix5, W.bl.injEq, exists_eq_left', List.length_cons, List.length_nil, List.length_map, Nat.zero_add, Nat.reduceAdd, List.set, List.map_cons, List.map_nil, Option.isSome_some, List.all_cons, List.all_nil, List.any_cons, List.any_nil, List.cons_append, List.nil_append, Bool.and_true, Bool.and_self, Bool.or_false, Bool.true_and, Bool.false_and, Bool.and_false, true_and, decide_true, decide_false, Bool.not_true, Bool.not_false, Bool.not_not, Bool.false_eq_true, if_true, if_false, ite_self, beq_self_eq_true])

/-- what is drawn while a list of one's own stands -/
theorem bag_over {p t : Addr} {G G2 : Gp} {o : GO} (pt : p ≠ t) (u : BagUp p (gup G t o) G2) : ∃ G', BagUp p G G' ∧ G2 = gup G' t o := by
  obtain ⟨c, x, rfl, r⟩ := u
  refine ⟨gup G p (bagO c x), ⟨c, x, rfl, r⟩, ?_⟩
  funext q
  unfold gup
  by_cases h1 : q = p
  · subst h1; simp [pt]
  · simp [h1]
def sp__law_line : Spw := fun ws G Q E => ∃ (p : Addr) (a b n : Nat), ws = [.ref p, .int ((a : Nat) : Int), .int ((b : Nat) : Int)] ∧ (BagAt p G) ∧ (a < n) ∧ (b < n) ∧ (a ≠ b) ∧ ∀ l G', LnOk n l → (l.e = (a, b) ∨ l.e = (b, a)) → BagUp p G G' → Q (lineW l) G'
theorem len__law_line (ws G Q E) (h : sp__law_line ws G Q E) : ws.length = 3 := by obtain ⟨_, _, _, _, rfl, _⟩ := h; rfl
/-- slots: _law_bag_here 0, _law_one 1, _law_other 2, _law_way 3, _law_most 4, _law_ends 5 -/
def t__law_line : TSw := (wSeq (wAsg (wCall sp__law_take (wCons (wVar 0) (wCons (wC (.int 4)) wNil))) (gN 3))
    (wSeq (wAsg (wOp wAdd (wCall sp__law_take (wCons (wVar 0) (wCons (wOp wIx (wLst (wCons (wC (.int 100)) (wCons (wC (.int 21)) (wCons (wC (.int 1)) (wCons (wC (.int 7)) wNil))))) (wVar 3)) wNil))) (wOp wMul (wC (.int 99)) (wCB wInt (wCons (wOp wEq (wVar 3) (wC (.int 2))) wNil)))) (gN 4))
    (wSeq (wAsg (wOp wIx (wLst (wCons (wTup (wCons (wVar 1) (wCons (wVar 2) wNil))) (wCons (wTup (wCons (wVar 2) (wCons (wVar 1) wNil))) wNil))) (wCall sp__law_take (wCons (wVar 0) (wCons (wC (.int 2)) wNil)))) (gN 5))
    (wRet (wOp wAdd (wVar 5) (wTup (wCons (wOp wAdd (wC (.int 1)) (wCall sp__law_take (wCons (wVar 0) (wCons (wC (.int 9)) wNil)))) (wCons (wVar 4) wNil))))))))
theorem rd__law_line (ws : List W) (G : Gp) (Q : QW) (E) (h : sp__law_line ws G Q E) : t__law_line { nx := fun _ G' => Q .non G', rt := Cl Q } (startW ["_law_bag_here", "_law_one", "_law_other", "_law_way", "_law_most", "_law_ends"] ws) G := by
  obtain ⟨p, a, b, n, rfl, bag, ha, hb, ne, q⟩ := h
  show t__law_line _ [some (.ref p), some (.int ((a : Nat) : Int)), some (.int ((b : Nat) : Int)), none, none, none] G
  unfold t__law_line
  walk_at "w"
  refine take_up bag (by decide) fun way G1 hw u1 => ?_
  walk_at "w"
  have e4 : ∃ M : Nat, L2.atI [W.int 100, W.int 21, W.int 1, W.int 7] ((way : Nat) : Int) = some (.int (M : Int)) ∧ 1 ≤ M ∧ M ≤ 100 ∧ (way = 2 → M = 1) := by
    have : way = 0 ∨ way = 1 ∨ way = 2 ∨ way = 3 := by omega
    rcases this with rfl | rfl | rfl | rfl
    · exact ⟨100, rfl, by omega, by omega, by omega⟩
    · exact ⟨21, rfl, by omega, by omega, by omega⟩
    · exact ⟨1, rfl, by omega, by omega, by omega⟩
    · exact ⟨7, rfl, by omega, by omega, by omega⟩
  obtain ⟨M, eM, M1, M100, M2⟩ := e4
  rw [eM]
  walk_at "w"
  refine ⟨by decide, take_up u1.at (by omega) fun m G2 hm u2 => ?_⟩
  walk_at "w"
  have hq : ∃ k : Nat, ((m : Nat) : Int) + 99 * (if decide (((way : Nat) : Int) = 2) = true then 1 else 0) = ((k : Nat) : Int) ∧ k ≤ 99 := by
    by_cases c : way = 2
    · rw [if_pos (decide_eq_true (by omega))]
      exact ⟨m + 99, by omega, by have := M2 c; omega⟩
    · rw [if_neg (by rw [decide_eq_true_eq]; omega)]
      exact ⟨m, by omega, by omega⟩
  obtain ⟨k, ek, k99⟩ := hq
  rw [ek]
  refine ⟨cm64 (by omega) (by split <;> omega), by decide, by decide, by decide, take_up u2.at (by decide) fun t G3 ht u3 => ?_⟩
  walk_at "w"
  refine isS_at (by simp; omega) fun w hw => ?_
  obtain ⟨c, d, rfl, e⟩ : ∃ c d : Nat, w = .tup [.int (c : Int), .int (d : Int)] ∧ ((c = a ∧ d = b) ∨ (c = b ∧ d = a)) := by
    simp only [List.mem_cons, List.not_mem_nil, or_false] at hw
    rcases hw with rfl | rfl
    · exact ⟨a, b, rfl, .inl ⟨rfl, rfl⟩⟩
    · exact ⟨b, a, rfl, .inr ⟨rfl, rfl⟩⟩
  refine take_up u3.at (by decide) fun s G4 hs u4 => ?_
  walk_at "w"
  rw [show (1 : Int) + ((s : Nat) : Int) = ((1 + s : Nat) : Int) by omega]
  refine ⟨by decide, by decide, .inl (q ⟨c, d, 1 + s, k⟩ G4 ?_ ?_ (((u1.trans u2).trans u3).trans u4))⟩
  · rcases e with ⟨rfl, rfl⟩ | ⟨rfl, rfl⟩
    · exact ⟨ha, hb, ne, ⟨by show 1 ≤ 1 + s; omega, by show 1 + s ≤ 9; omega⟩, k99⟩
    · exact ⟨hb, ha, Ne.symm ne, ⟨by show 1 ≤ 1 + s; omega, by show 1 + s ≤ 9; omega⟩, k99⟩
  · rcases e with ⟨rfl, rfl⟩ | ⟨rfl, rfl⟩
    · exact .inl rfl
    · exact .inr rfl
def sp__law_net : Spw := fun ws G Q E => ∃ (p : Addr), ws = [.ref p] ∧ (BagAt p G) ∧ ∀ n ls G', Net n ls → BagUp p G G' → Q (netW n ls) G'
theorem len__law_net (ws G Q E) (h : sp__law_net ws G Q E) : ws.length = 1 := by obtain ⟨_, rfl, _⟩ := h; rfl
/-- slots: _law_bag_here 0, _law_many 1, _law_more 2, _law_lines 3, _law_place 4, _law_at 5, _law_k 6, _law_one 7 -/
def t__law_net_b1 : TSw := (wSeq (wAsg (wCall sp__law_take (wCons (wVar 0) (wCons (wOp wAdd (wCB wLen (wCons (wVar 3) wNil)) (wC (.int 1))) wNil))) (gN 5))
    (wDrop (wBM wM_insert (wVar 3) (wCons (wVar 5) (wCons (wCall sp__law_line (wCons (wVar 0) (wCons (wCall sp__law_take (wCons (wVar 0) (wCons (wVar 4) wNil))) (wCons (wVar 4) wNil)))) wNil)))))
def t__law_net_b2 : TSw := (wSeq (wAsg (wCall sp__law_take (wCons (wVar 0) (wCons (wOp wAdd (wCB wLen (wCons (wVar 3) wNil)) (wC (.int 1))) wNil))) (gN 5))
    (wSeq (wAsg (wCall sp__law_take (wCons (wVar 0) (wCons (wVar 1) wNil))) (gN 7))
    (wDrop (wBM wM_insert (wVar 3) (wCons (wVar 5) (wCons (wCall sp__law_line (wCons (wVar 0) (wCons (wVar 7) (wCons (wOp wMod (wOp wAdd (wOp wAdd (wVar 7) (wC (.int 1))) (wCall sp__law_take (wCons (wVar 0) (wCons (wOp wSub (wVar 1) (wC (.int 1))) wNil)))) (wVar 1)) wNil)))) wNil))))))
def t__law_net_r1 : TSw := (wRet (wTup (wCons (wVar 1) (wCons (wCB wTuple (wCons (wVar 3) wNil)) wNil))))
def t__law_net_r2 : TSw := (wSeq (wFor [false, false, true, false, true, true, true, true] (iR1 (wCons (wVar 2) wNil)) (gN 6) t__law_net_b2)
    t__law_net_r1)
def t__law_net_r3 : TSw := (wSeq (wAsg (wLstM wNil) (gN 3))
    (wSeq (wFor [false, false, false, false, true, true, true, true] (iR2 (wCons (wC (.int 1)) (wCons (wVar 1) wNil))) (gN 4) t__law_net_b1)
    t__law_net_r2))
def t__law_net : TSw := (wSeq (wAsg (wOp wAdd (wC (.int 1)) (wCall sp__law_take (wCons (wVar 0) (wCons (wC (.int 4)) wNil)))) (gN 1))
    (wSeq (wAsg (wC (.int 0)) (gN 2))
    (wSeq (wIfS (wTest (wOp wGt (wVar 1) (wC (.int 1)))) (wAsg (wCall sp__law_take (wCons (wVar 0) (wCons (wOp wSub (wC (.int 8)) (wVar 1)) wNil))) (gN 2)) wNext)
    t__law_net_r3)))
theorem rd__law_net (ws : List W) (G : Gp) (Q : QW) (E) (h : sp__law_net ws G Q E) : t__law_net { nx := fun _ G' => Q .non G', rt := Cl Q } (startW ["_law_bag_here", "_law_many", "_law_more", "_law_lines", "_law_place", "_law_at", "_law_k", "_law_one"] ws) G := by
  obtain ⟨p, rfl, bag, q⟩ := h
  show t__law_net _ [some (.ref p), none, none, none, none, none, none, none] G
  unfold t__law_net
  walk_at "w"
  refine take_up bag (by decide) fun n0 G1 hn u1 => ?_
  walk_at "w"
  obtain ⟨n, en, n1, n4⟩ : ∃ n : Nat, (1 : Int) + ((n0 : Nat) : Int) = ((n : Nat) : Int) ∧ 1 ≤ n ∧ n ≤ 4 := ⟨1 + n0, by omega, by omega, by omega⟩
  rw [en]
  have rest : ∀ (more : Nat) (G2 : Gp), BagUp p G G2 → more ≤ 7 - n → (0 < more → 1 < n) →
      t__law_net_r3 { nx := fun x G' => Q W.non G', rt := Cl Q } [some (W.ref p), some (W.int ((n : Nat) : Int)), some (W.int ((more : Nat) : Int)), none, none, none, none, none] G2 := by
    intro more G2 u2 m7 mn
    have big : 2000 < sizeLine := by decide
    unfold t__law_net_r3
    walk_at "w"
    refine ⟨by decide, fun t ht => ?_⟩
    have pt : p ≠ t := fun z => by
      obtain ⟨c, x, g, _⟩ := u2.at
      rw [z, ht] at g; cases g
    have ht0 : ∀ G', BagUp p G G' → G' t = none := fun G' u => by
      rw [u.ne (Ne.symm pt), ← u2.ne (Ne.symm pt)]; exact ht
    refine ⟨by omega, ?_⟩
    refine forW_range (fun i σ G3 => ∃ ls G', BagUp p G G' ∧ G3 = gup G' t (.lst (linesW ls)) ∧ ls.length = i ∧ (∀ l ∈ ls, LnOk n l) ∧ Conn (i + 1) (edges ls) ∧ σ = [some (.ref p), some (.int ((n : Nat) : Int)), some (.int ((more : Nat) : Int)), some (.ref t), none, none, none, none]) ⟨[], G2, u2, rfl, rfl, by simp, fun S s0 _ v hv => by rw [show v = 0 by omega]; exact s0, rfl⟩ ?_ ?_
    · rintro i hi σ G3 N ⟨ls, G', u', rfl, li, ok, cn, rfl⟩ hN
      have hin : i + 1 < n := by omega
      unfold t__law_net_b1
      walk_at "w"
      rw [li]
      refine take_up (u'.at.up pt) (by omega) fun k G4 hk u4 => ?_
      obtain ⟨G5, u5, rfl⟩ := bag_over pt u4
      walk_at "w"
      refine take_up (u5.at.up pt) (by omega) fun v G6 hv u6 => ?_
      obtain ⟨G7, u7, rfl⟩ := bag_over pt u6
      walk_at "w"
      rw [show (1 : Int) + (i : Int) = ((i + 1 : Nat) : Int) by omega]
      refine ⟨p, v, i + 1, n, rfl, u7.at.up pt, by omega, hin, by omega, fun l G8 okl el u8 => ?_⟩
      obtain ⟨G9, u9, rfl⟩ := bag_over pt u8
      walk_at "w"
      rw [show ((k : Nat) : Int).toNat = k by omega, ins_map (fun l => lineW l)]
      have lI : (insL k l ls).length = i + 1 := by rw [ins_len, li]
      refine ⟨by omega, by omega, by omega, hN _ _ ⟨insL k l ls, G9, ((u'.trans u5).trans u7).trans u9, rfl, lI, fun y hy => ?_, ?_, rfl⟩⟩
      · rcases ins_mem hy with rfl | hy
        · exact okl
        · exact ok y hy
      · refine conn_more (conn_next cn (show v < i + 1 by omega) (e := l.e) (by rcases el with e | e <;> simp [e])) fun e he => ?_
        rcases List.mem_append.mp he with he | he
        · obtain ⟨y, hy, rfl⟩ := List.mem_map.mp he
          exact List.mem_map.mpr ⟨y, ins_mem' (.inr hy), rfl⟩
        · rw [List.mem_singleton.mp he]
          exact List.mem_map.mpr ⟨l, ins_mem' (.inl rfl), rfl⟩
    · rintro σ G3 ⟨ls, G', u', rfl, li, ok, cn, rfl⟩
      unfold t__law_net_r2
      walk_at "w"
      refine ⟨by omega, by omega, ?_⟩
      refine forW_range (fun i σ G3 => ∃ ls' G', BagUp p G G' ∧ G3 = gup G' t (.lst (linesW ls')) ∧ ls'.length = ls.length + i ∧ (∀ l ∈ ls', LnOk n l) ∧ Conn n (edges ls') ∧ σ = [some (.ref p), some (.int ((n : Nat) : Int)), none, some (.ref t), none, none, none, none]) ⟨ls, G', u', rfl, rfl, ok, by rw [show (((n : Nat) : Int) - 1).toNat + 1 = n by omega] at cn; exact cn, rfl⟩ ?_ ?_
      · rintro i hi σ G3 N ⟨ls', G', u', rfl, li', ok', cn', rfl⟩ hN
        have n2 := mn (by omega)
        unfold t__law_net_b2
        walk_at "w"
        refine take_up (m := ((ls'.length : Nat) : Int) + 1) (u'.at.up pt) (by omega) fun k G4 hk u4 => ?_
        obtain ⟨G5, u5, rfl⟩ := bag_over pt u4
        walk_at "w"
        refine take_up (u5.at.up pt) (by omega) fun a G6 ha u6 => ?_
        obtain ⟨G7, u7, rfl⟩ := bag_over pt u6
        walk_at "w"
        refine take_up (u7.at.up pt) (by omega) fun b G8 hb u8 => ?_
        obtain ⟨G9, u9, rfl⟩ := bag_over pt u8
        walk_at "w"
        rw [fmodP (by omega)]
        have m0 := Int.emod_nonneg (((a : Nat) : Int) + 1 + ((b : Nat) : Int)) (show (n : Int) ≠ 0 by omega)
        have m1 := Int.emod_lt_of_pos (((a : Nat) : Int) + 1 + ((b : Nat) : Int)) (show (0 : Int) < n by omega)
        have m2 : (((a : Nat) : Int) + 1 + ((b : Nat) : Int)) % (n : Int) ≠ a := by
          by_cases h : ((a : Nat) : Int) + 1 + ((b : Nat) : Int) < n
          · rw [Int.emod_eq_of_lt (by omega) h]; omega
          · have : (((a : Nat) : Int) + 1 + ((b : Nat) : Int)) % (n : Int) = ((a : Nat) : Int) + 1 + ((b : Nat) : Int) - n := by
              rw [← Int.sub_emod_right, Int.emod_eq_of_lt (by omega) (by omega)]
            omega
        generalize (((a : Nat) : Int) + 1 + ((b : Nat) : Int)) % (n : Int) = o at m0 m1 m2 ⊢
        obtain ⟨o, rfl⟩ : ∃ k : Nat, o = (k : Int) := ⟨o.toNat, by omega⟩
        refine ⟨by omega, p, a, o, n, rfl, u9.at.up pt, by omega, by omega, by omega, fun l G10 okl el u10 => ?_⟩
        obtain ⟨G11, u11, rfl⟩ := bag_over pt u10
        walk_at "w"
        rw [show ((k : Nat) : Int).toNat = k by omega, ins_map (fun l => lineW l)]
        refine ⟨by omega, by omega, by omega, hN _ _ ⟨insL k l ls', G11, (((u'.trans u5).trans u7).trans u9).trans u11, rfl, by rw [ins_len, li']; omega, fun y hy => ?_, conn_more cn' fun e he => ?_, rfl⟩⟩
        · rcases ins_mem hy with rfl | hy
          · exact okl
          · exact ok' y hy
        · obtain ⟨y, hy, rfl⟩ := List.mem_map.mp he
          exact List.mem_map.mpr ⟨y, ins_mem' (.inr hy), rfl⟩
      · rintro σ G3 ⟨ls', G', u', rfl, li', ok', cn', rfl⟩
        unfold t__law_net_r1
        walk_at "w"
        refine ⟨by decide, ?_⟩
        exact Cl.drop (ht0 _ u') (q n ls' _ ⟨n1, n4, by omega, ok', cn'⟩ u')
  by_cases c : 1 < n
  · rw [if_pos (decide_eq_true (by omega))]
    refine take_up u1.at (by omega) fun more G2 hm u2 => ?_
    exact rest more G2 (u1.trans u2) (by omega) (fun _ => c)
  · rw [if_neg (by rw [decide_eq_true_eq]; omega)]
    exact rest 0 G1 u1 (by omega) (by omega)
theorem net_up {p : Addr} {G : Gp} {Q : QW} {E} (h : BagAt p G) (q : ∀ n ls G', Net n ls → BagUp p G G' → Q (netW n ls) G') : sp__law_net [.ref p] G Q E := ⟨p, rfl, h, q⟩
end WL

namespace WL
open PySem PySem.Spec PyProof.Rows L2

/-! ### streams put together (plain) -/
def addL (k : Rat) (x y : List Rat) : List Rat := (x.zip y).map fun v => v.1 + k * v.2
def mulL (k : Rat) (x : List Rat) : List Rat := x.map fun q => k * q
theorem addL_len {k : Rat} {x y : List Rat} (h : x.length = y.length) : (addL k x y).length = x.length := by simp [addL, h]
theorem addL_get {k : Rat} {x y : List Rat} (h : x.length = y.length) (v : Nat) : (addL k x y).getD v 0 = x.getD v 0 + k * y.getD v 0 := add_getD h v
theorem mulL_get {k : Rat} {x : List Rat} (v : Nat) : (mulL k x).getD v 0 = k * x.getD v 0 := by
  unfold mulL
  by_cases c : v < x.length
  · simp [List.getD_eq_getElem?_getD, c]
  · simp [List.getD_eq_getElem?_getD, c]
theorem isH_add {n : Nat} {ls : List Ln} {x y h g : List Rat} (k : Rat) (lx : x.length = n) (ly : y.length = n) (a : IsH n ls x h) (b : IsH n ls y g) : IsH n ls (addL k x y) (addL k h g) := by
  have e := a.len.trans b.len.symm
  refine ⟨by rw [addL_len e, a.len], by rw [addL_get e, a.zero, b.zero]; grind, fun i hi => ?_⟩
  rw [show (fun v => (addL k h g).getD v 0) = fun v => h.getD v 0 + k * g.getD v 0 from funext fun v => addL_get e v, out_lin, a.out i hi, b.out i hi, addL_get (by omega)]
theorem out_mul (z : Nat → Rat) (k : Rat) (ls : List Ln) (i : Nat) : outAt ls (fun v => k * z v) i = k * outAt ls z i := by
  have := out_lin (fun _ => 0) z k ls i
  have e : outAt ls (fun _ => 0) i = 0 := by
    clear this
    induction ls with
    | nil => rfl
    | cons l ls ih =>
      show flowAt _ l i + outAt ls _ i = 0
      rw [ih]
      unfold flowAt; split <;> split <;> grind
  rw [e] at this
  rw [show (fun v => k * z v) = fun v => 0 + k * z v from funext fun v => by grind, this]
  grind
theorem isH_mul {n : Nat} {ls : List Ln} {x h : List Rat} (k : Rat) (a : IsH n ls x h) : IsH n ls (mulL k x) (mulL k h) := by
  refine ⟨by simp [mulL, a.len], by rw [mulL_get, a.zero]; grind, fun i hi => ?_⟩
  rw [show (fun v => (mulL k h).getD v 0) = fun v => k * h.getD v 0 from funext fun v => mulL_get v, out_mul, a.out i hi, mulL_get]
theorem strm_add {ls : List Ln} {h g : List Rat} (k : Rat) (e : h.length = g.length) : strm ls (addL k h g) = addL k (strm ls h) (strm ls g) := by
  refine List.ext_getElem (by simp [strm, addL]) fun j j1 j2 => ?_
  have hj : j < ls.length := by simpa [strm] using j1
  have := strm_lin (p := k) e hj
  rw [← getD_in j1, ← getD_in j2, addL_get (by simp [strm])]
  exact this
theorem strm_mul {ls : List Ln} {h : List Rat} (k : Rat) : strm ls (mulL k h) = mulL k (strm ls h) := by
  unfold strm
  rw [show mulL k (ls.map fun l => (l.s : Rat) * (h.getD l.a 0 - h.getD l.b 0)) = ls.map fun l => k * ((l.s : Rat) * (h.getD l.a 0 - h.getD l.b 0)) by unfold mulL; rw [List.map_map]; rfl]
  refine List.map_congr_left fun l _ => ?_
  rw [mulL_get, mulL_get]
  grind
theorem lsum_add' {k : Rat} {x y : List Rat} (h : x.length = y.length) (bx : lsum (fun q => q) x = 0) (bY : lsum (fun q => q) y = 0) : lsum (fun q => q) (addL k x y) = 0 := by
  rw [lsum_getD _ x.length (addL_len h), sm_congr fun i _ => addL_get h i]
  rw [lsum_getD x _ rfl] at bx
  rw [lsum_getD y x.length h.symm] at bY
  have := sm_sub x.length (fun i => x.getD i 0) (fun i => y.getD i 0) (-k)
  rw [show (fun i => x.getD i 0 + k * y.getD i 0) = fun i => x.getD i 0 - -k * y.getD i 0 from funext fun i => by grind, this, bx, bY]
  grind
theorem lsum_mul' {k : Rat} {x : List Rat} (bx : lsum (fun q => q) x = 0) : lsum (fun q => q) (mulL k x) = 0 := by
  have := lsum_mul k (fun q => q) x
  have e : lsum (fun q => q) (mulL k x) = lsum (fun q => k * q) x := by
    unfold mulL
    clear this bx
    induction x with
    | nil => rfl
    | cons q x ih => show k * q + lsum _ _ = k * q + lsum _ x; rw [ih]
  rw [e, this, bx]; grind
/-! ### one for another -/
theorem sm_flow2 {n : Nat} {y z : Nat → Rat} {l : Ln} (ha : l.a < n) (hb : l.b < n) : sm n (fun i => y i * flowAt z l i) = (l.s : Rat) * ((y l.a - y l.b) * (z l.a - z l.b)) := by
  have e : ∀ i, y i * flowAt z l i = (if i = l.a then y l.a * ((l.s : Rat) * (z l.a - z l.b)) else 0) + (if i = l.b then y l.b * ((l.s : Rat) * (z l.b - z l.a)) else 0) := fun i => by
    unfold flowAt
    by_cases c : i = l.a <;> by_cases d : i = l.b <;> simp only [c, d, if_true, if_false] <;> grind
  rw [sm_congr fun i _ => e i, sm_add]
  rw [sm_one (f := fun i => if i = l.a then y l.a * ((l.s : Rat) * (z l.a - z l.b)) else 0) ha fun c _ ne => if_neg ne, sm_one (f := fun i => if i = l.b then y l.b * ((l.s : Rat) * (z l.b - z l.a)) else 0) hb fun c _ ne => if_neg ne]
  rw [if_pos rfl, if_pos rfl]
  grind
theorem sm_out2 {n : Nat} {ls : List Ln} (ok : ∀ l ∈ ls, LnOk n l) (y z : Nat → Rat) : sm n (fun i => y i * outAt ls z i) = lsum (fun l : Ln => (l.s : Rat) * ((y l.a - y l.b) * (z l.a - z l.b))) ls := by
  unfold outAt
  rw [sm_congr (g := fun i => lsum (fun l => y i * flowAt z l i) ls) fun i _ => (lsum_mul _ _ _).symm, sm_swap2 (fun i l => y i * flowAt z l i)]
  exact lsum_congr fun l hl => sm_flow2 (ok l hl).a (ok l hl).b
theorem out_sym {n : Nat} {ls : List Ln} (ok : ∀ l ∈ ls, LnOk n l) (y z : Nat → Rat) : sm n (fun i => y i * outAt ls z i) = sm n (fun i => z i * outAt ls y i) := by
  rw [sm_out2 ok, sm_out2 ok]
  exact lsum_congr fun l _ => by grind
theorem sm_unit {n a b : Nat} (ha : a < n) (hb : b < n) (y : Nat → Rat) : sm n (fun i => y i * (unitN n a b).getD i 0) = y a - y b := by
  have e : sm n (fun i => y i * (unitN n a b).getD i 0) = sm n (fun i => ((ind i a : Int) : Rat) * y i - 1 * (((ind i b : Int) : Rat) * y i)) := sm_congr fun i hi => by
    rw [unitN_get hi]; grind
  rw [e, sm_sub, ind_sm ha, ind_sm hb]
  grind
/-- a height's difference for another one's places -/
theorem recip {n a b c d : Nat} {ls : List Ln} {h g : List Rat} (net : Net n ls) (ha : a < n) (hb : b < n) (hc : c < n) (hd : d < n) (i1 : IsH n ls (unitN n a b) h) (i2 : IsH n ls (unitN n c d) g) :
    h.getD c 0 - h.getD d 0 = g.getD a 0 - g.getD b 0 := by
  have e := out_sym net.ok (fun v => h.getD v 0) (fun v => g.getD v 0)
  rw [sm_congr (g := fun i => h.getD i 0 * (unitN n c d).getD i 0) fun i hi => by rw [i2.out i hi], sm_congr (f := fun i => g.getD i 0 * outAt ls (fun v => h.getD v 0) i) (g := fun i => g.getD i 0 * (unitN n a b).getD i 0) fun i hi => by rw [i1.out i hi]] at e
  rw [sm_unit hc hd (fun v => h.getD v 0), sm_unit ha hb (fun v => g.getD v 0)] at e
  exact e
theorem unit_turn {n a b : Nat} : unitN n b a = mulL (-1) (unitN n a b) := by
  unfold mulL unitN
  rw [List.map_map]
  refine List.map_congr_left fun i _ => ?_
  show ((ind i b - ind i a : Int) : Rat) = -1 * ((ind i a - ind i b : Int) : Rat)
  rw [Rat.intCast_sub, Rat.intCast_sub]; grind
theorem unit_via {n a b c : Nat} : unitN n a b = addL 1 (unitN n a c) (unitN n c b) := by
  refine List.ext_getElem (by simp [addL, unitN]) fun i h1 h2 => ?_
  have hi : i < n := by simpa [unitN] using h1
  rw [← getD_in h1, ← getD_in h2, addL_get (by simp [unitN]), unitN_get hi, unitN_get hi, unitN_get hi]
  grind
end WL


namespace WL
open PySem PySem.Spec PyProof.Rows L2

/-! ### size-numbers of small tables (plain) -/
def sk (k i : Nat) : Nat := if i < k then i else i + 1
def si : Nat → (Nat → Int) → Int
  | 0, _ => 0
  | n + 1, f => si n f + f n
def sgI (k : Nat) : Int := if k % 2 = 0 then 1 else -1
def detZ : Nat → (Nat → Nat → Int) → Int
  | 0, _ => 1
  | n + 1, M => si (n + 1) fun k => sgI k * M k 0 * detZ n fun i j => M (sk k i) (j + 1)
theorem det1 (M : Nat → Nat → Int) : detZ 1 M = M 0 0 := by simp [detZ, si, sgI]
theorem det2 (M : Nat → Nat → Int) : detZ 2 M = M 0 0 * M 1 1 - M 1 0 * M 0 1 := by
  simp [detZ, si, sgI, sk]
  grind
theorem det3 (M : Nat → Nat → Int) : detZ 3 M = M 0 0 * (M 1 1 * M 2 2 - M 2 1 * M 1 2) - M 1 0 * (M 0 1 * M 2 2 - M 2 1 * M 0 2) + M 2 0 * (M 0 1 * M 1 2 - M 1 1 * M 0 2) := by
  simp [detZ, si, sgI, sk]
  grind
def repC (A : Nat → Nat → Int) (k : Nat) (b : Nat → Int) : Nat → Nat → Int := fun i j => if j = k then b i else A i j
theorem sm1 (f : Nat → Rat) : sm 1 f = f 0 := by show (0 : Rat) + f 0 = f 0; grind
theorem sm2 (f : Nat → Rat) : sm 2 f = f 0 + f 1 := by show (0 : Rat) + f 0 + f 1 = _; grind
theorem sm3 (f : Nat → Rat) : sm 3 f = f 0 + f 1 + f 2 := by show (0 : Rat) + f 0 + f 1 + f 2 = _; grind
theorem cramer {m : Nat} (hm : m ≤ 3) {A : Nat → Nat → Int} {X : Nat → Rat} {b : Nat → Int} (h : ∀ i, i < m → sm m (fun c => ((A i c : Int) : Rat) * X c) = ((b i : Int) : Rat)) {k : Nat} (hk : k < m) :
    ((detZ m (repC A k b) : Int) : Rat) = X k * ((detZ m A : Int) : Rat) := by
  rcases (by omega : m = 1 ∨ m = 2 ∨ m = 3) with rfl | rfl | rfl
  · have h0 := h 0 (by decide)
    rw [sm1] at h0
    rw [det1, det1]
    obtain rfl : k = 0 := by omega
    simp only [repC, if_true]
    rw [← h0]; grind
  · have h0 := h 0 (by decide)
    have h1 := h 1 (by decide)
    rw [sm2] at h0 h1
    rw [det2, det2]
    simp only [Rat.intCast_sub, Rat.intCast_mul]
    rcases (by omega : k = 0 ∨ k = 1) with rfl | rfl
    · simp only [repC, if_true, show ¬ (1 : Nat) = 0 by decide, if_false]
      rw [← h0, ← h1]; grind
    · simp only [repC, if_true, show ¬ (0 : Nat) = 1 by decide, if_false]
      rw [← h0, ← h1]; grind
  · have h0 := h 0 (by decide)
    have h1 := h 1 (by decide)
    have h2 := h 2 (by decide)
    rw [sm3] at h0 h1 h2
    rw [det3, det3]
    simp only [Rat.intCast_sub, Rat.intCast_mul, Rat.intCast_add]
    rcases (by omega : k = 0 ∨ k = 1 ∨ k = 2) with rfl | rfl | rfl
    · simp only [repC, if_true, show ¬ (1 : Nat) = 0 by decide, show ¬ (2 : Nat) = 0 by decide, if_false]
      rw [← h0, ← h1, ← h2]; grind
    · simp only [repC, if_true, show ¬ (0 : Nat) = 1 by decide, show ¬ (2 : Nat) = 1 by decide, if_false]
      rw [← h0, ← h1, ← h2]; grind
    · simp only [repC, if_true, show ¬ (0 : Nat) = 2 by decide, show ¬ (1 : Nat) = 2 by decide, if_false]
      rw [← h0, ← h1, ← h2]; grind
/-- a table with a contrary has a size-number other than 0 -/
theorem det_ne {m : Nat} (hm : m ≤ 3) {A : Nat → Nat → Int} {X : Nat → Nat → Rat} (h : ∀ j, j < m → ∀ i, i < m → sm m (fun c => ((A i c : Int) : Rat) * X j c) = if i = j then 1 else 0) : detZ m A ≠ 0 := by
  intro z
  have zr : ((detZ m A : Int) : Rat) = 0 := by rw [z]; rfl
  rcases (by omega : m = 0 ∨ m = 1 ∨ m = 2 ∨ m = 3) with rfl | rfl | rfl | rfl
  · simp [detZ] at z
  · have h0 := h 0 (by decide) 0 (by decide)
    rw [sm1, if_pos rfl] at h0
    rw [det1] at zr
    grind
  · have a00 := h 0 (by decide) 0 (by decide)
    have a01 := h 0 (by decide) 1 (by decide)
    have a10 := h 1 (by decide) 0 (by decide)
    have a11 := h 1 (by decide) 1 (by decide)
    rw [sm2] at a00 a01 a10 a11
    simp only [if_true, show ¬ (1 : Nat) = 0 by decide, show ¬ (0 : Nat) = 1 by decide, if_false] at a00 a01 a10 a11
    rw [det2] at zr
    simp only [Rat.intCast_sub, Rat.intCast_mul] at zr
    generalize ((A 0 0 : Int) : Rat) = p at *
    generalize ((A 0 1 : Int) : Rat) = q at *
    generalize ((A 1 0 : Int) : Rat) = r at *
    generalize ((A 1 1 : Int) : Rat) = s at *
    have e : (p * s - r * q) * (X 0 0 * X 1 1 - X 0 1 * X 1 0) = (p * X 0 0 + q * X 0 1) * (r * X 1 0 + s * X 1 1) - (p * X 1 0 + q * X 1 1) * (r * X 0 0 + s * X 0 1) := by grind
    rw [a00, a01, a10, a11, zr] at e
    grind
  · have a00 := h 0 (by decide) 0 (by decide)
    have a01 := h 0 (by decide) 1 (by decide)
    have a02 := h 0 (by decide) 2 (by decide)
    have a10 := h 1 (by decide) 0 (by decide)
    have a11 := h 1 (by decide) 1 (by decide)
    have a12 := h 1 (by decide) 2 (by decide)
    have a20 := h 2 (by decide) 0 (by decide)
    have a21 := h 2 (by decide) 1 (by decide)
    have a22 := h 2 (by decide) 2 (by decide)
    rw [sm3] at a00 a01 a02 a10 a11 a12 a20 a21 a22
    simp only [if_true, show ¬ (1 : Nat) = 0 by decide, show ¬ (0 : Nat) = 1 by decide, show ¬ (2 : Nat) = 0 by decide, show ¬ (2 : Nat) = 1 by decide, show ¬ (1 : Nat) = 2 by decide, show ¬ (0 : Nat) = 2 by decide, if_false] at a00 a01 a02 a10 a11 a12 a20 a21 a22
    rw [det3] at zr
    simp only [Rat.intCast_sub, Rat.intCast_mul, Rat.intCast_add] at zr
    generalize ((A 0 0 : Int) : Rat) = p0 at *
    generalize ((A 0 1 : Int) : Rat) = p1 at *
    generalize ((A 0 2 : Int) : Rat) = p2 at *
    generalize ((A 1 0 : Int) : Rat) = q0 at *
    generalize ((A 1 1 : Int) : Rat) = q1 at *
    generalize ((A 1 2 : Int) : Rat) = q2 at *
    generalize ((A 2 0 : Int) : Rat) = r0 at *
    generalize ((A 2 1 : Int) : Rat) = r1 at *
    generalize ((A 2 2 : Int) : Rat) = r2 at *
    generalize X 0 0 = x0 at *
    generalize X 0 1 = x1 at *
    generalize X 0 2 = x2 at *
    generalize X 1 0 = y0 at *
    generalize X 1 1 = y1 at *
    generalize X 1 2 = y2 at *
    generalize X 2 0 = z0 at *
    generalize X 2 1 = z1 at *
    generalize X 2 2 = z2 at *
    have key : ∀ b00 b01 b02 b10 b11 b12 b20 b21 b22 : Rat, b00 = p0 * x0 + p1 * x1 + p2 * x2 → b10 = q0 * x0 + q1 * x1 + q2 * x2 → b20 = r0 * x0 + r1 * x1 + r2 * x2 → b01 = p0 * y0 + p1 * y1 + p2 * y2 → b11 = q0 * y0 + q1 * y1 + q2 * y2 → b21 = r0 * y0 + r1 * y1 + r2 * y2 → b02 = p0 * z0 + p1 * z1 + p2 * z2 → b12 = q0 * z0 + q1 * z1 + q2 * z2 → b22 = r0 * z0 + r1 * z1 + r2 * z2 →
        (p0 * (q1 * r2 - r1 * q2) - q0 * (p1 * r2 - r1 * p2) + r0 * (p1 * q2 - q1 * p2)) * (x0 * (y1 * z2 - y2 * z1) - x1 * (y0 * z2 - y2 * z0) + x2 * (y0 * z1 - y1 * z0)) = b00 * (b11 * b22 - b21 * b12) - b10 * (b01 * b22 - b21 * b02) + b20 * (b01 * b12 - b11 * b02) := by
      intro b00 b01 b02 b10 b11 b12 b20 b21 b22 h1 h2 h3 h4 h5 h6 h7 h8 h9
      rw [h1, h2, h3, h4, h5, h6, h7, h8, h9]
      clear a00 a01 a02 a10 a11 a12 a20 a21 a22 h zr z h1 h2 h3 h4 h5 h6 h7 h8 h9
      grind
    have e := key 1 0 0 0 1 0 0 0 1 a00.symm a01.symm a02.symm a10.symm a11.symm a12.symm a20.symm a21.symm a22.symm
    rw [zr] at e
    grind
/-- a connected net has heights for every puts that balance -/
theorem keeps_ex {n b : Nat} {T : List (List Rat)} {bs : List Rat} (h : Table n b T bs) (ns : Nonsing n (ent T)) : ∀ p, p ≤ n → ∃ R, Keeps n b (augL T bs) R p
  | 0, _ => ⟨_, aug_keeps h⟩
  | p + 1, hp => by
    obtain ⟨R, k⟩ := keeps_ex h ns p (by omega)
    by_cases z : ∀ i, p ≤ i → i < R.length → ent R i p = 0
    · exact (keeps_stop h k (by omega) z ns).elim
    · obtain ⟨i, z⟩ := Classical.not_forall.mp z
      obtain ⟨h1, z⟩ := Classical.not_imp.mp z
      obtain ⟨h2, z⟩ := Classical.not_imp.mp z
      exact ⟨_, (k.step (by omega) (by rw [← k.len]; exact h2) h1 z).2⟩
theorem lapT_table {m b : Nat} {ls : List Ln} {x : List Rat} (net : Net (m + 1) ls) (lx : x.length = m + 1) (hb : ∀ q ∈ x, sz b q) (small : b ≤ 300000) : Table m (b + 6) (lapT (m + 1) ls) (x.drop 1) := by
  have n4 := net.n4
  refine ⟨by simp [lapT], by simp [lx], fun r hr => ?_, by omega, fun r hr => ?_, fun q hq => sz_mono (hb q (List.mem_of_mem_drop hq)) (by omega), ?_⟩
  · obtain ⟨i, _, rfl⟩ := List.mem_map.mp hr
    simp
  · obtain ⟨i, _, rfl⟩ := List.mem_map.mp hr
    intro q hq
    obtain ⟨c, _, rfl⟩ := List.mem_map.mp hq
    have := lapI_le (i := i + 1) (j := c + 1) net.ok
    have := net.few
    exact sz_mono (sz_int (b := 6) (by omega) (by decide)) (by omega)
  · refine Nat.le_trans (bd_mono (show m ≤ 3 by omega)) ?_
    show 4 * (4 * (4 * (b + 6) + 1) + 1) + 1 ≤ _
    omega
theorem isH_ex {n b : Nat} {ls : List Ln} {x : List Rat} (net : Net n ls) (lx : x.length = n) (hb : ∀ q ∈ x, sz b q) (small : b ≤ 300000) (bal : lsum (fun q => q) x = 0) : ∃ h, IsH n ls x h := by
  have n1 := net.n1
  obtain ⟨m, rfl⟩ : ∃ m, n = m + 1 := ⟨n - 1, by omega⟩
  have tb := lapT_table net lx hb small
  obtain ⟨R, k⟩ := keeps_ex tb (lap_ns net) m (Nat.le_refl _)
  exact ⟨_, isH_of net lx bal (by rw [List.length_map]; exact k.len) fun i hi => keeps_sol tb k hi⟩
theorem lap_det_ne {m : Nat} {ls : List Ln} (net : Net (m + 1) ls) : detZ m (fun i j => lapI ls (i + 1) (j + 1)) ≠ 0 := by
  have n4 := net.n4
  have ex : ∀ j : Nat, ∃ h, j < m → IsH (m + 1) ls (unitN (m + 1) (j + 1) 0) h := fun j => by
    by_cases hj : j < m
    · obtain ⟨h, hh⟩ := isH_ex (b := 1) (x := unitN (m + 1) (j + 1) 0) net unitN_len unitN_sz (by decide) (unitN_bal (by omega) (by omega))
      exact ⟨h, fun _ => hh⟩
    · exact ⟨[], fun z => absurd z hj⟩
  refine det_ne (by omega) (X := fun j c => (Classical.choose (ex j)).getD (c + 1) 0) fun j hj i hi => ?_
  have hh := Classical.choose_spec (ex j) hj
  generalize Classical.choose (ex j) = h at hh
  have o := hh.out (i + 1) (by omega)
  rw [← lap_out net.ok, sm_shift, hh.zero, unitN_get (by omega), ind_cast, ind_cast, if_neg (show ¬ i + 1 = 0 by omega)] at o
  by_cases c : i = j
  · rw [if_pos c]; rw [if_pos (by omega)] at o; grind
  · rw [if_neg c]; rw [if_neg (by omega)] at o; grind
theorem lap_cramer {m : Nat} {ls : List Ln} {x h : List Rat} (net : Net (m + 1) ls) (hh : IsH (m + 1) ls x h) {B : Int} {r : Nat → Int} (hr : ∀ i, i < m → ((r i : Int) : Rat) = x.getD (i + 1) 0 * (B : Rat)) {k : Nat} (hk : k < m) :
    ((detZ m (repC (fun i j => lapI ls (i + 1) (j + 1)) k r) : Int) : Rat) = h.getD (k + 1) 0 * (B : Rat) * ((detZ m (fun i j => lapI ls (i + 1) (j + 1)) : Int) : Rat) := by
  have n4 := net.n4
  refine cramer (by omega) (X := fun c => h.getD (c + 1) 0 * (B : Rat)) (fun i hi => ?_) hk
  have o := hh.out (i + 1) (by omega)
  rw [← lap_out net.ok, sm_shift, hh.zero] at o
  rw [hr i hi, ← o]
  have e : sm m (fun c => ((lapI ls (i + 1) (c + 1) : Int) : Rat) * (h.getD (c + 1) 0 * (B : Rat))) = sm m (fun c => (B : Rat) * (((lapI ls (i + 1) (c + 1) : Int) : Rat) * h.getD (c + 1) 0)) := sm_congr fun c _ => by grind
  rw [e, sm_mul]
  grind
end WL


namespace WL
open PySem PySem.Spec PyProof.Rows L2
local macro_rules | `(tactic| walk_at "w") => `(tactic| try simp only [↓a_seq, ↓a_asg, ↓a_ifS, ↓a_ret, ↓a_retN, ↓a_next, ↓a_break, ↓a_cont, ↓a_drop, ↓a_for, ↓a_C, ↓a_op, ↓a_un, ↓a_neg, ↓a_CB, ↓a_call, ↓a_nil, ↓a_cons, ↓a_tup, ↓a_lst, ↓a_lstM, ↓a_test, ↓a_and, ↓a_or, ↓a_not, ↓a_yes, ↓a_andV, ↓a_orV, ↓a_notV, ↓a_if, ↓a_isN, ↓a_notN, ↓a_chain, ↓a_BM, ↓a_BM0, ↓a_seqI, ↓a_R1, ↓a_R2, ↓a_zip2, ↓a_zipG2, ↓a_zipG3, ↓a_enumG, ↓a_enum, ↓a_lc, ↓a_lcM, ↓a_lcR, ↓a_forR, ↓a_seqR, ↓a_zip2R, ↓a_zipR, ↓a_lstRg, ↓a_lstRgM, ↓a_lcP, ↓a_slice, ↓a_sliceM, ↓a_pN, ↓a_pS, ↓a_augIx, ↓a_gIx, ↓a_par, ↓a_setF, ↓a_meth, ↓a_make, ↓a_makeZ, ↓a_dnew, ↓a_done, ↓a_dput, ↓a_dget, ↓a_din, ↓a_lenD, ↓v_0, ↓g_0, ↓u_0, ↓v_1, ↓g_1, ↓u_1, ↓v_2, ↓g_2, ↓u_2, ↓v_3, ↓g_3, ↓u_3, ↓v_4, ↓g_4, ↓u_4, ↓v_5, ↓g_5, ↓u_5, ↓v_6, ↓g_6, ↓u_6, ↓v_7, ↓g_7, ↓u_7, ↓v_8, ↓g_8, ↓u_8, ↓v_9, ↓g_9, ↓u_9, ↓v_10, ↓g_10, ↓u_10, ↓v_11, ↓g_11, ↓u_11, ↓v_12, ↓g_12, ↓u_12, ↓v_13, ↓g_13, ↓u_13, ↓v_14, ↓g_14, ↓u_14, ↓v_15, ↓g_15, ↓u_15, ↓v_16, ↓g_16, ↓u_16, ↓v_17, ↓g_17, ↓u_17, ↓v_18, ↓g_18, ↓u_18, ↓v_19, ↓g_19, ↓u_19, ↓v_20, ↓g_20, ↓u_20, ↓v_21, ↓g_21, ↓u_21, ↓v_22, ↓g_22, ↓u_22, ↓v_23, ↓g_23, ↓u_23, ↓v_24, ↓g_24, ↓u_24, ↓v_25, ↓g_25, ↓u_25, ↓f_0, ↓fl_0, ↓fn_0, ↓f_1, ↓fl_1, ↓fn_1, ↓f_2, ↓fl_2, ↓fn_2, ↓f_3, ↓fl_3, ↓fn_3, ↓f_4, ↓fl_4, ↓fn_4, ↓f_5, ↓fl_5, ↓fn_5, ↓f_6, ↓fl_6, ↓fn_6, ↓f_7, ↓fl_7, ↓fn_7, ↓f_8, ↓fl_8, ↓fn_8, ↓f_9, ↓fl_9, ↓fn_9, ↓f_10, ↓fl_10, ↓fn_10, ↓f_11, ↓fl_11, ↓fn_11, ↓f_12, ↓fl_12, ↓fn_12, ↓f_13, ↓fl_13, ↓fn_13, ↓f_14, ↓fl_14, ↓fn_14, ↓f_15, ↓fl_15, ↓fn_15, ↓f_16, ↓fl_16, ↓fn_16, ↓f_17, ↓fl_17, ↓fn_17, ↓f_18, ↓fl_18, ↓fn_18, ↓f_19, ↓fl_19, ↓fn_19, ↓f_20, ↓fl_20, ↓fn_20, ↓f_21, ↓fl_21, ↓fn_21, ↓f_22, ↓fl_22, ↓fn_22, ↓f_23, ↓fl_23, ↓fn_23, ↓f_24, ↓fl_24, ↓fn_24, ↓f_25, ↓fl_25, ↓fn_25, ↓asL_lst, ↓asL_scr, ↓asL_gup, ↓wIx_tup, ↓wIx_lst, ↓wIx_scr, ↓wIx_ref, ↓wIx_str, ↓wAdd_int, ↓wAdd_str, ↓wAdd_tup, ↓wAdd_lst, ↓wII_int, ↓wI2_int, ↓wI1_int, ↓wI1N_int, ↓wI2N_int, ↓wLen_tup, ↓wLen_lst, ↓wLen_scr, ↓wLen_ref, ↓wLen_str, ↓wInt_int, ↓wInt_bl, ↓wStrI_int, ↓wEq_int, ↓wEq_str, ↓wEq_bl, ↓wNe_bl, ↓wNe_int, ↓wNe_str, ↓wEq_tup, ↓wNe_tup, ↓wEq_lst, ↓wNe_lst, ↓setIx_ref, ↓gT_tup, ↓gT_lst, ↓gT_ref, ↓gsC_cons, ↓gsN_nil, ↓wAppend_ref, ↓wPop_ref, ↓wExtend_ref, ↓rgO_int, ↓wAddM_lst, ↓wIsB_bl, ↓wReverse_ref, ↓wRepT_tup, ↓wNotB_bl, ↓wInD_lst, ↓wPopAt_ref, ↓wInsert_ref, ↓refR_ref, ↓seqOf_tup, ↓seqOf_lst, ↓seqOf_scr, ↓seqOf_ref, ↓rng1_int, ↓rng2_int, ↓wIsi_non, ↓wIsi_bl, ↓wIsi_int, ↓wIsi_str, ↓wIsi_tup, ↓wIsi_lst, ↓wIsi_ref, ↓wAll_lst, ↓wAny_lst, ↓wSum_lst, ↓wTuple_tup, ↓wTuple_lst, ↓wTuple_ref, ↓wList_tup, ↓wList_lst, ↓wList_ref, ↓wListM_tup, ↓wListM_lst, ↓wCut_tup, ↓wCut_lst, ↓wCut_ref, ↓wCut_str, ↓wRep_lst, ↓wRepM_lst, ↓zipOf_tup, ↓zipOf_lst, ↓enumOf_lst, ↓enumOf_scr, ↓zipG2_eq, ↓zipG3_eq, ↓enumG_eq, ↓wSorted_eq, ↓wSortedM_eq, ↓wClear_ref, ↓wGet_ref, ↓truO_bl, ↓intO_int, ↓isS_some, ↓isG_lst, ↓setF_ref, ↓isI_ins, ↓dPut_ref, ↓isD_dic, ↓insOf_gup, ↓dicOf_gup, keyOf, nk, rangeW_length, sset, skill, swipe, swipe.sforget, lcW, wIn, seqs, inW, eqW, flatW, kdIs, isNon, gup_same, gup_gup, at0, at1, at2, at3, at4, at5, at6, at7, ix0, ix1, ix2, ix3, ix4, ix5, W.bl.injEq, exists_eq_left', List.length_cons, List.length_nil, List.length_map, Nat.zero_add, Nat.reduceAdd, List.set, List.map_cons, List.map_nil, Option.isSome_some, List.all_cons, List.all_nil, List.any_cons, List.any_nil, List.cons_append, List.nil_append, Bool.and_true, Bool.and_self, Bool.or_false, Bool.true_and, Bool.false_and, Bool.and_false, true_and, decide_true, decide_false, Bool.not_true, Bool.not_false, Bool.not_not, Bool.false_eq_true, if_true, if_false, ite_self, beq_self_eq_true])

/-! ### limits -/
abbrev Lim := Int × Int × Int
abbrev limW (t : Lim) : W := .tup [.int t.1, .int t.2.1, .int t.2.2]
abbrev limsW (xs : List Lim) : List W := xs.map fun t => limW t
def lim1 (lost : Int) (k : Nat) : List Lim := if (k : Int) = lost then [] else [(lost, (k : Int), -1), (lost, (k : Int), 1)]
def limOf (lost : Int) (m : Nat) : List Lim := (List.range m).flatMap (lim1 lost)
noncomputable def lostsL (n : Nat) (ls : List Ln) : List Int := -1 :: (dueL n ls).map fun k : Nat => (k : Int)
noncomputable def limsL (n : Nat) (ls : List Ln) : List Lim := (lostsL n ls).flatMap fun l => limOf l ls.length
theorem limOf_succ {lost : Int} {m : Nat} : limOf lost (m + 1) = limOf lost m ++ lim1 lost m := by
  unfold limOf; rw [List.range_succ, List.flatMap_append]; simp
theorem lim1_len {lost : Int} {k : Nat} : (lim1 lost k).length ≤ 2 := by unfold lim1; split <;> simp
theorem limOf_len {lost : Int} : ∀ {m : Nat}, (limOf lost m).length ≤ 2 * m
  | 0 => by simp [limOf]
  | m + 1 => by
    have := limOf_len (lost := lost) (m := m)
    have := lim1_len (lost := lost) (k := m)
    rw [limOf_succ, List.length_append]; omega
theorem lims_len {m : Nat} : ∀ (xs : List Int), (xs.flatMap fun l => limOf l m).length ≤ xs.length * (2 * m)
  | [] => by simp
  | x :: xs => by
    have a := lims_len (m := m) xs
    have b := limOf_len (lost := x) (m := m)
    rw [List.flatMap_cons, List.length_append, List.length_cons, Nat.succ_mul]
    omega
theorem losts_len {n : Nat} {ls : List Ln} : (lostsL n ls).length ≤ ls.length + 1 := by
  have := due_len (n := n) (ls := ls)
  simp [lostsL]; omega
theorem wD_lims (xs : List Lim) : wD 2 (.lst (limsW xs)) := wD_lst fun w h => by
  obtain ⟨t, _, rfl⟩ := List.mem_map.mp h
  exact wD_tup fun w h => by
    simp only [List.mem_cons, List.not_mem_nil, or_false] at h
    rcases h with rfl | rfl | rfl <;> exact wD_int
/-! their order -/
def limLt (a b : Lim) : Bool := if a.1 = b.1 then (if a.2.1 = b.2.1 then decide (a.2.2 < b.2.2) else decide (a.2.1 < b.2.1)) else decide (a.1 < b.1)
theorem lexT (x y : Int) (r t : List (Int ⊕ List Nat)) : PyProof.Rows.lexLt PyProof.Rows.itemOrd (.inl x :: r) (.inl y :: t) = if x = y then PyProof.Rows.lexLt PyProof.Rows.itemOrd r t else decide (x < y) := by
  by_cases c : x = y
  · subst c
    rw [if_pos rfl]
    exact PyProof.Rows.lex_self (O := PyProof.Rows.itemOrd) _ r t
  · rw [if_neg c]
    exact PyProof.Rows.lex_diff (O := PyProof.Rows.itemOrd) (fun z => c (by injection z))
theorem lim_dataLt (a b : Lim) : PySem.W.dataLt (wdat (limW a)) (wdat (limW b)) = limLt a b := by
  unfold PySem.W.dataLt
  simp only [wdat, wdats, PySem.W.keyToks, PySem.W.keyToksAll, List.cons_append, List.nil_append]
  rw [lexT, lexT, lexT, lexT, lexT, lexT, lexT]
  unfold limLt
  simp [PyProof.Rows.lexLt]
  congr 2
  by_cases c : a.2.2 = b.2.2
  · simp [c]
  · simp [c]
theorem lim_alike (xs : List Lim) : PySem.W.AllAlike (wdats (limsW xs)) ∧ PySem.W.Sortable (wdats (limsW xs)) ∧ ∀ d ∈ wdats (limsW xs), d.depth ≤ 60 := by
  have m : ∀ d ∈ wdats (limsW xs), ∃ a b c, d = .tuple [.int a, .int b, .int c] := by
    induction xs with
    | nil => intro d h; simp [limsW, wdats] at h
    | cons x xs ih =>
      intro d h
      simp only [limsW, List.map_cons, wdats, List.mem_cons] at h
      rcases h with rfl | h
      · exact ⟨_, _, _, rfl⟩
      · exact ih d h
  refine ⟨fun d hd e he => ?_, .inl fun d hd => ?_, fun d hd => ?_⟩
  · obtain ⟨a, b, c, rfl⟩ := m d hd
    obtain ⟨a', b', c', rfl⟩ := m e he
    rfl
  · obtain ⟨a, b, c, rfl⟩ := m d hd
    exact ⟨_, _, rfl⟩
  · obtain ⟨a, b, c, rfl⟩ := m d hd
    simp [PyData.depth, PyData.depthAll]
theorem lims_pure (xs : List Lim) : wpures (limsW xs) = true := (wDs fun w h => by
  obtain ⟨t, _, rfl⟩ := List.mem_map.mp h
  exact wD_tup (d := 0) fun w h => by
    simp only [List.mem_cons, List.not_mem_nil, or_false] at h
    rcases h with rfl | rfl | rfl <;> exact wD_int).1
theorem lims_sort {xs : List Lim} (h : xs.Pairwise fun a b => limLt b a = false) : (limsW xs).mergeSort leW = limsW xs := by
  refine List.mergeSort_of_pairwise ?_
  rw [List.pairwise_map]
  refine h.imp fun {a b} hab => ?_
  unfold leW
  rw [lim_dataLt, hab]; rfl
theorem limOf_mem {lost : Int} {m : Nat} {t : Lim} : t ∈ limOf lost m ↔ t.1 = lost ∧ ∃ k : Nat, k < m ∧ t.2.1 = (k : Int) ∧ (k : Int) ≠ lost ∧ (t.2.2 = -1 ∨ t.2.2 = 1) := by
  obtain ⟨a, b, c⟩ := t
  unfold limOf lim1
  simp only [List.mem_flatMap, List.mem_range]
  constructor
  · rintro ⟨k, hk, h⟩
    split at h
    · cases h
    · rename_i ne
      simp only [List.mem_cons, List.not_mem_nil, or_false, Prod.mk.injEq] at h
      rcases h with ⟨rfl, rfl, rfl⟩ | ⟨rfl, rfl, rfl⟩
      · exact ⟨rfl, k, hk, rfl, ne, .inl rfl⟩
      · exact ⟨rfl, k, hk, rfl, ne, .inr rfl⟩
  · rintro ⟨h1, k, hk, h2, ne, h3⟩
    have h1' : a = lost := h1
    have h2' : b = (k : Int) := h2
    have h3' : c = -1 ∨ c = 1 := h3
    subst h1' h2'
    refine ⟨k, hk, ?_⟩
    rw [if_neg ne]
    rcases h3' with h | h
    · subst h; exact .head _
    · subst h; exact .tail _ (.head _)
theorem limOf_sorted {lost : Int} : ∀ {m : Nat}, (limOf lost m).Pairwise fun a b => limLt b a = false
  | 0 => by simp [limOf]
  | m + 1 => by
    rw [limOf_succ, List.pairwise_append]
    refine ⟨limOf_sorted, ?_, fun a ha b hb => ?_⟩
    · unfold lim1
      split
      · exact List.Pairwise.nil
      · refine List.pairwise_cons.mpr ⟨fun b hb => ?_, List.pairwise_singleton _ _⟩
        rw [List.mem_singleton.mp hb]
        unfold limLt
        rw [if_pos rfl, if_pos rfl]; rfl
    · obtain ⟨h1, k, hk, h2, _, _⟩ := limOf_mem.mp ha
      unfold lim1 at hb
      split at hb
      · cases hb
      · simp only [List.mem_cons, List.not_mem_nil, or_false] at hb
        unfold limLt
        rcases hb with rfl | rfl
        · rw [if_pos h1.symm, if_neg (by rw [h2]; simp; omega)]
          rw [h2]; simp; omega
        · rw [if_pos h1.symm, if_neg (by rw [h2]; simp; omega)]
          rw [h2]; simp; omega
theorem lims_sorted {m : Nat} : ∀ {xs : List Int}, xs.Pairwise (· < ·) → (xs.flatMap fun l => limOf l m).Pairwise fun a b => limLt b a = false
  | [], _ => by simp
  | x :: xs, h => by
    rw [List.pairwise_cons] at h
    rw [List.flatMap_cons, List.pairwise_append]
    refine ⟨limOf_sorted, lims_sorted h.2, fun a ha b hb => ?_⟩
    obtain ⟨y, hy, hb⟩ := List.mem_flatMap.mp hb
    have e1 := (limOf_mem.mp ha).1
    have e2 := (limOf_mem.mp hb).1
    have := h.1 y hy
    unfold limLt
    rw [if_neg (by omega)]
    simp; omega
theorem losts_sorted {n : Nat} {ls : List Ln} : (lostsL n ls).Pairwise (· < ·) := by
  unfold lostsL
  rw [List.pairwise_cons]
  refine ⟨fun x hx => ?_, ?_⟩
  · obtain ⟨k, _, rfl⟩ := List.mem_map.mp hx
    omega
  · rw [List.pairwise_map]
    unfold dueL
    refine List.Pairwise.filter _ ?_
    refine List.pairwise_lt_range.imp fun h => ?_
    omega
theorem take_flat {α β : Type} (f : α → List β) {xs : List α} {k : Nat} (h : k < xs.length) : (xs.take (k + 1)).flatMap f = (xs.take k).flatMap f ++ f xs[k] := by
  rw [List.take_succ_eq_append_getElem h, List.flatMap_append]; simp
end WL


namespace WL
open PySem PySem.Spec PyProof.Rows L2
local macro_rules | `(tactic| walk_at "w") => `(tactic| try simp only [↓a_seq, ↓a_asg, ↓a_ifS, ↓a_ret, ↓a_retN, ↓a_next, ↓a_break, ↓a_cont, ↓a_drop, ↓a_for, ↓a_C, ↓a_op, ↓a_un, ↓a_neg, ↓a_CB, ↓a_call, ↓a_nil, ↓a_cons, ↓a_tup, ↓a_lst, ↓a_lstM, ↓a_test, ↓a_and, ↓a_or, ↓a_not, ↓a_yes, ↓a_andV, ↓a_orV, ↓a_notV, ↓a_if, ↓a_isN, ↓a_notN, ↓a_chain, ↓a_BM, ↓a_BM0, ↓a_seqI, ↓a_R1, ↓a_R2, ↓a_zip2, ↓a_zipG2, ↓a_zipG3, ↓a_enumG, ↓a_enum, ↓a_lc, ↓a_lcM, ↓a_lcR, ↓a_forR, ↓a_seqR, ↓a_zip2R, ↓a_zipR, ↓a_lstRg, ↓a_lstRgM, ↓a_lcP, ↓a_slice, ↓a_sliceM, ↓a_pN, ↓a_pS, ↓a_augIx, ↓a_gIx, ↓a_par, ↓a_setF, ↓a_meth, ↓a_make, ↓a_makeZ, ↓a_dnew, ↓a_done, ↓a_dput, ↓a_dget, ↓a_din, ↓a_lenD, ↓v_0, ↓g_0, ↓u_0, ↓v_1, ↓g_1, ↓u_1, ↓v_2, ↓g_2, ↓u_2, ↓v_3, ↓g_3, ↓u_3, ↓v_4, ↓g_4, ↓u_4, ↓v_5, ↓g_5, ↓u_5, ↓v_6, ↓g_6, ↓u_6, ↓v_7, ↓g_7, ↓u_7, ↓v_8, ↓g_8, ↓u_8, ↓v_9, ↓g_9, ↓u_9, ↓v_10, ↓g_10, ↓u_10, ↓v_11, ↓g_11, ↓u_11, ↓v_12, ↓g_12, ↓u_12, ↓v_13, ↓g_13, ↓u_13, ↓v_14, ↓g_14, ↓u_14, ↓v_15, ↓g_15, ↓u_15, ↓v_16, ↓g_16, ↓u_16, ↓v_17, ↓g_17, ↓u_17, ↓v_18, ↓g_18, ↓u_18, ↓v_19, ↓g_19, ↓u_19, ↓v_20, ↓g_20, ↓u_20, ↓v_21, ↓g_21, ↓u_21, ↓v_22, ↓g_22, ↓u_22, ↓v_23, ↓g_23, ↓u_23, ↓v_24, ↓g_24, ↓u_24, ↓v_25, ↓g_25, ↓u_25, ↓f_0, ↓fl_0, ↓fn_0, ↓f_1, ↓fl_1, ↓fn_1, ↓f_2, ↓fl_2, ↓fn_2, ↓f_3, ↓fl_3, ↓fn_3, ↓f_4, ↓fl_4, ↓fn_4, ↓f_5, ↓fl_5, ↓fn_5, ↓f_6, ↓fl_6, ↓fn_6, ↓f_7, ↓fl_7, ↓fn_7, ↓f_8, ↓fl_8, ↓fn_8, ↓f_9, ↓fl_9, ↓fn_9, ↓f_10, ↓fl_10, ↓fn_10, ↓f_11, ↓fl_11, ↓fn_11, ↓f_12, ↓fl_12, ↓fn_12, ↓f_13, ↓fl_13, ↓fn_13, ↓f_14, ↓fl_14, ↓fn_14, ↓f_15, ↓fl_15, ↓fn_15, ↓f_16, ↓fl_16, ↓fn_16, ↓f_17, ↓fl_17, ↓fn_17, ↓f_18, ↓fl_18, ↓fn_18, ↓f_19, ↓fl_19, ↓fn_19, ↓f_20, ↓fl_20, ↓fn_20, ↓f_21, ↓fl_21, ↓fn_21, ↓f_22, ↓fl_22, ↓fn_22, ↓f_23, ↓fl_23, ↓fn_23, ↓f_24, ↓fl_24, ↓fn_24, ↓f_25, ↓fl_25, ↓fn_25, ↓asL_lst, ↓asL_scr, ↓asL_gup, ↓wIx_tup, ↓wIx_lst, ↓wIx_scr, ↓wIx_ref, ↓wIx_str, ↓wAdd_int, ↓wAdd_str, ↓wAdd_tup, ↓wAdd_lst, ↓wII_int, ↓wI2_int, ↓wI1_int, ↓wI1N_int, ↓wI2N_int, ↓wLen_tup, ↓wLen_lst, ↓wLen_scr, ↓wLen_ref, ↓wLen_str, ↓wInt_int, ↓wInt_bl, ↓wStrI_int, ↓wEq_int, ↓wEq_str, ↓wEq_bl, ↓wNe_bl, ↓wNe_int, ↓wNe_str, ↓wEq_tup, ↓wNe_tup, ↓wEq_lst, ↓wNe_lst, ↓setIx_ref, ↓gT_tup, ↓gT_lst, ↓gT_ref, ↓gsC_cons, ↓gsN_nil, ↓wAppend_ref, ↓wPop_ref, ↓wExtend_ref, ↓rgO_int, ↓wAddM_lst, ↓wIsB_bl, ↓wReverse_ref, ↓wRepT_tup, ↓wNotB_bl, ↓wInD_lst, ↓wPopAt_ref, ↓wInsert_ref, ↓refR_ref, ↓seqOf_tup, ↓seqOf_lst, ↓seqOf_scr, ↓seqOf_ref, ↓rng1_int, ↓rng2_int, ↓wIsi_non, ↓wIsi_bl, ↓wIsi_int, ↓wIsi_str, ↓wIsi_tup, ↓wIsi_lst, ↓wIsi_ref, ↓wAll_lst, ↓wAny_lst, ↓wSum_lst, ↓wTuple_tup, ↓wTuple_lst, ↓wTuple_ref, ↓wList_tup, ↓wList_lst, ↓wList_ref, ↓wListM_tup, ↓wListM_lst, ↓wCut_tup, ↓wCut_lst, ↓wCut_ref, ↓wCut_str, ↓wRep_lst, ↓wRepM_lst, ↓zipOf_tup, ↓zipOf_lst, ↓enumOf_lst, ↓enumOf_scr, ↓zipG2_eq, ↓zipG3_eq, ↓enumG_eq, ↓wSorted_eq, ↓wSortedM_eq, ↓wClear_ref, ↓wGet_ref, ↓truO_bl, ↓intO_int, ↓isS_some, ↓isG_lst, ↓setF_ref, ↓isI_ins, ↓dPut_ref, ↓isD_dic, ↓insOf_gup, ↓dicOf_gup, keyOf, nk, rangeW_length, sset, skill, swipe, swipe.sforget, lcW, wIn, seqs, inW, eqW, flatW, kdIs, isNon, gup_same, gup_gup, at0, at1, at2, at3, at4, at5, at6, at7, ix0, ix1, ix2, ix3, ix4, ix5, W.bl.injEq, exists_eq_left', List.length_cons, List.length_nil, List.length_map, Nat.zero_add, Nat.reduceAdd, List.set, List.map_cons, List.map_nil, Option.isSome_some, List.all_cons, List.all_nil, List.any_cons, List.any_nil, List.cons_append, List.nil_append, Bool.and_true, Bool.and_self, Bool.or_false, Bool.true_and, Bool.false_and, Bool.and_false, true_and, decide_true, decide_false, Bool.not_true, Bool.not_false, Bool.not_not, Bool.false_eq_true, if_true, if_false, ite_self, beq_self_eq_true])

/-! ### what is met from 0 on, round by round, told in a dict -/
def addM (met : List Nat) (v : Nat) : List Nat := if v ∈ met then met else met ++ [v]
def edgeM (met : List Nat) (e : Nat × Nat) : List Nat := if e.1 ∈ met ∨ e.2 ∈ met then addM (addM met e.1) e.2 else met
def roundM (es : List (Nat × Nat)) (met : List Nat) : List Nat := es.foldl edgeM met
def roundsM (es : List (Nat × Nat)) : Nat → List Nat
  | 0 => [0]
  | k + 1 => roundM es (roundsM es k)
theorem addM_sub {met : List Nat} {v x : Nat} (h : x ∈ met) : x ∈ addM met v := by
  unfold addM; split
  · exact h
  · exact List.mem_append.mpr (.inl h)
theorem addM_self {met : List Nat} {v : Nat} : v ∈ addM met v := by
  unfold addM; split
  · assumption
  · simp
theorem addM_mem {met : List Nat} {v x : Nat} (h : x ∈ addM met v) : x ∈ met ∨ x = v := by
  unfold addM at h; split at h
  · exact .inl h
  · simpa using h
theorem addM_len {met : List Nat} {v : Nat} : met.length ≤ (addM met v).length ∧ ((addM met v).length = met.length → v ∈ met) := by
  unfold addM; split
  · exact ⟨Nat.le_refl _, fun _ => by assumption⟩
  · rw [List.length_append, List.length_singleton]
    exact ⟨by omega, fun h => by omega⟩
theorem addM_nd {met : List Nat} {v : Nat} (h : met.Nodup) : (addM met v).Nodup := by
  unfold addM; split
  · exact h
  · rename_i c
    rw [List.nodup_append]
    exact ⟨h, by simp, fun a ha b hb z => c (by rw [List.mem_singleton] at hb; rw [← hb, ← z]; exact ha)⟩
structure MetOk (n : Nat) (es : List (Nat × Nat)) (met : List Nat) : Prop where
  nd : met.Nodup
  lt : ∀ x ∈ met, x < n
  h0 : 0 ∈ met
  all : ∀ S : Nat → Prop, S 0 → Shut es S → ∀ v ∈ met, S v
theorem met_edge {n : Nat} {es : List (Nat × Nat)} {met : List Nat} {e : Nat × Nat} (h : MetOk n es met) (he : e ∈ es) (l1 : e.1 < n) (l2 : e.2 < n) :
    MetOk n es (edgeM met e) ∧ met.length ≤ (edgeM met e).length ∧ ((edgeM met e).length = met.length → edgeM met e = met ∧ (e.1 ∈ met ↔ e.2 ∈ met)) := by
  unfold edgeM
  by_cases c : e.1 ∈ met ∨ e.2 ∈ met
  · rw [if_pos c]
    have a1 := addM_len (met := met) (v := e.1)
    have a2 := addM_len (met := addM met e.1) (v := e.2)
    refine ⟨⟨addM_nd (addM_nd h.nd), fun x hx => ?_, addM_sub (addM_sub h.h0), fun S s0 sS v hv => ?_⟩, Nat.le_trans a1.1 a2.1, fun z => ?_⟩
    · rcases addM_mem hx with hx | rfl
      · rcases addM_mem hx with hx | rfl
        · exact h.lt x hx
        · exact l1
      · exact l2
    · have both : S e.1 ∧ S e.2 := by
        have s := sS e he
        rcases c with c | c
        · have := h.all S s0 sS _ c
          exact ⟨this, s.mp this⟩
        · have := h.all S s0 sS _ c
          exact ⟨s.mpr this, this⟩
      rcases addM_mem hv with hv | rfl
      · rcases addM_mem hv with hv | rfl
        · exact h.all S s0 sS v hv
        · exact both.1
      · exact both.2
    · have m1 := a1.2 (by omega)
      have e1 : addM met e.1 = met := by unfold addM; rw [if_pos m1]
      rw [e1] at a2 z ⊢
      have m2 := a2.2 z
      exact ⟨by unfold addM; rw [if_pos m2], ⟨fun _ => m2, fun _ => m1⟩⟩
  · rw [if_neg c]
    exact ⟨h, Nat.le_refl _, fun _ => ⟨rfl, ⟨fun z => absurd (.inl z) c, fun z => absurd (.inr z) c⟩⟩⟩
theorem met_fold {n : Nat} {es : List (Nat × Nat)} (lt : ∀ e ∈ es, e.1 < n ∧ e.2 < n) : ∀ (fs : List (Nat × Nat)) (met : List Nat), (∀ e ∈ fs, e ∈ es) → MetOk n es met →
    MetOk n es (fs.foldl edgeM met) ∧ met.length ≤ (fs.foldl edgeM met).length ∧ ((fs.foldl edgeM met).length = met.length → fs.foldl edgeM met = met ∧ ∀ e ∈ fs, (e.1 ∈ met ↔ e.2 ∈ met))
  | [], met, _, h => ⟨h, Nat.le_refl _, fun _ => ⟨rfl, fun e he => by cases he⟩⟩
  | f :: fs, met, hs, h => by
    have hf := hs f (.head _)
    obtain ⟨h1, l1, k1⟩ := met_edge h hf (lt f hf).1 (lt f hf).2
    obtain ⟨h2, l2, k2⟩ := met_fold lt fs (edgeM met f) (fun e he => hs e (.tail _ he)) h1
    rw [List.foldl_cons]
    refine ⟨h2, Nat.le_trans l1 l2, fun z => ?_⟩
    obtain ⟨e1, s1⟩ := k1 (by omega)
    obtain ⟨e2, s2⟩ := k2 (by omega)
    rw [e1] at e2 s2 ⊢
    refine ⟨e2, fun e he => ?_⟩
    rcases List.mem_cons.mp he with rfl | he
    · exact s1
    · exact s2 e he
theorem met_rounds {n : Nat} {es : List (Nat × Nat)} (hn : 0 < n) (lt : ∀ e ∈ es, e.1 < n ∧ e.2 < n) : ∀ k, MetOk n es (roundsM es k) ∧ (Shut es (· ∈ roundsM es k) ∨ k + 1 ≤ (roundsM es k).length)
  | 0 => ⟨⟨by simp [roundsM], fun x hx => by have : x = 0 := List.mem_singleton.mp hx; omega, by simp [roundsM], fun S s0 _ v hv => by rw [List.mem_singleton.mp hv]; exact s0⟩, .inr (by simp [roundsM])⟩
  | k + 1 => by
    obtain ⟨h, d⟩ := met_rounds hn lt k
    obtain ⟨h1, l1, k1⟩ := met_fold lt es (roundsM es k) (fun e he => he) h
    refine ⟨h1, ?_⟩
    show Shut es (· ∈ es.foldl edgeM (roundsM es k)) ∨ k + 1 + 1 ≤ (es.foldl edgeM (roundsM es k)).length
    by_cases c : (es.foldl edgeM (roundsM es k)).length = (roundsM es k).length
    · obtain ⟨e, s⟩ := k1 c
      rw [e]
      exact .inl s
    · rcases d with d | d
      · -- a shut set stays
        have stay : ∀ (fs : List (Nat × Nat)), (∀ e ∈ fs, e ∈ es) → fs.foldl edgeM (roundsM es k) = roundsM es k := by
          intro fs
          induction fs with
          | nil => intro _; rfl
          | cons f fs ih =>
            intro hs
            have s := d f (hs f (.head _))
            have e : edgeM (roundsM es k) f = roundsM es k := by
              unfold edgeM
              by_cases z : f.1 ∈ roundsM es k ∨ f.2 ∈ roundsM es k
              · rw [if_pos z]
                have z1 : f.1 ∈ roundsM es k := z.elim id s.mpr
                have e1 : addM (roundsM es k) f.1 = roundsM es k := by unfold addM; rw [if_pos z1]
                rw [e1]
                unfold addM; rw [if_pos (s.mp z1)]
              · rw [if_neg z]
            rw [List.foldl_cons, e]
            exact ih fun e he => hs e (.tail _ he)
        exact absurd (congrArg List.length (stay es fun e he => he)) c
      · exact .inr (by omega)
theorem met_end {n : Nat} {es : List (Nat × Nat)} (hn : 0 < n) (lt : ∀ e ∈ es, e.1 < n ∧ e.2 < n) : (roundsM es n).length = n ↔ Conn n es := by
  obtain ⟨h, d⟩ := met_rounds hn lt n
  have le := (full_of_nodup n _ h.nd h.lt).1
  have sh : Shut es (· ∈ roundsM es n) := d.elim id fun z => by omega
  exact met_conn h.nd h.lt h.h0 sh h.all
/-- the dict -/
def metD (met : List Nat) : List (NestedKey × W) := met.map fun v => (NestedKey.num ((v : Nat) : Int), W.bl true)
theorem metD_val {v : Nat} : ∀ (met : List Nat), (valW (metD met) (.num ((v : Nat) : Int))).isSome = decide (v ∈ met)
  | [] => by simp [metD, valW]
  | x :: met => by
    have ih := metD_val (v := v) met
    unfold metD valW at ih ⊢
    rw [List.map_cons, List.find?_cons]
    by_cases c : x = v
    · subst c; simp
    · have c2 : ¬ NestedKey.num ((x : Nat) : Int) = .num ((v : Nat) : Int) := fun e => c (by injection e; omega)
      simp only [c2, decide_false]
      rw [ih]
      simp [Ne.symm c, c]
theorem metD_any {v : Nat} {met : List Nat} : ((metD met).any fun kv => decide (kv.1 = NestedKey.num ((v : Nat) : Int))) = decide (v ∈ met) := by
  unfold metD
  rw [List.any_map]
  by_cases c : v ∈ met
  · rw [decide_eq_true c, List.any_eq_true]
    exact ⟨v, c, by simp⟩
  · rw [decide_eq_false c, List.any_eq_false]
    intro x hx
    simp only [Function.comp, decide_eq_true_eq]
    intro e
    injection e with e
    exact c (by rw [show v = x by omega]; exact hx)
theorem metD_put {v : Nat} {met : List Nat} : putD (metD met) (.num ((v : Nat) : Int)) (.bl true) = metD (addM met v) := by
  unfold putD
  rw [metD_any]
  unfold addM
  by_cases c : v ∈ met
  · rw [if_pos (decide_eq_true c), if_pos c]
    unfold metD
    rw [List.map_map]
    refine List.map_congr_left fun x _ => ?_
    simp only [Function.comp]
    split <;> rfl
  · rw [if_neg (by rw [decide_eq_false c]; decide), if_neg c]
    unfold metD
    rw [List.map_append]
    rfl
theorem metD_len {met : List Nat} : (metD met).length = met.length := by simp [metD]
/-- the lines but one, by their numbers -/
def keepE (ls : List Ln) (lost k : Nat) : List (Nat × Nat) := (List.range k).filterMap fun i => if i = lost then none else (ls[i]?).map Ln.e
theorem keepE_succ {ls : List Ln} {lost k : Nat} (hk : k < ls.length) : keepE ls lost (k + 1) = keepE ls lost k ++ if k = lost then [] else [ls[k].e] := by
  unfold keepE
  rw [List.range_succ, List.filterMap_append]
  congr 1
  by_cases c : k = lost
  · simp [c]
  · simp [c, hk]
theorem keepE_mem {ls : List Ln} {lost : Nat} {e : Nat × Nat} : e ∈ keepE ls lost ls.length ↔ e ∈ edges (dropL ls lost) := by
  unfold keepE edges dropL
  simp only [List.mem_filterMap, List.mem_range, List.mem_map, List.mem_append]
  constructor
  · rintro ⟨i, hi, h⟩
    split at h
    · cases h
    · rename_i c
      rw [List.getElem?_eq_getElem hi] at h
      simp only [Option.map_some, Option.some.injEq] at h
      refine ⟨ls[i], ?_, h⟩
      by_cases l : i < lost
      · exact .inl (List.mem_iff_getElem.mpr ⟨i, by rw [List.length_take]; omega, by rw [List.getElem_take]⟩)
      · refine .inr (List.mem_iff_getElem.mpr ⟨i - (lost + 1), by rw [List.length_drop]; omega, ?_⟩)
        rw [List.getElem_drop]
        congr 1
        omega
  · rintro ⟨l, hl, rfl⟩
    rcases hl with hl | hl
    · obtain ⟨i, hi, rfl⟩ := List.mem_iff_getElem.mp hl
      rw [List.length_take] at hi
      refine ⟨i, by omega, ?_⟩
      rw [if_neg (by omega), List.getElem?_eq_getElem (by omega), List.getElem_take]
      rfl
    · obtain ⟨i, hi, rfl⟩ := List.mem_iff_getElem.mp hl
      rw [List.length_drop] at hi
      refine ⟨lost + 1 + i, by omega, ?_⟩
      rw [if_neg (by omega), List.getElem?_eq_getElem (by omega), List.getElem_drop]
      rfl
theorem conn_congr {n : Nat} {es fs : List (Nat × Nat)} (h : ∀ e, e ∈ es ↔ e ∈ fs) : Conn n es ↔ Conn n fs :=
  ⟨fun c S s0 sS => c S s0 fun e he => sS e ((h e).mp he), fun c S s0 sS => c S s0 fun e he => sS e ((h e).mpr he)⟩
theorem enum_at {α : Type} (f : α → W) (xs : List α) {i : Nat} {w : W} (h : (enumFrom 0 (xs.map f))[i]? = some w) : ∃ hi : i < xs.length, w = .tup [.int ((i : Nat) : Int), f xs[i]] := by
  rw [enum_get, Nat.zero_add, List.getElem?_map] at h
  by_cases hi : i < xs.length
  · rw [List.getElem?_eq_getElem hi] at h
    simp only [Option.map_some, Option.some.injEq] at h
    exact ⟨hi, h.symm⟩
  · rw [List.getElem?_eq_none (by omega)] at h
    cases h
def sp__law_losable : Spw := fun ws G Q E => ∃ (n : Nat) (ls : List Ln), ws = [netW n ls] ∧ (Net n ls) ∧ tellL (natsW (dueL n ls)) Q G
theorem len__law_losable (ws G Q E) (h : sp__law_losable ws G Q E) : ws.length = 1 := by obtain ⟨_, _, rfl, _⟩ := h; rfl
/-- slots: _law_net_here 0, _law_found 1, _law_lost 2, _law_met 3, _law_turn 4, _law_k 5, _law_line_here 6 -/
def t__law_losable_b1 : TSw := (wIfS (wAnd (wTest (wOp wNe (wVar 5) (wVar 2))) (wOr (wTest (wOp (wDIn false) (wOp wIx (wVar 6) (wC (.int 0))) (wVar 3))) (wTest (wOp (wDIn false) (wOp wIx (wVar 6) (wC (.int 1))) (wVar 3))))) (wSeq (wDPut (wVar 3) (wOp wIx (wVar 6) (wC (.int 0))) (wC (.bl true)))
    (wDPut (wVar 3) (wOp wIx (wVar 6) (wC (.int 1))) (wC (.bl true)))) wNext)
def t__law_losable_b2 : TSw := (wFor [false, false, false, false, true, true, true] (i_enumG (wCons (wOp wIx (wVar 0) (wC (.int 1))) wNil)) (gT 2 (gsC (gN 5) (gsC (gN 6) gsN))) t__law_losable_b1)
def t__law_losable_r1 : TSw := (wIfS (wTest (wOp wEq (wCB wLenD (wCons (wVar 3) wNil)) (wOp wIx (wVar 0) (wC (.int 0))))) (wDrop (wBM wM_append (wVar 1) (wCons (wVar 2) wNil))) wNext)
def t__law_losable_b3 : TSw := (wSeq (wAsg (wDOne (wC (.int 0)) (wC (.bl true))) (gN 3))
    (wSeq (wFor [false, false, false, false, true, true, true] (iR1 (wCons (wOp wIx (wVar 0) (wC (.int 0))) wNil)) (gN 4) t__law_losable_b2)
    t__law_losable_r1))
def t__law_losable : TSw := (wSeq (wAsg (wLstM wNil) (gN 1))
    (wSeq (wFor [false, false, true, true, true, true, true] (iR1 (wCons (wCB wLen (wCons (wOp wIx (wVar 0) (wC (.int 1))) wNil)) wNil)) (gN 2) t__law_losable_b3)
    (wRet (wVar 1))))
theorem rd__law_losable (ws : List W) (G : Gp) (Q : QW) (E) (h : sp__law_losable ws G Q E) : t__law_losable { nx := fun _ G' => Q .non G', rt := Cl Q } (startW ["_law_net_here", "_law_found", "_law_lost", "_law_met", "_law_turn", "_law_k", "_law_line_here"] ws) G := by
  obtain ⟨n, ls, rfl, net, q⟩ := h
  show t__law_losable _ [some (netW n ls), none, none, none, none, none, none] G
  unfold t__law_losable
  walk_at "w"
  have big : 1000 < sizeLine := by decide
  have few := net.few
  have n4 := net.n4
  have n1 := net.n1
  refine ⟨by decide, fun r hr => ?_⟩
  refine ⟨by omega, by omega, ?_⟩
  refine forW_range (fun k σ G1 => k ≤ ls.length ∧ Trash (gup G r (.lst (natsW ((List.range k).filter fun k => connB n (edges (dropL ls k)))))) G1 ∧ σ = [some (netW n ls), some (.ref r), none, none, none, none, none]) ⟨by omega, Trash.refl, rfl⟩ ?_ ?_
  · rintro k hk σ G1 N ⟨_, tr, rfl⟩ hN
    have hk1 : k < ls.length := by omega
    have nf := List.length_filter_le (fun k => connB n (edges (dropL ls k))) (List.range k)
    rw [List.length_range] at nf
    generalize hf : (List.range k).filter (fun k => connB n (edges (dropL ls k))) = fs at nf hN tr ⊢
    unfold t__law_losable_b3
    walk_at "w"
    intro d hd
    have gr := tr.at gup_same
    have nd : r ≠ d := fun z => by rw [← z, gr] at hd; cases hd
    walk_at "w"
    rw [Int.zero_add]
    refine ⟨by omega, by omega, ?_⟩
    have es : ∀ e ∈ keepE ls k ls.length, e.1 < n ∧ e.2 < n := fun e he => by
      obtain ⟨l, hl, rfl⟩ := List.mem_map.mp (keepE_mem.mp he)
      have := net.ok l (drop_mem hl)
      exact ⟨this.a, this.b⟩
    refine forW_range (fun t σ G2 => G2 = gup G1 d (.dic (metD (roundsM (keepE ls k ls.length) t))) ∧ σ = [some (netW n ls), some (.ref r), some (.int ((k : Nat) : Int)), some (.ref d), none, none, none]) ⟨rfl, rfl⟩ ?_ ?_
    · rintro t ht σ G2 N2 ⟨rfl, rfl⟩ hN2
      have lm : (roundsM (keepE ls k ls.length) t).length ≤ n := (full_of_nodup n _ (met_rounds (by omega) es t).1.nd (met_rounds (by omega) es t).1.lt).1
      unfold t__law_losable_b2
      walk_at "w"
      refine forW_ix (fun j σ G3 => j ≤ ls.length ∧ G3 = gup G1 d (.dic (metD ((keepE ls k j).foldl edgeM (roundsM (keepE ls k ls.length) t)))) ∧ σ = [some (netW n ls), some (.ref r), some (.int ((k : Nat) : Int)), some (.ref d), none, none, none]) _ 0 _ _ ⟨by omega, rfl, rfl⟩ ?_ ?_
      · rintro j w hw σ G3 N3 ⟨_, rfl, rfl⟩ hN3
        rw [Nat.zero_add] at hN3 ⊢
        obtain ⟨hj, rfl⟩ := enum_at (fun l => lineW l) ls hw
        have lok := net.ok _ (List.getElem_mem hj)
        rw [keepE_succ hj, List.foldl_append] at hN3
        have sub : ∀ e ∈ keepE ls k j, e ∈ keepE ls k ls.length := fun e he => by
          unfold keepE at he ⊢
          obtain ⟨i, hi, h⟩ := List.mem_filterMap.mp he
          exact List.mem_filterMap.mpr ⟨i, List.mem_range.mpr (by have := List.mem_range.mp hi; omega), h⟩
        have mo := (met_fold es (keepE ls k j) _ sub (met_rounds (by omega) es t).1).1
        have lm2 := (full_of_nodup n _ mo.nd mo.lt).1
        generalize (keepE ls k j).foldl edgeM (roundsM (keepE ls k ls.length) t) = met at hN3 lm2 ⊢
        unfold t__law_losable_b1
        walk_at "w"
        by_cases c : j = k
        · rw [decide_eq_true (show ((j : Nat) : Int) = ((k : Nat) : Int) by omega)]
          walk_at "w"
          rw [if_pos c] at hN3
          exact hN3 _ _ ⟨by omega, rfl, rfl⟩
        · rw [decide_eq_false (show ¬ ((j : Nat) : Int) = ((k : Nat) : Int) by omega)]
          rw [if_neg c] at hN3
          walk_at "w"
          rw [metD_val, metD_val]
          have l1 : (addM met ls[j].a).length ≤ met.length + 1 := by unfold addM; split <;> simp
          rw [metD_put, metD_put, metD_len, metD_len]
          have e : edgeM met ls[j].e = if ls[j].a ∈ met ∨ ls[j].b ∈ met then addM (addM met ls[j].a) ls[j].b else met := rfl
          have e2 : List.foldl edgeM met [ls[j].e] = edgeM met ls[j].e := rfl
          rw [e2, e] at hN3
          by_cases ca : ls[j].a ∈ met
          · rw [if_pos (decide_eq_true ca)]
            rw [if_pos (.inl ca)] at hN3
            exact ⟨by omega, by omega, hN3 _ _ ⟨by omega, rfl, rfl⟩⟩
          · rw [if_neg (by rw [decide_eq_false ca]; decide)]
            by_cases cb : ls[j].b ∈ met
            · rw [if_pos (decide_eq_true cb)]
              rw [if_pos (.inr cb)] at hN3
              exact ⟨by omega, by omega, hN3 _ _ ⟨by omega, rfl, rfl⟩⟩
            · rw [if_neg (by rw [decide_eq_false cb]; decide)]
              rw [if_neg (by simp [ca, cb])] at hN3
              exact hN3 _ _ ⟨by omega, rfl, rfl⟩
      · rintro σ G3 ⟨_, rfl, rfl⟩
        rw [Nat.zero_add, enum_len, List.length_map]
        exact hN2 _ _ ⟨rfl, rfl⟩
    · rintro σ G2 ⟨rfl, rfl⟩
      rw [show ((n : Nat) : Int).toNat = n by omega]
      unfold t__law_losable_r1
      walk_at "w"
      rw [metD_len]
      have e : decide (((roundsM (keepE ls k ls.length) n).length : Int) = ((n : Nat) : Int)) = connB n (edges (dropL ls k)) := by
        refine connB_of ?_
        rw [← conn_congr (fun e => keepE_mem), ← met_end (by omega) es]
        omega
      rw [e]
      have tr2 := tr.new hd (.dic (metD (roundsM (keepE ls k ls.length) n)))
      rw [List.range_succ, List.filter_append, hf, show ([k] : List Nat).filter (fun k => connB n (edges (dropL ls k))) = if connB n (edges (dropL ls k)) = true then [k] else [] by rw [List.filter_cons]; rfl] at hN
      cases c : connB n (edges (dropL ls k)) with
      | true =>
        rw [if_pos rfl]
        rw [gup_ne nd, gr]
        walk_at "w"
        refine ⟨by rw [asL_at (by rw [gup_ne nd]; exact gr)]; rfl, by omega, hN _ _ ⟨by omega, ?_, rfl⟩⟩
        rw [c, show natsW (fs ++ if true = true then [k] else []) = natsW fs ++ [.int ((k : Nat) : Int)] by simp]
        have := tr2.set (p := r) (by rw [gup_same]; simp) (.lst (natsW fs ++ [.int ((k : Nat) : Int)]))
        rw [gup_gup] at this
        exact this
      | false =>
        rw [if_neg (by decide)]
        refine hN _ _ ⟨by omega, ?_, rfl⟩
        rw [c]
        simpa using tr2
  · rintro σ G1 ⟨_, tr, rfl⟩
    walk_at "w"
    rw [show ((ls.length : Nat) : Int).toNat = ls.length by omega] at tr
    exact q.junk hr tr
end WL

namespace WL
open PySem PySem.Spec PyProof.Rows L2
local macro_rules | `(tactic| walk_at "w") => `(tactic| try simp only [↓a_seq, ↓a_asg, ↓a_ifS, ↓a_ret, ↓a_retN, ↓a_next, ↓a_break, ↓a_cont, ↓a_drop, ↓a_for, ↓a_C, ↓a_op, ↓a_un, ↓a_neg, ↓a_CB, ↓a_call, ↓a_nil, ↓a_cons, ↓a_tup, ↓a_lst, ↓a_lstM, ↓a_test, ↓a_and, ↓a_or, ↓a_not, ↓a_yes, ↓a_andV, ↓a_orV, ↓a_notV, ↓a_if, ↓a_isN, ↓a_notN, ↓a_chain, ↓a_BM, ↓a_BM0, ↓a_seqI, ↓a_R1, ↓a_R2, ↓a_zip2, ↓a_zipG2, ↓a_zipG3, ↓a_enumG, ↓a_enum, ↓a_lc, ↓a_lcM, ↓a_lcR, ↓a_forR, ↓a_seqR, ↓a_zip2R, ↓a_zipR, ↓a_lstRg, ↓a_lstRgM, ↓a_lcP, ↓a_slice, ↓a_sliceM, ↓a_pN, ↓a_pS, ↓a_augIx, ↓a_gIx, ↓a_par, ↓a_setF, ↓a_meth, ↓a_make, ↓a_makeZ, ↓a_dnew, ↓a_done, ↓a_dput, ↓a_dget, ↓a_din, ↓a_lenD, ↓v_0, ↓g_0, ↓u_0, ↓v_1, ↓g_1, ↓u_1, ↓v_2, ↓g_2, ↓u_2, ↓v_3, ↓g_3, ↓u_3, ↓v_4, ↓g_4, ↓u_4, ↓v_5, ↓g_5, ↓u_5, ↓v_6, ↓g_6, ↓u_6, ↓v_7, ↓g_7, ↓u_7, ↓v_8, ↓g_8, ↓u_8, ↓v_9, ↓g_9, ↓u_9, ↓v_10, ↓g_10, ↓u_10, ↓v_11, ↓g_11, ↓u_11, ↓v_12, ↓g_12, ↓u_12, ↓v_13, ↓g_13, ↓u_13, ↓v_14, ↓g_14, ↓u_14, ↓v_15, ↓g_15, ↓u_15, ↓v_16, ↓g_16, ↓u_16, ↓v_17, ↓g_17, ↓u_17, ↓v_18, ↓g_18, ↓u_18, ↓v_19, ↓g_19, ↓u_19, ↓v_20, ↓g_20, ↓u_20, ↓v_21, ↓g_21, ↓u_21, ↓v_22, ↓g_22, ↓u_22, ↓v_23, ↓g_23, ↓u_23, ↓v_24, ↓g_24, ↓u_24, ↓v_25, ↓g_25, ↓u_25, ↓f_0, ↓fl_0, ↓fn_0, ↓f_1, ↓fl_1, ↓fn_1, ↓f_2, ↓fl_2, ↓fn_2, ↓f_3, ↓fl_3, ↓fn_3, ↓f_4, ↓fl_4, ↓fn_4, ↓f_5, ↓fl_5, ↓fn_5, ↓f_6, ↓fl_6, ↓fn_6, ↓f_7, ↓fl_7, ↓fn_7, ↓f_8, ↓fl_8, ↓fn_8, ↓f_9, ↓fl_9, ↓fn_9, ↓f_10, ↓fl_10, ↓fn_10, ↓f_11, ↓fl_11, ↓fn_11, ↓f_12, ↓fl_12, ↓fn_12, ↓f_13, ↓fl_13, ↓fn_13, ↓f_14, ↓fl_14, ↓fn_14, ↓f_15, ↓fl_15, ↓fn_15, ↓f_16, ↓fl_16, ↓fn_16, ↓f_17, ↓fl_17, ↓fn_17, ↓f_18, ↓fl_18, ↓fn_18, ↓f_19, ↓fl_19, ↓fn_19, ↓f_20, ↓fl_20, ↓fn_20, ↓f_21, ↓fl_21, ↓fn_21, ↓f_22, ↓fl_22, ↓fn_22, ↓f_23, ↓fl_23, ↓fn_23, ↓f_24, ↓fl_24, ↓fn_24, ↓f_25, ↓fl_25, ↓fn_25, ↓asL_lst, ↓asL_scr, ↓asL_gup, ↓wIx_tup, ↓wIx_lst, ↓wIx_scr, ↓wIx_ref, ↓wIx_str, ↓wAdd_int, ↓wAdd_str, ↓wAdd_tup, ↓wAdd_lst, ↓wII_int, ↓wI2_int, ↓wI1_int, ↓wI1N_int, ↓wI2N_int, ↓wLen_tup, ↓wLen_lst, ↓wLen_scr, ↓wLen_ref, ↓wLen_str, ↓wInt_int, ↓wInt_bl, ↓wStrI_int, ↓wEq_int, ↓wEq_str, ↓wEq_bl, ↓wNe_bl, ↓wNe_int, ↓wNe_str, ↓wEq_tup, ↓wNe_tup, ↓wEq_lst, ↓wNe_lst, ↓setIx_ref, ↓gT_tup, ↓gT_lst, ↓gT_ref, ↓gsC_cons, ↓gsN_nil, ↓wAppend_ref, ↓wPop_ref, ↓wExtend_ref, ↓rgO_int, ↓wAddM_lst, ↓wIsB_bl, ↓wReverse_ref, ↓wRepT_tup, ↓wNotB_bl, ↓wInD_lst, ↓wPopAt_ref, ↓wInsert_ref, ↓refR_ref, ↓seqOf_tup, ↓seqOf_lst, ↓seqOf_scr, ↓seqOf_ref, ↓rng1_int, ↓rng2_int, ↓wIsi_non, ↓wIsi_bl, ↓wIsi_int, ↓wIsi_str, ↓wIsi_tup, ↓wIsi_lst, ↓wIsi_ref, ↓wAll_lst, ↓wAny_lst, ↓wSum_lst, ↓wTuple_tup, ↓wTuple_lst, ↓wTuple_ref, ↓wList_tup, ↓wList_lst, ↓wList_ref, ↓wListM_tup, ↓wListM_lst, ↓wCut_tup, ↓wCut_lst, ↓wCut_ref, ↓wCut_str, ↓wRep_lst, ↓wRepM_lst, ↓zipOf_tup, ↓zipOf_lst, ↓enumOf_lst, ↓enumOf_scr, ↓zipG2_eq, ↓zipG3_eq, ↓enumG_eq, ↓wSorted_eq, ↓wSortedM_eq, ↓wClear_ref, ↓wGet_ref, ↓truO_bl, ↓intO_int, ↓isS_some, ↓isG_lst, ↓setF_ref, ↓isI_ins, ↓dPut_ref, ↓isD_dic, ↓insOf_gup, ↓dicOf_gup, keyOf, nk, rangeW_length, sset, skill, swipe, swipe.sforget, lcW, wIn, seqs, inW, eqW, flatW, kdIs, isNon, gup_same, gup_gup, at0, at1, at2, at3, at4, at5, at6, at7, ix0, ix1, ix2, ix3, ix4, ix5, W.bl.injEq, exists_eq_left', List.length_cons, List.length_nil, List.length_map, Nat.zero_add, Nat.reduceAdd, List.set, List.map_cons, List.map_nil, Option.isSome_some, List.all_cons, List.all_nil, List.any_cons, List.any_nil, List.cons_append, List.nil_append, Bool.and_true, Bool.and_self, Bool.or_false, Bool.true_and, Bool.false_and, Bool.and_false, true_and, decide_true, decide_false, Bool.not_true, Bool.not_false, Bool.not_not, Bool.false_eq_true, if_true, if_false, ite_self, beq_self_eq_true])

theorem inv_parts (x : Rat) (h : x ≠ 0) : (1 / x).num = (x.den : Int) * (if x.num < 0 then -1 else 1) ∧ (((1 / x).den : Nat) : Int) = ((x.num.natAbs : Nat) : Int) := by
  have hn : x.num ≠ 0 := num_ne h
  rw [show (1 : Rat) / x = x⁻¹ by grind]
  by_cases c : x.num < 0
  · rw [if_pos c]
    have e : x⁻¹ = ⟨-(x.den : Int), x.num.natAbs, by omega, by simpa [Nat.Coprime, Nat.gcd_comm] using x.reduced⟩ := by
      show Rat.inv x = _
      unfold Rat.inv
      rw [dif_pos c]
    rw [e]
    exact ⟨by show -(x.den : Int) = _; omega, by rfl⟩
  · rw [if_neg c]
    have p : 0 < x.num := by omega
    have e : x⁻¹ = ⟨(x.den : Int), x.num.natAbs, by omega, by simpa [Nat.Coprime, Nat.gcd_comm] using x.reduced⟩ := by
      show Rat.inv x = _
      unfold Rat.inv
      rw [dif_neg c, dif_pos p]
    rw [e]
    exact ⟨by show (x.den : Int) = _; omega, rfl⟩
/-- the rows half settled -/
def mixL (S : List (List Rat)) (k j : Nat) : List (List Rat) := (List.range S.length).map fun i => if i < j ∨ i = k then (stepL S k).getD i [] else S.getD i []
theorem mix_len {S : List (List Rat)} {k j : Nat} : (mixL S k j).length = S.length := by simp [mixL]
theorem mix_get {S : List (List Rat)} {k j i : Nat} (hi : i < S.length) : (mixL S k j).getD i [] = if i < j ∨ i = k then (stepL S k).getD i [] else S.getD i [] := by
  unfold mixL; simp [List.getD_eq_getElem?_getD, hi]
theorem step_get {S : List (List Rat)} {k i : Nat} (hk : k < S.length) (hi : i < S.length) : (stepL S k).getD i [] = if i = k then leadL S k else lessL (S.getD i []) ((S.getD i []).getD k 0) (leadL S k) := by
  unfold stepL
  by_cases c : i = k
  · subst c; simp [List.getD_eq_getElem?_getD, hi]
  · rw [if_neg c]; simp [List.getD_eq_getElem?_getD, List.getElem?_set, Ne.symm c, hi]
theorem ext_getD {A B : List (List Rat)} (h : A.length = B.length) (e : ∀ i, i < A.length → A.getD i [] = B.getD i []) : A = B :=
  List.ext_getElem h fun i h1 h2 => by have := e i h1; simpa [List.getD_eq_getElem?_getD, h1, h2] using this
theorem set_getD {A : List (List Rat)} {k i : Nat} {r : List Rat} (hk : k < A.length) : (A.set k r).getD i [] = if i = k then r else A.getD i [] := by
  by_cases c : i = k
  · subst c; simp [List.getD_eq_getElem?_getD, hk]
  · rw [if_neg c]; simp [List.getD_eq_getElem?_getD, List.getElem?_set, Ne.symm c]
theorem mix_zero {S : List (List Rat)} {k : Nat} (hk : k < S.length) : S.set k (leadL S k) = mixL S k 0 := by
  refine ext_getD (by rw [mix_len, List.length_set]) fun i hi => ?_
  rw [List.length_set] at hi
  rw [mix_get hi, set_getD hk, step_get hk hi]
  by_cases c : i = k
  · rw [if_pos c, if_pos (.inr c), if_pos c]
  · rw [if_neg c, if_neg (by omega)]
theorem mix_full {S : List (List Rat)} {k : Nat} (hk : k < S.length) : mixL S k S.length = stepL S k := by
  refine ext_getD (by rw [mix_len, stepL_len]) fun i hi => ?_
  rw [mix_len] at hi
  rw [mix_get hi, if_pos (.inl hi)]
theorem mix_at {S : List (List Rat)} {k j : Nat} (hk : k < S.length) (hj : j < S.length) (ne : j ≠ k) : (mixL S k j).set j (lessL (S.getD j []) ((S.getD j []).getD k 0) (leadL S k)) = mixL S k (j + 1) := by
  refine ext_getD (by rw [List.length_set, mix_len, mix_len]) fun i hi => ?_
  rw [List.length_set, mix_len] at hi
  rw [set_getD (by rw [mix_len]; exact hj), mix_get hi, mix_get hi]
  by_cases c : i = j
  · subst c
    rw [if_pos rfl, if_pos (.inl (by omega)), step_get hk hi, if_neg ne]
  · rw [if_neg c]
    by_cases d : i < j ∨ i = k
    · rw [if_pos d, if_pos (by omega)]
    · rw [if_neg d, if_neg (by omega)]
theorem mix_skip {S : List (List Rat)} {k : Nat} : mixL S k k = mixL S k (k + 1) := by
  unfold mixL
  refine List.map_congr_left fun i _ => ?_
  by_cases d : i < k ∨ i = k
  · rw [if_pos d, if_pos (by omega)]
  · rw [if_neg d, if_neg (by omega)]
def sp__law_solved : Spw := fun ws G Q E => ∃ (T : List (List Rat)) (bs : List Rat) (b : Nat) (n : Nat), ws = [.lst (rowsW T), .lst (bs.map fun q => fr q)] ∧ (Table n b T bs) ∧ (Nonsing n (ent T)) ∧ ∀ x : List Rat, x.length = n → (∀ i, i < n → sm n (fun c => ent T i c * x.getD c 0) = bs.getD i 0) → (∀ q ∈ x, sz (bd b n) q) → tellL (x.map fun q => fr q) Q G
theorem len__law_solved (ws G Q E) (h : sp__law_solved ws G Q E) : ws.length = 2 := by obtain ⟨_, _, _, _, rfl, _⟩ := h; rfl
/-- slots: _law_table 0, _law_right 1, _law_rows 2, _law_k 3, _law_at 4, _law_back 5, _law_i 6, _law_factor 7, _law_row 8, _law_one 9, _law_other 10 -/
def t__law_solved_b1 : TSw := (wAsg (wOp wAdd (wVar 4) (wC (.int 1))) (gN 4))
def t__law_solved_b2 : TSw := (wIfS (wTest (wOp wNe (wVar 6) (wVar 3))) (wSeq (wAsg (wOp wIx (wOp wIx (wVar 2) (wVar 6)) (wVar 3)) (gN 7))
    (wAsg (wLc [9, 10] (i_zipG2 (wCons (wOp wIx (wVar 2) (wVar 6)) (wCons (wOp wIx (wVar 2) (wVar 3)) wNil))) (gT 2 (gsC (gN 9) (gsC (gN 10) gsN))) wYes (wCall sp__law_minus (wCons (wVar 9) (wCons (wCall sp__law_times (wCons (wVar 7) (wCons (wVar 10) wNil))) wNil)))) (gIx (wVar 2) (wVar 6)))) wNext)
def t__law_solved_r1 : TSw := (wSeq (wAsg (wTup (wCons (wOp wIx (wVar 2) (wVar 4)) (wCons (wOp wIx (wVar 2) (wVar 3)) wNil))) (gT 2 (gsC (gIx (wVar 2) (wVar 3)) (gsC (gIx (wVar 2) (wVar 4)) gsN))))
    (wSeq (wAsg (wTup (wCons (wOp wMul (wOp wIx (wOp wIx (wOp wIx (wVar 2) (wVar 3)) (wVar 3)) (wC (.int 1))) (wOp wIx (wLst (wCons (wC (.int 1)) (wCons (wNeg (wC (.int 1))) wNil))) (wCB wInt (wCons (wOp wLt (wOp wIx (wOp wIx (wOp wIx (wVar 2) (wVar 3)) (wVar 3)) (wC (.int 0))) (wC (.int 0))) wNil)))) (wCons (wCB (wI1N fun i => .int (if i < 0 then -i else i)) (wCons (wOp wIx (wOp wIx (wOp wIx (wVar 2) (wVar 3)) (wVar 3)) (wC (.int 0))) wNil)) wNil))) (gN 5))
    (wSeq (wAsg (wLc [9] (iSeqW (wOp wIx (wVar 2) (wVar 3))) (gN 9) wYes (wCall sp__law_times (wCons (wVar 9) (wCons (wVar 5) wNil)))) (gIx (wVar 2) (wVar 3)))
    (wFor [true, true, false, false, true, true, true, true, true, true, true] (iR1 (wCons (wCB wLen (wCons (wVar 2) wNil)) wNil)) (gN 6) t__law_solved_b2))))
def t__law_solved_b3 : TSw := (wSeq (wAsg (wVar 3) (gN 4))
    (wSeq (wWhile [true, true, false, false, false, true, true, true, true, true, true] (wTest (wOp wEq (wOp wIx (wOp wIx (wOp wIx (wVar 2) (wVar 4)) (wVar 3)) (wC (.int 0))) (wC (.int 0)))) t__law_solved_b1)
    t__law_solved_r1))
def t__law_solved_r2 : TSw := (wRet (wLcM [8] (iSeqW (wVar 2)) (gN 8) wYes (wOp wIx (wVar 8) (wNeg (wC (.int 1))))))
def t__law_solved : TSw := (wSeq (wAsg (wLcM [8, 9] (i_zipG2 (wCons (wVar 0) (wCons (wVar 1) wNil))) (gT 2 (gsC (gN 8) (gsC (gN 9) gsN))) wYes (wOp wAdd (wCB wList (wCons (wVar 8) wNil)) (wLst (wCons (wVar 9) wNil)))) (gN 2))
    (wSeq (wFor [true, true, false, true, true, true, true, true, true, true, true] (iR1 (wCons (wCB wLen (wCons (wVar 2) wNil)) wNil)) (gN 3) t__law_solved_b3)
    t__law_solved_r2))
theorem rd__law_solved (ws : List W) (G : Gp) (Q : QW) (E) (h : sp__law_solved ws G Q E) : t__law_solved { nx := fun _ G' => Q .non G', rt := Cl Q } (startW ["_law_table", "_law_right", "_law_rows", "_law_k", "_law_at", "_law_back", "_law_i", "_law_factor", "_law_row", "_law_one", "_law_other"] ws) G := by
  obtain ⟨T, bs, b, n, rfl, tb, ns, q⟩ := h
  show t__law_solved _ [some (.lst (rowsW T)), some (.lst (bs.map fun q => fr q)), none, none, none, none, none, none, none, none, none] G
  unfold t__law_solved
  walk_at "w"
  have few := tb.few
  have big : 1000 ≤ sizeLine := by decide
  have zr : ∀ (T : List (List Rat)) (bs : List Rat), (rowsW T).zipWith tup2 (bs.map fun q => fr q) = (T.zip bs).map fun x => .tup [rowW x.1, fr x.2] := by
    intro T
    induction T with
    | nil => intro _; rfl
    | cons r T ih =>
      intro bs
      cases bs with
      | nil => rfl
      | cons q bs => exact congrArg _ (ih bs)
  rw [zr]
  refine ⟨by rw [List.length_map, List.length_zip, tb.len, tb.lenb]; omega, ?_⟩
  refine lcW_mapA (fun x : List Rat × Rat => .tup [rowW x.1, fr x.2]) (fun x => rowW (x.1 ++ [x.2])) _ _ _ ?_ ?_
  · rintro ⟨r, q⟩ hx P hP
    obtain ⟨hr, hq⟩ := List.of_mem_zip hx
    walk_at "w"
    have lr : r.length = n := tb.tall r hr
    have e : (r.map fun q => fr q) ++ [fr q] = (r ++ [q]).map fun q => fr q := by simp
    rw [e]
    exact ⟨by decide, by omega, hP⟩
  · intro p hp
    walk_at "w"
    have zl : (T.zip bs).length = n := by rw [List.length_zip, tb.len, tb.lenb]; omega
    have eR : (T.zip bs).map (fun x => rowW (x.1 ++ [x.2])) = rowsW (augL T bs) := by unfold augL rowsW; rw [List.map_map]; rfl
    rw [zl, eR]
    refine ⟨by omega, by omega, ?_⟩
    refine forW_range (fun i σ G1 => ∃ R, Keeps n b (augL T bs) R i ∧ G1 = gup G p (.lst (rowsW R)) ∧ σ = [none, none, some (.ref p), none, none, none, none, none, none, none, none]) ⟨_, aug_keeps tb, rfl, rfl⟩ ?_ ?_
    · rintro i hi σ G1 N ⟨R, kp, rfl, rfl⟩ hN
      have hin : i < n := by omega
      have lR := kp.len
      unfold t__law_solved_b3
      walk_at "w"
      rw [Int.zero_add]
      refine ⟨fun m σ G1 => G1 = gup G p (.lst (rowsW R)) ∧ ∃ k : Nat, i ≤ k ∧ k < n ∧ m = n - k ∧ (∀ j, i ≤ j → j < k → ent R j i = 0) ∧ σ = [none, none, some (.ref p), some (.int ((i : Nat) : Int)), some (.int ((k : Nat) : Int)), none, none, none, none, none, none], ⟨_, rfl, i, Nat.le_refl _, hin, rfl, fun j h1 h2 => by omega, rfl⟩, ?_⟩
      rintro m σ G1 ⟨rfl, k, ik, kn, rfl, z, rfl⟩
      have h2 : k < R.length := by omega
      walk_at "w"
      rw [atI_rows h2]
      walk_at "w"
      rw [atI_frs (by rw [kp.tall _ (getD_mem h2)]; omega)]
      walk_at "w"
      have eent : (R.getD k []).getD i 0 = ent R k i := rfl
      rw [eent]
      by_cases hz : (ent R k i).num = 0
      · have hz0 : ent R k i = 0 := Rat.num_eq_zero.mp hz
        rw [if_pos (decide_eq_true hz)]
        unfold t__law_solved_b1
        walk_at "w"
        have kn1 : k + 1 < n := by
          rcases Nat.lt_or_ge (k + 1) n with c | c
          · exact c
          · exact (keeps_stop tb kp hin (fun j h1 h3 => by
              rcases Nat.lt_or_ge j k with d | d
              · exact z j h1 d
              · rw [show j = k by omega]; exact hz0) ns).elim
        refine ⟨n - (k + 1), by omega, k + 1, by omega, kn1, rfl, fun j h1 h3 => ?_, rfl⟩
        rcases Nat.lt_or_ge j k with d | d
        · exact z j h1 d
        · rw [show j = k by omega]; exact hz0
      · have hz0 : ent R k i ≠ 0 := fun e => hz (Rat.num_eq_zero.mpr e)
        rw [if_neg (by rw [decide_eq_false hz]; decide)]
        have il : i < R.length := by omega
        obtain ⟨nz, kp2⟩ := kp.step hin kn ik hz0
        have bS : AllSz (bd b i) (swapL R i k) := swapL_all kp.all il h2
        have tS : Tall (swapL R i k) (n + 1) := swapL_tall kp.tall il h2
        have lS : (swapL R i k).length = n := by rw [swapL_len]; exact lR
        have iS : i < (swapL R i k).length := by omega
        have bmon : bd b i ≤ 30000000 := Nat.le_trans (bd_mono (by omega)) tb.small
        have hpi : sz (bd b i) (ent (swapL R i k) i i) := ent_sz bS tS iS (by omega)
        unfold t__law_solved_r1
        walk_at "w"
        rw [atI_rows h2]
        walk_at "w"
        rw [atI_rows il]
        walk_at "w"
        refine ⟨by decide, ?_⟩
        rw [ixN_natW il]
        walk_at "w"
        rw [ixN_natW (by rw [List.length_set, List.length_map]; exact h2)]
        walk_at "w"
        rw [rows_swap]
        generalize hS : swapL R i k = S at *
        rw [atI_rows iS]
        walk_at "w"
        rw [atI_frs (by rw [tS _ (getD_mem iS)]; omega)]
        walk_at "w"
        have eS : (S.getD i []).getD i 0 = ent S i i := rfl
        rw [eS]
        have tl : i < (S.getD i []).length := by rw [tS _ (getD_mem iS)]; omega
        have sgn : ∀ x : Int, L2.atI [W.int 1, W.int (-1)] (if decide (x < 0) = true then 1 else 0) = some (.int (if x < 0 then -1 else 1)) := fun x => by
          by_cases c : x < 0
          · rw [if_pos (decide_eq_true c), if_pos c]; rfl
          · rw [if_neg (by rw [decide_eq_false c]; decide), if_neg c]; rfl
        obtain ⟨i1, i2⟩ := inv_parts _ nz
        refine ⟨by decide, ?_⟩
        rw [atI_rows iS]
        walk_at "w"
        rw [atI_frs tl]
        walk_at "w"
        rw [eS, sgn]
        walk_at "w"
        refine ⟨cmX (sz_den hpi) (b := 1) (by split <;> decide) (sz_pos hpi) (by decide) (by omega), ?_⟩
        rw [atI_rows iS]
        walk_at "w"
        rw [atI_frs tl]
        walk_at "w"
        rw [eS]
        refine ⟨by decide, ?_⟩
        rw [atI_rows iS]
        walk_at "w"
        have eB : W.tup [.int (((ent S i i).den : Int) * (if (ent S i i).num < 0 then -1 else 1)), .int (if (ent S i i).num < 0 then -(ent S i i).num else (ent S i i).num)] = fr (1 / ent S i i) := by
          show _ = W.tup [.int (1 / ent S i i).num, .int (((1 / ent S i i).den : Nat) : Int)]
          rw [i1, i2, show (if (ent S i i).num < 0 then -(ent S i i).num else (ent S i i).num) = (((ent S i i).num.natAbs : Nat) : Int) by split <;> omega]
        rw [eB]
        refine ⟨by rw [tS _ (getD_mem iS)]; omega, ?_⟩
        have sinv : sz (bd b i) (1 / ent S i i) := by
          refine ⟨?_, ?_⟩
          · rw [i1, Int.natAbs_mul]
            have := sz_den hpi
            split <;> simpa using this
          · have := sz_num hpi
            omega
        refine lcW_mapA (fun q : Rat => fr q) (fun q => fr (q / ent S i i)) _ _ _ ?_ ?_
        · intro q hq P hP
          walk_at "w"
          refine ⟨q, 1 / ent S i i, rfl, ⟨bd b i, bd b i, bS _ (getD_mem iS) q hq, sinv, by omega⟩, ?_⟩
          rw [show q * (1 / ent S i i) = q / ent S i i by grind]
          exact hP
        · walk_at "w"
          have eL : (List.map (fun q => fr (q / ent S i i)) (S.getD i [])) = (leadL S i).map fun q => fr q := by unfold leadL; rw [List.map_map]; rfl
          rw [eL, ixN_natW iS]
          walk_at "w"
          have e0 : (rowsW S).set i (.lst ((leadL S i).map fun q => fr q)) = rowsW (mixL S i 0) := by
            rw [← mix_zero iS]
            unfold rowsW
            rw [List.map_set]
          rw [e0, List.length_map, mix_len, lS]
          refine ⟨by omega, by omega, ?_⟩
          have lL : (leadL S i).length = n + 1 := leadL_len tS iS
          have sL := lead_sz bS tS iS (by omega) nz
          refine forW_range (fun j σ G1 => G1 = gup G p (.lst (rowsW (mixL S i j))) ∧ σ = [none, none, some (.ref p), some (.int ((i : Nat) : Int)), none, none, none, none, none, none, none]) ⟨rfl, rfl⟩ ?_ ?_
          · rintro j hj σ G1 N2 ⟨rfl, rfl⟩ hN2
            have hjn : j < n := by omega
            have jS : j < S.length := by omega
            have lM : (mixL S i j).length = n := by rw [mix_len]; exact lS
            unfold t__law_solved_b2
            walk_at "w"
            rw [Int.zero_add]
            by_cases c : j = i
            · subst c
              rw [decide_eq_true rfl]
              walk_at "w"
              refine hN2 _ _ ⟨?_, rfl⟩
              rw [mix_skip]
            · rw [decide_eq_false (show ¬ ((j : Nat) : Int) = ((i : Nat) : Int) by omega)]
              walk_at "w"
              have gj : (mixL S i j).getD j [] = S.getD j [] := by rw [mix_get jS, if_neg (by omega)]
              have gi : (mixL S i j).getD i [] = leadL S i := by rw [mix_get iS, if_pos (.inr rfl), step_get iS iS, if_pos rfl]
              have lj : (S.getD j []).length = n + 1 := tS _ (getD_mem jS)
              rw [atI_rows (by omega), gj]
              walk_at "w"
              rw [atI_frs (by omega)]
              walk_at "w"
              rw [atI_rows (by omega), gj]
              walk_at "w"
              rw [atI_rows (by omega), gi]
              walk_at "w"
              rw [zip_rows]
              refine ⟨by rw [List.length_map, List.length_zip]; omega, ?_⟩
              refine lcW_mapA (fun x : Rat × Rat => .tup [fr x.1, fr x.2]) (fun x => fr (x.1 - (S.getD j []).getD i 0 * x.2)) _ _ _ ?_ ?_
              · rintro ⟨u, v⟩ hx P hP
                obtain ⟨hu, hv⟩ := List.of_mem_zip hx
                have su := bS _ (getD_mem jS) u hu
                have sv := sL v hv
                have sf : sz (bd b i) ((S.getD j []).getD i 0) := getD_sz (bS _ (getD_mem jS)) (by omega)
                walk_at "w"
                refine ⟨_, v, rfl, ⟨_, _, sf, sv, by omega⟩, ?_⟩
                walk_at "w"
                exact ⟨u, _, rfl, ⟨_, _, su, sz_mul sf sv, by omega⟩, hP⟩
              · rw [List.nil_append]
                walk_at "w"
                rw [ixN_natW (by omega)]
                walk_at "w"
                refine hN2 _ _ ⟨?_, rfl⟩
                rw [← mix_at iS jS c]
                unfold rowsW lessL
                rw [List.map_set]
                show _ = gup G p (.lst ((List.map (fun r => rowW r) (mixL S i j)).set j (.lst (List.map (fun q => fr q) _))))
                rw [List.map_map]
                rfl
          · rintro σ G1 ⟨rfl, rfl⟩
            rw [show ((n : Nat) : Int).toNat = S.length by omega, mix_full iS]
            exact hN _ _ ⟨_, kp2, rfl, rfl⟩
    · rintro σ G1 ⟨R, kp, rfl, rfl⟩
      have e : ((n : Nat) : Int).toNat = n := by omega
      rw [e] at kp
      unfold t__law_solved_r2
      walk_at "w"
      rw [gdel_gup hp]
      refine ⟨by rw [kp.len]; omega, ?_⟩
      refine lcW_mapA (fun r : List Rat => rowW r) (fun r => fr (r.getD n 0)) _ _ _ ?_ ?_
      · intro r hr P hP
        walk_at "w"
        rw [atI_last (kp.tall r hr)]
        walk_at "w"
        exact hP
      · intro p2 hp2
        have e : R.map (fun r => fr (r.getD n 0)) = (R.map (fun r => r.getD n 0)).map fun q => fr q := by rw [List.map_map]; rfl
        rw [List.nil_append, e]
        refine (q _ (by rw [List.length_map]; exact kp.len) (fun i hi => keeps_sol tb kp hi) fun z hz => ?_).cl hp2
        obtain ⟨r, hr, rfl⟩ := List.mem_map.mp hz
        exact getD_sz (kp.all r hr) (by rw [kp.tall r hr]; omega)
end WL

namespace WL
open PySem PySem.Spec PyProof.Rows L2

/-! ### a list of lists that are changed -/
structure NstW (G : Gp) (ps : List Addr) (rs : List (List W)) (G1 : Gp) : Prop where
  nd : ps.Nodup
  len : rs.length = ps.length
  here : ∀ i (h : i < ps.length), G1 ps[i] = some (.lst (rs.getD i []))
  out : ∀ q, q ∉ ps → G1 q = G q
  new : ∀ p ∈ ps, G p = none
theorem NstW.nil {G : Gp} : NstW G [] [] G := ⟨List.nodup_nil, rfl, fun i h => absurd h (by simp), fun _ _ => rfl, fun _ h => by cases h⟩
theorem NstW.some {G G1 : Gp} {ps : List Addr} {rs : List (List W)} (h : NstW G ps rs G1) {p : Addr} (hp : p ∈ ps) : G1 p ≠ none := by
  obtain ⟨i, hi, rfl⟩ := List.getElem_of_mem hp
  rw [h.here i hi]; simp
theorem NstW.push {G G1 : Gp} {ps : List Addr} {rs : List (List W)} (h : NstW G ps rs G1) {p : Addr} (n : G1 p = none) (r : List W) : NstW G (ps ++ [p]) (rs ++ [r]) (gup G1 p (.lst r)) := by
  have np : p ∉ ps := fun z => h.some z n
  refine ⟨?_, by rw [List.length_append, List.length_append, h.len]; rfl, fun i hi => ?_, fun q hq => ?_, fun q hq => ?_⟩
  · rw [List.nodup_append]
    refine ⟨h.nd, by simp, fun a ha b hb z => ?_⟩
    rw [List.mem_singleton] at hb
    exact np (by rw [← hb, ← z]; exact ha)
  · rw [List.length_append, List.length_singleton] at hi
    by_cases c : i < ps.length
    · rw [List.getElem_append_left c, gup_ne (fun z => np (by rw [← z]; exact List.getElem_mem c)), h.here i c]
      have : i < rs.length := by rw [h.len]; exact c
      simp [List.getD_eq_getElem?_getD, List.getElem?_append_left this]
    · have e : i = ps.length := by omega
      subst e
      have e2 : (rs ++ [r]).getD ps.length [] = r := by rw [← h.len]; simp [List.getD_eq_getElem?_getD]
      rw [e2, List.getElem_concat_length rfl, gup_same]
  · have : q ≠ p := fun z => hq (List.mem_append.mpr (.inr (by simp [z])))
    rw [gup_ne this]
    exact h.out q fun z => hq (List.mem_append.mpr (.inl z))
  · rcases List.mem_append.mp hq with hq | hq
    · exact h.new q hq
    · rw [List.mem_singleton.mp hq, ← h.out p np]; exact n
theorem NstW.set {G G1 : Gp} {ps : List Addr} {rs : List (List W)} (h : NstW G ps rs G1) {i : Nat} (hi : i < ps.length) (r : List W) : NstW G ps (rs.set i r) (gup G1 ps[i] (.lst r)) := by
  refine ⟨h.nd, by rw [List.length_set]; exact h.len, fun j hj => ?_, fun q hq => ?_, h.new⟩
  · by_cases c : j = i
    · subst c
      rw [gup_same]
      have : j < rs.length := by rw [h.len]; exact hi
      simp [List.getD_eq_getElem?_getD, this]
    · have ne : ps[j] ≠ ps[i] := fun z => by
        have pw := List.pairwise_iff_getElem.mp h.nd
        rcases Nat.lt_or_gt_of_ne c with l | l
        · exact pw j i hj hi l z
        · exact pw i j hi hj l z.symm
      rw [gup_ne ne, h.here j hj]
      simp [List.getD_eq_getElem?_getD, List.getElem?_set, Ne.symm c]
  · rw [gup_ne (fun z => hq (by rw [z]; exact List.getElem_mem hi))]
    exact h.out q hq
theorem NstW.fz {G : Gp} : ∀ {ps : List Addr} {rs : List (List W)} {G1 : Gp} {R : List W → Gp → Prop}, NstW G ps rs G1 → R (rs.map fun r => .lst r) G → fzL (refsW ps) G1 R
  | [], [], G1, R, h, t => by
    have e : G1 = G := by funext q; exact h.out q (by simp)
    show R [] G1
    rw [e]; exact t
  | [], _ :: _, G1, R, h, _ => by have := h.len; simp at this
  | _ :: _, [], G1, R, h, _ => by have := h.len; simp at this
  | p :: ps, r :: rs, G1, R, h, t => by
    have e : G1 p = _ := h.here 0 (by simp)
    show isG (G1 p) fun us => fzL (refsW ps) (gdel G1 p) fun zs G' => R (.lst us :: zs) G'
    rw [e]
    show fzL (refsW ps) (gdel G1 p) fun zs G' => R (.lst r :: zs) G'
    have nd := List.nodup_cons.mp h.nd
    refine NstW.fz (rs := rs) (R := fun zs G' => R (.lst r :: zs) G') ⟨nd.2, by have := h.len; simpa using this, fun i hi => ?_, fun q hq => ?_, fun q hq => h.new q (.tail _ hq)⟩ t
    · have := h.here (i + 1) (by simpa using hi)
      rw [gdel_ne (fun z => nd.1 (by rw [← z]; exact List.getElem_mem hi))]
      simpa using this
    · by_cases c : q = p
      · rw [c, gdel_same]; exact (h.new p (.head _)).symm
      · rw [gdel_ne c]; exact h.out q (by simp [c, hq])
theorem refs_at {ps : List Addr} {i : Nat} (h : i < ps.length) : L2.atI (refsW ps) ((i : Nat) : Int) = some (.ref ps[i]) := by
  rw [L2.atI_nat (j := i) (by rw [List.getElem?_map, List.getElem?_eq_getElem h]; rfl)]
theorem refs_len {ps : List Addr} : (refsW ps).length = ps.length := by simp
end WL


namespace WL
open PySem PySem.Spec PyProof.Rows L2
local macro_rules | `(tactic| walk_at "w") => `(tactic| try simp only [↓a_seq, ↓a_asg, ↓a_ifS, ↓a_ret, ↓a_retN, ↓a_next, ↓a_break, ↓a_cont, ↓a_drop, ↓a_for, ↓a_C, ↓a_op, ↓a_un, ↓a_neg, ↓a_CB, ↓a_call, ↓a_nil, ↓a_cons, ↓a_tup, ↓a_lst, ↓a_lstM, ↓a_test, ↓a_and, ↓a_or, ↓a_not, ↓a_yes, ↓a_andV, ↓a_orV, ↓a_notV, ↓a_if, ↓a_isN, ↓a_notN, ↓a_chain, ↓a_BM, ↓a_BM0, ↓a_seqI, ↓a_R1, ↓a_R2, ↓a_zip2, ↓a_zipG2, ↓a_zipG3, ↓a_enumG, ↓a_enum, ↓a_lc, ↓a_lcM, ↓a_lcR, ↓a_forR, ↓a_seqR, ↓a_zip2R, ↓a_zipR, ↓a_lstRg, ↓a_lstRgM, ↓a_lcP, ↓a_slice, ↓a_sliceM, ↓a_pN, ↓a_pS, ↓a_augIx, ↓a_gIx, ↓a_par, ↓a_setF, ↓a_meth, ↓a_make, ↓a_makeZ, ↓a_dnew, ↓a_done, ↓a_dput, ↓a_dget, ↓a_din, ↓a_lenD, ↓v_0, ↓g_0, ↓u_0, ↓v_1, ↓g_1, ↓u_1, ↓v_2, ↓g_2, ↓u_2, ↓v_3, ↓g_3, ↓u_3, ↓v_4, ↓g_4, ↓u_4, ↓v_5, ↓g_5, ↓u_5, ↓v_6, ↓g_6, ↓u_6, ↓v_7, ↓g_7, ↓u_7, ↓v_8, ↓g_8, ↓u_8, ↓v_9, ↓g_9, ↓u_9, ↓v_10, ↓g_10, ↓u_10, ↓v_11, ↓g_11, ↓u_11, ↓v_12, ↓g_12, ↓u_12, ↓v_13, ↓g_13, ↓u_13, ↓v_14, ↓g_14, ↓u_14, ↓v_15, ↓g_15, ↓u_15, ↓v_16, ↓g_16, ↓u_16, ↓v_17, ↓g_17, ↓u_17, ↓v_18, ↓g_18, ↓u_18, ↓v_19, ↓g_19, ↓u_19, ↓v_20, ↓g_20, ↓u_20, ↓v_21, ↓g_21, ↓u_21, ↓v_22, ↓g_22, ↓u_22, ↓v_23, ↓g_23, ↓u_23, ↓v_24, ↓g_24, ↓u_24, ↓v_25, ↓g_25, ↓u_25, ↓f_0, ↓fl_0, ↓fn_0, ↓f_1, ↓fl_1, ↓fn_1, ↓f_2, ↓fl_2, ↓fn_2, ↓f_3, ↓fl_3, ↓fn_3, ↓f_4, ↓fl_4, ↓fn_4, ↓f_5, ↓fl_5, ↓fn_5, ↓f_6, ↓fl_6, ↓fn_6, ↓f_7, ↓fl_7, ↓fn_7, ↓f_8, ↓fl_8, ↓fn_8, ↓f_9, ↓fl_9, ↓fn_9, ↓f_10, ↓fl_10, ↓fn_10, ↓f_11, ↓fl_11, ↓fn_11, ↓f_12, ↓fl_12, ↓fn_12, ↓f_13, ↓fl_13, ↓fn_13, ↓f_14, ↓fl_14, ↓fn_14, ↓f_15, ↓fl_15, ↓fn_15, ↓f_16, ↓fl_16, ↓fn_16, ↓f_17, ↓fl_17, ↓fn_17, ↓f_18, ↓fl_18, ↓fn_18, ↓f_19, ↓fl_19, ↓fn_19, ↓f_20, ↓fl_20, ↓fn_20, ↓f_21, ↓fl_21, ↓fn_21, ↓f_22, ↓fl_22, ↓fn_22, ↓f_23, ↓fl_23, ↓fn_23, ↓f_24, ↓fl_24, ↓fn_24, ↓f_25, ↓fl_25, ↓fn_25, ↓asL_lst, ↓asL_scr, ↓asL_gup, ↓wIx_tup, ↓wIx_lst, ↓wIx_scr, ↓wIx_ref, ↓wIx_str, ↓wAdd_int, ↓wAdd_str, ↓wAdd_tup, ↓wAdd_lst, ↓wII_int, ↓wI2_int, ↓wI1_int, ↓wI1N_int, ↓wI2N_int, ↓wLen_tup, ↓wLen_lst, ↓wLen_scr, ↓wLen_ref, ↓wLen_str, ↓wInt_int, ↓wInt_bl, ↓wStrI_int, ↓wEq_int, ↓wEq_str, ↓wEq_bl, ↓wNe_bl, ↓wNe_int, ↓wNe_str, ↓wEq_tup, ↓wNe_tup, ↓wEq_lst, ↓wNe_lst, ↓setIx_ref, ↓gT_tup, ↓gT_lst, ↓gT_ref, ↓gsC_cons, ↓gsN_nil, ↓wAppend_ref, ↓wPop_ref, ↓wExtend_ref, ↓rgO_int, ↓wAddM_lst, ↓wIsB_bl, ↓wReverse_ref, ↓wRepT_tup, ↓wNotB_bl, ↓wInD_lst, ↓wPopAt_ref, ↓wInsert_ref, ↓refR_ref, ↓seqOf_tup, ↓seqOf_lst, ↓seqOf_scr, ↓seqOf_ref, ↓rng1_int, ↓rng2_int, ↓wIsi_non, ↓wIsi_bl, ↓wIsi_int, ↓wIsi_str, ↓wIsi_tup, ↓wIsi_lst, ↓wIsi_ref, ↓wAll_lst, ↓wAny_lst, ↓wSum_lst, ↓wTuple_tup, ↓wTuple_lst, ↓wTuple_ref, ↓wList_tup, ↓wList_lst, ↓wList_ref, ↓wListM_tup, ↓wListM_lst, ↓wCut_tup, ↓wCut_lst, ↓wCut_ref, ↓wCut_str, ↓wRep_lst, ↓wRepM_lst, ↓zipOf_tup, ↓zipOf_lst, ↓enumOf_lst, ↓enumOf_scr, ↓zipG2_eq, ↓zipG3_eq, ↓enumG_eq, ↓wSorted_eq, ↓wSortedM_eq, ↓wClear_ref, ↓wGet_ref, ↓truO_bl, ↓intO_int, ↓isS_some, ↓isG_lst, ↓setF_ref, ↓isI_ins, ↓dPut_ref, ↓isD_dic, ↓insOf_gup, ↓dicOf_gup, keyOf, nk, rangeW_length, sset, skill, swipe, swipe.sforget, lcW, wIn, seqs, inW, eqW, flatW, kdIs, isNon, gup_same, gup_gup, at0, at1, at2, at3, at4, at5, at6, at7, ix0, ix1, ix2, ix3, ix4, ix5, W.bl.injEq, exists_eq_left', List.length_cons, List.length_nil, List.length_map, Nat.zero_add, Nat.reduceAdd, List.set, List.map_cons, List.map_nil, Option.isSome_some, List.all_cons, List.all_nil, List.any_cons, List.any_nil, List.cons_append, List.nil_append, Bool.and_true, Bool.and_self, Bool.or_false, Bool.true_and, Bool.false_and, Bool.and_false, true_and, decide_true, decide_false, Bool.not_true, Bool.not_false, Bool.not_not, Bool.false_eq_true, if_true, if_false, ite_self, beq_self_eq_true])

/-! ### streams with a line lost, by heights in what is left -/
def keptI (m : Nat) (lost : Int) : List Nat := (List.range m).filter fun k => decide ((k : Int) ≠ lost)
def keptU (ls : List Ln) (lost : Int) (m : Nat) : List Ln := (keptI m lost).map fun k => ls.getD k ⟨0, 0, 0, 0⟩
def keptL (ls : List Ln) (lost : Int) : List Ln := keptU ls lost ls.length
theorem keptU_succ {ls : List Ln} {lost : Int} {m : Nat} (hm : m < ls.length) : keptU ls lost (m + 1) = keptU ls lost m ++ if (m : Int) = lost then [] else [ls[m]] := by
  unfold keptU keptI
  rw [List.range_succ, List.filter_append, List.map_append]
  congr 1
  by_cases c : (m : Int) = lost
  · simp [c]
  · rw [if_neg c, List.filter_cons_of_pos (by simpa using c)]
    simp [List.getD_eq_getElem?_getD, hm]
theorem keptU_take {ls : List Ln} {lost : Int} (h : lost < 0) : ∀ {m : Nat}, m ≤ ls.length → keptU ls lost m = ls.take m
  | 0, _ => rfl
  | m + 1, hm => by
    rw [keptU_succ (by omega), keptU_take h (by omega), if_neg (by omega), List.take_succ_eq_append_getElem (by omega)]
theorem kept_none {ls : List Ln} : keptL ls (-1) = ls := by
  unfold keptL; rw [keptU_take (by decide) (Nat.le_refl _), List.take_length]
theorem keptU_at {ls : List Ln} {k : Nat} : ∀ {m : Nat}, m ≤ ls.length → keptU ls (k : Int) m = ls.take (min m k) ++ (ls.take m).drop (k + 1)
  | 0, _ => by simp [keptU, keptI]
  | m + 1, hm => by
    rw [keptU_succ (by omega), keptU_at (by omega)]
    rcases Nat.lt_trichotomy m k with c | c | c
    · rw [if_neg (by omega), show min m k = m by omega, show min (m + 1) k = m + 1 by omega, List.drop_of_length_le (by rw [List.length_take]; omega), List.drop_of_length_le (by rw [List.length_take]; omega), List.take_succ_eq_append_getElem (by omega)]
      simp
    · subst c
      rw [if_pos rfl, show min m m = m by omega, show min (m + 1) m = m by omega, List.drop_of_length_le (by rw [List.length_take]; omega), List.drop_of_length_le (by rw [List.length_take]; omega)]
      simp
    · rw [if_neg (by omega), show min m k = k by omega, show min (m + 1) k = k by omega, List.take_succ_eq_append_getElem (by omega), List.drop_append_of_le_length (by rw [List.length_take]; omega), List.append_assoc]
theorem kept_drop {ls : List Ln} {k : Nat} (h : k < ls.length) : keptL ls (k : Int) = dropL ls k := by
  unfold keptL dropL
  rw [keptU_at (Nat.le_refl _), List.take_length, show min ls.length k = k by omega]
theorem net_kept {n : Nat} {ls : List Ln} {l : Int} (net : Net n ls) (h : l ∈ lostsL n ls) : Net n (keptL ls l) := by
  rcases List.mem_cons.mp h with rfl | h
  · rw [kept_none]; exact net
  · obtain ⟨k, hk, rfl⟩ := List.mem_map.mp h
    rw [kept_drop (due_mem hk).1]
    exact net_drop net hk
theorem kept_mem {ls : List Ln} {lost : Int} {m : Nat} {l : Ln} (hm : m ≤ ls.length) (h : l ∈ keptU ls lost m) : l ∈ ls := by
  obtain ⟨k, hk, rfl⟩ := List.mem_map.mp h
  have := List.mem_range.mp (List.mem_filter.mp hk).1
  rw [List.getD_eq_getElem?_getD, List.getElem?_eq_getElem (by omega)]
  exact List.getElem_mem _
def lapH (M : Nat → Nat → Int) (a b s : Nat) : Nat → Nat → Int :=
  let M1 := upd2 M a a (M a a + (s : Int))
  upd2 M1 a b (M1 a b - (s : Int))
theorem lapH_eq {M : Nat → Nat → Int} {l : Ln} (h : l.a ≠ l.b) : lapH (lapH M l.a l.b l.s) l.b l.a l.s = fun i j => M i j + lapZ l i j := by
  funext i j
  unfold lapH upd2 lapZ ind
  by_cases c1 : i = l.a <;> by_cases c2 : i = l.b <;> by_cases c3 : j = l.a <;> by_cases c4 : j = l.b <;> simp [c1, c2, c3, c4, h, Ne.symm h] <;> omega
theorem lapI_kept {ls : List Ln} {lost : Int} {k : Nat} (hk : k < ls.length) (ne : (ls[k]).a ≠ (ls[k]).b) : lapI (keptU ls lost (k + 1)) = if (k : Int) = lost then lapI (keptU ls lost k) else lapH (lapH (lapI (keptU ls lost k)) ls[k].a ls[k].b ls[k].s) ls[k].b ls[k].a ls[k].s := by
  rw [keptU_succ hk]
  by_cases c : (k : Int) = lost
  · rw [if_pos c, if_pos c, List.append_nil]
  · rw [if_neg c, if_neg c, lapH_eq ne]
    funext i j
    rw [lapI_append]
    simp [lapI]
def rowF (n : Nat) (f : Nat → Int) : List W := (rowL n f).map fun k : Int => fr (k : Rat)
def tabF (n : Nat) (M : Nat → Nat → Int) : List (List W) := (List.range n).map fun i => rowF n (M i)
theorem rowF_len {n : Nat} {f : Nat → Int} : (rowF n f).length = n := by simp [rowF, rowL]
theorem tabF_get {n i : Nat} {M : Nat → Nat → Int} (hi : i < n) : (tabF n M).getD i [] = rowF n (M i) := by
  unfold tabF; simp [List.getD_eq_getElem?_getD, hi]
theorem rowF_at {n j : Nat} {f : Nat → Int} (hj : j < n) : L2.atI (rowF n f) ((j : Nat) : Int) = some (fr ((f j : Int) : Rat)) := by
  rw [L2.atI_nat (j := j)]
  unfold rowF rowL
  simp [hj]
theorem tabF_set {n i j : Nat} {M : Nat → Nat → Int} {v : Int} : (tabF n M).set i ((rowF n (M i)).set j (fr (v : Rat))) = tabF n (upd2 M i j v) := by
  have e : (rowF n (M i)).set j (fr (v : Rat)) = rowF n (upd2 M i j v i) := by
    unfold rowF
    rw [← rowL_set, List.map_set]
  rw [e]
  unfold tabF
  refine List.ext_getElem (by simp) fun k h1 h2 => ?_
  simp only [List.getElem_set, List.getElem_map, List.getElem_range]
  by_cases c : i = k
  · rw [if_pos c, c]
  · rw [if_neg c]
    unfold rowF rowL
    refine congrArg (List.map _) (List.map_congr_left fun q _ => ?_)
    unfold upd2
    rw [if_neg (fun z => c z.1.symm)]
def strmL (ls : List Ln) (lost : Int) (h : List Rat) (m : Nat) : List Rat := (List.range m).map fun k : Nat => if (k : Int) = lost then 0 else ((ls.getD k ⟨0, 0, 0, 0⟩).s : Rat) * (h.getD (ls.getD k ⟨0, 0, 0, 0⟩).a 0 - h.getD (ls.getD k ⟨0, 0, 0, 0⟩).b 0)
theorem strmL_len {ls : List Ln} {lost : Int} {h : List Rat} {m : Nat} : (strmL ls lost h m).length = m := by simp [strmL]
theorem lap_abs {ls : List Ln} {n i j : Nat} {lost : Int} (ok : ∀ l ∈ ls, LnOk n l) {m : Nat} (hm : m ≤ ls.length) (few : ls.length ≤ 6) : (lapI (keptU ls lost m) i j).natAbs ≤ 54 := by
  have := lapI_le (n := n) (ls := keptU ls lost m) (i := i) (j := j) fun l hl => ok l (kept_mem hm hl)
  have l2 : (keptU ls lost m).length ≤ m := by
    unfold keptU keptI
    rw [List.length_map]
    exact Nat.le_trans (List.length_filter_le _ _) (by simp)
  omega
def sp__law_streams : Spw := fun ws G Q E => ∃ (n : Nat) (ls : List Ln) (lost : Int) (x : List Rat) (b : Nat) (h : List Rat), ws = [netW n ls, .int lost, .lst (x.map fun q => fr q)] ∧ (∀ l ∈ ls, LnOk n l) ∧ (ls.length ≤ 6) ∧ (Net n (keptL ls lost)) ∧ (x.length = n) ∧ (∀ q ∈ x, sz b q) ∧ (b ≤ 300000) ∧ (lsum (fun q => q) x = 0) ∧ (IsH n (keptL ls lost) x h) ∧ tellL ((strmL ls lost h ls.length).map fun q => fr q) Q G
theorem len__law_streams (ws G Q E) (h : sp__law_streams ws G Q E) : ws.length = 3 := by obtain ⟨_, _, _, _, _, _, rfl, _⟩ := h; rfl
/-- slots: _law_net_here 0, _law_lost 1, _law_puts 2, _law_many 3, _law_lines 4, _law_table 5, _law_k 6, _law_one 7, _law_other 8, _law_stiffness 9, _law_most 10, _law_here 11, _law_there 12, _law_levels 13, _law_found 14, _law_i 15, _law_j 16, _law_row 17 -/
def t__law_streams_b1 : TSw := (wSeq (wAsg (wCall sp__law_plus (wCons (wOp wIx (wOp wIx (wVar 5) (wVar 11)) (wVar 11)) (wCons (wTup (wCons (wVar 9) (wCons (wC (.int 1)) wNil))) wNil))) (gIx (wOp wIx (wVar 5) (wVar 11)) (wVar 11)))
    (wAsg (wCall sp__law_minus (wCons (wOp wIx (wOp wIx (wVar 5) (wVar 11)) (wVar 12)) (wCons (wTup (wCons (wVar 9) (wCons (wC (.int 1)) wNil))) wNil))) (gIx (wOp wIx (wVar 5) (wVar 11)) (wVar 12))))
def t__law_streams_b2 : TSw := (wIfS (wTest (wOp wNe (wVar 6) (wVar 1))) (wFor [true, false, false, true, false, false, true, true, true, false, true, true, true, true, true, true, true, true] (iSeqW (wTup (wCons (wTup (wCons (wVar 7) (wCons (wVar 8) wNil))) (wCons (wTup (wCons (wVar 8) (wCons (wVar 7) wNil))) wNil)))) (gT 2 (gsC (gN 11) (gsC (gN 12) gsN))) t__law_streams_b1) wNext)
def t__law_streams_b3 : TSw := (wDrop (wBM wM_append (wVar 14) (wCons (wCall sp__law_times (wCons (wTup (wCons (wOp wMul (wVar 9) (wCB wInt (wCons (wOp wNe (wVar 6) (wVar 1)) wNil))) (wCons (wC (.int 1)) wNil))) (wCons (wCall sp__law_minus (wCons (wOp wIx (wVar 13) (wVar 7)) (wCons (wOp wIx (wVar 13) (wVar 8)) wNil))) wNil))) wNil)))
def t__law_streams_r1 : TSw := (wSeq (wFzN 5 (wAsg (wOp wAdd (wLst (wCons (wTup (wCons (wC (.int 0)) (wCons (wC (.int 1)) wNil))) wNil)) (wCall sp__law_solved (wCons (wLc [17] (iSeqW (wSlice (wVar 5) (wpSome (wC (.int 1))) wpNone)) (gN 17) wYes (wSlice (wVar 17) (wpSome (wC (.int 1))) wpNone)) (wCons (wSlice (wVar 2) (wpSome (wC (.int 1))) wpNone) wNil)))) (gN 13)))
    (wSeq (wAsg (wLstM wNil) (gN 14))
    (wSeq (wFor [true, false, true, true, true, true, true, true, true, true, true, true, true, false, false, true, true, true] (i_enumG (wCons (wVar 4) wNil)) (gT 2 (gsC (gN 6) (gsC (gT 4 (gsC (gN 7) (gsC (gN 8) (gsC (gN 9) (gsC (gN 10) gsN))))) gsN))) t__law_streams_b3)
    (wRet (wVar 14)))))
def t__law_streams : TSw := (wSeq (wAsg (wVar 0) (gT 2 (gsC (gN 3) (gsC (gN 4) gsN))))
    (wSeq (wAsg (wLc [15] (iR1 (wCons (wVar 3) wNil)) (gN 15) wYes (wLcM [16] (iR1 (wCons (wVar 3) wNil)) (gN 16) wYes (wTup (wCons (wC (.int 0)) (wCons (wC (.int 1)) wNil))))) (gN 5))
    (wSeq (wFor [true, false, false, true, false, false, true, true, true, true, true, true, true, true, true, true, true, true] (i_enumG (wCons (wVar 4) wNil)) (gT 2 (gsC (gN 6) (gsC (gT 4 (gsC (gN 7) (gsC (gN 8) (gsC (gN 9) (gsC (gN 10) gsN))))) gsN))) t__law_streams_b2)
    t__law_streams_r1)))
theorem rd__law_streams (ws : List W) (G : Gp) (Q : QW) (E) (h : sp__law_streams ws G Q E) : t__law_streams { nx := fun _ G' => Q .non G', rt := Cl Q } (startW ["_law_net_here", "_law_lost", "_law_puts", "_law_many", "_law_lines", "_law_table", "_law_k", "_law_one", "_law_other", "_law_stiffness", "_law_most", "_law_here", "_law_there", "_law_levels", "_law_found", "_law_i", "_law_j", "_law_row"] ws) G := by
  obtain ⟨n, ls, lost, x, b, h, rfl, ok, few, net, lx, hb, small, bal, hh, q⟩ := h
  show t__law_streams _ [some (netW n ls), some (.int lost), some (.lst (x.map fun q => fr q)), none, none, none, none, none, none, none, none, none, none, none, none, none, none, none] G
  unfold t__law_streams
  walk_at "w"
  have big : 1000 < sizeLine := by decide
  have n1 := net.n1
  have n4 := net.n4
  obtain ⟨m, rfl⟩ : ∃ m, n = m + 1 := ⟨n - 1, by omega⟩
  have nN : (((m + 1 : Nat) : Int)).toNat = m + 1 := by omega
  refine ⟨by omega, by omega, by omega, ?_⟩
  refine lcW_step (fun k acc G1 => ∃ ps, acc = refsW ps ∧ ps.length = k ∧ NstW G ps (List.replicate k (rowF (m + 1) fun _ => 0)) G1) _ 0 _ _ _ ⟨[], rfl, rfl, NstW.nil⟩ ?_ ?_
  · rintro w hw k acc G1 P ⟨ps, rfl, rfl, hN⟩ hP
    walk_at "w"
    refine ⟨by omega, by omega, by omega, ?_⟩
    rw [nN]
    refine lcW_m (fun i : Nat => W.int (0 + (i : Int))) (fun _ => fr 0) _ _ ?_ ?_
    · intro i hi P hP
      walk_at "w"
      exact ⟨by decide, hP⟩
    · intro p hp
      have tw : (List.range (m + 1)).map (fun _ => fr 0) = rowF (m + 1) fun _ => 0 := by unfold rowF rowL; rw [List.map_map]; rfl
      rw [tw]
      refine hP _ _ ⟨ps ++ [p], by simp, by simp, ?_⟩
      rw [show List.replicate (ps.length + 1) (rowF (m + 1) fun _ => 0) = List.replicate ps.length (rowF (m + 1) fun _ => 0) ++ [rowF (m + 1) fun _ => 0] by rw [List.replicate_succ']]
      exact hN.push hp _
  · rintro acc G1 ⟨ps, rfl, lp, hN0⟩
    rw [Nat.zero_add, rangeW_length, nN] at lp hN0
    walk_at "w"
    have e0 : List.replicate (m + 1) (rowF (m + 1) fun _ => 0) = tabF (m + 1) (lapI (keptU ls lost 0)) := by
      unfold tabF
      refine List.ext_getElem (by simp) fun i h1 h2 => ?_
      simp only [List.getElem_replicate, List.getElem_map, List.getElem_range]
      rfl
    rw [e0] at hN0
    refine forW_ix (fun k σ G1 => NstW G ps (tabF (m + 1) (lapI (keptU ls lost k))) G1 ∧ σ = [none, some (.int lost), some (.lst (x.map fun q => fr q)), none, some (.tup (linesW ls)), some (.lst (refsW ps)), none, none, none, none, none, none, none, none, none, none, none, none]) _ 0 _ _ ⟨hN0, rfl⟩ ?_ ?_
    · rintro k w hw σ G1 N ⟨hk1, rfl⟩ hN
      rw [Nat.zero_add] at hN hk1
      obtain ⟨hk, rfl⟩ := enum_at _ _ hw
      have okl := ok _ (List.getElem_mem hk)
      rw [lapI_kept hk okl.ne] at hN
      have bnd := fun i j => lap_abs (i := i) (j := j) (lost := lost) ok (Nat.le_of_lt hk) few
      generalize lapI (keptU ls lost k) = M at hk1 hN bnd
      generalize ls[k] = l at okl hN ⊢
      walk_at "w"
      unfold t__law_streams_b2
      walk_at "w"
      by_cases c : (k : Int) = lost
      · rw [decide_eq_true c]
        walk_at "w"
        rw [if_pos c] at hN
        exact hN _ _ ⟨hk1, rfl⟩
      · rw [decide_eq_false c]
        rw [if_neg c] at hN
        have turn : ∀ (D : EndsW) (a b : Nat) (M' : Nat → Nat → Int) (G2 : Gp), a < m + 1 → b < m + 1 → a ≠ b → (M' a a).natAbs ≤ 100 → (M' a b).natAbs ≤ 100 → NstW G ps (tabF (m + 1) M') G2 →
            (∀ G3, NstW G ps (tabF (m + 1) (lapH M' a b l.s)) G3 → D.nx [none, some (.int lost), some (.lst (x.map fun q => fr q)), none, some (.tup (linesW ls)), some (.lst (refsW ps)), none, none, none, some (.int (l.s : Int)), none, some (.int (a : Int)), some (.int (b : Int)), none, none, none, none, none] G3) →
            t__law_streams_b1 D [none, some (.int lost), some (.lst (x.map fun q => fr q)), none, some (.tup (linesW ls)), some (.lst (refsW ps)), none, none, none, some (.int (l.s : Int)), none, some (.int (a : Int)), some (.int (b : Int)), none, none, none, none, none] G2 := by
          intro D a b M' G2 ha hb ne b1 b2 h2 hD
          have s9 := okl.s.2
          have szs : sz 10 (((l.s : Int) : Rat)) := sz_int (by omega) (by decide)
          unfold t__law_streams_b1
          walk_at "w"
          rw [refs_at (by omega)]
          walk_at "w"
          have g1 := h2.here a (by omega)
          rw [tabF_get ha] at g1
          rw [asL_at g1]
          walk_at "w"
          rw [rowF_at ha]
          walk_at "w"
          have q1 : 1000 < sizeLine := big
          refine ⟨by omega, ((M' a a : Int) : Rat), ((l.s : Int) : Rat), rfl, ⟨10, 10, sz_int (by omega) (by decide), szs, by decide⟩, ?_⟩
          rw [← Rat.intCast_add]
          walk_at "w"
          rw [isG_at g1, ixN_natW (by rw [rowF_len]; exact ha)]
          walk_at "w"
          have h3 := h2.set (i := a) (by omega) ((rowF (m + 1) (M' a)).set a (fr ((M' a a + (l.s : Int) : Int) : Rat)))
          rw [tabF_set] at h3
          generalize gup G2 ps[a] _ = G3 at h3 ⊢
          have g3 := h3.here a (by omega)
          rw [tabF_get ha] at g3
          rw [refs_at (by omega)]
          walk_at "w"
          rw [asL_at g3]
          walk_at "w"
          rw [rowF_at hb]
          walk_at "w"
          have e1 : upd2 M' a a (M' a a + (l.s : Int)) a b = M' a b := by unfold upd2; rw [if_neg (fun z => ne z.2.symm)]
          rw [e1]
          refine ⟨by omega, ((M' a b : Int) : Rat), ((l.s : Int) : Rat), rfl, ⟨10, 10, sz_int (by omega) (by decide), szs, by decide⟩, ?_⟩
          rw [← Rat.intCast_sub]
          walk_at "w"
          rw [isG_at g3, ixN_natW (by rw [rowF_len]; exact hb)]
          walk_at "w"
          refine hD _ ?_
          have h4 := h3.set (i := a) (by omega) ((rowF (m + 1) (upd2 M' a a (M' a a + (l.s : Int)) a)).set b (fr ((M' a b - (l.s : Int) : Int) : Rat)))
          rw [tabF_set] at h4
          unfold lapH
          dsimp only
          rw [e1]
          exact h4
        simp only [forW]
        walk_at "w"
        refine ⟨by decide, by decide, by decide, ?_⟩
        refine turn _ l.a l.b M G1 okl.a okl.b okl.ne (by have := bnd l.a l.a; omega) (by have := bnd l.a l.b; omega) hk1 fun G2 h2 => ?_
        walk_at "w"
        refine turn _ l.b l.a _ G2 okl.b okl.a (Ne.symm okl.ne) ?_ ?_ h2 fun G3 h3 => ?_
        · unfold lapH upd2
          have := bnd l.b l.b
          have ne := okl.ne
          simp only [Ne.symm ne, false_and, if_false]
          omega
        · unfold lapH upd2
          have := bnd l.b l.a
          have ne := okl.ne
          simp only [Ne.symm ne, false_and, if_false]
          omega
        · walk_at "w"
          exact hN _ _ ⟨h3, rfl⟩
    · rintro σ G1 ⟨hk1, rfl⟩
      rw [Nat.zero_add, enum_len, List.length_map] at hk1
      unfold t__law_streams_r1
      walk_at "w"
      refine hk1.fz ?_
      walk_at "w"
      have et : (tabF (m + 1) (lapI (keptU ls lost ls.length))).map (fun r => W.lst r) = (List.range (m + 1)).map fun i => W.lst (rowF (m + 1) (lapI (keptL ls lost) i)) := by unfold tabF; rw [List.map_map]; rfl
      rw [et, cut_1 _ _ (by simp)]
      refine ⟨by decide, by decide, by simp; omega, ?_⟩
      refine lcW_m (fun i => W.lst (rowF (m + 1) (lapI (keptL ls lost) i))) (fun i => W.lst (((rowL (m + 1) (lapI (keptL ls lost) i)).drop 1).map fun k : Int => fr (k : Rat))) _ _ ?_ ?_
      · intro i hi P hP
        walk_at "w"
        unfold rowF
        rw [cut_1 _ _ (by simp [rowL])]
        exact hP
      have er : ((List.range (m + 1)).drop 1).map (fun i => W.lst (((rowL (m + 1) (lapI (keptL ls lost) i)).drop 1).map fun k : Int => fr (k : Rat))) = rowsW (lapT (m + 1) (keptL ls lost)) := by
        unfold lapT rowsW rowL
        rw [List.map_map]
        refine List.ext_getElem (by simp) fun i h1 h2 => ?_
        simp only [List.getElem_map, List.getElem_drop, List.getElem_range, Function.comp_apply]
        refine congrArg W.lst ?_
        rw [List.map_map]
        refine List.ext_getElem (by simp) fun j j1 j2 => ?_
        simp [Nat.add_comm]
      rw [er, cut_1 _ _ (by omega)]
      walk_at "w"
      have tb := lapT_table net lx hb small
      refine ⟨lapT (m + 1) (keptL ls lost), x.drop 1, b + 6, m, rfl, tb, lap_ns net, fun y ly sol szy => .inl ?_⟩
      have eh : h = 0 :: y := isH_uniq net hh (isH_of net lx bal ly sol)
      have hs : ∀ q ∈ h, sz (hB b) q := fun q hq => by
        rw [eh] at hq
        rcases List.mem_cons.mp hq with rfl | hq
        · exact sz_mono (⟨by decide, by decide⟩ : sz 1 (0 : Rat)) (by unfold hB; omega)
        · refine sz_mono (szy q hq) (Nat.le_trans (bd_mono (show m ≤ 3 by omega)) ?_)
          show 4 * (4 * (4 * (b + 6) + 1) + 1) + 1 ≤ 64 * b + 405
          omega
      have el : W.tup [.int 0, .int 1] :: y.map (fun q => fr q) = h.map fun q => fr q := by rw [eh]; rfl
      walk_at "w"
      rw [el]
      refine ⟨by omega, by decide, fun p hp => ?_⟩
      have hBp : 0 < hB b := by unfold hB; omega
      refine forW_ix (fun k σ G1 => G1 = gup G p (.lst ((strmL ls lost h k).map fun q => fr q)) ∧ σ = [none, some (.int lost), none, none, none, none, none, none, none, none, none, none, none, some (.lst (h.map fun q => fr q)), some (.ref p), none, none, none]) _ 0 _ _ ⟨rfl, rfl⟩ ?_ ?_
      · rintro k w hw σ G1 N ⟨rfl, rfl⟩ hN
        rw [Nat.zero_add] at hN ⊢
        obtain ⟨hk, rfl⟩ := enum_at _ _ hw
        have okl := ok _ (List.getElem_mem hk)
        have es : strmL ls lost h (k + 1) = strmL ls lost h k ++ [if (k : Int) = lost then 0 else (ls[k].s : Rat) * (h.getD ls[k].a 0 - h.getD ls[k].b 0)] := by
          unfold strmL
          rw [List.range_succ, List.map_append]
          simp [List.getD_eq_getElem?_getD, hk]
        rw [es, List.map_append] at hN
        have lt : (strmL ls lost h k).length ≤ 6 := by rw [strmL_len]; omega
        generalize ls[k] = l at okl hN ⊢
        have la := okl.a
        have lb := okl.b
        have l9 := okl.s.2
        walk_at "w"
        unfold t__law_streams_b3
        walk_at "w"
        rw [atI_frs (by rw [hh.len]; exact la), atI_frs (by rw [hh.len]; exact lb)]
        walk_at "w"
        have ei : (if (!decide ((k : Int) = lost)) = true then (1 : Int) else 0) = if (k : Int) = lost then 0 else 1 := by
          by_cases c : (k : Int) = lost
          · rw [if_pos c, decide_eq_true c]; rfl
          · rw [if_neg c, decide_eq_false c]; rfl
        rw [ei]
        refine ⟨cmX (a := 4) (b := 1) (by omega) (by split <;> decide) (by decide) (by decide) (by decide), by decide, h.getD l.a 0, h.getD l.b 0, rfl, ⟨_, _, getD_szn hs hBp, getD_szn hs hBp, by unfold hB; omega⟩, ?_⟩
        walk_at "w"
        refine ⟨(((l.s : Int) * (if (k : Int) = lost then 0 else 1) : Int) : Rat), _, rfl, ⟨4, _, sz_int (by split <;> omega) (by decide), sz_sub (getD_szn hs hBp) (getD_szn hs hBp), by unfold hB; omega⟩, ?_⟩
        walk_at "w"
        refine ⟨by omega, ?_⟩
        have ev : (((l.s : Int) * (if (k : Int) = lost then 0 else 1) : Int) : Rat) * (h.getD l.a 0 - h.getD l.b 0) = if (k : Int) = lost then 0 else (l.s : Rat) * (h.getD l.a 0 - h.getD l.b 0) := by
          by_cases c : (k : Int) = lost
          · rw [if_pos c, if_pos c]; simp
          · rw [if_neg c, if_neg c, Int.mul_one, Rat.intCast_natCast]
        rw [ev]
        exact hN _ _ ⟨rfl, rfl⟩
      · rintro σ G1 ⟨rfl, rfl⟩
        rw [Nat.zero_add, enum_len, List.length_map]
        walk_at "w"
        exact q.cl hp
end WL

namespace WL
open PySem PySem.Spec PyProof.Rows L2
local macro_rules | `(tactic| walk_at "w") => `(tactic| try simp only [↓a_seq, ↓a_asg, ↓a_ifS, ↓a_ret, ↓a_retN, ↓a_next, ↓a_break, ↓a_cont, ↓a_drop, ↓a_for, ↓a_C, ↓a_op, ↓a_un, ↓a_neg, ↓a_CB, ↓a_call, ↓a_nil, ↓a_cons, ↓a_tup, ↓a_lst, ↓a_lstM, ↓a_test, ↓a_and, ↓a_or, ↓a_not, ↓a_yes, ↓a_andV, ↓a_orV, ↓a_notV, ↓a_if, ↓a_isN, ↓a_notN, ↓a_chain, ↓a_BM, ↓a_BM0, ↓a_seqI, ↓a_R1, ↓a_R2, ↓a_zip2, ↓a_zipG2, ↓a_zipG3, ↓a_enumG, ↓a_enum, ↓a_lc, ↓a_lcM, ↓a_lcR, ↓a_forR, ↓a_seqR, ↓a_zip2R, ↓a_zipR, ↓a_lstRg, ↓a_lstRgM, ↓a_lcP, ↓a_slice, ↓a_sliceM, ↓a_pN, ↓a_pS, ↓a_augIx, ↓a_gIx, ↓a_par, ↓a_setF, ↓a_meth, ↓a_make, ↓a_makeZ, ↓a_dnew, ↓a_done, ↓a_dput, ↓a_dget, ↓a_din, ↓a_lenD, ↓v_0, ↓g_0, ↓u_0, ↓v_1, ↓g_1, ↓u_1, ↓v_2, ↓g_2, ↓u_2, ↓v_3, ↓g_3, ↓u_3, ↓v_4, ↓g_4, ↓u_4, ↓v_5, ↓g_5, ↓u_5, ↓v_6, ↓g_6, ↓u_6, ↓v_7, ↓g_7, ↓u_7, ↓v_8, ↓g_8, ↓u_8, ↓v_9, ↓g_9, ↓u_9, ↓v_10, ↓g_10, ↓u_10, ↓v_11, ↓g_11, ↓u_11, ↓v_12, ↓g_12, ↓u_12, ↓v_13, ↓g_13, ↓u_13, ↓v_14, ↓g_14, ↓u_14, ↓v_15, ↓g_15, ↓u_15, ↓v_16, ↓g_16, ↓u_16, ↓v_17, ↓g_17, ↓u_17, ↓v_18, ↓g_18, ↓u_18, ↓v_19, ↓g_19, ↓u_19, ↓v_20, ↓g_20, ↓u_20, ↓v_21, ↓g_21, ↓u_21, ↓v_22, ↓g_22, ↓u_22, ↓v_23, ↓g_23, ↓u_23, ↓v_24, ↓g_24, ↓u_24, ↓v_25, ↓g_25, ↓u_25, ↓f_0, ↓fl_0, ↓fn_0, ↓f_1, ↓fl_1, ↓fn_1, ↓f_2, ↓fl_2, ↓fn_2, ↓f_3, ↓fl_3, ↓fn_3, ↓f_4, ↓fl_4, ↓fn_4, ↓f_5, ↓fl_5, ↓fn_5, ↓f_6, ↓fl_6, ↓fn_6, ↓f_7, ↓fl_7, ↓fn_7, ↓f_8, ↓fl_8, ↓fn_8, ↓f_9, ↓fl_9, ↓fn_9, ↓f_10, ↓fl_10, ↓fn_10, ↓f_11, ↓fl_11, ↓fn_11, ↓f_12, ↓fl_12, ↓fn_12, ↓f_13, ↓fl_13, ↓fn_13, ↓f_14, ↓fl_14, ↓fn_14, ↓f_15, ↓fl_15, ↓fn_15, ↓f_16, ↓fl_16, ↓fn_16, ↓f_17, ↓fl_17, ↓fn_17, ↓f_18, ↓fl_18, ↓fn_18, ↓f_19, ↓fl_19, ↓fn_19, ↓f_20, ↓fl_20, ↓fn_20, ↓f_21, ↓fl_21, ↓fn_21, ↓f_22, ↓fl_22, ↓fn_22, ↓f_23, ↓fl_23, ↓fn_23, ↓f_24, ↓fl_24, ↓fn_24, ↓f_25, ↓fl_25, ↓fn_25, ↓asL_lst, ↓asL_scr, ↓asL_gup, ↓wIx_tup, ↓wIx_lst, ↓wIx_scr, ↓wIx_ref, ↓wIx_str, ↓wAdd_int, ↓wAdd_str, ↓wAdd_tup, ↓wAdd_lst, ↓wII_int, ↓wI2_int, ↓wI1_int, ↓wI1N_int, ↓wI2N_int, ↓wLen_tup, ↓wLen_lst, ↓wLen_scr, ↓wLen_ref, ↓wLen_str, ↓wInt_int, ↓wInt_bl, ↓wStrI_int, ↓wEq_int, ↓wEq_str, ↓wEq_bl, ↓wNe_bl, ↓wNe_int, ↓wNe_str, ↓wEq_tup, ↓wNe_tup, ↓wEq_lst, ↓wNe_lst, ↓setIx_ref, ↓gT_tup, ↓gT_lst, ↓gT_ref, ↓gsC_cons, ↓gsN_nil, ↓wAppend_ref, ↓wPop_ref, ↓wExtend_ref, ↓rgO_int, ↓wAddM_lst, ↓wIsB_bl, ↓wReverse_ref, ↓wRepT_tup, ↓wNotB_bl, ↓wInD_lst, ↓wPopAt_ref, ↓wInsert_ref, ↓refR_ref, ↓seqOf_tup, ↓seqOf_lst, ↓seqOf_scr, ↓seqOf_ref, ↓rng1_int, ↓rng2_int, ↓wIsi_non, ↓wIsi_bl, ↓wIsi_int, ↓wIsi_str, ↓wIsi_tup, ↓wIsi_lst, ↓wIsi_ref, ↓wAll_lst, ↓wAny_lst, ↓wSum_lst, ↓wTuple_tup, ↓wTuple_lst, ↓wTuple_ref, ↓wList_tup, ↓wList_lst, ↓wList_ref, ↓wListM_tup, ↓wListM_lst, ↓wCut_tup, ↓wCut_lst, ↓wCut_ref, ↓wCut_str, ↓wRep_lst, ↓wRepM_lst, ↓zipOf_tup, ↓zipOf_lst, ↓enumOf_lst, ↓enumOf_scr, ↓zipG2_eq, ↓zipG3_eq, ↓enumG_eq, ↓wSorted_eq, ↓wSortedM_eq, ↓wClear_ref, ↓wGet_ref, ↓truO_bl, ↓intO_int, ↓isS_some, ↓isG_lst, ↓setF_ref, ↓isI_ins, ↓dPut_ref, ↓isD_dic, ↓insOf_gup, ↓dicOf_gup, keyOf, nk, rangeW_length, sset, skill, swipe, swipe.sforget, lcW, wIn, seqs, inW, eqW, flatW, kdIs, isNon, gup_same, gup_gup, at0, at1, at2, at3, at4, at5, at6, at7, ix0, ix1, ix2, ix3, ix4, ix5, W.bl.injEq, exists_eq_left', List.length_cons, List.length_nil, List.length_map, Nat.zero_add, Nat.reduceAdd, List.set, List.map_cons, List.map_nil, Option.isSome_some, List.all_cons, List.all_nil, List.any_cons, List.any_nil, List.cons_append, List.nil_append, Bool.and_true, Bool.and_self, Bool.or_false, Bool.true_and, Bool.false_and, Bool.and_false, true_and, decide_true, decide_false, Bool.not_true, Bool.not_false, Bool.not_not, Bool.false_eq_true, if_true, if_false, ite_self, beq_self_eq_true])

/-! ### shares as whole numbers over one scale (plain) -/
theorem divInt_div (a b : Int) : Rat.divInt a b = (a : Rat) / (b : Rat) := by rw [div_divInt]; simp
theorem atI_row {n v : Nat} {f : Nat → Int} (h : v < n) : L2.atI (intsW (rowL n f)) ((v : Nat) : Int) = some (.int (f v)) := by
  rw [atI_map _ _ (show v < (rowL n f).length by simpa [rowL] using h)]
  simp [rowL]
theorem atI_ints {ts : List Int} {v : Nat} (h : v < ts.length) : L2.atI (intsW ts) ((v : Nat) : Int) = some (.int (ts.getD v 0)) := by
  rw [atI_map _ _ h, show ts.getD v 0 = ts[v] by simp [List.getD_eq_getElem?_getD, h]]
abbrev tabW (d : Nat) (M : Nat → Nat → Int) : W := .lst ((tabL d M).map fun r => .lst (intsW r))
theorem tabL_map {d : Nat} {M : Nat → Nat → Int} : ((tabL d M).map fun r => W.lst (intsW r)) = (List.range d).map fun i => W.lst (intsW (rowL d (M i))) := by unfold tabL; rw [List.map_map]; rfl
/-- the size-number by the first row -/
def rdet (d : Nat) (M : Nat → Nat → Int) : Int := detZ d fun i j => M j i
def rT (d : Nat) (M : Nat → Nat → Int) (k : Nat) : Int := sgI k * M 0 k * rdet d fun i j => M (sk 0 i) (sk k j)
theorem rdet_succ (d : Nat) (M : Nat → Nat → Int) : rdet (d + 1) M = si (d + 1) (rT d M) := rfl
theorem si_le {K : Nat} {f : Nat → Int} : ∀ {n : Nat}, (∀ i, i < n → (f i).natAbs ≤ K) → (si n f).natAbs ≤ n * K
  | 0, _ => by simp [si]
  | n + 1, h => by
    have a := si_le (n := n) fun i hi => h i (by omega)
    have b := h n (by omega)
    show (si n f + f n).natAbs ≤ _
    rw [Nat.succ_mul]
    omega
theorem rdet_le {b : Nat} : ∀ {d : Nat} {M : Nat → Nat → Int}, (∀ i j, i < d → j < d → (M i j).natAbs < 2 ^ b) → (rdet d M).natAbs ≤ 2 ^ (d * (b + d))
  | 0, M, _ => by simp [rdet, detZ]
  | d + 1, M, h => by
    have t : ∀ k, k < d + 1 → (rT d M k).natAbs ≤ 2 ^ (b + d * (b + d)) := fun k hk => by
      have a := rdet_le (b := b) (d := d) (M := fun i j => M (sk 0 i) (sk k j)) fun i j hi hj => h _ _ (by unfold sk; split <;> omega) (by unfold sk; split <;> omega)
      have c := h 0 k (by omega) hk
      unfold rT
      rw [Int.natAbs_mul, Int.natAbs_mul, Nat.pow_add]
      have s : (sgI k).natAbs = 1 := by unfold sgI; split <;> rfl
      rw [s, Nat.one_mul]
      exact Nat.mul_le_mul (by omega) a
    rw [rdet_succ]
    refine Nat.le_trans (si_le t) ?_
    have : d + 1 ≤ 2 ^ d := Nat.lt_two_pow_self
    refine Nat.le_trans (Nat.mul_le_mul_right _ this) ?_
    rw [← Nat.pow_add]
    refine Nat.pow_le_pow_right (by decide) ?_
    have e1 : (d + 1) * (b + (d + 1)) = d * b + d * d + d + b + d + 1 := by grind
    have e2 : d * (b + d) = d * b + d * d := by grind
    omega
theorem natAbs_lt_of_le {x : Int} {n : Nat} (h : x.natAbs ≤ 2 ^ n) : x.natAbs < 2 ^ (n + 1) := by
  have : 2 ^ (n + 1) = 2 * 2 ^ n := by rw [Nat.pow_succ]; omega
  have := Nat.two_pow_pos n
  omega
theorem lapZ_symm (l : Ln) (i j : Nat) : lapZ l i j = lapZ l j i := by unfold lapZ; grind
theorem lapI_symm (ls : List Ln) (i j : Nat) : lapI ls i j = lapI ls j i := by
  unfold lapI
  exact congrArg List.sum (List.map_congr_left fun l _ => lapZ_symm l i j)
theorem rdet_symm {d : Nat} {M : Nat → Nat → Int} (h : ∀ i j, M i j = M j i) : rdet d M = detZ d M := by
  unfold rdet
  rw [show (fun i j => M j i) = M from funext fun i => funext fun j => h j i]
/-- a table without row i and column j, by the first row; with its sign: the size-number with 1 at (i, j) -/
theorem rdet_minor {m : Nat} (hm : m ≤ 3) {A : Nat → Nat → Int} {p i : Nat} (hp : p < m) (hi : i < m) :
    sgI (p + i) * rdet (m - 1) (fun r c => A (sk p r) (sk i c)) = detZ m (repC A i fun r => ind r p) := by
  rcases (by omega : m = 1 ∨ m = 2 ∨ m = 3) with rfl | rfl | rfl
  · obtain rfl : p = 0 := by omega
    obtain rfl : i = 0 := by omega
    rw [det1]; simp [rdet, detZ, sgI, repC, ind]
  · unfold rdet
    show sgI (p + i) * detZ 1 _ = _
    rw [det1, det2]
    rcases (by omega : p = 0 ∨ p = 1) with rfl | rfl <;> rcases (by omega : i = 0 ∨ i = 1) with rfl | rfl <;> simp [sgI, repC, ind, sk]
  · unfold rdet
    show sgI (p + i) * detZ 2 _ = _
    rw [det2, det3]
    rcases (by omega : p = 0 ∨ p = 1 ∨ p = 2) with rfl | rfl | rfl <;> rcases (by omega : i = 0 ∨ i = 1 ∨ i = 2) with rfl | rfl | rfl <;> simp [sgI, repC, ind, sk] <;> grind
/-- the heights when a unit goes from place v to 0, times the scale -/
def lapA (K : List Ln) : Nat → Nat → Int := fun i j => lapI K (i + 1) (j + 1)
def hgtZ (m : Nat) (K : List Ln) (v i : Nat) : Int := if v = 0 ∨ i = 0 then 0 else sgI (v - 1 + (i - 1)) * rdet (m - 1) (fun r c => lapA K (sk (v - 1) r) (sk (i - 1) c))
def sclZ (m : Nat) (K : List Ln) : Int := rdet m (lapA K)
theorem scl_det {m : Nat} {K : List Ln} : sclZ m K = detZ m (lapA K) := rdet_symm fun i j => lapI_symm K _ _
theorem scl_ne {m : Nat} {K : List Ln} (net : Net (m + 1) K) : sclZ m K ≠ 0 := by rw [scl_det]; exact lap_det_ne net
theorem hgt_cast {m v i : Nat} {K : List Ln} {h : List Rat} (net : Net (m + 1) K) (hv : v < m + 1) (hi : i < m + 1) (hh : IsH (m + 1) K (unitN (m + 1) v 0) h) :
    ((hgtZ m K v i : Int) : Rat) = ((sclZ m K : Int) : Rat) * h.getD i 0 := by
  have n4 := net.n4
  unfold hgtZ
  by_cases c0 : i = 0
  · rw [if_pos (.inr c0), c0, hh.zero]; grind
  by_cases c1 : v = 0
  · rw [if_pos (.inl c1)]
    have z := flat_zero (z := fun v => h.getD v 0) net.ok net.conn hh.zero fun i h1 hi => by
      rw [hh.out i hi, unitN_get hi, c1]; grind
    rw [z i hi]; grind
  rw [if_neg (by omega), rdet_minor (by omega) (by omega) (by omega)]
  have := lap_cramer (B := 1) (r := fun r => ind r (v - 1)) (k := i - 1) net hh (fun r hr => by
    rw [unitN_get (by omega), ind_cast, ind_cast, ind_cast, if_neg (show ¬ r + 1 = 0 by omega)]
    by_cases d : r = v - 1
    · rw [if_pos d, if_pos (by omega)]; grind
    · rw [if_neg d, if_neg (by omega)]; grind) (by omega)
  rw [show i - 1 + 1 = i by omega] at this
  rw [show (lapA K) = fun i j => lapI K (i + 1) (j + 1) from rfl, this, scl_det]
  show h.getD i 0 * ((1 : Int) : Rat) * ((detZ m (lapA K) : Int) : Rat) = _
  grind
end WL


namespace WL
open PySem PySem.Spec PyProof.Rows L2
local macro_rules | `(tactic| walk_at "w") => `(tactic| try simp only [↓a_seq, ↓a_asg, ↓a_ifS, ↓a_ret, ↓a_retN, ↓a_next, ↓a_break, ↓a_cont, ↓a_drop, ↓a_for, ↓a_C, ↓a_op, ↓a_un, ↓a_neg, ↓a_CB, ↓a_call, ↓a_nil, ↓a_cons, ↓a_tup, ↓a_lst, ↓a_lstM, ↓a_test, ↓a_and, ↓a_or, ↓a_not, ↓a_yes, ↓a_andV, ↓a_orV, ↓a_notV, ↓a_if, ↓a_isN, ↓a_notN, ↓a_chain, ↓a_BM, ↓a_BM0, ↓a_seqI, ↓a_R1, ↓a_R2, ↓a_zip2, ↓a_zipG2, ↓a_zipG3, ↓a_enumG, ↓a_enum, ↓a_lc, ↓a_lcM, ↓a_lcR, ↓a_forR, ↓a_seqR, ↓a_zip2R, ↓a_zipR, ↓a_lstRg, ↓a_lstRgM, ↓a_lcP, ↓a_slice, ↓a_sliceM, ↓a_pN, ↓a_pS, ↓a_augIx, ↓a_gIx, ↓a_par, ↓a_setF, ↓a_meth, ↓a_make, ↓a_makeZ, ↓a_dnew, ↓a_done, ↓a_dput, ↓a_dget, ↓a_din, ↓a_lenD, ↓v_0, ↓g_0, ↓u_0, ↓v_1, ↓g_1, ↓u_1, ↓v_2, ↓g_2, ↓u_2, ↓v_3, ↓g_3, ↓u_3, ↓v_4, ↓g_4, ↓u_4, ↓v_5, ↓g_5, ↓u_5, ↓v_6, ↓g_6, ↓u_6, ↓v_7, ↓g_7, ↓u_7, ↓v_8, ↓g_8, ↓u_8, ↓v_9, ↓g_9, ↓u_9, ↓v_10, ↓g_10, ↓u_10, ↓v_11, ↓g_11, ↓u_11, ↓v_12, ↓g_12, ↓u_12, ↓v_13, ↓g_13, ↓u_13, ↓v_14, ↓g_14, ↓u_14, ↓v_15, ↓g_15, ↓u_15, ↓v_16, ↓g_16, ↓u_16, ↓v_17, ↓g_17, ↓u_17, ↓v_18, ↓g_18, ↓u_18, ↓v_19, ↓g_19, ↓u_19, ↓v_20, ↓g_20, ↓u_20, ↓v_21, ↓g_21, ↓u_21, ↓v_22, ↓g_22, ↓u_22, ↓v_23, ↓g_23, ↓u_23, ↓v_24, ↓g_24, ↓u_24, ↓v_25, ↓g_25, ↓u_25, ↓f_0, ↓fl_0, ↓fn_0, ↓f_1, ↓fl_1, ↓fn_1, ↓f_2, ↓fl_2, ↓fn_2, ↓f_3, ↓fl_3, ↓fn_3, ↓f_4, ↓fl_4, ↓fn_4, ↓f_5, ↓fl_5, ↓fn_5, ↓f_6, ↓fl_6, ↓fn_6, ↓f_7, ↓fl_7, ↓fn_7, ↓f_8, ↓fl_8, ↓fn_8, ↓f_9, ↓fl_9, ↓fn_9, ↓f_10, ↓fl_10, ↓fn_10, ↓f_11, ↓fl_11, ↓fn_11, ↓f_12, ↓fl_12, ↓fn_12, ↓f_13, ↓fl_13, ↓fn_13, ↓f_14, ↓fl_14, ↓fn_14, ↓f_15, ↓fl_15, ↓fn_15, ↓f_16, ↓fl_16, ↓fn_16, ↓f_17, ↓fl_17, ↓fn_17, ↓f_18, ↓fl_18, ↓fn_18, ↓f_19, ↓fl_19, ↓fn_19, ↓f_20, ↓fl_20, ↓fn_20, ↓f_21, ↓fl_21, ↓fn_21, ↓f_22, ↓fl_22, ↓fn_22, ↓f_23, ↓fl_23, ↓fn_23, ↓f_24, ↓fl_24, ↓fn_24, ↓f_25, ↓fl_25, ↓fn_25, ↓asL_lst, ↓asL_scr, ↓asL_gup, ↓wIx_tup, ↓wIx_lst, ↓wIx_scr, ↓wIx_ref, ↓wIx_str, ↓wAdd_int, ↓wAdd_str, ↓wAdd_tup, ↓wAdd_lst, ↓wII_int, ↓wI2_int, ↓wI1_int, ↓wI1N_int, ↓wI2N_int, ↓wLen_tup, ↓wLen_lst, ↓wLen_scr, ↓wLen_ref, ↓wLen_str, ↓wInt_int, ↓wInt_bl, ↓wStrI_int, ↓wEq_int, ↓wEq_str, ↓wEq_bl, ↓wNe_bl, ↓wNe_int, ↓wNe_str, ↓wEq_tup, ↓wNe_tup, ↓wEq_lst, ↓wNe_lst, ↓setIx_ref, ↓gT_tup, ↓gT_lst, ↓gT_ref, ↓gsC_cons, ↓gsN_nil, ↓wAppend_ref, ↓wPop_ref, ↓wExtend_ref, ↓rgO_int, ↓wAddM_lst, ↓wIsB_bl, ↓wReverse_ref, ↓wRepT_tup, ↓wNotB_bl, ↓wInD_lst, ↓wPopAt_ref, ↓wInsert_ref, ↓refR_ref, ↓seqOf_tup, ↓seqOf_lst, ↓seqOf_scr, ↓seqOf_ref, ↓rng1_int, ↓rng2_int, ↓wIsi_non, ↓wIsi_bl, ↓wIsi_int, ↓wIsi_str, ↓wIsi_tup, ↓wIsi_lst, ↓wIsi_ref, ↓wAll_lst, ↓wAny_lst, ↓wSum_lst, ↓wTuple_tup, ↓wTuple_lst, ↓wTuple_ref, ↓wList_tup, ↓wList_lst, ↓wList_ref, ↓wListM_tup, ↓wListM_lst, ↓wCut_tup, ↓wCut_lst, ↓wCut_ref, ↓wCut_str, ↓wRep_lst, ↓wRepM_lst, ↓zipOf_tup, ↓zipOf_lst, ↓enumOf_lst, ↓enumOf_scr, ↓zipG2_eq, ↓zipG3_eq, ↓enumG_eq, ↓wSorted_eq, ↓wSortedM_eq, ↓wClear_ref, ↓wGet_ref, ↓truO_bl, ↓intO_int, ↓isS_some, ↓isG_lst, ↓setF_ref, ↓isI_ins, ↓dPut_ref, ↓isD_dic, ↓insOf_gup, ↓dicOf_gup, keyOf, nk, rangeW_length, sset, skill, swipe, swipe.sforget, lcW, wIn, seqs, inW, eqW, flatW, kdIs, isNon, gup_same, gup_gup, at0, at1, at2, at3, at4, at5, at6, at7, ix0, ix1, ix2, ix3, ix4, ix5, W.bl.injEq, exists_eq_left', List.length_cons, List.length_nil, List.length_map, Nat.zero_add, Nat.reduceAdd, List.set, List.map_cons, List.map_nil, Option.isSome_some, List.all_cons, List.all_nil, List.any_cons, List.any_nil, List.cons_append, List.nil_append, Bool.and_true, Bool.and_self, Bool.or_false, Bool.true_and, Bool.false_and, Bool.and_false, true_and, decide_true, decide_false, Bool.not_true, Bool.not_false, Bool.not_not, Bool.false_eq_true, if_true, if_false, ite_self, beq_self_eq_true])

/-! ### shares as whole numbers over one scale: the walk -/
theorem tri_split {n k : Nat} (hk : k ≤ n) : (List.range (n + 1)).take k ++ (List.range (n + 1)).drop (k + 1) = (List.range n).map (sk k) := by
  refine List.ext_getElem (by simp; omega) fun i h1 h2 => ?_
  have hi : i < n := by simpa using h2
  simp only [List.getElem_append, List.getElem_take, List.getElem_drop, List.getElem_range, List.getElem_map, List.length_take, List.length_range, sk]
  split <;> split <;> omega
theorem lapI_take' {ls : List Ln} {k : Nat} (hk : k < ls.length) (i j : Nat) : lapI (ls.take (k + 1)) i j = lapI (ls.take k) i j + lapZ ls[k] i j := by
  rw [List.take_succ_eq_append_getElem hk, lapI_append]
  simp [lapI]
def sp_without_place : Spw := fun ws G Q E => ∃ (d : Nat) (M : Nat → Nat → Int) (i j : Nat), ws = [tabW (d + 1) M, .int ((i : Nat) : Int), .int ((j : Nat) : Int)] ∧ (d ≤ 900) ∧ (i ≤ d) ∧ (j ≤ d) ∧ Q (tabW d fun r c => M (sk i r) (sk j c)) G
theorem len_without_place (ws G Q E) (h : sp_without_place ws G Q E) : ws.length = 3 := by obtain ⟨_, _, _, _, rfl, _⟩ := h; rfl
/-- slots: table 0, i 1, j 2, row 3 -/
def t_without_place : TSw := (wRet (wLcM [3] (iSeqW (wOp wAdd (wSlice (wVar 0) wpNone (wpSome (wVar 1))) (wSlice (wVar 0) (wpSome (wOp wAdd (wVar 1) (wC (.int 1)))) wpNone))) (gN 3) wYes (wOp wAdd (wSlice (wVar 3) wpNone (wpSome (wVar 2))) (wSlice (wVar 3) (wpSome (wOp wAdd (wVar 2) (wC (.int 1)))) wpNone))))
theorem rd_without_place (ws : List W) (G : Gp) (Q : QW) (E) (h : sp_without_place ws G Q E) : t_without_place { nx := fun _ G' => Q .non G', rt := Cl Q } (startW ["table", "i", "j", "row"] ws) G := by
  obtain ⟨d, M, i, j, rfl, d9, hi, hj, q⟩ := h
  show t_without_place _ [some (tabW (d + 1) M), some (.int ((i : Nat) : Int)), some (.int ((j : Nat) : Int)), none] G
  unfold t_without_place
  walk_at "w"
  have big : 1000 < sizeLine := by decide
  unfold tabW
  rw [tabL_map]
  walk_at "w"
  rw [cut_to _ _ (by simp; omega), show ((i : Nat) : Int) + 1 = ((i + 1 : Nat) : Int) by omega, cut_from _ _ (by simp; omega), ← List.map_append, tri_split hi, List.map_map]
  walk_at "w"
  refine ⟨by simp; omega, by simp; omega, ?_⟩
  refine lcW_m (fun r => W.lst (intsW (rowL (d + 1) (M (sk i r))))) (fun r => W.lst (intsW (rowL d fun c => M (sk i r) (sk j c)))) _ _ ?_ ?_
  · intro r hr P hP
    walk_at "w"
    have er : ∀ f : Nat → Int, intsW (rowL (d + 1) f) = (List.range (d + 1)).map fun c => W.int (f c) := fun f => by unfold rowL intsW; rw [List.map_map]; rfl
    rw [er, cut_to _ _ (by simp; omega), show ((j : Nat) : Int) + 1 = ((j + 1 : Nat) : Int) by omega, cut_from _ _ (by simp; omega), ← List.map_append, tri_split hj, List.map_map]
    walk_at "w"
    refine ⟨by simp; omega, ?_⟩
    have : intsW (rowL d fun c => M (sk i r) (sk j c)) = (List.range d).map ((fun c => W.int (M (sk i r) c)) ∘ sk j) := by unfold rowL intsW; rw [List.map_map]; rfl
    rw [← this]
    exact hP
  · intro p hp
    refine tellL.cl (.inl ?_) hp
    unfold tabW at q
    rw [tabL_map] at q
    exact q
def spr_size_number : Nat → Spw
  | 0 => fun _ _ _ _ => False
  | n + 1 => fun ws G Q E => ∃ (d : Nat) (M : Nat → Nat → Int) (b : Nat), ws = [tabW d M] ∧ d ≤ n ∧ d ≤ 20 ∧ 1 ≤ b ∧ b ≤ 1000000 ∧ (∀ i j, i < d → j < d → (M i j).natAbs < 2 ^ b) ∧ Q (.int (rdet d M)) G
abbrev sp_size_number : Spw := spr_size_number 5
theorem len_size_number (n : Nat) (ws G Q E) (h : spr_size_number (n + 1) ws G Q E) : ws.length = 1 := by obtain ⟨_, _, _, rfl, _⟩ := h; rfl
/-- slots: table 0, found 1, sign 2, j 3, number 4 -/
def t_size_number_b1 (sr : Spw) : TSw := (wSeq (wIfS (wTest (wOp wNe (wVar 4) (wC (.int 0)))) (wAug 1 (wOp wMul (wOp wMul (wVar 2) (wVar 4)) (wCall sr (wCons (wCall sp_without_place (wCons (wVar 0) (wCons (wC (.int 0)) (wCons (wVar 3) wNil)))) wNil))) wAddI) wNext)
    (wAsg (wNeg (wVar 2)) (gN 2)))
def t_size_number (sr : Spw) : TSw := (wSeq (wIfS (wTest (wOp wEq (wVar 0) (wLst wNil))) (wRet (wC (.int 1))) wNext)
    (wSeq (wAsg (wC (.int 0)) (gN 1))
    (wSeq (wAsg (wC (.int 1)) (gN 2))
    (wSeq (wFor [false, false, false, true, true] (i_enumG (wCons (wOp wIx (wVar 0) (wC (.int 0))) wNil)) (gT 2 (gsC (gN 3) (gsC (gN 4) gsN))) (t_size_number_b1 sr))
    (wRet (wVar 1))))))
theorem rd_size_number (n : Nat) (ws : List W) (G : Gp) (Q : QW) (E) (h : spr_size_number (n + 1) ws G Q E) : t_size_number (spr_size_number n) { nx := fun _ G' => Q .non G', rt := Cl Q } (startW ["table", "found", "sign", "j", "number"] ws) G := by
  obtain ⟨d, M, b, rfl, dn, d20, b1, bb, hM, q⟩ := h
  show t_size_number _ _ [some (tabW d M), none, none, none, none] G
  have big : 1000 < sizeLine := by decide
  have wd : wD 2 (tabW d M) := wD_lst fun w hw => by
    obtain ⟨r, _, rfl⟩ := List.mem_map.mp hw
    exact wD_lst fun w hw => by
      obtain ⟨v, _, rfl⟩ := List.mem_map.mp hw
      exact wD_int
  unfold t_size_number
  walk_at "w"
  refine ⟨by decide, wOk_of wd (by decide), wOk_of (wD_lst (d := 0) fun w hw => by cases hw) (by decide), ?_⟩
  cases d with
  | zero =>
    rw [show weqb (tabW 0 M) (.lst []) = true from weqb_self (wD_lst (d := 0) fun w hw => by cases hw)]
    walk_at "w"
    exact .inl q
  | succ d =>
    have e0 : weqb (tabW (d + 1) M) (.lst []) = false := by
      unfold tabW
      rw [tabL_map, List.range_succ_eq_map]
      simp [weqb, wdat, wdats, PyData.eqv, PyData.eqvAll]
    rw [e0]
    walk_at "w"
    unfold tabW
    rw [tabL_map]
    walk_at "w"
    rw [show (0 : Int) = ((0 : Nat) : Int) from rfl, atI_map (fun i => W.lst (intsW (rowL (d + 1) (M i)))) (List.range (d + 1)) (by simp)]
    walk_at "w"
    rw [List.getElem_range]
    have ll : (rowL (d + 1) (M 0)).length = d + 1 := by simp [rowL]
    refine forW_ix (fun k σ G1 => G1 = G ∧ σ = [some (tabW (d + 1) M), some (.int (si k (rT d M))), some (.int (sgI k)), none, none]) _ 0 _ _ ⟨rfl, by unfold tabW; rw [tabL_map]; rfl⟩ ?_ ?_
    · rintro k w hw σ G1 N ⟨rfl, rfl⟩ hN
      rw [Nat.zero_add] at hN ⊢
      obtain ⟨hk, rfl⟩ := enum_at _ _ hw
      rw [ll] at hk
      have hk0 := hM 0 k (by omega) hk
      have s1 : (sgI k).natAbs < 2 ^ 1 := by unfold sgI; split <;> decide
      have s2 : (sgI k * M 0 k).natAbs < 2 ^ (1 + b) := natAbs_mul_lt s1 hk0
      have hm : ∀ i j, i < d → j < d → (M (sk 0 i) (sk k j)).natAbs < 2 ^ b := fun i j hi hj => hM _ _ (by unfold sk; split <;> omega) (by unfold sk; split <;> omega)
      have s3 := natAbs_lt_of_le (rdet_le hm)
      have s4 : d * (b + d) ≤ 20 * 1000020 := Nat.mul_le_mul (by omega) (by omega)
      obtain ⟨n, rfl⟩ : ∃ m, n = m + 1 := ⟨n - 1, by omega⟩
      have ev : (rowL (d + 1) (M 0))[k]'(by rw [ll]; exact hk) = M 0 k := by simp [rowL]
      have sg : -(sgI k) = sgI (k + 1) := by unfold sgI; split <;> split <;> omega
      unfold t_size_number_b1
      walk_at "w"
      rw [ev]
      by_cases c : M 0 k = 0
      · rw [decide_eq_true c]
        walk_at "w"
        refine hN _ _ ⟨rfl, ?_⟩
        rw [sg, show si (k + 1) (rT d M) = si k (rT d M) by show _ + rT d M k = _; unfold rT; rw [c]; simp]
        rfl
      · rw [decide_eq_false c]
        walk_at "w"
        refine ⟨cmX s1 hk0 (by decide) (by omega) (by omega), d, M, 0, k, rfl, by omega, by omega, by omega, ?_⟩
        walk_at "w"
        refine ⟨d, _, b, rfl, by omega, by omega, b1, bb, hm, ?_⟩
        walk_at "w"
        refine ⟨cmX s2 s3 (by omega) (by omega) (by omega), ?_⟩
        refine hN _ _ ⟨rfl, ?_⟩
        rw [sg]; rfl
    · rintro σ G1 ⟨rfl, rfl⟩
      walk_at "w"
      refine .inl ?_
      rw [rdet_succ] at q
      rw [enum_len, List.length_map, ll]
      exact q
abbrev triW (l : Ln) : W := .tup [.int ((l.a : Nat) : Int), .int ((l.b : Nat) : Int), .int ((l.s : Nat) : Int)]
def sp_stiff_table : Spw := fun ws G Q E => ∃ (n : Nat) (K : List Ln), ws = [.int ((n : Nat) : Int), .lst (K.map fun l => triW l)] ∧ (1 ≤ n) ∧ (n ≤ 900) ∧ (∀ l ∈ K, LnOk n l) ∧ (K.length ≤ 900) ∧ Q (tabW (n - 1) (lapA K)) G
theorem len_stiff_table (ws G Q E) (h : sp_stiff_table ws G Q E) : ws.length = 2 := by obtain ⟨_, _, rfl, _⟩ := h; rfl
/-- slots: many 0, lines 1, table 2, one 3, other 4, stiffness 5, i 6, j 7 -/
def t_stiff_table_b1 : TSw := (wSeq (wAugIx (wOp wIx (wVar 2) (wVar 3)) (wVar 3) (wVar 5) wAddI)
    (wSeq (wAugIx (wOp wIx (wVar 2) (wVar 4)) (wVar 4) (wVar 5) wAddI)
    (wSeq (wAugIx (wOp wIx (wVar 2) (wVar 3)) (wVar 4) (wVar 5) wSub)
    (wAugIx (wOp wIx (wVar 2) (wVar 4)) (wVar 3) (wVar 5) wSub))))
def t_stiff_table_r1 : TSw := (wFzN 2 (wRet (wCall sp_without_place (wCons (wVar 2) (wCons (wC (.int 0)) (wCons (wC (.int 0)) wNil))))))
def t_stiff_table : TSw := (wSeq (wAsg (wLc [6] (iR1 (wCons (wVar 0) wNil)) (gN 6) wYes (wLcM [7] (iR1 (wCons (wVar 0) wNil)) (gN 7) wYes (wC (.int 0)))) (gN 2))
    (wSeq (wFor [true, true, false, true, true, true, true, true] (iSeqW (wVar 1)) (gT 3 (gsC (gN 3) (gsC (gN 4) (gsC (gN 5) gsN)))) t_stiff_table_b1)
    t_stiff_table_r1))
theorem rd_stiff_table (ws : List W) (G : Gp) (Q : QW) (E) (h : sp_stiff_table ws G Q E) : t_stiff_table { nx := fun _ G' => Q .non G', rt := Cl Q } (startW ["many", "lines", "table", "one", "other", "stiffness", "i", "j"] ws) G := by
  obtain ⟨n, K, rfl, n1, n9, ok, few, q⟩ := h
  show t_stiff_table _ [some (.int ((n : Nat) : Int)), some (.lst (K.map fun l => triW l)), none, none, none, none, none, none] G
  unfold t_stiff_table
  walk_at "w"
  have big : 1000 < sizeLine := by decide
  refine ⟨by omega, by omega, by omega, ?_⟩
  refine lcW_step (fun k acc G1 => ∃ ps, acc = refsW ps ∧ ps.length = k ∧ Nst G ps (List.replicate k (rowL n fun _ => 0)) G1) _ 0 _ _ _ ⟨[], rfl, rfl, Nst.nil⟩ ?_ ?_
  · rintro w hw k acc G1 P ⟨ps, rfl, rfl, h⟩ hP
    walk_at "w"
    refine ⟨by omega, by omega, by omega, ?_⟩
    rw [show rangeW 0 ((n : Nat) : Int).toNat = (List.range n).map fun i : Nat => W.int (0 + (i : Int)) by rw [show ((n : Nat) : Int).toNat = n by omega]; rfl]
    refine lcW_m (fun i : Nat => W.int (0 + (i : Int))) (fun _ => .int 0) _ _ ?_ ?_
    · intro i hi P hP
      walk_at "w"
      exact hP
    · intro p hp
      have tw : (List.range n).map (fun _ => W.int 0) = intsW (rowL n fun _ => 0) := by unfold rowL intsW; rw [List.map_map]; rfl
      rw [tw]
      refine hP _ _ ⟨ps ++ [p], by simp, by simp, ?_⟩
      have := h.push hp (rowL n fun _ => 0)
      rw [show List.replicate (ps.length + 1) (rowL n fun _ => 0) = List.replicate ps.length (rowL n fun _ => 0) ++ [rowL n fun _ => 0] by rw [List.replicate_succ']]
      exact this
  · rintro acc G1 ⟨ps, rfl, lp, h⟩
    rw [Nat.zero_add, rangeW_length, show ((n : Nat) : Int).toNat = n by omega] at lp h
    walk_at "w"
    have e0 : List.replicate n (rowL n fun _ => 0) = tabL n (lapI (K.take 0)) := by
      unfold tabL
      refine List.ext_getElem (by simp) fun i h1 h2 => ?_
      simp only [List.getElem_replicate, List.getElem_map, List.getElem_range]
      rfl
    rw [e0] at h
    refine forW_ix (fun k σ G1 => Nst G ps (tabL n (lapI (K.take k))) G1 ∧ σ = [none, none, some (.lst (refsW ps)), none, none, none, none, none]) _ 0 _ _ ⟨h, rfl⟩ ?_ ?_
    · rintro k w hw σ G1 N ⟨h, rfl⟩ hN
      rw [Nat.zero_add] at hN h
      rw [List.getElem?_map] at hw
      by_cases hk : k < K.length
      · rw [List.getElem?_eq_getElem hk] at hw
        injection hw with hw
        subst hw
        have okl := ok _ (List.getElem_mem hk)
        have eM : lapI (K.take (k + 1)) = lapS (lapI (K.take k)) K[k] := by
          rw [lapS_eq okl.ne]
          funext i j
          exact lapI_take' hk i j
        rw [eM] at hN
        generalize K[k] = l at okl hN ⊢
        walk_at "w"
        have hA : ∀ x y G (Q : QW), Q (.int (x + y)) G → wAddI (.int x) (.int y) G Q := fun _ _ _ _ q => q
        have hS : ∀ x y G (Q : QW), Q (.int (x - y)) G → wSub (.int x) (.int y) G Q := fun _ _ _ _ q => q
        unfold t_stiff_table_b1
        show wAugIx _ _ _ _ { nx := fun σ G => wAugIx _ _ _ _ { nx := fun σ G => wAugIx _ _ _ _ { nx := fun σ G => wAugIx _ _ _ _ _ σ G, rt := _, bk := _, ct := _ } σ G, rt := _, bk := _, ct := _ } σ G, rt := _, bk := _, ct := _ } _ _
        refine nst_aug h hA rfl rfl rfl rfl okl.a okl.a (by omega) fun G2 h2 => ?_
        dsimp only
        refine nst_aug h2 hA rfl rfl rfl rfl okl.b okl.b (by omega) fun G3 h3 => ?_
        dsimp only
        refine nst_aug h3 hS rfl rfl rfl rfl okl.a okl.b (by omega) fun G4 h4 => ?_
        dsimp only
        refine nst_aug h4 hS rfl rfl rfl rfl okl.b okl.a (by omega) fun G5 h5 => ?_
        exact hN _ _ ⟨h5, rfl⟩
      · rw [List.getElem?_eq_none (by omega)] at hw; cases hw
    · rintro σ G1 ⟨h, rfl⟩
      rw [Nat.zero_add, List.length_map, List.take_length] at h
      unfold t_stiff_table_r1
      walk_at "w"
      refine h.fz ?_
      obtain ⟨m, rfl⟩ : ∃ m, n = m + 1 := ⟨n - 1, by omega⟩
      walk_at "w"
      refine ⟨m, lapI K, 0, 0, rfl, by omega, by omega, by omega, .inl ?_⟩
      exact q
theorem lapA_le {m : Nat} {K : List Ln} (net : Net (m + 1) K) (i j : Nat) : (lapA K i j).natAbs < 2 ^ 6 := by
  have := lapI_le (i := i + 1) (j := j + 1) net.ok
  have := net.few
  unfold lapA
  omega
theorem min_le {m : Nat} {K : List Ln} (net : Net (m + 1) K) (p i : Nat) : (rdet (m - 1) fun r c => lapA K (sk p r) (sk i c)).natAbs < 2 ^ 17 := by
  have n4 := net.n4
  have := rdet_le (b := 6) (d := m - 1) (M := fun r c => lapA K (sk p r) (sk i c)) fun _ _ _ _ => lapA_le net _ _
  have e : (m - 1) * (6 + (m - 1)) ≤ 16 := by
    rcases (by omega : m - 1 = 0 ∨ m - 1 = 1 ∨ m - 1 = 2) with h | h | h <;> rw [h] <;> decide
  have := Nat.le_trans this (Nat.pow_le_pow_right (by decide) e)
  omega
theorem sgI_le (k : Nat) : (sgI k).natAbs < 2 ^ 1 := by unfold sgI; split <;> decide
theorem hgt_le {m : Nat} {K : List Ln} (net : Net (m + 1) K) (v i : Nat) : (hgtZ m K v i).natAbs < 2 ^ 18 := by
  unfold hgtZ
  split
  · decide
  · exact natAbs_mul_lt (a := 1) (b := 17) (sgI_le _) (min_le net _ _)
theorem scl_le {m : Nat} {K : List Ln} (net : Net (m + 1) K) : (sclZ m K).natAbs < 2 ^ 28 := by
  have n4 := net.n4
  have := rdet_le (b := 6) (d := m) (M := lapA K) fun _ _ _ _ => lapA_le net _ _
  have e : m * (6 + m) ≤ 27 := by
    rcases (by omega : m = 0 ∨ m = 1 ∨ m = 2 ∨ m = 3) with h | h | h | h <;> rw [h] <;> decide
  have := Nat.le_trans this (Nat.pow_le_pow_right (by decide) e)
  unfold sclZ
  omega
theorem rowL_succ {n : Nat} {f : Nat → Int} : rowL (n + 1) f = rowL n f ++ [f n] := by unfold rowL; rw [List.range_succ, List.map_append]; rfl
abbrev hgtW (m : Nat) (K : List Ln) (v : Nat) : W := .lst (intsW (rowL (m + 1) (hgtZ m K v)))
def sp_heights_of_units : Spw := fun ws G Q E => ∃ (m : Nat) (K : List Ln), ws = [.int (((m + 1 : Nat)) : Int), .lst (K.map fun l => triW l)] ∧ (Net (m + 1) K) ∧ Q (.tup [.lst ((List.range (m + 1)).map (hgtW m K)), .int (sclZ m K)]) G
theorem len_heights_of_units (ws G Q E) (h : sp_heights_of_units ws G Q E) : ws.length = 2 := by obtain ⟨_, _, rfl, _⟩ := h; rfl
/-- slots: many 0, lines 1, table 2, found 3, place 4, heights 5, i 6, sign 7 -/
def t_heights_of_units_b1 : TSw := (wSeq (wAsg (wOp wSub (wC (.int 1)) (wOp wMul (wC (.int 2)) (wOp wMod (wOp wAdd (wVar 4) (wVar 6)) (wC (.int 2))))) (gN 7))
    (wDrop (wBM wM_append (wVar 5) (wCons (wOp wMul (wVar 7) (wCall sp_size_number (wCons (wCall sp_without_place (wCons (wVar 2) (wCons (wVar 4) (wCons (wVar 6) wNil)))) wNil))) wNil))))
def t_heights_of_units_r1 : TSw := (wFz 5 (wDrop (wBM wM_append (wVar 3) (wCons (wVar 5) wNil))))
def t_heights_of_units_b2 : TSw := (wSeq (wAsg (wLstM (wCons (wC (.int 0)) wNil)) (gN 5))
    (wSeq (wFor [false, true, false, false, false, false, true, true] (iR1 (wCons (wOp wSub (wVar 0) (wC (.int 1))) wNil)) (gN 6) t_heights_of_units_b1)
    t_heights_of_units_r1))
def t_heights_of_units_r2 : TSw := (wFz 3 (wRet (wTup (wCons (wVar 3) (wCons (wCall sp_size_number (wCons (wVar 2) wNil)) wNil)))))
def t_heights_of_units : TSw := (wSeq (wAsg (wCall sp_stiff_table (wCons (wVar 0) (wCons (wVar 1) wNil))) (gN 2))
    (wSeq (wAsg (wLstM (wCons (wLc [6] (iR1 (wCons (wVar 0) wNil)) (gN 6) wYes (wC (.int 0))) wNil)) (gN 3))
    (wSeq (wFor [false, true, false, false, true, true, true, true] (iR1 (wCons (wOp wSub (wVar 0) (wC (.int 1))) wNil)) (gN 4) t_heights_of_units_b2)
    t_heights_of_units_r2)))
theorem rd_heights_of_units (ws : List W) (G : Gp) (Q : QW) (E) (h : sp_heights_of_units ws G Q E) : t_heights_of_units { nx := fun _ G' => Q .non G', rt := Cl Q } (startW ["many", "lines", "table", "found", "place", "heights", "i", "sign"] ws) G := by
  obtain ⟨m, K, rfl, net, q⟩ := h
  show t_heights_of_units _ [some (.int (((m + 1 : Nat)) : Int)), some (.lst (K.map fun l => triW l)), none, none, none, none, none, none] G
  unfold t_heights_of_units
  walk_at "w"
  have big : 1000 < sizeLine := by decide
  have n4 := net.n4
  have few := net.few
  refine ⟨m + 1, K, rfl, by omega, by omega, net.ok, by omega, ?_⟩
  walk_at "w"
  rw [show ((((m + 1 : Nat)) : Int)).toNat = m + 1 by omega]
  refine ⟨by omega, by omega, by omega, ?_⟩
  refine lcW_m (fun i : Nat => W.int (0 + (i : Int))) (fun _ => .int 0) _ _ ?_ ?_
  · intro i hi P hP
    walk_at "w"
    exact hP
  have t0 : W.lst ((List.range (m + 1)).map fun _ => W.int 0) = hgtW m K 0 := by
    unfold hgtW rowL intsW
    rw [List.map_map]
    exact congrArg W.lst (List.map_congr_left fun i _ => by simp [hgtZ])
  rw [t0]
  walk_at "w"
  refine ⟨by decide, fun p hp => ?_⟩
  walk_at "w"
  have em : ((((m + 1 : Nat)) : Int) - 1).toNat = m := by omega
  refine ⟨by omega, by omega, ?_⟩
  rw [em]
  refine forW_range (fun k σ G1 => G1 = gup G p (.lst ((List.range (k + 1)).map (hgtW m K))) ∧ σ = [some (.int (((m + 1 : Nat)) : Int)), none, some (tabW (m + 1 - 1) (lapA K)), some (.ref p), none, none, none, none]) ⟨rfl, rfl⟩ ?_ ?_
  · rintro k hk σ G1 N ⟨rfl, rfl⟩ hN
    unfold t_heights_of_units_b2
    walk_at "w"
    rw [Int.zero_add]
    refine ⟨by decide, fun p2 hp2 => ?_⟩
    have hq := hp2
    obtain ⟨ne, hp2⟩ := gup_fresh hp2
    walk_at "w"
    refine ⟨by omega, by omega, ?_⟩
    rw [em]
    refine forW_range (fun j σ G2 => G2 = gup (gup G p (.lst ((List.range (k + 1)).map (hgtW m K)))) p2 (.lst (intsW (rowL (j + 1) (hgtZ m K (k + 1))))) ∧ σ = [some (.int (((m + 1 : Nat)) : Int)), none, some (tabW (m + 1 - 1) (lapA K)), some (.ref p), some (.int ((k : Nat) : Int)), some (.ref p2), none, none]) ⟨by simp [rowL, hgtZ], rfl⟩ ?_ ?_
    · rintro j hj σ G2 N2 ⟨rfl, rfl⟩ hN2
      unfold t_heights_of_units_b1
      walk_at "w"
      rw [Int.zero_add]
      rw [fmodP (by decide)]
      have es : 1 - 2 * ((((k : Nat) : Int) + ((j : Nat) : Int)) % 2) = sgI (k + j) := by unfold sgI; split <;> omega
      refine ⟨by decide, cmX (a := 2) (b := 2) (by decide) (Nat.lt_of_lt_of_le (m := 2) (by omega) (by decide)) (by decide) (by decide) (by decide), ?_⟩
      rw [es]
      walk_at "w"
      obtain ⟨d, rfl⟩ : ∃ d, m = d + 1 := ⟨m - 1, by omega⟩
      refine ⟨d, lapA K, k, j, rfl, by omega, by omega, by omega, ?_⟩
      walk_at "w"
      refine ⟨d, _, 6, rfl, Nat.le_trans (show d ≤ 3 by omega) (by decide), by omega, by decide, by decide, fun _ _ _ _ => lapA_le net _ _, ?_⟩
      walk_at "w"
      refine ⟨cmX (sgI_le _) (min_le net k j) (by decide) (by decide) (by decide), ?_⟩
      refine ⟨by simp [rowL]; omega, ?_⟩
      refine hN2 _ _ ⟨?_, rfl⟩
      rw [rowL_succ (n := j + 1)]
      unfold intsW
      rw [List.map_append]
      have : hgtZ (d + 1) K (k + 1) (j + 1) = sgI (k + j) * rdet d fun r c => lapA K (sk k r) (sk j c) := by
        unfold hgtZ
        rw [if_neg (by omega)]
        rfl
      rw [this]
      rfl
    · rintro σ G2 ⟨rfl, rfl⟩
      unfold t_heights_of_units_r1
      walk_at "w"
      rw [gdel_gup hq]
      walk_at "w"
      refine ⟨by simp; omega, ?_⟩
      refine hN _ _ ⟨?_, rfl⟩
      rw [List.range_succ (n := k + 1), List.map_append]
      rfl
  · rintro σ G1 ⟨rfl, rfl⟩
    unfold t_heights_of_units_r2
    walk_at "w"
    rw [gdel_gup hp]
    refine ⟨m, _, 6, rfl, Nat.le_trans (show m ≤ 3 by omega) (by decide), by omega, by decide, by decide, fun _ _ _ _ => lapA_le net _ _, ?_⟩
    walk_at "w"
    exact ⟨by decide, .inl q⟩
/-! ### what is borne -/
structure Bea where
  lost : Int
  line : Nat
  most : Nat
  scale : Int
  nums : List Int
abbrev beaW (t : Bea) : W := .ins "Bearing" [("lost", .int t.lost), ("line", .int ((t.line : Nat) : Int)), ("most", .int ((t.most : Nat) : Int)), ("scale", .int t.scale), ("numbers", .lst (intsW t.nums))]
def beaOf (m : Nat) (ls : List Ln) (lost : Int) (k : Nat) : Bea :=
  ⟨lost, k, (ls.getD k ⟨0, 0, 0, 0⟩).m, sclZ m (keptL ls lost), rowL (m + 1) fun v => ((ls.getD k ⟨0, 0, 0, 0⟩).s : Int) * (hgtZ m (keptL ls lost) v (ls.getD k ⟨0, 0, 0, 0⟩).a - hgtZ m (keptL ls lost) v (ls.getD k ⟨0, 0, 0, 0⟩).b)⟩
def beasOf (m : Nat) (ls : List Ln) (lost : Int) (j : Nat) : List Bea := (keptI j lost).map (beaOf m ls lost)
noncomputable def beasL (m : Nat) (ls : List Ln) : List Bea := (lostsL (m + 1) ls).flatMap fun l => beasOf m ls l ls.length
theorem keptI_mem {m : Nat} {lost : Int} {k : Nat} : k ∈ keptI m lost ↔ k < m ∧ (k : Int) ≠ lost := by
  unfold keptI
  rw [List.mem_filter, List.mem_range, decide_eq_true_eq]
theorem beas_mem {m : Nat} {ls : List Ln} {t : Bea} : t ∈ beasL m ls ↔ ∃ l ∈ lostsL (m + 1) ls, ∃ k, k < ls.length ∧ (k : Int) ≠ l ∧ t = beaOf m ls l k := by
  unfold beasL beasOf
  rw [List.mem_flatMap]
  constructor
  · rintro ⟨l, hl, h⟩
    obtain ⟨k, hk, rfl⟩ := List.mem_map.mp h
    obtain ⟨h1, h2⟩ := keptI_mem.mp hk
    exact ⟨l, hl, k, h1, h2, rfl⟩
  · rintro ⟨l, hl, k, h1, h2, rfl⟩
    exact ⟨l, hl, List.mem_map.mpr ⟨k, keptI_mem.mpr ⟨h1, h2⟩, rfl⟩⟩
theorem keptI_len {m : Nat} {lost : Int} : (keptI m lost).length ≤ m := Nat.le_trans (List.length_filter_le _ _) (by simp)
theorem beas_len {m : Nat} {ls : List Ln} : ∀ (xs : List Int) (j : Nat), (xs.flatMap fun l => beasOf m ls l j).length ≤ xs.length * j
  | [], _ => by simp
  | x :: xs, j => by
    have a := beas_len (m := m) (ls := ls) xs j
    have b := keptI_len (m := j) (lost := x)
    rw [List.flatMap_cons, List.length_append, List.length_cons, Nat.succ_mul]
    unfold beasOf
    rw [List.length_map]
    unfold beasOf at a
    omega
def sp_Bearing___init__ : Spw := fun ws G Q E => ∃ (p : Addr) (a b c d e : W), ws = [.ref p, a, b, c, d, e] ∧ (G p = some (.ins "Bearing" [])) ∧ Q .non (gup G p (.ins "Bearing" [("lost", a), ("line", b), ("most", c), ("scale", d), ("numbers", e)]))
theorem len_Bearing___init__ (ws G Q E) (h : sp_Bearing___init__ ws G Q E) : ws.length = 6 := by obtain ⟨_, _, _, _, _, _, rfl, _⟩ := h; rfl
/-- slots: self 0, lost 1, line 2, most 3, scale 4, numbers 5 -/
def t_Bearing___init__ : TSw := (wSeq (wSetF "Bearing" "lost" (wVar 1) (wVar 0))
    (wSeq (wSetF "Bearing" "line" (wVar 2) (wVar 0))
    (wSeq (wSetF "Bearing" "most" (wVar 3) (wVar 0))
    (wSeq (wSetF "Bearing" "scale" (wVar 4) (wVar 0))
    (wSetF "Bearing" "numbers" (wVar 5) (wVar 0))))))
theorem rd_Bearing___init__ (ws : List W) (G : Gp) (Q : QW) (E) (h : sp_Bearing___init__ ws G Q E) : t_Bearing___init__ { nx := fun _ G' => Q .non G', rt := Cl Q } (startW ["self", "lost", "line", "most", "scale", "numbers"] ws) G := by
  obtain ⟨p, a, b, c, d, e, rfl, hp, q⟩ := h
  show t_Bearing___init__ _ [some (.ref p), some (a), some (b), some (c), some (d), some (e)] G
  unfold t_Bearing___init__
  walk_at "w"
  rw [hp]
  exact ⟨rfl, by decide, (by decide : 1 < 1000), (by decide : 2 < 1000), (by decide : 3 < 1000), (by decide : 4 < 1000), q⟩
def sp_bearings_with : Spw := fun ws G Q E => ∃ (m : Nat) (ls : List Ln) (lost : Int), ws = [netW (m + 1) ls, .int lost] ∧ (∀ l ∈ ls, LnOk (m + 1) l) ∧ (ls.length ≤ 6) ∧ (Net (m + 1) (keptL ls lost)) ∧ Q (.lst ((beasOf m ls lost ls.length).map fun t => beaW t)) G
theorem len_bearings_with (ws G Q E) (h : sp_bearings_with ws G Q E) : ws.length = 2 := by obtain ⟨_, _, _, rfl, _⟩ := h; rfl
/-- slots: net 0, lost 1, many 2, lines 3, kept 4, units 5, scale 6, found 7, number 8, one 9, other 10, stiffness 11, most 12, shares 13, heights 14 -/
def t_bearings_with_b1 : TSw := (wSeq (wAsg (wOp wIx (wVar 3) (wVar 8)) (gT 4 (gsC (gN 9) (gsC (gN 10) (gsC (gN 11) (gsC (gN 12) gsN))))))
    (wSeq (wAsg (wLc [14] (iSeqW (wVar 5)) (gN 14) wYes (wOp wMul (wVar 11) (wOp wSub (wOp wIx (wVar 14) (wVar 9)) (wOp wIx (wVar 14) (wVar 10))))) (gN 13))
    (wDrop (wBM wM_append (wVar 7) (wCons (wMakeZ "Bearing" sp_Bearing___init__ (wCons (wVar 1) (wCons (wVar 8) (wCons (wVar 12) (wCons (wVar 6) (wCons (wVar 13) wNil)))))) wNil)))))
def t_bearings_with : TSw := (wSeq (wAsg (wVar 0) (gT 2 (gsC (gN 2) (gsC (gN 3) gsN))))
    (wSeq (wAsg (wLc [8] (iR1 (wCons (wCB wLen (wCons (wVar 3) wNil)) wNil)) (gN 8) (wTest (wOp wNe (wVar 8) (wVar 1))) (wVar 8)) (gN 4))
    (wSeq (wAsg (wCall sp_heights_of_units (wCons (wVar 2) (wCons (wLc [8] (iSeqW (wVar 4)) (gN 8) wYes (wSlice (wOp wIx (wVar 3) (wVar 8)) wpNone (wpSome (wC (.int 3))))) wNil))) (gT 2 (gsC (gN 5) (gsC (gN 6) gsN))))
    (wSeq (wAsg (wLstM wNil) (gN 7))
    (wSeq (wFor [true, false, true, false, true, false, false, false, true, true, true, true, true, true, true] (iSeqW (wVar 4)) (gN 8) t_bearings_with_b1)
    (wRet (wVar 7)))))))
theorem rd_bearings_with (ws : List W) (G : Gp) (Q : QW) (E) (h : sp_bearings_with ws G Q E) : t_bearings_with { nx := fun _ G' => Q .non G', rt := Cl Q } (startW ["net", "lost", "many", "lines", "kept", "units", "scale", "found", "number", "one", "other", "stiffness", "most", "shares", "heights"] ws) G := by
  obtain ⟨m, ls, lost, rfl, ok, few, net, q⟩ := h
  show t_bearings_with _ [some (netW (m + 1) ls), some (.int lost), none, none, none, none, none, none, none, none, none, none, none, none, none] G
  unfold t_bearings_with
  walk_at "w"
  have big : 1000 < sizeLine := by decide
  have n4 := net.n4
  have kl := keptI_len (m := ls.length) (lost := lost)
  refine ⟨by omega, by omega, by omega, ?_⟩
  rw [show ((ls.length : Nat) : Int).toNat = ls.length by omega]
  refine lcW_filterA (fun k : Nat => W.int (0 + (k : Int))) (fun k => .int ((k : Nat) : Int)) (fun k => decide ((k : Int) ≠ lost)) _ _ _ ?_ ?_
  · intro k hk R P hR hP
    rw [Int.zero_add]
    walk_at "w"
    by_cases c : (k : Int) = lost
    · rw [decide_eq_true c]
      exact hP (by simp [c])
    · rw [decide_eq_false c]
      exact hR (by simp [c])
  rw [List.nil_append]
  refine ⟨by rw [List.length_map]; exact Nat.le_trans kl (by omega), ?_⟩
  refine lcW_m (fun k : Nat => W.int ((k : Nat) : Int)) (fun k => triW (ls.getD k ⟨0, 0, 0, 0⟩)) _ _ ?_ ?_
  · intro k hk P hP
    obtain ⟨hk, -⟩ := keptI_mem.mp hk
    walk_at "w"
    rw [atI_map _ _ hk]
    walk_at "w"
    rw [show ls.getD k ⟨0, 0, 0, 0⟩ = ls[k] by simp [List.getD_eq_getElem?_getD, hk]] at hP
    exact hP
  have e3 : ((List.range ls.length).filter fun k : Nat => decide ((k : Int) ≠ lost)).map (fun k => triW (ls.getD k ⟨0, 0, 0, 0⟩)) = (keptL ls lost).map fun l => triW l := by unfold keptL keptU keptI; rw [List.map_map]; rfl
  rw [e3]
  refine ⟨m, keptL ls lost, rfl, net, ?_⟩
  walk_at "w"
  refine ⟨by decide, fun p hp => ?_⟩
  refine forW_ix (fun k σ G1 => G1 = gup G p (.lst (((keptI ls.length lost).take k).map fun i => beaW (beaOf m ls lost i))) ∧ σ = [none, some (.int lost), none, some (.tup (linesW ls)), none, some (.lst ((List.range (m + 1)).map (hgtW m (keptL ls lost)))), some (.int (sclZ m (keptL ls lost))), some (.ref p), none, none, none, none, none, none, none]) _ 0 _ _ ⟨rfl, rfl⟩ ?_ ?_
  · rintro i w hw σ G1 N ⟨rfl, rfl⟩ hN
    rw [Nat.zero_add] at hN ⊢
    rw [List.getElem?_map] at hw
    have hi : i < (keptI ls.length lost).length := by
      rcases Nat.lt_or_ge i (keptI ls.length lost).length with c | c
      · exact c
      · unfold keptI at c; rw [List.getElem?_eq_none c] at hw; cases hw
    have hw2 : some (W.int ((((keptI ls.length lost)[i] : Nat)) : Int)) = some w := by
      rw [← hw]
      show _ = Option.map _ (keptI ls.length lost)[i]?
      rw [List.getElem?_eq_getElem hi]; rfl
    injection hw2 with hw2
    subst hw2
    rw [List.take_succ_eq_append_getElem hi, List.map_append] at hN
    obtain ⟨hk, hne⟩ := keptI_mem.mp (List.getElem_mem hi)
    generalize (keptI ls.length lost)[i] = k at hN hk hne ⊢
    have okl := ok _ (List.getElem_mem hk)
    unfold t_bearings_with_b1
    walk_at "w"
    rw [atI_map _ _ hk]
    walk_at "w"
    have el : ls.getD k ⟨0, 0, 0, 0⟩ = ls[k] := by simp [List.getD_eq_getElem?_getD, hk]
    have eb : beaOf m ls lost k = ⟨lost, k, ls[k].m, sclZ m (keptL ls lost), rowL (m + 1) fun v => (ls[k].s : Int) * (hgtZ m (keptL ls lost) v ls[k].a - hgtZ m (keptL ls lost) v ls[k].b)⟩ := by unfold beaOf; rw [el]
    generalize ls[k] = l at okl hN eb ⊢
    have l9 := okl.s.2
    have la := okl.a
    have lb := okl.b
    refine ⟨by simp; omega, ?_⟩
    refine lcW_m (hgtW m (keptL ls lost)) (fun v => .int ((l.s : Int) * (hgtZ m (keptL ls lost) v l.a - hgtZ m (keptL ls lost) v l.b))) _ _ ?_ ?_
    · intro v hv P hP
      walk_at "w"
      rw [atI_row la, atI_row lb]
      walk_at "w"
      have h1 := hgt_le net v l.a
      have h2 := hgt_le net v l.b
      exact ⟨cmX (a := 4) (b := 19) (by omega) (by omega) (by decide) (by decide) (by decide), hP⟩
    walk_at "w"
    intro p2 hp2
    refine ⟨p2, _, _, _, _, _, rfl, gup_same, rfl, ?_⟩
    walk_at "w"
    rw [gdel_gup hp2]
    walk_at "w"
    refine ⟨by simp; omega, ?_⟩
    refine hN _ _ ⟨?_, rfl⟩
    rw [List.map_cons, List.map_nil, eb]
    unfold rowL beaW intsW
    dsimp only
    rw [List.map_map]
    rfl
  · rintro σ G1 ⟨rfl, rfl⟩
    walk_at "w"
    have : (keptI ls.length lost).take ((List.range ls.length).filter fun k : Nat => decide ((k : Int) ≠ lost)).length = keptI ls.length lost := List.take_length
    rw [this]
    refine tellL.cl (.inl ?_) hp
    have : (keptI ls.length lost).map (fun i => beaW (beaOf m ls lost i)) = (beasOf m ls lost ls.length).map fun t => beaW t := by unfold beasOf; rw [List.map_map]; rfl
    rw [this]
    exact q
theorem fld_lost {t : Bea} {G : Gp} {Q : QW} : wFld (Str.ofString "Bearing") (Str.ofString "lost") (beaW t) G Q = Q (.int t.lost) G := propext ⟨fun h => h.2, fun h => ⟨rfl, h⟩⟩
theorem fld_line {t : Bea} {G : Gp} {Q : QW} : wFld (Str.ofString "Bearing") (Str.ofString "line") (beaW t) G Q = Q (.int ((t.line : Nat) : Int)) G := propext ⟨fun h => h.2, fun h => ⟨rfl, h⟩⟩
theorem fld_most {t : Bea} {G : Gp} {Q : QW} : wFld (Str.ofString "Bearing") (Str.ofString "most") (beaW t) G Q = Q (.int ((t.most : Nat) : Int)) G := propext ⟨fun h => h.2, fun h => ⟨rfl, h⟩⟩
theorem fld_scale {t : Bea} {G : Gp} {Q : QW} : wFld (Str.ofString "Bearing") (Str.ofString "scale") (beaW t) G Q = Q (.int t.scale) G := propext ⟨fun h => h.2, fun h => ⟨rfl, h⟩⟩
theorem fld_nums {t : Bea} {G : Gp} {Q : QW} : wFld (Str.ofString "Bearing") (Str.ofString "numbers") (beaW t) G Q = Q (.lst (intsW t.nums)) G := propext ⟨fun h => h.2, fun h => ⟨rfl, h⟩⟩
def sp_bearings : Spw := fun ws G Q E => ∃ (m : Nat) (ls : List Ln), ws = [netW (m + 1) ls] ∧ (Net (m + 1) ls) ∧ Q (.lst ((beasL m ls).map fun t => beaW t)) G
theorem len_bearings (ws G Q E) (h : sp_bearings ws G Q E) : ws.length = 1 := by obtain ⟨_, _, rfl, _⟩ := h; rfl
/-- slots: net 0, found 1, lost 2 -/
def t_bearings_b1 : TSw := (wDrop (wBM wM_extend (wVar 1) (wCons (wCall sp_bearings_with (wCons (wVar 0) (wCons (wVar 2) wNil))) wNil)))
def t_bearings : TSw := (wSeq (wAsg (wLstM wNil) (gN 1))
    (wSeq (wFor [false, false, true] (iSeqW (wOp wAdd (wLst (wCons (wC (.int (-1))) wNil)) (wCall sp_losable (wCons (wVar 0) wNil)))) (gN 2) t_bearings_b1)
    (wRet (wVar 1))))
theorem rd_bearings (ws : List W) (G : Gp) (Q : QW) (E) (h : sp_bearings ws G Q E) : t_bearings { nx := fun _ G' => Q .non G', rt := Cl Q } (startW ["net", "found", "lost"] ws) G := by
  obtain ⟨m, ls, rfl, net, q⟩ := h
  show t_bearings _ [some (netW (m + 1) ls), none, none] G
  unfold t_bearings
  walk_at "w"
  have big : 1000 < sizeLine := by decide
  have few := net.few
  have dl := due_len (n := m + 1) (ls := ls)
  refine ⟨by decide, fun p hp => ⟨by decide, m + 1, ls, rfl, net, .inl ?_⟩⟩
  walk_at "w"
  rw [show (W.int (-1)) :: natsW (dueL (m + 1) ls) = (lostsL (m + 1) ls).map W.int by unfold lostsL natsW; rw [List.map_cons, List.map_map]; rfl]
  refine ⟨by omega, ?_⟩
  have ll := losts_len (n := m + 1) (ls := ls)
  refine forW_ix (fun k σ G1 => G1 = gup G p (.lst ((((lostsL (m + 1) ls).take k).flatMap fun l => beasOf m ls l ls.length).map fun t => beaW t)) ∧ σ = [some (netW (m + 1) ls), some (.ref p), none]) _ 0 _ _ ⟨rfl, rfl⟩ ?_ ?_
  · rintro k w hw σ G1 N ⟨rfl, rfl⟩ hN
    rw [Nat.zero_add] at hN ⊢
    rw [List.getElem?_map] at hw
    by_cases hk : k < (lostsL (m + 1) ls).length
    · rw [List.getElem?_eq_getElem hk] at hw
      injection hw with hw
      subst hw
      have hl := List.getElem_mem hk
      rw [take_flat _ hk, List.map_append] at hN
      have lt := beas_len (m := m) (ls := ls) ((lostsL (m + 1) ls).take k) ls.length
      have lt2 : ((lostsL (m + 1) ls).take k).length ≤ 7 := by rw [List.length_take]; omega
      have lt3 := Nat.mul_le_mul lt2 few
      have lt4 := keptI_len (m := ls.length) (lost := (lostsL (m + 1) ls)[k])
      generalize (lostsL (m + 1) ls)[k] = l at hN hl lt4 ⊢
      generalize (((lostsL (m + 1) ls).take k).flatMap fun l => beasOf m ls l ls.length) = pre at hN lt ⊢
      unfold t_bearings_b1
      walk_at "w"
      refine ⟨m, ls, l, rfl, net.ok, few, net_kept net hl, ?_⟩
      walk_at "w"
      refine ⟨by unfold beasOf; rw [List.length_map]; omega, ?_⟩
      exact hN _ _ ⟨rfl, rfl⟩
    · rw [List.getElem?_eq_none (by omega)] at hw; cases hw
  · rintro σ G1 ⟨rfl, rfl⟩
    rw [Nat.zero_add, List.length_map, List.take_length]
    walk_at "w"
    exact tellL.cl (.inl q) hp
def sp_bearing_of : Spw := fun ws G Q E => ∃ (m : Nat) (ls : List Ln) (lost : Int) (k : Nat), ws = [.lst ((beasL m ls).map fun t => beaW t), .int lost, .int ((k : Nat) : Int)] ∧ (lost ∈ lostsL (m + 1) ls) ∧ (k < ls.length) ∧ ((k : Int) ≠ lost) ∧ Q (beaW (beaOf m ls lost k)) G
theorem len_bearing_of (ws G Q E) (h : sp_bearing_of ws G Q E) : ws.length = 3 := by obtain ⟨_, _, _, _, rfl, _⟩ := h; rfl
/-- slots: found 0, lost 1, line 2, bearing 3 -/
def t_bearing_of_b1 : TSw := (wIfS (wAnd (wTest (wOp wEq (wUn (wFld "Bearing" "lost") (wVar 3)) (wVar 1))) (wTest (wOp wEq (wUn (wFld "Bearing" "line") (wVar 3)) (wVar 2)))) (wRet (wVar 3)) wNext)
def t_bearing_of : TSw := (wSeq (wFor [true, false, false, true] (iSeqW (wVar 0)) (gN 3) t_bearing_of_b1)
    (wRet (wC .non)))
theorem rd_bearing_of (ws : List W) (G : Gp) (Q : QW) (E) (h : sp_bearing_of ws G Q E) : t_bearing_of { nx := fun _ G' => Q .non G', rt := Cl Q } (startW ["found", "lost", "line", "bearing"] ws) G := by
  obtain ⟨m, ls, lost, k, rfl, hl, hk, ne, q⟩ := h
  show t_bearing_of _ [some (.lst ((beasL m ls).map fun t => beaW t)), some (.int lost), some (.int ((k : Nat) : Int)), none] G
  unfold t_bearing_of
  walk_at "w"
  refine forW_ix (fun i σ G1 => G1 = G ∧ σ = [none, some (.int lost), some (.int ((k : Nat) : Int)), none] ∧ ∀ j, j < i → (beasL m ls)[j]? ≠ some (beaOf m ls lost k)) _ 0 _ _ ⟨rfl, rfl, fun j hj => absurd hj (by omega)⟩ ?_ ?_
  · rintro i w hw σ G1 N ⟨rfl, rfl, hz⟩ hN
    rw [Nat.zero_add] at hN hz
    rw [List.getElem?_map] at hw
    by_cases hi : i < (beasL m ls).length
    · rw [List.getElem?_eq_getElem hi] at hw
      injection hw with hw
      subst hw
      obtain ⟨l, hl', k', hk', ne', et⟩ := beas_mem.mp (List.getElem_mem hi)
      have ei : (beasL m ls)[i]? = some (beaOf m ls l k') := by rw [List.getElem?_eq_getElem hi, et]
      rw [et]
      unfold t_bearing_of_b1
      walk_at "w"
      rw [fld_lost, show (beaOf m ls l k').lost = l from rfl]
      walk_at "w"
      by_cases c : l = lost
      · rw [decide_eq_true c]
        walk_at "w"
        rw [fld_line, show (beaOf m ls l k').line = k' from rfl]
        walk_at "w"
        by_cases d : k' = k
        · rw [decide_eq_true (by omega), if_pos rfl, c, d]
          exact .inl q
        · rw [decide_eq_false (by omega), if_neg (by decide)]
          refine hN _ _ ⟨rfl, rfl, fun j hj e => ?_⟩
          by_cases f : j = i
          · rw [f, ei] at e
            injection e with e
            exact d (congrArg Bea.line e)
          · exact hz j (by omega) e
      · rw [decide_eq_false c, if_neg (by decide)]
        refine hN _ _ ⟨rfl, rfl, fun j hj e => ?_⟩
        by_cases f : j = i
        · rw [f, ei] at e
          injection e with e
          exact c (congrArg Bea.lost e)
        · exact hz j (by omega) e
    · rw [List.getElem?_eq_none (by omega)] at hw; cases hw
  · rintro σ G1 ⟨rfl, rfl, hz⟩
    obtain ⟨j, hj, e⟩ := List.getElem_of_mem (beas_mem.mpr ⟨lost, hl, k, hk, ne, rfl⟩)
    rw [Nat.zero_add, List.length_map] at hz
    exact absurd (by rw [List.getElem?_eq_getElem hj, e]) (hz j hj)
/-! ### weights and prices -/
structure Wr where
  lost : Int
  line : Nat
  side : Int
  w : Rat
abbrev wrW (r : Wr) : W := .tup [.int r.lost, .int ((r.line : Nat) : Int), .int r.side, fr r.w]
abbrev wtsW (lev : Rat) (rows : List Wr) : W := .tup [fr lev, .tup (rows.map fun r => wrW r)]
structure WrOk (n : Nat) (ls : List Ln) (r : Wr) : Prop where
  lost : r.lost ∈ lostsL n ls
  line : r.line < ls.length
  ne : (r.line : Int) ≠ r.lost
  side : r.side = -1 ∨ r.side = 1
  sz : sz 10 r.w
structure WtsOk (n : Nat) (ls : List Ln) (lev : Rat) (rows : List Wr) : Prop where
  lev : sz 12 lev
  len : rows.length ≤ 12
  ok : ∀ r ∈ rows, WrOk n ls r
open Classical in
noncomputable def hgtR (m : Nat) (K : List Ln) (v : Nat) : List Rat := if h : ∃ h, IsH (m + 1) K (unitN (m + 1) v 0) h then h.choose else []
theorem hgtR_at {m v : Nat} {K : List Ln} (net : Net (m + 1) K) (hv : v < m + 1) : IsH (m + 1) K (unitN (m + 1) v 0) (hgtR m K v) := by
  have ex := isH_ex (b := 1) (x := unitN (m + 1) v 0) net unitN_len unitN_sz (by decide) (unitN_bal hv (by omega))
  unfold hgtR
  rw [dif_pos ex]
  exact ex.choose_spec
/-- the share of a line for a place and the place 0, with a line lost -/
noncomputable def shr (m : Nat) (ls : List Ln) (lost : Int) (k v : Nat) : Rat := ((ls.getD k ⟨0, 0, 0, 0⟩).s : Rat) * ((hgtR m (keptL ls lost) v).getD (ls.getD k ⟨0, 0, 0, 0⟩).a 0 - (hgtR m (keptL ls lost) v).getD (ls.getD k ⟨0, 0, 0, 0⟩).b 0)
theorem bea_le {m v k : Nat} {ls : List Ln} {lost : Int} (ok : ∀ l ∈ ls, LnOk (m + 1) l) (hk : k < ls.length) (net : Net (m + 1) (keptL ls lost)) (hv : v < m + 1) : ((beaOf m ls lost k).nums.getD v 0).natAbs < 2 ^ 23 := by
  have e : (beaOf m ls lost k).nums.getD v 0 = ((ls.getD k ⟨0, 0, 0, 0⟩).s : Int) * (hgtZ m (keptL ls lost) v (ls.getD k ⟨0, 0, 0, 0⟩).a - hgtZ m (keptL ls lost) v (ls.getD k ⟨0, 0, 0, 0⟩).b) := by
    unfold beaOf rowL
    simp [List.getD_eq_getElem?_getD, hv]
  have okl := ok _ (List.getElem_mem hk)
  have el : ls.getD k ⟨0, 0, 0, 0⟩ = ls[k] := by simp [List.getD_eq_getElem?_getD, hk]
  have l9 := okl.s.2
  have h1 := hgt_le net v ls[k].a
  have h2 := hgt_le net v ls[k].b
  rw [e, el]
  exact natAbs_mul_lt (a := 4) (b := 19) (by omega) (by omega)
theorem shr_bea {m v k : Nat} {ls : List Ln} {lost : Int} (ok : ∀ l ∈ ls, LnOk (m + 1) l) (hk : k < ls.length) (net : Net (m + 1) (keptL ls lost)) (hv : v < m + 1) : (((beaOf m ls lost k).nums.getD v 0 : Int) : Rat) / ((sclZ m (keptL ls lost) : Int) : Rat) = shr m ls lost k v ∧ sz 60 (shr m ls lost k v) := by
  have e : (beaOf m ls lost k).nums.getD v 0 = ((ls.getD k ⟨0, 0, 0, 0⟩).s : Int) * (hgtZ m (keptL ls lost) v (ls.getD k ⟨0, 0, 0, 0⟩).a - hgtZ m (keptL ls lost) v (ls.getD k ⟨0, 0, 0, 0⟩).b) := by
    unfold beaOf rowL
    simp [List.getD_eq_getElem?_getD, hv]
  have okl := ok _ (List.getElem_mem hk)
  have el : ls.getD k ⟨0, 0, 0, 0⟩ = ls[k] := by simp [List.getD_eq_getElem?_getD, hk]
  have hh := hgtR_at net hv
  have ds : ((sclZ m (keptL ls lost) : Int) : Rat) ≠ 0 := by
    have := scl_ne net
    exact_mod_cast this
  have e1 : (((beaOf m ls lost k).nums.getD v 0 : Int) : Rat) / ((sclZ m (keptL ls lost) : Int) : Rat) = shr m ls lost k v := by
    rw [e]
    unfold shr
    rw [el]
    rw [Rat.intCast_mul, Rat.intCast_sub, hgt_cast net hv okl.a hh, hgt_cast net hv okl.b hh, Rat.intCast_natCast]
    grind
  refine ⟨e1, ?_⟩
  rw [← e1]
  have l9 := okl.s.2
  have h1 := hgt_le net v ls[k].a
  have h2 := hgt_le net v ls[k].b
  have b1 : ((beaOf m ls lost k).nums.getD v 0).natAbs < 2 ^ (4 + 19) := by
    rw [e, el]
    exact natAbs_mul_lt (by omega) (by omega)
  exact sz_mono (sz_div ds (sz_int b1 (by decide)) (sz_int (scl_le net) (by decide))) (by decide)
noncomputable def priceR (m : Nat) (ls : List Ln) (lev : Rat) (rows : List Wr) (v : Nat) : Rat := rows.foldl (fun acc r => acc - r.w * ((r.side : Rat) * shr m ls r.lost r.line v)) lev
noncomputable def pricesL (m : Nat) (ls : List Ln) (lev : Rat) (rows : List Wr) : List Rat := (List.range (m + 1)).map (priceR m ls lev rows)
theorem priceR_succ {m : Nat} {ls : List Ln} {lev : Rat} {rows : List Wr} {i v : Nat} (hi : i < rows.length) : priceR m ls lev (rows.take (i + 1)) v = priceR m ls lev (rows.take i) v - rows[i].w * ((rows[i].side : Rat) * shr m ls rows[i].lost rows[i].line v) := by
  unfold priceR
  rw [List.take_succ_eq_append_getElem hi, List.foldl_append]
  rfl
theorem side_sz {s : Int} (h : s = -1 ∨ s = 1) : sz 1 (s : Rat) := sz_int (by rcases h with rfl | rfl <;> decide) (by decide)
theorem priceR_sz {m : Nat} {ls : List Ln} {lev : Rat} {rows : List Wr} (net : Net (m + 1) ls) (ok : WtsOk (m + 1) ls lev rows) {v : Nat} (hv : v < m + 1) : ∀ i, i ≤ rows.length → sz (12 + 72 * i) (priceR m ls lev (rows.take i) v)
  | 0, _ => ok.lev
  | i + 1, hi => by
    rw [priceR_succ (by omega)]
    have r := ok.ok _ (List.getElem_mem (show i < rows.length by omega))
    exact sz_mono (sz_sub (priceR_sz net ok hv i (by omega)) (sz_mul r.sz (sz_mul (side_sz r.side) (shr_bea net.ok r.line (net_kept net r.lost) hv).2))) (by omega)
theorem rng_set {n j : Nat} {f g : Nat → W} (hj : j < n) (h : ∀ v, v ≠ j → f v = g v) : ((List.range n).map f).set j (g j) = (List.range n).map g := by
  refine List.ext_getElem (by simp) fun k h1 h2 => ?_
  simp only [List.getElem_set, List.getElem_map, List.getElem_range]
  by_cases c : j = k
  · rw [if_pos c, c]
  · rw [if_neg c]; exact h k (fun z => c z.symm)
/-- prices, those of the first places behind one row more -/
noncomputable def mixP (m : Nat) (ls : List Ln) (lev : Rat) (rows : List Wr) (i j : Nat) : List W := (List.range (m + 1)).map fun v => fr (priceR m ls lev (rows.take (if v < j then i + 1 else i)) v)
theorem mixP_zero {m : Nat} {ls : List Ln} {lev : Rat} {rows : List Wr} {i : Nat} : mixP m ls lev rows i 0 = (List.range (m + 1)).map fun v => fr (priceR m ls lev (rows.take i) v) := rfl
theorem mixP_full {m : Nat} {ls : List Ln} {lev : Rat} {rows : List Wr} {i : Nat} : mixP m ls lev rows i (m + 1) = mixP m ls lev rows (i + 1) 0 := by
  unfold mixP
  refine List.map_congr_left fun v hv => ?_
  rw [if_pos (List.mem_range.mp hv), if_neg (by omega)]
theorem mixP_at {m : Nat} {ls : List Ln} {lev : Rat} {rows : List Wr} {i j : Nat} (hj : j < m + 1) : L2.atI (mixP m ls lev rows i j) ((j : Nat) : Int) = some (fr (priceR m ls lev (rows.take i) j)) := by
  unfold mixP
  rw [atI_map _ _ (by simpa using hj)]
  simp
theorem mixP_set {m : Nat} {ls : List Ln} {lev : Rat} {rows : List Wr} {i j : Nat} (hj : j < m + 1) : (mixP m ls lev rows i j).set j (fr (priceR m ls lev (rows.take (i + 1)) j)) = mixP m ls lev rows i (j + 1) := by
  unfold mixP
  have := rng_set (n := m + 1) (j := j) (f := fun v => fr (priceR m ls lev (rows.take (if v < j then i + 1 else i)) v)) (g := fun v => fr (priceR m ls lev (rows.take (if v < j + 1 then i + 1 else i)) v)) hj fun v hv => by
    by_cases c : v < j
    · rw [if_pos c, if_pos (by omega)]
    · rw [if_neg c, if_neg (by omega)]
  rw [if_pos (by omega)] at this
  exact this
theorem mixP_len {m : Nat} {ls : List Ln} {lev : Rat} {rows : List Wr} {i j : Nat} : (mixP m ls lev rows i j).length = m + 1 := by simp [mixP]
def sp_prices_by : Spw := fun ws G Q E => ∃ (m : Nat) (ls : List Ln) (lev : Rat) (rows : List Wr), ws = [.lst ((beasL m ls).map fun t => beaW t), .int (((m + 1 : Nat)) : Int), wtsW lev rows] ∧ (Net (m + 1) ls) ∧ (WtsOk (m + 1) ls lev rows) ∧ tellL ((pricesL m ls lev rows).map fun q => fr q) Q G
theorem len_prices_by (ws G Q E) (h : sp_prices_by ws G Q E) : ws.length = 3 := by obtain ⟨_, _, _, _, rfl, _⟩ := h; rfl
/-- slots: found 0, many 1, weights 2, level 3, rows 4, at_places 5, lost 6, line 7, side 8, weight 9, bearing 10, place 11, share 12 -/
def t_prices_by_b1 : TSw := (wSeq (wAsg (wCall sp_fraction (wCons (wOp wMul (wVar 8) (wOp wIx (wUn (wFld "Bearing" "numbers") (wVar 10)) (wVar 11))) (wCons (wUn (wFld "Bearing" "scale") (wVar 10)) wNil))) (gN 12))
    (wAsg (wCall sp_minus (wCons (wOp wIx (wVar 5) (wVar 11)) (wCons (wCall sp_times (wCons (wVar 9) (wCons (wVar 12) wNil))) wNil))) (gIx (wVar 5) (wVar 11))))
def t_prices_by_b2 : TSw := (wSeq (wAsg (wCall sp_bearing_of (wCons (wVar 0) (wCons (wVar 6) (wCons (wVar 7) wNil)))) (gN 10))
    (wFor [false, false, true, true, true, false, true, true, false, false, false, true, true] (iR1 (wCons (wVar 1) wNil)) (gN 11) t_prices_by_b1))
def t_prices_by : TSw := (wSeq (wAsg (wVar 2) (gT 2 (gsC (gN 3) (gsC (gN 4) gsN))))
    (wSeq (wAsg (wLcM [11] (iR1 (wCons (wVar 1) wNil)) (gN 11) wYes (wVar 3)) (gN 5))
    (wSeq (wFor [false, false, true, true, true, false, true, true, true, true, true, true, true] (iSeqW (wVar 4)) (gT 4 (gsC (gN 6) (gsC (gN 7) (gsC (gN 8) (gsC (gN 9) gsN))))) t_prices_by_b2)
    (wRet (wVar 5)))))
theorem rd_prices_by (ws : List W) (G : Gp) (Q : QW) (E) (h : sp_prices_by ws G Q E) : t_prices_by { nx := fun _ G' => Q .non G', rt := Cl Q } (startW ["found", "many", "weights", "level", "rows", "at_places", "lost", "line", "side", "weight", "bearing", "place", "share"] ws) G := by
  obtain ⟨m, ls, lev, rows, rfl, net, ok, q⟩ := h
  show t_prices_by _ [some (.lst ((beasL m ls).map fun t => beaW t)), some (.int (((m + 1 : Nat)) : Int)), some (wtsW lev rows), none, none, none, none, none, none, none, none, none, none] G
  unfold t_prices_by
  walk_at "w"
  have big : 1000 < sizeLine := by decide
  have n4 := net.n4
  have em : ((((m + 1 : Nat)) : Int)).toNat = m + 1 := by omega
  have few := ok.len
  refine ⟨by omega, by omega, by omega, ?_⟩
  rw [em]
  refine lcW_m (fun i : Nat => W.int (0 + (i : Int))) (fun v => fr (priceR m ls lev (rows.take 0) v)) _ _ ?_ ?_
  · intro i hi P hP
    walk_at "w"
    exact hP
  intro p hp
  refine forW_ix (fun i σ G1 => G1 = gup G p (.lst (mixP m ls lev rows i 0)) ∧ σ = [some (.lst ((beasL m ls).map fun t => beaW t)), some (.int (((m + 1 : Nat)) : Int)), none, none, none, some (.ref p), none, none, none, none, none, none, none]) _ 0 _ _ ⟨rfl, rfl⟩ ?_ ?_
  · rintro i w hw σ G1 N ⟨rfl, rfl⟩ hN
    rw [Nat.zero_add] at hN ⊢
    rw [List.getElem?_map] at hw
    by_cases hi : i < rows.length
    · rw [List.getElem?_eq_getElem hi] at hw
      injection hw with hw
      subst hw
      have r := ok.ok _ (List.getElem_mem hi)
      have ps := fun {v : Nat} (hv : v < m + 1) => priceR_succ (m := m) (ls := ls) (lev := lev) (v := v) hi
      generalize rows[i] = t at r ps ⊢
      have nk := net_kept net r.lost
      walk_at "w"
      unfold t_prices_by_b2
      walk_at "w"
      refine ⟨m, ls, t.lost, t.line, rfl, r.lost, r.line, r.ne, ?_⟩
      walk_at "w"
      refine ⟨by omega, by omega, ?_⟩
      rw [em]
      refine forW_range (fun j σ G2 => G2 = gup G p (.lst (mixP m ls lev rows i j)) ∧ σ = [some (.lst ((beasL m ls).map fun t => beaW t)), some (.int (((m + 1 : Nat)) : Int)), none, none, none, some (.ref p), none, none, some (.int t.side), some (fr t.w), some (beaW (beaOf m ls t.lost t.line)), none, none]) ⟨rfl, rfl⟩ ?_ ?_
      · rintro j hj σ G2 N2 ⟨rfl, rfl⟩ hN2
        unfold t_prices_by_b1
        walk_at "w"
        rw [Int.zero_add, fld_nums]
        walk_at "w"
        have ln : (beaOf m ls t.lost t.line).nums.length = m + 1 := by simp [beaOf, rowL]
        obtain ⟨es, ss⟩ := shr_bea net.ok r.line nk hj
        have bn : ((beaOf m ls t.lost t.line).nums.getD j 0).natAbs < 2 ^ 23 := bea_le net.ok r.line nk hj
        rw [atI_ints (by rw [ln]; exact hj)]
        walk_at "w"
        refine ⟨cmX (a := 1) (b := 23) (by rcases r.side with h | h <;> rw [h] <;> decide) bn (by decide) (by decide) (by decide), ?_⟩
        rw [fld_scale, show (beaOf m ls t.lost t.line).scale = sclZ m (keptL ls t.lost) from rfl]
        refine ⟨_, _, rfl, scl_ne nk, ?_⟩
        have ed : Rat.divInt (t.side * (beaOf m ls t.lost t.line).nums.getD j 0) (sclZ m (keptL ls t.lost)) = (t.side : Rat) * shr m ls t.lost t.line j := by
          rw [divInt_div, Rat.intCast_mul, ← es]; grind
        rw [ed]
        walk_at "w"
        rw [mixP_at hj]
        walk_at "w"
        have sp := priceR_sz net ok hj i (by omega)
        have sw := sz_mul (side_sz r.side) ss
        refine ⟨t.w, _, rfl, ⟨_, _, r.sz, sw, by omega⟩, ?_⟩
        walk_at "w"
        refine ⟨_, _, rfl, ⟨_, _, sp, sz_mul r.sz sw, by omega⟩, ?_⟩
        walk_at "w"
        rw [← ps hj, ixN_natW (by rw [mixP_len]; exact hj)]
        walk_at "w"
        rw [mixP_set hj]
        exact hN2 _ _ ⟨rfl, rfl⟩
      · rintro σ G2 ⟨rfl, rfl⟩
        rw [mixP_full]
        exact hN _ _ ⟨rfl, rfl⟩
    · rw [List.getElem?_eq_none (by omega)] at hw; cases hw
  · rintro σ G1 ⟨rfl, rfl⟩
    rw [Nat.zero_add, List.length_map, mixP_zero, List.take_length]
    walk_at "w"
    have : (List.range (m + 1)).map (fun v => fr (priceR m ls lev rows v)) = (pricesL m ls lev rows).map fun q => fr q := by unfold pricesL; rw [List.map_map]; rfl
    rw [this]
    exact q.cl hp
end WL

namespace WL
open PySem PySem.Spec PyProof.Rows L2
local macro_rules | `(tactic| walk_at "w") => `(tactic| try simp only [↓a_seq, ↓a_asg, ↓a_ifS, ↓a_ret, ↓a_retN, ↓a_next, ↓a_break, ↓a_cont, ↓a_drop, ↓a_for, ↓a_C, ↓a_op, ↓a_un, ↓a_neg, ↓a_CB, ↓a_call, ↓a_nil, ↓a_cons, ↓a_tup, ↓a_lst, ↓a_lstM, ↓a_test, ↓a_and, ↓a_or, ↓a_not, ↓a_yes, ↓a_andV, ↓a_orV, ↓a_notV, ↓a_if, ↓a_isN, ↓a_notN, ↓a_chain, ↓a_BM, ↓a_BM0, ↓a_seqI, ↓a_R1, ↓a_R2, ↓a_zip2, ↓a_zipG2, ↓a_zipG3, ↓a_enumG, ↓a_enum, ↓a_lc, ↓a_lcM, ↓a_lcR, ↓a_forR, ↓a_seqR, ↓a_zip2R, ↓a_zipR, ↓a_lstRg, ↓a_lstRgM, ↓a_lcP, ↓a_slice, ↓a_sliceM, ↓a_pN, ↓a_pS, ↓a_augIx, ↓a_gIx, ↓a_par, ↓a_setF, ↓a_meth, ↓a_make, ↓a_makeZ, ↓a_dnew, ↓a_done, ↓a_dput, ↓a_dget, ↓a_din, ↓a_lenD, ↓v_0, ↓g_0, ↓u_0, ↓v_1, ↓g_1, ↓u_1, ↓v_2, ↓g_2, ↓u_2, ↓v_3, ↓g_3, ↓u_3, ↓v_4, ↓g_4, ↓u_4, ↓v_5, ↓g_5, ↓u_5, ↓v_6, ↓g_6, ↓u_6, ↓v_7, ↓g_7, ↓u_7, ↓v_8, ↓g_8, ↓u_8, ↓v_9, ↓g_9, ↓u_9, ↓v_10, ↓g_10, ↓u_10, ↓v_11, ↓g_11, ↓u_11, ↓v_12, ↓g_12, ↓u_12, ↓v_13, ↓g_13, ↓u_13, ↓v_14, ↓g_14, ↓u_14, ↓v_15, ↓g_15, ↓u_15, ↓v_16, ↓g_16, ↓u_16, ↓v_17, ↓g_17, ↓u_17, ↓v_18, ↓g_18, ↓u_18, ↓v_19, ↓g_19, ↓u_19, ↓v_20, ↓g_20, ↓u_20, ↓v_21, ↓g_21, ↓u_21, ↓v_22, ↓g_22, ↓u_22, ↓v_23, ↓g_23, ↓u_23, ↓v_24, ↓g_24, ↓u_24, ↓v_25, ↓g_25, ↓u_25, ↓f_0, ↓fl_0, ↓fn_0, ↓f_1, ↓fl_1, ↓fn_1, ↓f_2, ↓fl_2, ↓fn_2, ↓f_3, ↓fl_3, ↓fn_3, ↓f_4, ↓fl_4, ↓fn_4, ↓f_5, ↓fl_5, ↓fn_5, ↓f_6, ↓fl_6, ↓fn_6, ↓f_7, ↓fl_7, ↓fn_7, ↓f_8, ↓fl_8, ↓fn_8, ↓f_9, ↓fl_9, ↓fn_9, ↓f_10, ↓fl_10, ↓fn_10, ↓f_11, ↓fl_11, ↓fn_11, ↓f_12, ↓fl_12, ↓fn_12, ↓f_13, ↓fl_13, ↓fn_13, ↓f_14, ↓fl_14, ↓fn_14, ↓f_15, ↓fl_15, ↓fn_15, ↓f_16, ↓fl_16, ↓fn_16, ↓f_17, ↓fl_17, ↓fn_17, ↓f_18, ↓fl_18, ↓fn_18, ↓f_19, ↓fl_19, ↓fn_19, ↓f_20, ↓fl_20, ↓fn_20, ↓f_21, ↓fl_21, ↓fn_21, ↓f_22, ↓fl_22, ↓fn_22, ↓f_23, ↓fl_23, ↓fn_23, ↓f_24, ↓fl_24, ↓fn_24, ↓f_25, ↓fl_25, ↓fn_25, ↓asL_lst, ↓asL_scr, ↓asL_gup, ↓wIx_tup, ↓wIx_lst, ↓wIx_scr, ↓wIx_ref, ↓wIx_str, ↓wAdd_int, ↓wAdd_str, ↓wAdd_tup, ↓wAdd_lst, ↓wII_int, ↓wI2_int, ↓wI1_int, ↓wI1N_int, ↓wI2N_int, ↓wLen_tup, ↓wLen_lst, ↓wLen_scr, ↓wLen_ref, ↓wLen_str, ↓wInt_int, ↓wInt_bl, ↓wStrI_int, ↓wEq_int, ↓wEq_str, ↓wEq_bl, ↓wNe_bl, ↓wNe_int, ↓wNe_str, ↓wEq_tup, ↓wNe_tup, ↓wEq_lst, ↓wNe_lst, ↓setIx_ref, ↓gT_tup, ↓gT_lst, ↓gT_ref, ↓gsC_cons, ↓gsN_nil, ↓wAppend_ref, ↓wPop_ref, ↓wExtend_ref, ↓rgO_int, ↓wAddM_lst, ↓wIsB_bl, ↓wReverse_ref, ↓wRepT_tup, ↓wNotB_bl, ↓wInD_lst, ↓wPopAt_ref, ↓wInsert_ref, ↓refR_ref, ↓seqOf_tup, ↓seqOf_lst, ↓seqOf_scr, ↓seqOf_ref, ↓rng1_int, ↓rng2_int, ↓wIsi_non, ↓wIsi_bl, ↓wIsi_int, ↓wIsi_str, ↓wIsi_tup, ↓wIsi_lst, ↓wIsi_ref, ↓wAll_lst, ↓wAny_lst, ↓wSum_lst, ↓wTuple_tup, ↓wTuple_lst, ↓wTuple_ref, ↓wList_tup, ↓wList_lst, ↓wList_ref, ↓wListM_tup, ↓wListM_lst, ↓wCut_tup, ↓wCut_lst, ↓wCut_ref, ↓wCut_str, ↓wRep_lst, ↓wRepM_lst, ↓zipOf_tup, ↓zipOf_lst, ↓enumOf_lst, ↓enumOf_scr, ↓zipG2_eq, ↓zipG3_eq, ↓enumG_eq, ↓wSorted_eq, ↓wSortedM_eq, ↓wClear_ref, ↓wGet_ref, ↓truO_bl, ↓intO_int, ↓isS_some, ↓isG_lst, ↓setF_ref, ↓isI_ins, ↓dPut_ref, ↓isD_dic, ↓insOf_gup, ↓dicOf_gup, keyOf, nk, rangeW_length, sset, skill, swipe, swipe.sforget, lcW, wIn, seqs, inW, eqW, flatW, kdIs, isNon, gup_same, gup_gup, at0, at1, at2, at3, at4, at5, at6, at7, ix0, ix1, ix2, ix3, ix4, ix5, W.bl.injEq, exists_eq_left', List.length_cons, List.length_nil, List.length_map, Nat.zero_add, Nat.reduceAdd, List.set, List.map_cons, List.map_nil, Option.isSome_some, List.all_cons, List.all_nil, List.any_cons, List.any_nil, List.cons_append, List.nil_append, Bool.and_true, Bool.and_self, Bool.or_false, Bool.true_and, Bool.false_and, Bool.and_false, true_and, decide_true, decide_false, Bool.not_true, Bool.not_false, Bool.not_not, Bool.false_eq_true, if_true, if_false, ite_self, beq_self_eq_true])

/-! ### weights and prices, the law's own -/
def sp__law_unit_streams : Spw := fun ws G Q E => ∃ (m : Nat) (ls : List Ln) (lost : Int), ws = [netW (m + 1) ls, .int lost] ∧ (Net (m + 1) ls) ∧ (lost ∈ lostsL (m + 1) ls) ∧ Q (.lst ((List.range (m + 1)).map fun v => .lst ((strmL ls lost (hgtR m (keptL ls lost) v) ls.length).map fun q => fr q))) G
theorem len__law_unit_streams (ws G Q E) (h : sp__law_unit_streams ws G Q E) : ws.length = 2 := by obtain ⟨_, _, _, rfl, _⟩ := h; rfl
/-- slots: _law_net_here 0, _law_lost 1, _law_found 2, _law_place 3, _law_puts 4, _law_k 5 -/
def t__law_unit_streams_b1 : TSw := (wSeq (wAsg (wLc [5] (iR1 (wCons (wOp wIx (wVar 0) (wC (.int 0))) wNil)) (gN 5) wYes (wTup (wCons (wOp wSub (wCB wInt (wCons (wOp wEq (wVar 5) (wVar 3)) wNil)) (wCB wInt (wCons (wOp wEq (wVar 5) (wC (.int 0))) wNil))) (wCons (wC (.int 1)) wNil)))) (gN 4))
    (wDrop (wBM wM_append (wVar 2) (wCons (wCall sp__law_streams (wCons (wVar 0) (wCons (wVar 1) (wCons (wVar 4) wNil)))) wNil))))
def t__law_unit_streams : TSw := (wSeq (wAsg (wLstM wNil) (gN 2))
    (wSeq (wFor [false, false, false, true, true, true] (iR1 (wCons (wOp wIx (wVar 0) (wC (.int 0))) wNil)) (gN 3) t__law_unit_streams_b1)
    (wRet (wVar 2))))
theorem rd__law_unit_streams (ws : List W) (G : Gp) (Q : QW) (E) (h : sp__law_unit_streams ws G Q E) : t__law_unit_streams { nx := fun _ G' => Q .non G', rt := Cl Q } (startW ["_law_net_here", "_law_lost", "_law_found", "_law_place", "_law_puts", "_law_k"] ws) G := by
  obtain ⟨m, ls, lost, rfl, net, hl, q⟩ := h
  show t__law_unit_streams _ [some (netW (m + 1) ls), some (.int lost), none, none, none, none] G
  unfold t__law_unit_streams
  walk_at "w"
  have big : 1000 < sizeLine := by decide
  have n4 := net.n4
  have few := net.few
  have nk := net_kept net hl
  have em : ((((m + 1 : Nat)) : Int)).toNat = m + 1 := by omega
  refine ⟨by decide, fun p hp => ⟨by omega, by omega, ?_⟩⟩
  rw [em]
  refine forW_range (fun j σ G1 => G1 = gup G p (.lst ((List.range j).map fun v => .lst ((strmL ls lost (hgtR m (keptL ls lost) v) ls.length).map fun q => fr q))) ∧ σ = [some (netW (m + 1) ls), some (.int lost), some (.ref p), none, none, none]) ⟨rfl, rfl⟩ ?_ ?_
  · rintro v hv σ G1 N ⟨rfl, rfl⟩ hN
    unfold t__law_unit_streams_b1
    walk_at "w"
    rw [Int.zero_add]
    refine ⟨by omega, by omega, by omega, ?_⟩
    rw [em]
    refine lcW_m (fun k : Nat => W.int (0 + (k : Int))) (fun k => fr ((ind k v - ind k 0 : Int) : Rat)) _ _ ?_ ?_
    · intro k hk P hP
      walk_at "w"
      refine ⟨by decide, ?_⟩
      rw [Int.zero_add]
      have e1 : (if decide ((k : Int) = (v : Int)) = true then (1 : Int) else 0) = ind k v := by
        unfold ind
        by_cases c : k = v
        · rw [if_pos c, if_pos (decide_eq_true (by omega))]
        · rw [if_neg c, if_neg (by rw [decide_eq_true_eq]; omega)]
      have e2 : (if decide ((k : Int) = 0) = true then (1 : Int) else 0) = ind k 0 := by
        unfold ind
        by_cases c : k = 0
        · rw [if_pos c, if_pos (decide_eq_true (by omega))]
        · rw [if_neg c, if_neg (by rw [decide_eq_true_eq]; omega)]
      rw [e1, e2]
      exact hP
    have eu : (List.range (m + 1)).map (fun k => fr ((ind k v - ind k 0 : Int) : Rat)) = (unitN (m + 1) v 0).map fun q => fr q := by unfold unitN; rw [List.map_map]; rfl
    rw [eu]
    walk_at "w"
    refine ⟨m + 1, ls, lost, unitN (m + 1) v 0, 1, hgtR m (keptL ls lost) v, rfl, net.ok, few, nk, unitN_len, unitN_sz, by decide, unitN_bal hv (by omega), hgtR_at nk hv, .inl ?_⟩
    walk_at "w"
    refine ⟨by simp; omega, ?_⟩
    refine hN _ _ ⟨?_, rfl⟩
    rw [List.range_succ, List.map_append]
    rfl
  · rintro σ G1 ⟨rfl, rfl⟩
    walk_at "w"
    exact tellL.cl (.inl q) hp
theorem strm_shr {m v k : Nat} {ls : List Ln} {lost : Int} (hk : k < ls.length) (ne : (k : Int) ≠ lost) : (strmL ls lost (hgtR m (keptL ls lost) v) ls.length).getD k 0 = shr m ls lost k v := by
  unfold strmL shr
  simp [List.getD_eq_getElem?_getD, hk, ne]
def sp__law_prices : Spw := fun ws G Q E => ∃ (m : Nat) (ls : List Ln) (lev : Rat) (rows : List Wr), ws = [netW (m + 1) ls, wtsW lev rows] ∧ (Net (m + 1) ls) ∧ (WtsOk (m + 1) ls lev rows) ∧ tellL ((pricesL m ls lev rows).map fun q => fr q) Q G
theorem len__law_prices (ws G Q E) (h : sp__law_prices ws G Q E) : ws.length = 2 := by obtain ⟨_, _, _, _, rfl, _⟩ := h; rfl
/-- slots: _law_net_here 0, _law_weights_here 1, _law_found 2, _law_lost 3, _law_line_here 4, _law_side 5, _law_weight 6, _law_units 7, _law_place 8 -/
def t__law_prices_b1 : TSw := (wAsg (wCall sp__law_minus (wCons (wOp wIx (wVar 2) (wVar 8)) (wCons (wCall sp__law_times (wCons (wVar 6) (wCons (wCall sp__law_times (wCons (wTup (wCons (wVar 5) (wCons (wC (.int 1)) wNil))) (wCons (wOp wIx (wOp wIx (wVar 7) (wVar 8)) (wVar 4)) wNil))) wNil))) wNil))) (gIx (wVar 2) (wVar 8)))
def t__law_prices_b2 : TSw := (wSeq (wAsg (wCall sp__law_unit_streams (wCons (wVar 0) (wCons (wVar 3) wNil))) (gN 7))
    (wFor [false, true, false, true, false, false, false, false, true] (iR1 (wCons (wOp wIx (wVar 0) (wC (.int 0))) wNil)) (gN 8) t__law_prices_b1))
def t__law_prices : TSw := (wSeq (wAsg (wLcM [8] (iR1 (wCons (wOp wIx (wVar 0) (wC (.int 0))) wNil)) (gN 8) wYes (wOp wIx (wVar 1) (wC (.int 0)))) (gN 2))
    (wSeq (wFor [false, true, false, true, true, true, true, true, true] (iSeqW (wOp wIx (wVar 1) (wC (.int 1)))) (gT 4 (gsC (gN 3) (gsC (gN 4) (gsC (gN 5) (gsC (gN 6) gsN))))) t__law_prices_b2)
    (wRet (wVar 2))))
theorem rd__law_prices (ws : List W) (G : Gp) (Q : QW) (E) (h : sp__law_prices ws G Q E) : t__law_prices { nx := fun _ G' => Q .non G', rt := Cl Q } (startW ["_law_net_here", "_law_weights_here", "_law_found", "_law_lost", "_law_line_here", "_law_side", "_law_weight", "_law_units", "_law_place"] ws) G := by
  obtain ⟨m, ls, lev, rows, rfl, net, ok, q⟩ := h
  show t__law_prices _ [some (netW (m + 1) ls), some (wtsW lev rows), none, none, none, none, none, none, none] G
  unfold t__law_prices
  walk_at "w"
  have big : 1000 < sizeLine := by decide
  have n4 := net.n4
  have em : ((((m + 1 : Nat)) : Int)).toNat = m + 1 := by omega
  have few := ok.len
  refine ⟨by omega, by omega, by omega, ?_⟩
  rw [em]
  refine lcW_m (fun i : Nat => W.int (0 + (i : Int))) (fun v => fr (priceR m ls lev (rows.take 0) v)) _ _ ?_ ?_
  · intro i hi P hP
    walk_at "w"
    exact hP
  intro p hp
  refine forW_ix (fun i σ G1 => G1 = gup G p (.lst (mixP m ls lev rows i 0)) ∧ σ = [some (netW (m + 1) ls), none, some (.ref p), none, none, none, none, none, none]) _ 0 _ _ ⟨rfl, rfl⟩ ?_ ?_
  · rintro i w hw σ G1 N ⟨rfl, rfl⟩ hN
    rw [Nat.zero_add] at hN ⊢
    rw [List.getElem?_map] at hw
    by_cases hi : i < rows.length
    · rw [List.getElem?_eq_getElem hi] at hw
      injection hw with hw
      subst hw
      have r := ok.ok _ (List.getElem_mem hi)
      have ps := fun {v : Nat} (hv : v < m + 1) => priceR_succ (m := m) (ls := ls) (lev := lev) (v := v) hi
      generalize rows[i] = t at r ps ⊢
      have nk := net_kept net r.lost
      walk_at "w"
      unfold t__law_prices_b2
      walk_at "w"
      refine ⟨m, ls, t.lost, rfl, net, r.lost, ?_⟩
      walk_at "w"
      refine ⟨by omega, by omega, ?_⟩
      rw [em]
      refine forW_range (fun j σ G2 => G2 = gup G p (.lst (mixP m ls lev rows i j)) ∧ σ = [some (netW (m + 1) ls), none, some (.ref p), none, some (.int ((t.line : Nat) : Int)), some (.int t.side), some (fr t.w), some (.lst ((List.range (m + 1)).map fun v => .lst ((strmL ls t.lost (hgtR m (keptL ls t.lost) v) ls.length).map fun q => fr q))), none]) ⟨rfl, rfl⟩ ?_ ?_
      · rintro j hj σ G2 N2 ⟨rfl, rfl⟩ hN2
        unfold t__law_prices_b1
        walk_at "w"
        rw [Int.zero_add, mixP_at hj]
        walk_at "w"
        rw [atI_map _ _ (show j < (List.range (m + 1)).length by simpa using hj), List.getElem_range]
        walk_at "w"
        rw [atI_frs (by rw [strmL_len]; exact r.line), strm_shr r.line r.ne]
        walk_at "w"
        obtain ⟨es, ss⟩ := shr_bea net.ok r.line nk hj
        have sp := priceR_sz net ok hj i (by omega)
        have sw := sz_mul (side_sz r.side) ss
        refine ⟨by decide, ((t.side : Int) : Rat), _, rfl, ⟨_, _, side_sz r.side, ss, by omega⟩, ?_⟩
        walk_at "w"
        refine ⟨t.w, _, rfl, ⟨_, _, r.sz, sw, by omega⟩, ?_⟩
        walk_at "w"
        refine ⟨_, _, rfl, ⟨_, _, sp, sz_mul r.sz sw, by omega⟩, ?_⟩
        walk_at "w"
        rw [← ps hj, ixN_natW (by rw [mixP_len]; exact hj)]
        walk_at "w"
        rw [mixP_set hj]
        exact hN2 _ _ ⟨rfl, rfl⟩
      · rintro σ G2 ⟨rfl, rfl⟩
        rw [mixP_full]
        exact hN _ _ ⟨rfl, rfl⟩
    · rw [List.getElem?_eq_none (by omega)] at hw; cases hw
  · rintro σ G1 ⟨rfl, rfl⟩
    rw [Nat.zero_add, List.length_map, mixP_zero, List.take_length]
    walk_at "w"
    have : (List.range (m + 1)).map (fun v => fr (priceR m ls lev rows v)) = (pricesL m ls lev rows).map fun q => fr q := by unfold pricesL; rw [List.map_map]; rfl
    rw [this]
    exact q.cl hp
def sp__law_limits : Spw := fun ws G Q E => ∃ n ls, ws = [netW n ls] ∧ (Net n ls) ∧ tellL (limsW (limsL n ls)) Q G
theorem len__law_limits (ws G Q E) (h : sp__law_limits ws G Q E) : ws.length = 1 := by obtain ⟨_, _, rfl, _⟩ := h; rfl
/-- slots: _law_net_here 0, _law_found 1, _law_lost 2, _law_line_here 3 -/
def t__law_limits_b1 : TSw := (wIfS (wTest (wOp wNe (wVar 3) (wVar 2))) (wDrop (wBM wM_extend (wVar 1) (wCons (wLst (wCons (wTup (wCons (wVar 2) (wCons (wVar 3) (wCons (wNeg (wC (.int 1))) wNil)))) (wCons (wTup (wCons (wVar 2) (wCons (wVar 3) (wCons (wC (.int 1)) wNil)))) wNil))) wNil))) wNext)
def t__law_limits_b2 : TSw := (wFor [false, false, false, true] (iR1 (wCons (wCB wLen (wCons (wOp wIx (wVar 0) (wC (.int 1))) wNil)) wNil)) (gN 3) t__law_limits_b1)
def t__law_limits : TSw := (wSeq (wAsg (wLstM wNil) (gN 1))
    (wSeq (wFor [false, false, true, true] (iSeqW (wOp wAdd (wLst (wCons (wNeg (wC (.int 1))) wNil)) (wCall sp__law_losable (wCons (wVar 0) wNil)))) (gN 2) t__law_limits_b2)
    (wRet (wVar 1))))
theorem rd__law_limits (ws : List W) (G : Gp) (Q : QW) (E) (h : sp__law_limits ws G Q E) : t__law_limits { nx := fun _ G' => Q .non G', rt := Cl Q } (startW ["_law_net_here", "_law_found", "_law_lost", "_law_line_here"] ws) G := by
  obtain ⟨n, ls, rfl, net, q⟩ := h
  show t__law_limits _ [some (netW n ls), none, none, none] G
  unfold t__law_limits
  walk_at "w"
  have big : 1000 < sizeLine := by decide
  have few := net.few
  have dl := due_len (n := n) (ls := ls)
  refine ⟨by decide, fun p hp => ⟨by decide, n, ls, rfl, net, .inl ?_⟩⟩
  walk_at "w"
  rw [show (W.int (-1)) :: natsW (dueL n ls) = (lostsL n ls).map W.int by unfold lostsL natsW; rw [List.map_cons, List.map_map]; rfl]
  refine ⟨by omega, ?_⟩
  have ll := losts_len (n := n) (ls := ls)
  refine forW_ix (fun k σ G1 => G1 = gup G p (.lst (limsW (((lostsL n ls).take k).flatMap fun l => limOf l ls.length))) ∧ σ = [some (netW n ls), some (.ref p), none, none]) _ 0 _ _ ⟨rfl, rfl⟩ ?_ ?_
  · rintro k w hw σ G1 N ⟨rfl, rfl⟩ hN
    rw [Nat.zero_add] at hN ⊢
    rw [List.getElem?_map] at hw
    by_cases hk : k < (lostsL n ls).length
    · rw [List.getElem?_eq_getElem hk] at hw
      injection hw with hw
      subst hw
      rw [take_flat _ hk] at hN
      have lt := lims_len (m := ls.length) ((lostsL n ls).take k)
      have lt2 : ((lostsL n ls).take k).length ≤ 7 := by rw [List.length_take]; omega
      have lt3 := Nat.mul_le_mul lt2 (show 2 * ls.length ≤ 12 by omega)
      generalize (lostsL n ls)[k] = l at hN ⊢
      generalize (((lostsL n ls).take k).flatMap fun l => limOf l ls.length) = pre at hN lt ⊢
      unfold t__law_limits_b2
      walk_at "w"
      rw [show ((ls.length : Nat) : Int).toNat = ls.length by omega]
      refine ⟨by omega, by omega, ?_⟩
      refine forW_range (fun j σ G1 => G1 = gup G p (.lst (limsW (pre ++ limOf l j))) ∧ σ = [some (netW n ls), some (.ref p), some (.int l), none]) ⟨by simp [limOf], rfl⟩ ?_ ?_
      · rintro j hj σ G1 N2 ⟨rfl, rfl⟩ hN2
        have lo := limOf_len (lost := l) (m := j)
        unfold t__law_limits_b1
        walk_at "w"
        rw [Int.zero_add]
        rw [limOf_succ] at hN2
        by_cases c : (j : Int) = l
        · rw [decide_eq_true c, if_neg (by decide)]
          refine hN2 _ _ ⟨?_, rfl⟩
          unfold lim1
          rw [if_pos c, List.append_nil]
        · rw [decide_eq_false c, if_pos (by decide)]
          refine ⟨by decide, by decide, by decide, by rw [List.length_append]; omega, hN2 _ _ ⟨?_, rfl⟩⟩
          rw [show lim1 l j = [(l, (j : Int), -1), (l, (j : Int), 1)] by unfold lim1; rw [if_neg c]]
          simp
      · rintro σ G1 ⟨rfl, rfl⟩
        exact hN _ _ ⟨rfl, rfl⟩
    · rw [List.getElem?_eq_none (by omega)] at hw; cases hw
  · rintro σ G1 ⟨rfl, rfl⟩
    rw [Nat.zero_add, List.length_map, List.take_length]
    walk_at "w"
    exact q.cl hp
theorem take_tr {p : Addr} {m : Int} {G G' G1 : Gp} {Q : QW} {E} (u : BagUp p G G') (t : Trash G' G1) (hm : 0 < m)
    (q : ∀ (d : Nat) G2' G2, (d : Int) < m → BagUp p G G2' → Trash G2' G2 → (∀ r, r ≠ p → G2 r = G1 r) → Q (.int ((d : Nat) : Int)) G2) : sp__law_take [.ref p, .int m] G1 Q E := by
  obtain ⟨c, x, g, r⟩ := u.at
  refine take_up ⟨c, x, t.at g, r⟩ hm fun d G2 hd u2 => ?_
  have u3 := u2
  obtain ⟨c2, x2, rfl, r2⟩ := u2
  exact q d (gup G' p (bagO c2 x2)) _ hd (u.trans ⟨c2, x2, rfl, r2⟩) (t.set (by rw [g]; simp) _) fun r hr => gup_ne hr
theorem wr_alike (rows : List Wr) : wpures (rows.map fun r => wrW r) = true ∧ PySem.W.AllAlike (wdats (rows.map fun r => wrW r)) ∧ PySem.W.Sortable (wdats (rows.map fun r => wrW r)) ∧ ∀ d ∈ wdats (rows.map fun r => wrW r), d.depth ≤ 60 := by
  have m : ∀ d ∈ wdats (rows.map fun r => wrW r), ∃ a b c e f, d = .tuple [.int a, .int b, .int c, .tuple [.int e, .int f]] := by
    induction rows with
    | nil => intro d h; simp [wdats] at h
    | cons x xs ih =>
      intro d h
      simp only [List.map_cons, wdats, List.mem_cons] at h
      rcases h with rfl | h
      · exact ⟨_, _, _, _, _, rfl⟩
      · exact ih d h
  refine ⟨(wDs (d := 2) fun w h => ?_).1, fun d hd e he => ?_, .inl fun d hd => ?_, fun d hd => ?_⟩
  · obtain ⟨t, _, rfl⟩ := List.mem_map.mp h
    exact wD_tup (d := 1) fun w h => by
      simp only [List.mem_cons, List.not_mem_nil, or_false] at h
      rcases h with rfl | rfl | rfl | rfl
      · exact wD_mono wD_int (by decide)
      · exact wD_mono wD_int (by decide)
      · exact wD_mono wD_int (by decide)
      · exact wD_fr _
  · obtain ⟨a, b, c, f, g, rfl⟩ := m d hd
    obtain ⟨a', b', c', f', g', rfl⟩ := m e he
    rfl
  · obtain ⟨a, b, c, e, f, rfl⟩ := m d hd
    exact ⟨_, _, rfl⟩
  · obtain ⟨a, b, c, e, f, rfl⟩ := m d hd
    simp [PyData.depth, PyData.depthAll]
theorem wr_sort (rows : List Wr) : ∃ rows' : List Wr, rows'.Perm rows ∧ (rows.map fun r => wrW r).mergeSort leW = rows'.map fun r => wrW r :=
  ⟨_, List.mergeSort_perm _ _, (List.map_mergeSort (r := fun a b => leW (wrW a) (wrW b)) fun _ _ _ _ => rfl).symm⟩
theorem wSum_ref {p : Addr} {G : Gp} {Q : QW} : wSum [.ref p] G Q = isS (asL G (.ref p)) fun us => ∃ ns : List Int, us = ns.map W.int ∧ Q (.int ns.sum) G := rfl
theorem map_erase {α β : Type} (f : α → β) : ∀ (xs : List α) (k : Nat), (xs.map f).eraseIdx k = (xs.eraseIdx k).map f
  | [], _ => rfl
  | _ :: _, 0 => rfl
  | x :: xs, k + 1 => by
    show f x :: (xs.map f).eraseIdx k = f x :: (xs.eraseIdx k).map f
    rw [map_erase f xs k]
theorem lims_ok {n : Nat} {ls : List Ln} {t : Lim} (h : t ∈ limsL n ls) {w : Rat} (hw : sz 10 w) : WrOk n ls ⟨t.1, t.2.1.toNat, t.2.2, w⟩ ∧ limW t = .tup [.int t.1, .int ((t.2.1.toNat : Nat) : Int), .int t.2.2] := by
  obtain ⟨l, hl, h⟩ := List.mem_flatMap.mp h
  obtain ⟨h1, k, hk, h2, h3, h4⟩ := limOf_mem.mp h
  have e : t.2.1.toNat = k := by omega
  refine ⟨⟨by rw [h1]; exact hl, by show t.2.1.toNat < _; omega, by show ((t.2.1.toNat : Nat) : Int) ≠ t.1; rw [h1, e]; exact h3, h4, hw⟩, ?_⟩
  show W.tup _ = _
  rw [e, h2]
theorem limsL_len {n : Nat} {ls : List Ln} (few : ls.length ≤ 6) : (limsL n ls).length ≤ 84 := by
  have a := lims_len (m := ls.length) (lostsL n ls)
  have b := losts_len (n := n) (ls := ls)
  have c := Nat.mul_le_mul (show (lostsL n ls).length ≤ 7 by omega) (show 2 * ls.length ≤ 12 by omega)
  unfold limsL
  omega
def sp__law_weights : Spw := fun ws G Q E => ∃ (p : Addr) (n : Nat) (ls : List Ln), ws = [.ref p, netW n ls] ∧ (BagAt p G) ∧ (Net n ls) ∧ ∀ lev rows G', WtsOk n ls lev rows → BagUp p G G' → Q (wtsW lev rows) G'
theorem len__law_weights (ws G Q E) (h : sp__law_weights ws G Q E) : ws.length = 2 := by obtain ⟨_, _, _, rfl, _⟩ := h; rfl
/-- slots: _law_bag_here 0, _law_net_here 1, _law_some 2, _law_level 3, _law_many 4, _law_rows 5, _law_k 6, _law_limit 7 -/
def t__law_weights_b1 : TSw := (wSeq (wAsg (wBM wM_popAt (wVar 2) (wCons (wCall sp__law_take (wCons (wVar 0) (wCons (wCB wLen (wCons (wVar 2) wNil)) wNil))) wNil)) (gN 7))
    (wDrop (wBM wM_append (wVar 5) (wCons (wOp wAdd (wVar 7) (wTup (wCons (wCall sp__law_frac (wCons (wOp wAdd (wC (.int 1)) (wCall sp__law_take (wCons (wVar 0) (wCons (wC (.int 500)) wNil)))) (wCons (wOp wAdd (wC (.int 1)) (wCall sp__law_take (wCons (wVar 0) (wCons (wC (.int 40)) wNil)))) wNil))) wNil))) wNil))))
def t__law_weights_r1 : TSw := (wRet (wTup (wCons (wVar 3) (wCons (wCB wTuple (wCons (wCB wSorted (wCons (wVar 5) wNil)) wNil)) wNil))))
def t__law_weights_r2 : TSw := (wSeq (wAsg (wLstM wNil) (gN 5))
    (wSeq (wFor [false, true, false, false, true, false, true, true] (iR1 (wCons (wCB (wI2N fun i j => .int (if j < i then j else i)) (wCons (wCB wSum (wCons (wVar 4) wNil)) (wCons (wCB wLen (wCons (wVar 2) wNil)) wNil))) wNil)) (gN 6) t__law_weights_b1)
    t__law_weights_r1))
def t__law_weights : TSw := (wSeq (wAsg (wCall sp__law_limits (wCons (wVar 1) wNil)) (gN 2))
    (wSeq (wAsg (wCall sp__law_frac (wCons (wOp wSub (wCall sp__law_take (wCons (wVar 0) (wCons (wC (.int 2001)) wNil))) (wC (.int 1000))) (wCons (wOp wAdd (wC (.int 1)) (wCall sp__law_take (wCons (wVar 0) (wCons (wC (.int 30)) wNil)))) wNil))) (gN 3))
    (wSeq (wAsg (wLstM (wCons (wCall sp__law_take (wCons (wVar 0) (wCons (wC (.int 5)) wNil))) (wCons (wC (.int 0)) wNil))) (gN 4))
    (wSeq (wIfS (wTest (wOp wEq (wCall sp__law_take (wCons (wVar 0) (wCons (wC (.int 8)) wNil))) (wC (.int 3)))) (wAsg (wCall sp__law_take (wCons (wVar 0) (wCons (wC (.int 9)) wNil))) (gIx (wVar 4) (wC (.int 1)))) wNext)
    t__law_weights_r2))))
theorem rd__law_weights (ws : List W) (G : Gp) (Q : QW) (E) (h : sp__law_weights ws G Q E) : t__law_weights { nx := fun _ G' => Q .non G', rt := Cl Q } (startW ["_law_bag_here", "_law_net_here", "_law_some", "_law_level", "_law_many", "_law_rows", "_law_k", "_law_limit"] ws) G := by
  obtain ⟨p, n, ls, rfl, bag, net, q⟩ := h
  show t__law_weights _ [some (.ref p), some (netW n ls), none, none, none, none, none, none] G
  unfold t__law_weights
  walk_at "w"
  have big : 1000 < sizeLine := by decide
  have few := net.few
  refine ⟨n, ls, rfl, net, .inr fun t1 ht1 => ?_⟩
  walk_at "w"
  have ne1 : t1 ≠ p := Ne.symm (bag.ne ht1)
  have u0 := BagUp.refl bag
  refine take_tr u0 (Trash.refl.new ht1 _) (by decide) fun a G1' G1 ha u1 t1' k1 => ?_
  walk_at "w"
  refine take_tr u1 t1' (by decide) fun b G2' G2 hb u2 t2' k2 => ?_
  walk_at "w"
  have hlev : sz 12 (Rat.divInt (((a : Nat) : Int) - 1000) (1 + ((b : Nat) : Int))) := sz_divInt (by omega) (by omega) (by omega)
  refine ⟨_, _, rfl, by omega, ?_⟩
  walk_at "w"
  generalize Rat.divInt (((a : Nat) : Int) - 1000) (1 + ((b : Nat) : Int)) = lev at hlev ⊢
  refine take_tr u2 t2' (by decide) fun c G3' G3 hc u3 t3' k3 => ?_
  walk_at "w"
  refine ⟨by decide, fun t2 ht2 => ?_⟩
  have g31 : G3 t1 = some (.lst (limsW (limsL n ls))) := by rw [k3 _ ne1, k2 _ ne1, k1 _ ne1, gup_same]
  have ne2 : t2 ≠ p := fun z => by
    obtain ⟨c, x, g, _⟩ := u3.at
    rw [z, t3'.at g] at ht2; cases ht2
  have ne12 : t1 ≠ t2 := fun z => by rw [z, ht2] at g31; cases g31
  have g2n : G t2 = none := by rw [← u3.ne ne2]; exact t3'.free ht2
  have rest : ∀ (x y : Nat) (H' H : Gp), x ≤ 4 → y ≤ 8 → BagUp p G H' → Trash H' H → H t1 = some (.lst (limsW (limsL n ls))) → H t2 = some (.lst [.int ((x : Nat) : Int), .int ((y : Nat) : Int)]) →
      t__law_weights_r2 { nx := fun x G' => Q W.non G', rt := Cl Q } [some (W.ref p), some (netW n ls), some (W.ref t1), some (fr lev), some (W.ref t2), none, none, none] H := by
    intro x y H' H hx hy u t g1 g2
    unfold t__law_weights_r2
    walk_at "w"
    refine ⟨by decide, fun t3 ht3 => ?_⟩
    have ne23 : t2 ≠ t3 := fun z => by rw [z, ht3] at g2; cases g2
    have ne13 : t1 ≠ t3 := fun z => by rw [z, ht3] at g1; cases g1
    have ne3 : t3 ≠ p := fun z => by
      obtain ⟨c, x, g, _⟩ := u.at
      rw [z, t.at g] at ht3; cases ht3
    have g3n : G t3 = none := by rw [← u.ne ne3]; exact t.free ht3
    have ll := limsL_len (n := n) few
    have G2s : gup H t3 (.lst []) t2 = some (.lst [.int ((x : Nat) : Int), .int ((y : Nat) : Int)]) := by rw [gup_ne ne23]; exact g2
    have G1s : gup H t3 (.lst []) t1 = some (.lst (limsW (limsL n ls))) := by rw [gup_ne ne13]; exact g1
    rw [wSum_ref, asL_at G2s]
    refine ⟨[((x : Nat) : Int), ((y : Nat) : Int)], rfl, ?_⟩
    rw [show [((x : Nat) : Int), ((y : Nat) : Int)].sum = ((x + y : Nat) : Int) by simp, asL_at G1s]
    walk_at "w"
    obtain ⟨c, hc, hc1, hc2⟩ : ∃ c : Nat, (if (((limsL n ls).length : Nat) : Int) < ((x + y : Nat) : Int) then (((limsL n ls).length : Nat) : Int) else ((x + y : Nat) : Int)) = (c : Int) ∧ c ≤ 12 ∧ c ≤ (limsL n ls).length := by
      split
      · exact ⟨(limsL n ls).length, rfl, by omega, by omega⟩
      · exact ⟨x + y, rfl, by omega, by omega⟩
    rw [hc]
    refine ⟨by omega, by omega, ?_⟩
    rw [show ((c : Nat) : Int).toNat = c by omega]
    refine forW_range (fun i σ H1 => ∃ S rows K', BagUp p G K' ∧ Trash K' H1 ∧ H1 t1 = some (.lst (limsW S)) ∧ H1 t3 = some (.lst (rows.map fun r => wrW r)) ∧ (∀ s ∈ S, s ∈ limsL n ls) ∧ S.length + i = (limsL n ls).length ∧ rows.length = i ∧ (∀ r ∈ rows, WrOk n ls r) ∧ σ = [some (W.ref p), none, some (W.ref t1), some (fr lev), none, some (W.ref t3), none, none]) ⟨limsL n ls, [], H', u, t.new ht3 _, G1s, gup_same, fun _ h => h, rfl, rfl, fun _ h => (by cases h), rfl⟩ ?_ ?_
    · rintro i hi σ H1 N ⟨S, rows, K', u4, t4, g41, g43, sub, lS, lr, hr, rfl⟩ hN
      unfold t__law_weights_b1
      walk_at "w"
      rw [asL_at g41]
      walk_at "w"
      refine take_tr u4 t4 (by omega) fun d K5' K5 hd u5 t5 k5 => ?_
      have g51 : K5 t1 = some (.lst (limsW S)) := by rw [k5 _ ne1]; exact g41
      have g53 : K5 t3 = some (.lst (rows.map fun r => wrW r)) := by rw [k5 _ ne3]; exact g43
      have hd : d < S.length := by omega
      walk_at "w"
      rw [isG_at g51]
      refine ⟨by omega, by omega, ?_⟩
      rw [ixN_natW (by rw [List.length_map]; exact hd)]
      walk_at "w"
      have hw : (limsW S)[d]? = some (limW S[d]) := by rw [List.getElem?_map, List.getElem?_eq_getElem hd]; rfl
      have hmem := sub _ (List.getElem_mem hd)
      rw [hw, map_erase]
      have t6 := t5.chg (p := t1) (by rw [u5.ne ne1]; exact ht1) (.lst (limsW (S.eraseIdx d)))
      have g61 : gup K5 t1 (.lst (limsW (S.eraseIdx d))) t1 = some (.lst (limsW (S.eraseIdx d))) := gup_same
      have g63 : gup K5 t1 (.lst (limsW (S.eraseIdx d))) t3 = some (.lst (rows.map fun r => wrW r)) := by rw [gup_ne (Ne.symm ne13)]; exact g53
      generalize gup K5 t1 (.lst (limsW (S.eraseIdx d))) = K6 at t6 g61 g63 ⊢
      generalize S[d] = s at hmem ⊢
      refine ⟨by rw [asL_at g63]; rfl, ?_⟩
      refine take_tr u5 t6 (by decide) fun e1 K7' K7 he1 u7 t7 k7 => ?_
      walk_at "w"
      refine take_tr u7 t7 (by decide) fun e2 K8' K8 he2 u8 t8 k8 => ?_
      walk_at "w"
      have g81 : K8 t1 = some (.lst (limsW (S.eraseIdx d))) := by rw [k8 _ ne1, k7 _ ne1]; exact g61
      have g83 : K8 t3 = some (.lst (rows.map fun r => wrW r)) := by rw [k8 _ ne3, k7 _ ne3]; exact g63
      have hsz : sz 10 (Rat.divInt (1 + ((e1 : Nat) : Int)) (1 + ((e2 : Nat) : Int))) := sz_divInt (by omega) (by omega) (by omega)
      refine ⟨_, _, rfl, by omega, ?_⟩
      walk_at "w"
      obtain ⟨wok, ew⟩ := lims_ok hmem hsz
      generalize Rat.divInt (1 + ((e1 : Nat) : Int)) (1 + ((e2 : Nat) : Int)) = wq at wok hsz ⊢
      rw [isG_at g83]
      refine ⟨by decide, by decide, by rw [List.length_map]; omega, ?_⟩
      refine hN _ _ ⟨S.eraseIdx d, rows ++ [⟨s.1, s.2.1.toNat, s.2.2, wq⟩], K8', u8, t8.chg (by rw [u8.ne ne3]; exact g3n) _, by rw [gup_ne ne13]; exact g81, ?_, fun x hx => sub x (List.mem_of_mem_eraseIdx hx), by rw [List.length_eraseIdx_of_lt hd]; omega, by simp [lr], fun r hr2 => ?_, rfl⟩
      · rw [gup_same, List.map_append]
        have ee : s.2.1 = ((s.2.1.toNat : Nat) : Int) := by
          have := congrArg (fun w => match w with | W.tup [_, .int i, _] => i | _ => 0) ew
          exact this
        show some (GO.lst (_ ++ [W.tup [.int s.1, .int s.2.1, .int s.2.2, fr wq]])) = some (GO.lst (_ ++ [W.tup [.int s.1, .int ((s.2.1.toNat : Nat) : Int), .int s.2.2, fr wq]]))
        rw [← ee]
      · rcases List.mem_append.mp hr2 with h | h
        · exact hr r h
        · rw [List.mem_singleton.mp h]; exact wok
    · rintro σ H1 ⟨S, rows, K', u4, t4, g41, g43, sub, lS, lr, hr, rfl⟩
      unfold t__law_weights_r1
      walk_at "w"
      unfold wSortO
      rw [asL_at g43]
      obtain ⟨w1, w2, w3, w4⟩ := wr_alike rows
      refine ⟨w1, w2, w3, w4, ?_⟩
      obtain ⟨rows', pm, es⟩ := wr_sort rows
      rw [es]
      walk_at "w"
      refine ⟨by decide, t4.cl (q lev rows' K' ⟨hlev, by rw [pm.length_eq]; omega, fun r h => hr r (pm.mem_iff.mp h)⟩ u4)⟩
  refine take_tr u3 (t3'.new ht2 _) (by decide) fun d G4' G4 hd u4 t4 k4 => ?_
  have g41 : G4 t1 = some (.lst (limsW (limsL n ls))) := by rw [k4 _ ne1, gup_ne ne12]; exact g31
  have g42 : G4 t2 = some (.lst [.int ((c : Nat) : Int), .int 0]) := by rw [k4 _ ne2, gup_same]
  walk_at "w"
  by_cases c3 : d = 3
  · rw [decide_eq_true (by omega), if_pos rfl]
    refine take_tr u4 t4 (by decide) fun e G5' G5 he u5 t5 k5 => ?_
    have g51 : G5 t1 = some (.lst (limsW (limsL n ls))) := by rw [k5 _ ne1]; exact g41
    have g52 : G5 t2 = some (.lst [.int ((c : Nat) : Int), .int 0]) := by rw [k5 _ ne2]; exact g42
    walk_at "w"
    rw [isG_at g52]
    refine rest c e G5' _ (by omega) (by omega) u5 (t5.chg (by rw [u5.ne ne2]; exact g2n) _) (by rw [gup_ne ne12]; exact g51) gup_same
  · rw [decide_eq_false (by omega), if_neg (by decide)]
    exact rest c 0 G4' G4 (by omega) (by omega) u4 t4 g41 g42
end WL

namespace WL
open PySem PySem.Spec PyProof.Rows L2
local macro_rules | `(tactic| walk_at "w") => `(tactic| try simp only [↓a_seq, ↓a_asg, ↓a_ifS, ↓a_ret, ↓a_retN, ↓a_next, ↓a_break, ↓a_cont, ↓a_drop, ↓a_for, ↓a_C, ↓a_op, ↓a_un, ↓a_neg, ↓a_CB, ↓a_call, ↓a_nil, ↓a_cons, ↓a_tup, ↓a_lst, ↓a_lstM, ↓a_test, ↓a_and, ↓a_or, ↓a_not, ↓a_yes, ↓a_andV, ↓a_orV, ↓a_notV, ↓a_if, ↓a_isN, ↓a_notN, ↓a_chain, ↓a_BM, ↓a_BM0, ↓a_seqI, ↓a_R1, ↓a_R2, ↓a_zip2, ↓a_zipG2, ↓a_zipG3, ↓a_enumG, ↓a_enum, ↓a_lc, ↓a_lcM, ↓a_lcR, ↓a_forR, ↓a_seqR, ↓a_zip2R, ↓a_zipR, ↓a_lstRg, ↓a_lstRgM, ↓a_lcP, ↓a_slice, ↓a_sliceM, ↓a_pN, ↓a_pS, ↓a_augIx, ↓a_gIx, ↓a_par, ↓a_setF, ↓a_meth, ↓a_make, ↓a_makeZ, ↓a_dnew, ↓a_done, ↓a_dput, ↓a_dget, ↓a_din, ↓a_lenD, ↓v_0, ↓g_0, ↓u_0, ↓v_1, ↓g_1, ↓u_1, ↓v_2, ↓g_2, ↓u_2, ↓v_3, ↓g_3, ↓u_3, ↓v_4, ↓g_4, ↓u_4, ↓v_5, ↓g_5, ↓u_5, ↓v_6, ↓g_6, ↓u_6, ↓v_7, ↓g_7, ↓u_7, ↓v_8, ↓g_8, ↓u_8, ↓v_9, ↓g_9, ↓u_9, ↓v_10, ↓g_10, ↓u_10, ↓v_11, ↓g_11, ↓u_11, ↓v_12, ↓g_12, ↓u_12, ↓v_13, ↓g_13, ↓u_13, ↓v_14, ↓g_14, ↓u_14, ↓v_15, ↓g_15, ↓u_15, ↓v_16, ↓g_16, ↓u_16, ↓v_17, ↓g_17, ↓u_17, ↓v_18, ↓g_18, ↓u_18, ↓v_19, ↓g_19, ↓u_19, ↓v_20, ↓g_20, ↓u_20, ↓v_21, ↓g_21, ↓u_21, ↓v_22, ↓g_22, ↓u_22, ↓v_23, ↓g_23, ↓u_23, ↓v_24, ↓g_24, ↓u_24, ↓v_25, ↓g_25, ↓u_25, ↓f_0, ↓fl_0, ↓fn_0, ↓f_1, ↓fl_1, ↓fn_1, ↓f_2, ↓fl_2, ↓fn_2, ↓f_3, ↓fl_3, ↓fn_3, ↓f_4, ↓fl_4, ↓fn_4, ↓f_5, ↓fl_5, ↓fn_5, ↓f_6, ↓fl_6, ↓fn_6, ↓f_7, ↓fl_7, ↓fn_7, ↓f_8, ↓fl_8, ↓fn_8, ↓f_9, ↓fl_9, ↓fn_9, ↓f_10, ↓fl_10, ↓fn_10, ↓f_11, ↓fl_11, ↓fn_11, ↓f_12, ↓fl_12, ↓fn_12, ↓f_13, ↓fl_13, ↓fn_13, ↓f_14, ↓fl_14, ↓fn_14, ↓f_15, ↓fl_15, ↓fn_15, ↓f_16, ↓fl_16, ↓fn_16, ↓f_17, ↓fl_17, ↓fn_17, ↓f_18, ↓fl_18, ↓fn_18, ↓f_19, ↓fl_19, ↓fn_19, ↓f_20, ↓fl_20, ↓fn_20, ↓f_21, ↓fl_21, ↓fn_21, ↓f_22, ↓fl_22, ↓fn_22, ↓f_23, ↓fl_23, ↓fn_23, ↓f_24, ↓fl_24, ↓fn_24, ↓f_25, ↓fl_25, ↓fn_25, ↓asL_lst, ↓asL_scr, ↓asL_gup, ↓wIx_tup, ↓wIx_lst, ↓wIx_scr, ↓wIx_ref, ↓wIx_str, ↓wAdd_int, ↓wAdd_str, ↓wAdd_tup, ↓wAdd_lst, ↓wII_int, ↓wI2_int, ↓wI1_int, ↓wI1N_int, ↓wI2N_int, ↓wLen_tup, ↓wLen_lst, ↓wLen_scr, ↓wLen_ref, ↓wLen_str, ↓wInt_int, ↓wInt_bl, ↓wStrI_int, ↓wEq_int, ↓wEq_str, ↓wEq_bl, ↓wNe_bl, ↓wNe_int, ↓wNe_str, ↓wEq_tup, ↓wNe_tup, ↓wEq_lst, ↓wNe_lst, ↓setIx_ref, ↓gT_tup, ↓gT_lst, ↓gT_ref, ↓gsC_cons, ↓gsN_nil, ↓wAppend_ref, ↓wPop_ref, ↓wExtend_ref, ↓rgO_int, ↓wAddM_lst, ↓wIsB_bl, ↓wReverse_ref, ↓wRepT_tup, ↓wNotB_bl, ↓wInD_lst, ↓wPopAt_ref, ↓wInsert_ref, ↓refR_ref, ↓seqOf_tup, ↓seqOf_lst, ↓seqOf_scr, ↓seqOf_ref, ↓rng1_int, ↓rng2_int, ↓wIsi_non, ↓wIsi_bl, ↓wIsi_int, ↓wIsi_str, ↓wIsi_tup, ↓wIsi_lst, ↓wIsi_ref, ↓wAll_lst, ↓wAny_lst, ↓wSum_lst, ↓wTuple_tup, ↓wTuple_lst, ↓wTuple_ref, ↓wList_tup, ↓wList_lst, ↓wList_ref, ↓wListM_tup, ↓wListM_lst, ↓wCut_tup, ↓wCut_lst, ↓wCut_ref, ↓wCut_str, ↓wRep_lst, ↓wRepM_lst, ↓zipOf_tup, ↓zipOf_lst, ↓enumOf_lst, ↓enumOf_scr, ↓zipG2_eq, ↓zipG3_eq, ↓enumG_eq, ↓wSorted_eq, ↓wSortedM_eq, ↓wClear_ref, ↓wGet_ref, ↓truO_bl, ↓intO_int, ↓isS_some, ↓isG_lst, ↓setF_ref, ↓isI_ins, ↓dPut_ref, ↓isD_dic, ↓insOf_gup, ↓dicOf_gup, keyOf, nk, rangeW_length, sset, skill, swipe, swipe.sforget, lcW, wIn, seqs, inW, eqW, flatW, kdIs, isNon, gup_same, gup_gup, at0, at1, at2, at3, at4, at5, at6, at7, ix0, ix1, ix2, ix3, ix4, ix5, W.bl.injEq, exists_eq_left', List.length_cons, List.length_nil, List.length_map, Nat.zero_add, Nat.reduceAdd, List.set, List.map_cons, List.map_nil, Option.isSome_some, List.all_cons, List.all_nil, List.any_cons, List.any_nil, List.cons_append, List.nil_append, Bool.and_true, Bool.and_self, Bool.or_false, Bool.true_and, Bool.false_and, Bool.and_false, true_and, decide_true, decide_false, Bool.not_true, Bool.not_false, Bool.not_not, Bool.false_eq_true, if_true, if_false, ite_self, beq_self_eq_true])

/-! ### what weights show -/
abbrev Blk := Nat × Nat × Nat
abbrev blkW (b : Blk) : W := .tup [.int ((b.1 : Nat) : Int), .int ((b.2.1 : Nat) : Int), .int ((b.2.2 : Nat) : Int)]
abbrev blksW (bs : List Blk) : W := .tup (bs.map fun b => blkW b)
structure BlksOk (n : Nat) (bs : List Blk) : Prop where
  len : bs.length ≤ 10
  ok : ∀ b ∈ bs, b.1 < n ∧ b.2.1 < 128 ∧ b.2.2 < 1024
def blk1 (P : Nat → Rat) (b : Blk) : Rat := if (b.2.2 : Rat) - P b.1 < 0 then (b.2.1 : Rat) * ((b.2.2 : Rat) - P b.1) else 0
def rent1 (ls : List Ln) (r : Wr) : Rat := r.w * ((ls.getD r.line ⟨0, 0, 0, 0⟩).m : Rat)
def noughtB (bs : List Blk) : List Blk := bs.map fun b => (b.1, b.2.1, 0)
noncomputable def shownR (m : Nat) (ls : List Ln) (gf : Nat → Int) (bs : List Blk) (lev : Rat) (rows : List Wr) : Rat :=
  lsum (blk1 (priceR m ls lev rows)) bs - sm (m + 1) (fun v => priceR m ls lev rows v * (gf v : Rat)) - lsum (rent1 ls) rows
theorem lsum_take {α : Type} (f : α → Rat) {xs : List α} {k : Nat} (h : k < xs.length) : lsum f (xs.take (k + 1)) = lsum f (xs.take k) + f xs[k] := by
  rw [List.take_succ_eq_append_getElem h, lsum_append]
  show _ + (f xs[k] + 0) = _
  grind
theorem nought_ok {n : Nat} {bs : List Blk} (h : BlksOk n bs) : BlksOk n (noughtB bs) := by
  refine ⟨by unfold noughtB; rw [List.length_map]; exact h.len, fun b hb => ?_⟩
  obtain ⟨c, hc, rfl⟩ := List.mem_map.mp hb
  obtain ⟨h1, h2, h3⟩ := h.ok c hc
  exact ⟨h1, h2, by show 0 < 1024; omega⟩
theorem rent_sz {n : Nat} {ls : List Ln} {lev : Rat} {rows : List Wr} (net : Net n ls) (ok : WtsOk n ls lev rows) : ∀ i, i ≤ rows.length → sz (1 + 20 * i) (lsum (rent1 ls) (rows.take i))
  | 0, _ => (⟨by decide, by decide⟩ : sz 1 (0 : Rat))
  | i + 1, hi => by
    have hi' : i < rows.length := by omega
    have r := ok.ok _ (List.getElem_mem hi')
    rw [lsum_take _ hi']
    have okl := net.ok _ (List.getElem_mem r.line)
    have l9 := okl.m
    have e : ls.getD rows[i].line ⟨0, 0, 0, 0⟩ = ls[rows[i].line]'r.line := by simp [List.getD_eq_getElem?_getD, r.line]
    have s1 : sz 7 ((ls[rows[i].line]'r.line).m : Rat) := sz_nat (by omega) (by decide)
    have := sz_add (rent_sz net ok i (by omega)) (sz_mul r.sz s1)
    unfold rent1 at this ⊢
    rw [e]
    exact sz_mono this (by omega)
theorem price_sz {m : Nat} {ls : List Ln} {lev : Rat} {rows : List Wr} (net : Net (m + 1) ls) (ok : WtsOk (m + 1) ls lev rows) {v : Nat} (hv : v < m + 1) : sz 876 (priceR m ls lev rows v) := by
  have := priceR_sz net ok hv rows.length (Nat.le_refl _)
  rw [List.take_length] at this
  have := ok.len
  exact sz_mono ‹sz _ _› (by omega)
theorem gain_sz {m : Nat} {ls : List Ln} {lev : Rat} {rows : List Wr} (net : Net (m + 1) ls) (ok : WtsOk (m + 1) ls lev rows) {b : Blk} (hb : b.1 < m + 1 ∧ b.2.1 < 128 ∧ b.2.2 < 1024) : sz 887 ((b.2.2 : Rat) - priceR m ls lev rows b.1) :=
  sz_mono (sz_sub (sz_nat (b := 10) (by omega) (by decide)) (price_sz net ok hb.1)) (by decide)
theorem blk1_sz {m : Nat} {ls : List Ln} {lev : Rat} {rows : List Wr} (net : Net (m + 1) ls) (ok : WtsOk (m + 1) ls lev rows) {b : Blk} (hb : b.1 < m + 1 ∧ b.2.1 < 128 ∧ b.2.2 < 1024) : sz 894 (blk1 (priceR m ls lev rows) b) := by
  unfold blk1
  split
  · exact sz_mono (sz_mul (sz_nat (b := 7) (by omega) (by decide)) (gain_sz net ok hb)) (by decide)
  · exact sz_mono (⟨by decide, by decide⟩ : sz 1 (0 : Rat)) (by decide)
theorem add_sz {t u : Rat} {a : Nat} (h : sz a t) (k : sz 894 u) : sz (a + 900) (t + u) := sz_mono (sz_add h k) (by omega)
theorem blk_acc {m : Nat} {ls : List Ln} {lev : Rat} {rows : List Wr} {bs : List Blk} (net : Net (m + 1) ls) (ok : WtsOk (m + 1) ls lev rows) (hb : BlksOk (m + 1) bs) {t : Rat} {a : Nat} (ht : sz a t) : ∀ i, i ≤ bs.length → sz (a + 900 * i) (t + lsum (blk1 (priceR m ls lev rows)) (bs.take i))
  | 0, _ => by
    show sz _ (t + 0)
    rw [show t + 0 = t by grind]; exact ht
  | i + 1, hi => by
    have hi' : i < bs.length := by omega
    rw [lsum_take _ hi', show t + (lsum (blk1 (priceR m ls lev rows)) (bs.take i) + blk1 (priceR m ls lev rows) bs[i]) = t + lsum (blk1 (priceR m ls lev rows)) (bs.take i) + blk1 (priceR m ls lev rows) bs[i] by grind]
    exact sz_mono (add_sz (blk_acc net ok hb ht i (by omega)) (blk1_sz net ok (hb.ok _ (List.getElem_mem hi')))) (by omega)
theorem put_sz {m : Nat} {ls : List Ln} {lev : Rat} {rows : List Wr} {gf : Nat → Int} (net : Net (m + 1) ls) (ok : WtsOk (m + 1) ls lev rows) {v : Nat} (hv : v < m + 1) (hg : (gf v).natAbs < 1024) : sz 890 (priceR m ls lev rows v * (gf v : Rat)) :=
  sz_mono (sz_mul (price_sz net ok hv) (sz_int (b := 10) (by omega) (by decide))) (by decide)
theorem put_acc {m : Nat} {ls : List Ln} {lev : Rat} {rows : List Wr} {gf : Nat → Int} (net : Net (m + 1) ls) (ok : WtsOk (m + 1) ls lev rows) (hg : ∀ v, v < m + 1 → (gf v).natAbs < 1024) {t : Rat} {a : Nat} (ht : sz a t) : ∀ i, i ≤ m + 1 → sz (a + 900 * i) (t - sm i (fun v => priceR m ls lev rows v * (gf v : Rat)))
  | 0, _ => by
    show sz _ (t - 0)
    rw [show t - 0 = t by grind]; exact ht
  | i + 1, hi => by
    rw [sm_succ, show t - (sm i (fun v => priceR m ls lev rows v * (gf v : Rat)) + priceR m ls lev rows i * (gf i : Rat)) = t - sm i (fun v => priceR m ls lev rows v * (gf v : Rat)) - priceR m ls lev rows i * (gf i : Rat) by grind]
    exact sz_mono (sz_sub (put_acc net ok hg ht i (by omega)) (put_sz net ok (show i < m + 1 by omega) (hg i (by omega)))) (by omega)
theorem prices_frs {m : Nat} {ls : List Ln} {lev : Rat} {rows : List Wr} : ((pricesL m ls lev rows).map fun q => fr q) = (List.range (m + 1)).map fun v => fr (priceR m ls lev rows v) := by unfold pricesL; rw [List.map_map]; rfl
theorem prices_at {m v : Nat} {ls : List Ln} {lev : Rat} {rows : List Wr} (hv : v < m + 1) : L2.atI ((pricesL m ls lev rows).map fun q => fr q) ((v : Nat) : Int) = some (fr (priceR m ls lev rows v)) := by
  rw [prices_frs, atI_map _ _ (by simpa using hv), List.getElem_range]
theorem prices_zip {m : Nat} {ls : List Ln} {lev : Rat} {rows : List Wr} {gf : Nat → Int} : ((pricesL m ls lev rows).map fun q => fr q).zipWith tup2 (intsW (rowL (m + 1) gf)) = (List.range (m + 1)).map fun v => W.tup [fr (priceR m ls lev rows v), .int (gf v)] := by
  rw [prices_frs]
  unfold rowL
  refine List.ext_getElem (by simp) fun i h1 h2 => ?_
  simp
  rfl
def sp_whole : Spw := fun ws G Q E => ∃ (k : Int), ws = [.int k] ∧ Q (fr (k : Rat)) G
theorem len_whole (ws G Q E) (h : sp_whole ws G Q E) : ws.length = 1 := by obtain ⟨_, rfl, _⟩ := h; rfl
/-- slots: number 0 -/
def t_whole : TSw := (wRet (wTup (wCons (wVar 0) (wCons (wC (.int 1)) wNil))))
theorem rd_whole (ws : List W) (G : Gp) (Q : QW) (E) (h : sp_whole ws G Q E) : t_whole { nx := fun _ G' => Q .non G', rt := Cl Q } (startW ["number"] ws) G := by
  obtain ⟨k, rfl, q⟩ := h
  show t_whole _ [some (.int k)] G
  unfold t_whole
  walk_at "w"
  exact ⟨by decide, .inl q⟩
def sp_borne_rent : Spw := fun ws G Q E => ∃ (n : Nat) (ls : List Ln) (lev : Rat) (rows : List Wr), ws = [netW n ls, wtsW lev rows] ∧ (Net n ls) ∧ (WtsOk n ls lev rows) ∧ Q (fr (lsum (rent1 ls) rows)) G
theorem len_borne_rent (ws G Q E) (h : sp_borne_rent ws G Q E) : ws.length = 2 := by obtain ⟨_, _, _, _, rfl, _⟩ := h; rfl
/-- slots: net 0, weights 1, total 2, lost 3, line 4, side 5, weight 6 -/
def t_borne_rent_b1 : TSw := (wAsg (wCall sp_plus (wCons (wVar 2) (wCons (wCall sp_times (wCons (wVar 6) (wCons (wCall sp_whole (wCons (wOp wIx (wOp wIx (wOp wIx (wVar 0) (wC (.int 1))) (wVar 4)) (wC (.int 3))) wNil)) wNil))) wNil))) (gN 2))
def t_borne_rent : TSw := (wSeq (wAsg (wC (.tup [.int 0, .int 1])) (gN 2))
    (wSeq (wFor [false, true, false, true, true, true, true] (iSeqW (wOp wIx (wVar 1) (wC (.int 1)))) (gT 4 (gsC (gN 3) (gsC (gN 4) (gsC (gN 5) (gsC (gN 6) gsN))))) t_borne_rent_b1)
    (wRet (wVar 2))))
theorem rd_borne_rent (ws : List W) (G : Gp) (Q : QW) (E) (h : sp_borne_rent ws G Q E) : t_borne_rent { nx := fun _ G' => Q .non G', rt := Cl Q } (startW ["net", "weights", "total", "lost", "line", "side", "weight"] ws) G := by
  obtain ⟨n, ls, lev, rows, rfl, net, ok, q⟩ := h
  show t_borne_rent _ [some (netW n ls), some (wtsW lev rows), none, none, none, none, none] G
  unfold t_borne_rent
  walk_at "w"
  have few := ok.len
  refine forW_ix (fun i σ G1 => G1 = G ∧ σ = [some (netW n ls), none, some (fr (lsum (rent1 ls) (rows.take i))), none, none, none, none]) _ 0 _ _ ⟨rfl, rfl⟩ ?_ ?_
  · rintro i w hw σ G1 N ⟨rfl, rfl⟩ hN
    rw [Nat.zero_add] at hN ⊢
    rw [List.getElem?_map] at hw
    by_cases hi : i < rows.length
    · rw [List.getElem?_eq_getElem hi] at hw
      injection hw with hw
      subst hw
      have r := ok.ok _ (List.getElem_mem hi)
      have rs := rent_sz net ok i (by omega)
      rw [lsum_take _ hi] at hN
      unfold rent1 at hN rs ⊢
      generalize rows[i] = t at r hN ⊢
      have okl := net.ok _ (List.getElem_mem r.line)
      have l9 := okl.m
      have e : ls.getD t.line ⟨0, 0, 0, 0⟩ = ls[t.line]'r.line := by simp [List.getD_eq_getElem?_getD, r.line]
      rw [e] at hN
      have s1 : sz 7 ((ls[t.line]'r.line).m : Rat) := sz_nat (by omega) (by decide)
      unfold t_borne_rent_b1
      walk_at "w"
      rw [atI_map _ _ r.line]
      walk_at "w"
      refine ⟨_, rfl, ?_⟩
      walk_at "w"
      rw [Rat.intCast_natCast]
      refine ⟨t.w, _, rfl, ⟨_, _, r.sz, s1, by omega⟩, ?_⟩
      walk_at "w"
      refine ⟨_, _, rfl, ⟨_, _, rs, sz_mul r.sz s1, by omega⟩, ?_⟩
      walk_at "w"
      exact hN _ _ ⟨rfl, rfl⟩
    · rw [List.getElem?_eq_none (by omega)] at hw; cases hw
  · rintro σ G1 ⟨rfl, rfl⟩
    rw [Nat.zero_add, List.length_map, List.take_length]
    walk_at "w"
    exact .inl q
def sp_shown_by : Spw := fun ws G Q E => ∃ (m : Nat) (ls : List Ln) (gf : Nat → Int) (bs : List Blk) (lev : Rat) (rows : List Wr), ws = [.lst ((beasL m ls).map fun t => beaW t), netW (m + 1) ls, .lst (intsW (rowL (m + 1) gf)), blksW bs, wtsW lev rows] ∧ (Net (m + 1) ls) ∧ (WtsOk (m + 1) ls lev rows) ∧ (BlksOk (m + 1) bs) ∧ (∀ v, v < m + 1 → (gf v).natAbs < 1024) ∧ Q (fr (shownR m ls gf bs lev rows)) G
theorem len_shown_by (ws G Q E) (h : sp_shown_by ws G Q E) : ws.length = 5 := by obtain ⟨_, _, _, _, _, _, rfl, _⟩ := h; rfl
/-- slots: found 0, net 1, base 2, blocks 3, weights 4, at_places 5, total 6, place 7, width 8, price 9, gain 10, put 11 -/
def t_shown_by_b1 : TSw := (wSeq (wAsg (wCall sp_minus (wCons (wCall sp_whole (wCons (wVar 9) wNil)) (wCons (wOp wIx (wVar 5) (wVar 7)) wNil))) (gN 10))
    (wIfS (wTest (wCall sp_is_less (wCons (wVar 10) (wCons (wC (.tup [.int 0, .int 1])) wNil)))) (wAsg (wCall sp_plus (wCons (wVar 6) (wCons (wCall sp_times (wCons (wCall sp_whole (wCons (wVar 8) wNil)) (wCons (wVar 10) wNil))) wNil))) (gN 6)) wNext))
def t_shown_by_b2 : TSw := (wAsg (wCall sp_minus (wCons (wVar 6) (wCons (wCall sp_times (wCons (wVar 9) (wCons (wCall sp_whole (wCons (wVar 11) wNil)) wNil))) wNil))) (gN 6))
def t_shown_by_r1 : TSw := (wSeq (wFor [true, true, true, true, true, true, false, true, true, true, true, true] (i_zipG2 (wCons (wVar 5) (wCons (wVar 2) wNil))) (gT 2 (gsC (gN 9) (gsC (gN 11) gsN))) t_shown_by_b2)
    (wRet (wVar 6)))
def t_shown_by : TSw := (wSeq (wAsg (wCall sp_prices_by (wCons (wVar 0) (wCons (wOp wIx (wVar 1) (wC (.int 0))) (wCons (wVar 4) wNil)))) (gN 5))
    (wSeq (wAsg (wCall sp_minus (wCons (wC (.tup [.int 0, .int 1])) (wCons (wCall sp_borne_rent (wCons (wVar 1) (wCons (wVar 4) wNil))) wNil))) (gN 6))
    (wSeq (wFor [true, true, false, true, true, false, false, true, true, true, true, true] (iSeqW (wVar 3)) (gT 3 (gsC (gN 7) (gsC (gN 8) (gsC (gN 9) gsN)))) t_shown_by_b1)
    t_shown_by_r1)))
theorem rd_shown_by (ws : List W) (G : Gp) (Q : QW) (E) (h : sp_shown_by ws G Q E) : t_shown_by { nx := fun _ G' => Q .non G', rt := Cl Q } (startW ["found", "net", "base", "blocks", "weights", "at_places", "total", "place", "width", "price", "gain", "put"] ws) G := by
  obtain ⟨m, ls, gf, bs, lev, rows, rfl, net, ok, hb, hg, q⟩ := h
  show t_shown_by _ [some (.lst ((beasL m ls).map fun t => beaW t)), some (netW (m + 1) ls), some (.lst (intsW (rowL (m + 1) gf))), some (blksW bs), some (wtsW lev rows), none, none, none, none, none, none, none] G
  unfold t_shown_by
  walk_at "w"
  have big : 1000 < sizeLine := by decide
  have n4 := net.n4
  have few := ok.len
  have fb := hb.len
  refine ⟨m, ls, lev, rows, rfl, net, ok, .inl ?_⟩
  walk_at "w"
  refine ⟨m + 1, ls, lev, rows, rfl, net, ok, ?_⟩
  walk_at "w"
  have rs := rent_sz net ok rows.length (Nat.le_refl _)
  rw [List.take_length] at rs
  have z0 : sz 1 (0 : Rat) := ⟨by decide, by decide⟩
  have t0 := sz_mono (sz_sub z0 rs) (show 1 + (1 + 20 * rows.length) + 1 ≤ 300 by omega)
  refine ⟨0, _, rfl, ⟨_, _, z0, rs, by omega⟩, ?_⟩
  walk_at "w"
  generalize ht : (0 : Rat) - lsum (rent1 ls) rows = t at t0 ⊢
  refine forW_ix (fun i σ G1 => G1 = G ∧ σ = [none, none, some (.lst (intsW (rowL (m + 1) gf))), none, none, some (.lst ((pricesL m ls lev rows).map fun q => fr q)), some (fr (t + lsum (blk1 (priceR m ls lev rows)) (bs.take i))), none, none, none, none, none]) _ 0 _ _ ⟨rfl, by rw [show t + lsum (blk1 (priceR m ls lev rows)) (bs.take 0) = t by show t + 0 = t; grind]⟩ ?_ ?_
  · rintro i w hw σ G1 N ⟨rfl, rfl⟩ hN
    rw [Nat.zero_add] at hN ⊢
    rw [List.getElem?_map] at hw
    by_cases hi : i < bs.length
    · rw [List.getElem?_eq_getElem hi] at hw
      injection hw with hw
      subst hw
      have ob := hb.ok _ (List.getElem_mem hi)
      have acc := blk_acc net ok hb t0 i (by omega)
      rw [lsum_take _ hi] at hN
      generalize bs[i] = b at ob hN ⊢
      have gs := gain_sz net ok ob
      unfold t_shown_by_b1
      walk_at "w"
      refine ⟨_, rfl, ?_⟩
      walk_at "w"
      rw [prices_at ob.1, Rat.intCast_natCast]
      walk_at "w"
      refine ⟨_, _, rfl, ⟨_, _, sz_nat (b := 10) (by omega) (by decide), price_sz net ok ob.1, by decide⟩, ?_⟩
      walk_at "w"
      refine ⟨_, 0, rfl, ⟨_, _, gs, z0, by decide⟩, ?_⟩
      walk_at "w"
      by_cases c : (b.2.2 : Rat) - priceR m ls lev rows b.1 < 0
      · rw [decide_eq_true c, if_pos rfl]
        have s7 : sz 7 (b.2.1 : Rat) := sz_nat (by omega) (by decide)
        refine ⟨_, rfl, ?_⟩
        walk_at "w"
        rw [Rat.intCast_natCast]
        refine ⟨_, _, rfl, ⟨_, _, s7, gs, by decide⟩, ?_⟩
        walk_at "w"
        refine ⟨_, _, rfl, ⟨_, _, acc, sz_mul s7 gs, by omega⟩, ?_⟩
        walk_at "w"
        refine hN _ _ ⟨rfl, ?_⟩
        rw [show blk1 (priceR m ls lev rows) b = (b.2.1 : Rat) * ((b.2.2 : Rat) - priceR m ls lev rows b.1) by unfold blk1; rw [if_pos c], show ∀ x y z : Rat, x + (y + z) = x + y + z by grind]
        rfl
      · rw [decide_eq_false c, if_neg (by decide)]
        refine hN _ _ ⟨rfl, ?_⟩
        rw [show blk1 (priceR m ls lev rows) b = 0 by unfold blk1; rw [if_neg c], show ∀ x y : Rat, x + (y + 0) = x + y by grind]
        rfl
    · rw [List.getElem?_eq_none (by omega)] at hw; cases hw
  · rintro σ G1 ⟨rfl, rfl⟩
    rw [Nat.zero_add, List.length_map, List.take_length]
    have acc := blk_acc net ok hb t0 bs.length (Nat.le_refl _)
    rw [List.take_length] at acc
    generalize ht2 : t + lsum (blk1 (priceR m ls lev rows)) bs = t2 at acc ⊢
    unfold t_shown_by_r1
    walk_at "w"
    rw [prices_zip]
    refine forW_ix (fun i σ G2 => G2 = G1 ∧ σ = [none, none, none, none, none, none, some (fr (t2 - sm i (fun v => priceR m ls lev rows v * (gf v : Rat)))), none, none, none, none, none]) _ 0 _ _ ⟨rfl, by rw [show t2 - sm 0 (fun v => priceR m ls lev rows v * (gf v : Rat)) = t2 by show t2 - 0 = t2; grind]⟩ ?_ ?_
    · rintro v w hw σ G2 N ⟨rfl, rfl⟩ hN
      rw [Nat.zero_add] at hN ⊢
      rw [List.getElem?_map] at hw
      obtain ⟨v', hv', rfl⟩ := Option.map_eq_some_iff.mp hw
      have hv : v < m + 1 := by
        rcases Nat.lt_or_ge v (m + 1) with c | c
        · exact c
        · rw [List.getElem?_eq_none (by simpa using c)] at hv'; cases hv'
      rw [List.getElem?_range hv] at hv'
      injection hv' with hv'
      subst hv'
      have pac := put_acc net ok hg acc v (by omega)
      unfold t_shown_by_b2
      walk_at "w"
      refine ⟨_, rfl, ?_⟩
      walk_at "w"
      refine ⟨_, _, rfl, ⟨_, _, price_sz net ok hv, sz_int (b := 10) (hg v hv) (by decide), by decide⟩, ?_⟩
      walk_at "w"
      refine ⟨_, _, rfl, ⟨_, _, pac, put_sz net ok hv (hg v hv), by omega⟩, ?_⟩
      walk_at "w"
      refine hN _ _ ⟨rfl, ?_⟩
      rw [sm_succ, show ∀ x y z : Rat, x - (y + z) = x - y - z by grind]
      rfl
    · rintro σ G2 ⟨rfl, rfl⟩
      rw [Nat.zero_add, List.length_map, List.length_range]
      walk_at "w"
      refine .inl ?_
      have : t2 - sm (m + 1) (fun v => priceR m ls lev rows v * (gf v : Rat)) = shownR m ls gf bs lev rows := by
        rw [← ht2, ← ht]; unfold shownR; grind
      rw [this]; exact q
def sp_shown : Spw := fun ws G Q E => ∃ (m : Nat) (ls : List Ln) (gf : Nat → Int) (bs : List Blk) (lev : Rat) (rows : List Wr), ws = [netW (m + 1) ls, .lst (intsW (rowL (m + 1) gf)), blksW bs, wtsW lev rows] ∧ (Net (m + 1) ls) ∧ (WtsOk (m + 1) ls lev rows) ∧ (BlksOk (m + 1) bs) ∧ (∀ v, v < m + 1 → (gf v).natAbs < 1024) ∧ Q (fr (shownR m ls gf bs lev rows)) G
theorem len_shown (ws G Q E) (h : sp_shown ws G Q E) : ws.length = 4 := by obtain ⟨_, _, _, _, _, _, rfl, _⟩ := h; rfl
/-- slots: net 0, base 1, blocks 2, weights 3 -/
def t_shown : TSw := (wRet (wCall sp_shown_by (wCons (wCall sp_bearings (wCons (wVar 0) wNil)) (wCons (wVar 0) (wCons (wVar 1) (wCons (wVar 2) (wCons (wVar 3) wNil)))))))
theorem rd_shown (ws : List W) (G : Gp) (Q : QW) (E) (h : sp_shown ws G Q E) : t_shown { nx := fun _ G' => Q .non G', rt := Cl Q } (startW ["net", "base", "blocks", "weights"] ws) G := by
  obtain ⟨m, ls, gf, bs, lev, rows, rfl, net, ok, hb, hg, q⟩ := h
  show t_shown _ [some (netW (m + 1) ls), some (.lst (intsW (rowL (m + 1) gf))), some (blksW bs), some (wtsW lev rows)] G
  unfold t_shown
  walk_at "w"
  refine ⟨m, ls, rfl, net, ?_⟩
  walk_at "w"
  exact ⟨m, ls, gf, bs, lev, rows, rfl, net, ok, hb, hg, .inl q⟩
def sp_at_nought : Spw := fun ws G Q E => ∃ (n : Nat) (bs : List Blk), ws = [blksW bs] ∧ (BlksOk n bs) ∧ Q (blksW (noughtB bs)) G
theorem len_at_nought (ws G Q E) (h : sp_at_nought ws G Q E) : ws.length = 1 := by obtain ⟨_, _, rfl, _⟩ := h; rfl
/-- slots: blocks 0, place 1, width 2, price 3 -/
def t_at_nought : TSw := (wRet (wCB wTuple (wCons (wLc [1, 2, 3] (iSeqW (wVar 0)) (gT 3 (gsC (gN 1) (gsC (gN 2) (gsC (gN 3) gsN)))) wYes (wTup (wCons (wVar 1) (wCons (wVar 2) (wCons (wC (.int 0)) wNil))))) wNil)))
theorem rd_at_nought (ws : List W) (G : Gp) (Q : QW) (E) (h : sp_at_nought ws G Q E) : t_at_nought { nx := fun _ G' => Q .non G', rt := Cl Q } (startW ["blocks", "place", "width", "price"] ws) G := by
  obtain ⟨n, bs, rfl, hb, q⟩ := h
  show t_at_nought _ [some (blksW bs), none, none, none] G
  unfold t_at_nought
  walk_at "w"
  have big : 1000 < sizeLine := by decide
  have fb := hb.len
  refine ⟨by omega, ?_⟩
  refine lcW_m (fun b : Blk => blkW b) (fun b => blkW (b.1, b.2.1, 0)) _ _ ?_ ?_
  · intro b hb P hP
    walk_at "w"
    exact ⟨by decide, hP⟩
  walk_at "w"
  refine .inl ?_
  have : bs.map (fun b => blkW (b.1, b.2.1, 0)) = (noughtB bs).map fun b => blkW b := by unfold noughtB; rw [List.map_map]; rfl
  rw [this]
  exact q
def sp_shown_at_nought : Spw := fun ws G Q E => ∃ (m : Nat) (ls : List Ln) (gf : Nat → Int) (bs : List Blk) (lev : Rat) (rows : List Wr), ws = [netW (m + 1) ls, .lst (intsW (rowL (m + 1) gf)), blksW bs, wtsW lev rows] ∧ (Net (m + 1) ls) ∧ (WtsOk (m + 1) ls lev rows) ∧ (BlksOk (m + 1) bs) ∧ (∀ v, v < m + 1 → (gf v).natAbs < 1024) ∧ Q (fr (shownR m ls gf (noughtB bs) lev rows)) G
theorem len_shown_at_nought (ws G Q E) (h : sp_shown_at_nought ws G Q E) : ws.length = 4 := by obtain ⟨_, _, _, _, _, _, rfl, _⟩ := h; rfl
/-- slots: net 0, base 1, blocks 2, weights 3 -/
def t_shown_at_nought : TSw := (wRet (wCall sp_shown (wCons (wVar 0) (wCons (wVar 1) (wCons (wCall sp_at_nought (wCons (wVar 2) wNil)) (wCons (wVar 3) wNil))))))
theorem rd_shown_at_nought (ws : List W) (G : Gp) (Q : QW) (E) (h : sp_shown_at_nought ws G Q E) : t_shown_at_nought { nx := fun _ G' => Q .non G', rt := Cl Q } (startW ["net", "base", "blocks", "weights"] ws) G := by
  obtain ⟨m, ls, gf, bs, lev, rows, rfl, net, ok, hb, hg, q⟩ := h
  show t_shown_at_nought _ [some (netW (m + 1) ls), some (.lst (intsW (rowL (m + 1) gf))), some (blksW bs), some (wtsW lev rows)] G
  unfold t_shown_at_nought
  walk_at "w"
  refine ⟨m + 1, bs, rfl, hb, ?_⟩
  walk_at "w"
  exact ⟨m, ls, gf, noughtB bs, lev, rows, rfl, net, ok, nought_ok hb, hg, .inl q⟩
end WL

namespace WL
open PySem PySem.Spec PyProof.Rows L2
local macro_rules | `(tactic| walk_at "w") => `(tactic| try simp only [↓a_seq, ↓a_asg, ↓a_ifS, ↓a_ret, ↓a_retN, ↓a_next, ↓a_break, ↓a_cont, ↓a_drop, ↓a_for, ↓a_C, ↓a_op, ↓a_un, ↓a_neg, ↓a_CB, ↓a_call, ↓a_nil, ↓a_cons, ↓a_tup, ↓a_lst, ↓a_lstM, ↓a_test, ↓a_and, ↓a_or, ↓a_not, ↓a_yes, ↓a_andV, ↓a_orV, ↓a_notV, ↓a_if, ↓a_isN, ↓a_notN, ↓a_chain, ↓a_BM, ↓a_BM0, ↓a_seqI, ↓a_R1, ↓a_R2, ↓a_zip2, ↓a_zipG2, ↓a_zipG3, ↓a_enumG, ↓a_enum, ↓a_lc, ↓a_lcM, ↓a_lcR, ↓a_forR, ↓a_seqR, ↓a_zip2R, ↓a_zipR, ↓a_lstRg, ↓a_lstRgM, ↓a_lcP, ↓a_slice, ↓a_sliceM, ↓a_pN, ↓a_pS, ↓a_augIx, ↓a_gIx, ↓a_par, ↓a_setF, ↓a_meth, ↓a_make, ↓a_makeZ, ↓a_dnew, ↓a_done, ↓a_dput, ↓a_dget, ↓a_din, ↓a_lenD, ↓v_0, ↓g_0, ↓u_0, ↓v_1, ↓g_1, ↓u_1, ↓v_2, ↓g_2, ↓u_2, ↓v_3, ↓g_3, ↓u_3, ↓v_4, ↓g_4, ↓u_4, ↓v_5, ↓g_5, ↓u_5, ↓v_6, ↓g_6, ↓u_6, ↓v_7, ↓g_7, ↓u_7, ↓v_8, ↓g_8, ↓u_8, ↓v_9, ↓g_9, ↓u_9, ↓v_10, ↓g_10, ↓u_10, ↓v_11, ↓g_11, ↓u_11, ↓v_12, ↓g_12, ↓u_12, ↓v_13, ↓g_13, ↓u_13, ↓v_14, ↓g_14, ↓u_14, ↓v_15, ↓g_15, ↓u_15, ↓v_16, ↓g_16, ↓u_16, ↓v_17, ↓g_17, ↓u_17, ↓v_18, ↓g_18, ↓u_18, ↓v_19, ↓g_19, ↓u_19, ↓v_20, ↓g_20, ↓u_20, ↓v_21, ↓g_21, ↓u_21, ↓v_22, ↓g_22, ↓u_22, ↓v_23, ↓g_23, ↓u_23, ↓v_24, ↓g_24, ↓u_24, ↓v_25, ↓g_25, ↓u_25, ↓f_0, ↓fl_0, ↓fn_0, ↓f_1, ↓fl_1, ↓fn_1, ↓f_2, ↓fl_2, ↓fn_2, ↓f_3, ↓fl_3, ↓fn_3, ↓f_4, ↓fl_4, ↓fn_4, ↓f_5, ↓fl_5, ↓fn_5, ↓f_6, ↓fl_6, ↓fn_6, ↓f_7, ↓fl_7, ↓fn_7, ↓f_8, ↓fl_8, ↓fn_8, ↓f_9, ↓fl_9, ↓fn_9, ↓f_10, ↓fl_10, ↓fn_10, ↓f_11, ↓fl_11, ↓fn_11, ↓f_12, ↓fl_12, ↓fn_12, ↓f_13, ↓fl_13, ↓fn_13, ↓f_14, ↓fl_14, ↓fn_14, ↓f_15, ↓fl_15, ↓fn_15, ↓f_16, ↓fl_16, ↓fn_16, ↓f_17, ↓fl_17, ↓fn_17, ↓f_18, ↓fl_18, ↓fn_18, ↓f_19, ↓fl_19, ↓fn_19, ↓f_20, ↓fl_20, ↓fn_20, ↓f_21, ↓fl_21, ↓fn_21, ↓f_22, ↓fl_22, ↓fn_22, ↓f_23, ↓fl_23, ↓fn_23, ↓f_24, ↓fl_24, ↓fn_24, ↓f_25, ↓fl_25, ↓fn_25, ↓asL_lst, ↓asL_scr, ↓asL_gup, ↓wIx_tup, ↓wIx_lst, ↓wIx_scr, ↓wIx_ref, ↓wIx_str, ↓wAdd_int, ↓wAdd_str, ↓wAdd_tup, ↓wAdd_lst, ↓wII_int, ↓wI2_int, ↓wI1_int, ↓wI1N_int, ↓wI2N_int, ↓wLen_tup, ↓wLen_lst, ↓wLen_scr, ↓wLen_ref, ↓wLen_str, ↓wInt_int, ↓wInt_bl, ↓wStrI_int, ↓wEq_int, ↓wEq_str, ↓wEq_bl, ↓wNe_bl, ↓wNe_int, ↓wNe_str, ↓wEq_tup, ↓wNe_tup, ↓wEq_lst, ↓wNe_lst, ↓setIx_ref, ↓gT_tup, ↓gT_lst, ↓gT_ref, ↓gsC_cons, ↓gsN_nil, ↓wAppend_ref, ↓wPop_ref, ↓wExtend_ref, ↓rgO_int, ↓wAddM_lst, ↓wIsB_bl, ↓wReverse_ref, ↓wRepT_tup, ↓wNotB_bl, ↓wInD_lst, ↓wPopAt_ref, ↓wInsert_ref, ↓refR_ref, ↓seqOf_tup, ↓seqOf_lst, ↓seqOf_scr, ↓seqOf_ref, ↓rng1_int, ↓rng2_int, ↓wIsi_non, ↓wIsi_bl, ↓wIsi_int, ↓wIsi_str, ↓wIsi_tup, ↓wIsi_lst, ↓wIsi_ref, ↓wAll_lst, ↓wAny_lst, ↓wSum_lst, ↓wTuple_tup, ↓wTuple_lst, ↓wTuple_ref, ↓wList_tup, ↓wList_lst, ↓wList_ref, ↓wListM_tup, ↓wListM_lst, ↓wCut_tup, ↓wCut_lst, ↓wCut_ref, ↓wCut_str, ↓wRep_lst, ↓wRepM_lst, ↓zipOf_tup, ↓zipOf_lst, ↓enumOf_lst, ↓enumOf_scr, ↓zipG2_eq, ↓zipG3_eq, ↓enumG_eq, ↓wSorted_eq, ↓wSortedM_eq, ↓wClear_ref, ↓wGet_ref, ↓truO_bl, ↓intO_int, ↓isS_some, ↓isG_lst, ↓setF_ref, ↓isI_ins, ↓dPut_ref, ↓isD_dic, ↓insOf_gup, ↓dicOf_gup, keyOf, nk, rangeW_length, sset, skill, swipe, swipe.sforget, lcW, wIn, seqs, inW, eqW, flatW, kdIs, isNon, gup_same, gup_gup, at0, at1, at2, at3, at4, at5, at6, at7, ix0, ix1, ix2, ix3, ix4, ix5, W.bl.injEq, exists_eq_left', List.length_cons, List.length_nil, List.length_map, Nat.zero_add, Nat.reduceAdd, List.set, List.map_cons, List.map_nil, Option.isSome_some, List.all_cons, List.all_nil, List.any_cons, List.any_nil, List.cons_append, List.nil_append, Bool.and_true, Bool.and_self, Bool.or_false, Bool.true_and, Bool.false_and, Bool.and_false, true_and, decide_true, decide_false, Bool.not_true, Bool.not_false, Bool.not_not, Bool.false_eq_true, if_true, if_false, ite_self, beq_self_eq_true])

/-! ### the law's own -/
theorem num_lt0 (q : Rat) : decide (q.num < 0) = decide (q < 0) := by
  have h := Rat.num_nonneg (q := q)
  by_cases c : q < 0
  · have : ¬ 0 ≤ q.num := fun z => by have := h.mp z; grind
    rw [decide_eq_true c, decide_eq_true (by omega)]
  · have : 0 ≤ q.num := h.mpr (by grind)
    rw [decide_eq_false c, decide_eq_false (by omega)]
theorem rent_acc {n : Nat} {ls : List Ln} {lev : Rat} {rows : List Wr} (net : Net n ls) (ok : WtsOk n ls lev rows) {t : Rat} {a : Nat} (ht : sz a t) {i : Nat} (hi : i ≤ rows.length) : sz (a + 300) (t - lsum (rent1 ls) (rows.take i)) := by
  have := ok.len
  exact sz_mono (sz_sub ht (rent_sz net ok i hi)) (by omega)
def sp__law_shown : Spw := fun ws G Q E => ∃ (m : Nat) (ls : List Ln) (gf : Nat → Int) (bs : List Blk) (lev : Rat) (rows : List Wr), ws = [netW (m + 1) ls, .lst (intsW (rowL (m + 1) gf)), blksW bs, wtsW lev rows] ∧ (Net (m + 1) ls) ∧ (WtsOk (m + 1) ls lev rows) ∧ (BlksOk (m + 1) bs) ∧ (∀ v, v < m + 1 → (gf v).natAbs < 1024) ∧ Q (fr (shownR m ls gf bs lev rows)) G
theorem len__law_shown (ws G Q E) (h : sp__law_shown ws G Q E) : ws.length = 4 := by obtain ⟨_, _, _, _, _, _, rfl, _⟩ := h; rfl
/-- slots: _law_net_here 0, _law_ground 1, _law_stock 2, _law_weights_here 3, _law_at_places 4, _law_total 5, _law_place 6, _law_width 7, _law_price 8, _law_lack 9, _law_put 10, _law_lost 11, _law_line_here 12, _law_side 13, _law_weight 14 -/
def t__law_shown_b1 : TSw := (wSeq (wAsg (wCall sp__law_minus (wCons (wTup (wCons (wVar 8) (wCons (wC (.int 1)) wNil))) (wCons (wOp wIx (wVar 4) (wVar 6)) wNil))) (gN 9))
    (wIfS (wTest (wOp wLt (wOp wIx (wVar 9) (wC (.int 0))) (wC (.int 0)))) (wAsg (wCall sp__law_plus (wCons (wVar 5) (wCons (wCall sp__law_times (wCons (wTup (wCons (wVar 7) (wCons (wC (.int 1)) wNil))) (wCons (wVar 9) wNil))) wNil))) (gN 5)) wNext))
def t__law_shown_b2 : TSw := (wAsg (wCall sp__law_minus (wCons (wVar 5) (wCons (wCall sp__law_times (wCons (wVar 8) (wCons (wTup (wCons (wVar 10) (wCons (wC (.int 1)) wNil))) wNil))) wNil))) (gN 5))
def t__law_shown_b3 : TSw := (wAsg (wCall sp__law_minus (wCons (wVar 5) (wCons (wCall sp__law_times (wCons (wVar 14) (wCons (wTup (wCons (wOp wIx (wOp wIx (wOp wIx (wVar 0) (wC (.int 1))) (wVar 12)) (wC (.int 3))) (wCons (wC (.int 1)) wNil))) wNil))) wNil))) (gN 5))
def t__law_shown_r1 : TSw := (wSeq (wFor [false, true, true, true, true, false, true, true, true, true, true, true, true, true, true] (iSeqW (wOp wIx (wVar 3) (wC (.int 1)))) (gT 4 (gsC (gN 11) (gsC (gN 12) (gsC (gN 13) (gsC (gN 14) gsN))))) t__law_shown_b3)
    (wRet (wVar 5)))
def t__law_shown_r2 : TSw := (wSeq (wFor [false, true, true, false, true, false, true, true, true, true, true, true, true, true, true] (i_zipG2 (wCons (wVar 4) (wCons (wVar 1) wNil))) (gT 2 (gsC (gN 8) (gsC (gN 10) gsN))) t__law_shown_b2)
    t__law_shown_r1)
def t__law_shown : TSw := (wSeq (wAsg (wCall sp__law_prices (wCons (wVar 0) (wCons (wVar 3) wNil))) (gN 4))
    (wSeq (wAsg (wTup (wCons (wC (.int 0)) (wCons (wC (.int 1)) wNil))) (gN 5))
    (wSeq (wFor [false, false, true, false, false, false, true, true, true, true, true, true, true, true, true] (iSeqW (wVar 2)) (gT 3 (gsC (gN 6) (gsC (gN 7) (gsC (gN 8) gsN)))) t__law_shown_b1)
    t__law_shown_r2)))
theorem rd__law_shown (ws : List W) (G : Gp) (Q : QW) (E) (h : sp__law_shown ws G Q E) : t__law_shown { nx := fun _ G' => Q .non G', rt := Cl Q } (startW ["_law_net_here", "_law_ground", "_law_stock", "_law_weights_here", "_law_at_places", "_law_total", "_law_place", "_law_width", "_law_price", "_law_lack", "_law_put", "_law_lost", "_law_line_here", "_law_side", "_law_weight"] ws) G := by
  obtain ⟨m, ls, gf, bs, lev, rows, rfl, net, ok, hb, hg, q⟩ := h
  show t__law_shown _ [some (netW (m + 1) ls), some (.lst (intsW (rowL (m + 1) gf))), some (blksW bs), some (wtsW lev rows), none, none, none, none, none, none, none, none, none, none, none] G
  unfold t__law_shown
  walk_at "w"
  have big : 1000 < sizeLine := by decide
  have n4 := net.n4
  have few := ok.len
  have fb := hb.len
  refine ⟨m, ls, lev, rows, rfl, net, ok, .inl ?_⟩
  walk_at "w"
  have z0 : sz 1 (0 : Rat) := ⟨by decide, by decide⟩
  refine ⟨by decide, ?_⟩
  refine forW_ix (fun i σ G1 => G1 = G ∧ σ = [some (netW (m + 1) ls), some (.lst (intsW (rowL (m + 1) gf))), none, some (wtsW lev rows), some (.lst ((pricesL m ls lev rows).map fun q => fr q)), some (fr (0 + lsum (blk1 (priceR m ls lev rows)) (bs.take i))), none, none, none, none, none, none, none, none, none]) _ 0 _ _ ⟨rfl, by rw [show 0 + lsum (blk1 (priceR m ls lev rows)) (bs.take 0) = 0 by show (0 : Rat) + 0 = 0; grind]; rfl⟩ ?_ ?_
  · rintro i w hw σ G1 N ⟨rfl, rfl⟩ hN
    rw [Nat.zero_add] at hN ⊢
    rw [List.getElem?_map] at hw
    by_cases hi : i < bs.length
    · rw [List.getElem?_eq_getElem hi] at hw
      injection hw with hw
      subst hw
      have ob := hb.ok _ (List.getElem_mem hi)
      have acc := blk_acc net ok hb z0 i (by omega)
      rw [lsum_take _ hi] at hN
      generalize bs[i] = b at ob hN ⊢
      have gs := gain_sz net ok ob
      unfold t__law_shown_b1
      walk_at "w"
      rw [prices_at ob.1]
      walk_at "w"
      refine ⟨by decide, (b.2.2 : Rat), _, rfl, ⟨_, _, sz_nat (b := 10) (by omega) (by decide), price_sz net ok ob.1, by decide⟩, ?_⟩
      walk_at "w"
      rw [num_lt0]
      by_cases c : (b.2.2 : Rat) - priceR m ls lev rows b.1 < 0
      · rw [decide_eq_true c, if_pos rfl]
        have s7 : sz 7 (b.2.1 : Rat) := sz_nat (by omega) (by decide)
        refine ⟨by decide, (b.2.1 : Rat), _, rfl, ⟨_, _, s7, gs, by decide⟩, ?_⟩
        walk_at "w"
        refine ⟨_, _, rfl, ⟨_, _, acc, sz_mul s7 gs, by omega⟩, ?_⟩
        walk_at "w"
        refine hN _ _ ⟨rfl, ?_⟩
        rw [show blk1 (priceR m ls lev rows) b = (b.2.1 : Rat) * ((b.2.2 : Rat) - priceR m ls lev rows b.1) by unfold blk1; rw [if_pos c], show ∀ x y z : Rat, x + (y + z) = x + y + z by grind]
        rfl
      · rw [decide_eq_false c, if_neg (by decide)]
        refine hN _ _ ⟨rfl, ?_⟩
        rw [show blk1 (priceR m ls lev rows) b = 0 by unfold blk1; rw [if_neg c], show ∀ x y : Rat, x + (y + 0) = x + y by grind]
        rfl
    · rw [List.getElem?_eq_none (by omega)] at hw; cases hw
  · rintro σ G1 ⟨rfl, rfl⟩
    rw [Nat.zero_add, List.length_map, List.take_length]
    have acc := blk_acc net ok hb z0 bs.length (Nat.le_refl _)
    rw [List.take_length] at acc
    generalize ht2 : 0 + lsum (blk1 (priceR m ls lev rows)) bs = t2 at acc ⊢
    unfold t__law_shown_r2
    walk_at "w"
    rw [prices_zip]
    refine forW_ix (fun i σ G2 => G2 = G1 ∧ σ = [some (netW (m + 1) ls), none, none, some (wtsW lev rows), none, some (fr (t2 - sm i (fun v => priceR m ls lev rows v * (gf v : Rat)))), none, none, none, none, none, none, none, none, none]) _ 0 _ _ ⟨rfl, by rw [show t2 - sm 0 (fun v => priceR m ls lev rows v * (gf v : Rat)) = t2 by show t2 - 0 = t2; grind]⟩ ?_ ?_
    · rintro v w hw σ G2 N ⟨rfl, rfl⟩ hN
      rw [Nat.zero_add] at hN ⊢
      rw [List.getElem?_map] at hw
      obtain ⟨v', hv', rfl⟩ := Option.map_eq_some_iff.mp hw
      have hv : v < m + 1 := by
        rcases Nat.lt_or_ge v (m + 1) with c | c
        · exact c
        · rw [List.getElem?_eq_none (by simpa using c)] at hv'; cases hv'
      rw [List.getElem?_range hv] at hv'
      injection hv' with hv'
      subst hv'
      have pac := put_acc net ok hg acc v (by omega)
      unfold t__law_shown_b2
      walk_at "w"
      refine ⟨by decide, _, ((gf v : Int) : Rat), rfl, ⟨_, _, price_sz net ok hv, sz_int (b := 10) (hg v hv) (by decide), by decide⟩, ?_⟩
      walk_at "w"
      refine ⟨_, _, rfl, ⟨_, _, pac, put_sz net ok hv (hg v hv), by omega⟩, ?_⟩
      walk_at "w"
      refine hN _ _ ⟨rfl, ?_⟩
      rw [sm_succ, show ∀ x y z : Rat, x - (y + z) = x - y - z by grind]
      rfl
    · rintro σ G2 ⟨rfl, rfl⟩
      rw [Nat.zero_add, List.length_map, List.length_range]
      have pac := put_acc net ok hg acc (m + 1) (Nat.le_refl _)
      generalize ht3 : t2 - sm (m + 1) (fun v => priceR m ls lev rows v * (gf v : Rat)) = t3 at pac ⊢
      unfold t__law_shown_r1
      walk_at "w"
      refine forW_ix (fun i σ G3 => G3 = G2 ∧ σ = [some (netW (m + 1) ls), none, none, none, none, some (fr (t3 - lsum (rent1 ls) (rows.take i))), none, none, none, none, none, none, none, none, none]) _ 0 _ _ ⟨rfl, by rw [show t3 - lsum (rent1 ls) (rows.take 0) = t3 by show t3 - 0 = t3; grind]⟩ ?_ ?_
      · rintro i w hw σ G3 N ⟨rfl, rfl⟩ hN
        rw [Nat.zero_add] at hN ⊢
        rw [List.getElem?_map] at hw
        by_cases hi : i < rows.length
        · rw [List.getElem?_eq_getElem hi] at hw
          injection hw with hw
          subst hw
          have r := ok.ok _ (List.getElem_mem hi)
          have rs := rent_acc net ok pac (i := i) (by omega)
          rw [lsum_take _ hi] at hN
          unfold rent1 at hN rs ⊢
          generalize rows[i] = t at r hN ⊢
          have okl := net.ok _ (List.getElem_mem r.line)
          have l9 := okl.m
          have e : ls.getD t.line ⟨0, 0, 0, 0⟩ = ls[t.line]'r.line := by simp [List.getD_eq_getElem?_getD, r.line]
          rw [e] at hN
          have s1 : sz 7 ((ls[t.line]'r.line).m : Rat) := sz_nat (by omega) (by decide)
          unfold t__law_shown_b3
          walk_at "w"
          rw [atI_map _ _ r.line]
          walk_at "w"
          refine ⟨by decide, t.w, ((ls[t.line]'r.line).m : Rat), rfl, ⟨_, _, r.sz, s1, by omega⟩, ?_⟩
          walk_at "w"
          refine ⟨_, _, rfl, ⟨_, _, rs, sz_mul r.sz s1, by omega⟩, ?_⟩
          walk_at "w"
          refine hN _ _ ⟨rfl, ?_⟩
          rw [show ∀ x y z : Rat, x - (y + z) = x - y - z by grind]
          rfl
        · rw [List.getElem?_eq_none (by omega)] at hw; cases hw
      · rintro σ G3 ⟨rfl, rfl⟩
        rw [Nat.zero_add, List.length_map, List.take_length]
        walk_at "w"
        refine .inl ?_
        have : t3 - lsum (rent1 ls) rows = shownR m ls gf bs lev rows := by
          rw [← ht3, ← ht2]; unfold shownR; grind
        rw [this]; exact q
theorem isS_nat {l : List W} {d : Nat} {P : W → Prop} {ms : List Nat} (e : l = ms.map fun m => W.int ((m : Nat) : Int)) (h : d < l.length) (q : ∀ m ∈ ms, P (.int ((m : Nat) : Int))) : isS (L2.atI l ((d : Nat) : Int)) P :=
  isS_at h fun w hw => by
    rw [e] at hw
    obtain ⟨m, hm, rfl⟩ := List.mem_map.mp hw
    exact q m hm
def sp__law_blocks : Spw := fun ws G Q E => ∃ (p : Addr) (n : Nat), ws = [.ref p, .int ((n : Nat) : Int)] ∧ (BagAt p G) ∧ (1 ≤ n) ∧ ∀ bs G', BlksOk n bs → BagUp p G G' → Q (blksW bs) G'
theorem len__law_blocks (ws G Q E) (h : sp__law_blocks ws G Q E) : ws.length = 2 := by obtain ⟨_, _, rfl, _⟩ := h; rfl
/-- slots: _law_bag_here 0, _law_many 1, _law_found 2, _law_k 3, _law_way 4, _law_width 5, _law_price 6 -/
def t__law_blocks_b1 : TSw := (wSeq (wAsg (wCall sp__law_take (wCons (wVar 0) (wCons (wC (.int 4)) wNil))) (gN 4))
    (wSeq (wAsg (wCall sp__law_take (wCons (wVar 0) (wCons (wOp wIx (wLst (wCons (wC (.int 100)) (wCons (wC (.int 21)) (wCons (wC (.int 6)) (wCons (wC (.int 1)) wNil))))) (wVar 4)) wNil))) (gN 5))
    (wSeq (wAsg (wCall sp__law_take (wCons (wVar 0) (wCons (wOp wIx (wLst (wCons (wC (.int 1000)) (wCons (wC (.int 100)) (wCons (wC (.int 7)) (wCons (wC (.int 1)) wNil))))) (wCall sp__law_take (wCons (wVar 0) (wCons (wC (.int 4)) wNil)))) wNil))) (gN 6))
    (wDrop (wBM wM_append (wVar 2) (wCons (wTup (wCons (wCall sp__law_take (wCons (wVar 0) (wCons (wVar 1) wNil))) (wCons (wVar 5) (wCons (wVar 6) wNil)))) wNil))))))
def t__law_blocks_r1 : TSw := (wRet (wCB wTuple (wCons (wVar 2) wNil)))
def t__law_blocks : TSw := (wSeq (wAsg (wLstM wNil) (gN 2))
    (wSeq (wFor [false, false, false, true, true, true, true] (iR1 (wCons (wCall sp__law_take (wCons (wVar 0) (wCons (wC (.int 11)) wNil))) wNil)) (gN 3) t__law_blocks_b1)
    t__law_blocks_r1))
theorem rd__law_blocks (ws : List W) (G : Gp) (Q : QW) (E) (h : sp__law_blocks ws G Q E) : t__law_blocks { nx := fun _ G' => Q .non G', rt := Cl Q } (startW ["_law_bag_here", "_law_many", "_law_found", "_law_k", "_law_way", "_law_width", "_law_price"] ws) G := by
  obtain ⟨p, n, rfl, bag, n1, q⟩ := h
  show t__law_blocks _ [some (.ref p), some (.int ((n : Nat) : Int)), none, none, none, none, none] G
  unfold t__law_blocks
  walk_at "w"
  have big : 1000 < sizeLine := by decide
  refine ⟨by decide, fun t ht => ?_⟩
  have tp : t ≠ p := Ne.symm (bag.ne ht)
  refine take_tr (BagUp.refl bag) (Trash.refl.new ht _) (by decide) fun c G1' G1 hc u1 t1 k1 => ?_
  have g1 : G1 t = some (.lst []) := by rw [k1 _ tp, gup_same]
  walk_at "w"
  refine ⟨by omega, by omega, ?_⟩
  rw [show ((c : Nat) : Int).toNat = c by omega]
  refine forW_range (fun i σ H => ∃ (bs : List Blk) (K : Gp), BagUp p G K ∧ Trash K H ∧ H t = some (.lst (bs.map fun b => blkW b)) ∧ bs.length = i ∧ (∀ b ∈ bs, b.1 < n ∧ b.2.1 < 128 ∧ b.2.2 < 1024) ∧ σ = [some (.ref p), some (.int ((n : Nat) : Int)), some (.ref t), none, none, none, none]) ⟨[], G1', u1, t1, g1, rfl, fun _ h => (by cases h), rfl⟩ ?_ ?_
  · rintro i hi σ H N ⟨bs, K, u, tr, g, lb, ob, rfl⟩ hN
    unfold t__law_blocks_b1
    walk_at "w"
    refine take_tr u tr (by decide) fun d1 K1 H1 hd1 u1 tr1 k1 => ?_
    walk_at "w"
    refine ⟨by decide, ?_⟩
    refine isS_nat (ms := [100, 21, 6, 1]) rfl (by show d1 < 4; omega) fun mx hmx => ?_
    have mb : 1 ≤ mx ∧ mx ≤ 100 := by simp at hmx; omega
    refine take_tr u1 tr1 (by omega) fun d2 K2 H2 hd2 u2 tr2 k2 => ?_
    walk_at "w"
    refine ⟨by decide, ?_⟩
    refine take_tr u2 tr2 (by decide) fun d3 K3 H3 hd3 u3 tr3 k3 => ?_
    walk_at "w"
    refine isS_nat (ms := [1000, 100, 7, 1]) rfl (by show d3 < 4; omega) fun mz hmz => ?_
    have mc : 1 ≤ mz ∧ mz ≤ 1000 := by simp at hmz; omega
    refine take_tr u3 tr3 (by omega) fun d4 K4 H4 hd4 u4 tr4 k4 => ?_
    walk_at "w"
    have g4 : H4 t = some (.lst (bs.map fun b => blkW b)) := by rw [k4 _ tp, k3 _ tp, k2 _ tp, k1 _ tp]; exact g
    refine ⟨by rw [asL_at g4]; rfl, ?_⟩
    refine take_tr u4 tr4 (by omega) fun d5 K5 H5 hd5 u5 tr5 k5 => ?_
    have g5 : H5 t = some (.lst (bs.map fun b => blkW b)) := by rw [k5 _ tp]; exact g4
    walk_at "w"
    rw [isG_at g5]
    refine ⟨by decide, by rw [List.length_map]; omega, ?_⟩
    refine hN _ _ ⟨bs ++ [(d5, d2, d4)], K5, u5, tr5.chg (by rw [u5.ne tp]; exact ht) _, by rw [gup_same, List.map_append]; rfl, by simp [lb], fun b hb => ?_, rfl⟩
    rcases List.mem_append.mp hb with h | h
    · exact ob b h
    · rw [List.mem_singleton.mp h]
      exact ⟨by show d5 < n; omega, by show d2 < 128; omega, by show d4 < 1024; omega⟩
  · rintro σ H ⟨bs, K, u, tr, g, lb, ob, rfl⟩
    unfold t__law_blocks_r1
    walk_at "w"
    rw [asL_at g]
    exact tr.cl (q bs K ⟨by omega, ob⟩ u)
theorem rowL_set1 {n j : Nat} {f : Nat → Int} {v : Int} : (rowL n f).set j v = rowL n fun k => if k = j then v else f k := by
  unfold rowL
  refine List.ext_getElem (by simp) fun k h1 h2 => ?_
  simp only [List.getElem_set, List.getElem_map, List.getElem_range]
  by_cases c : j = k
  · rw [if_pos c, if_pos c.symm]
  · rw [if_neg c, if_neg (Ne.symm c)]
theorem rowL_sum {f : Nat → Int} : ∀ {n : Nat}, (∀ v, v < n → (f v).natAbs ≤ 20) → (rowL n f).sum.natAbs ≤ n * 20
  | 0, _ => by simp [rowL]
  | n + 1, h => by
    have a := rowL_sum (n := n) fun v hv => h v (by omega)
    have b := h n (by omega)
    rw [rowL_succ, List.sum_append, Nat.succ_mul]
    simp only [List.sum_cons, List.sum_nil]
    omega
theorem wid_sum {n : Nat} : ∀ {bs : List Blk}, (∀ b ∈ bs, b.1 < n ∧ b.2.1 < 128 ∧ b.2.2 < 1024) → 0 ≤ (bs.map fun b => ((b.2.1 : Nat) : Int)).sum
  | [], _ => by simp
  | b :: bs, h => by
    have := wid_sum fun c hc => h c (.tail _ hc)
    rw [List.map_cons, List.sum_cons]
    omega
def sp__law_base : Spw := fun ws G Q E => ∃ (p : Addr) (n : Nat) (bs : List Blk), ws = [.ref p, .int ((n : Nat) : Int), blksW bs] ∧ (BagAt p G) ∧ (1 ≤ n) ∧ (n ≤ 4) ∧ (BlksOk n bs) ∧ ∀ gf G', (∀ v, v < n → (gf v).natAbs < 1024) → BagUp p G G' → Q (.lst (intsW (rowL n gf))) G'
theorem len__law_base (ws G Q E) (h : sp__law_base ws G Q E) : ws.length = 3 := by obtain ⟨_, _, _, rfl, _⟩ := h; rfl
/-- slots: _law_bag_here 0, _law_many 1, _law_stock 2, _law_way 3, _law_ground 4, _law_room 5, _law_need 6, _law_at 7, _law_place 8, _law_block 9 -/
def t__law_base : TSw := (wSeq (wAsg (wCall sp__law_take (wCons (wVar 0) (wCons (wC (.int 4)) wNil))) (gN 3))
    (wSeq (wAsg (wLcM [8] (iR1 (wCons (wVar 1) wNil)) (gN 8) wYes (wOp wSub (wCall sp__law_take (wCons (wVar 0) (wCons (wC (.int 41)) wNil))) (wC (.int 20)))) (gN 4))
    (wSeq (wIfS (wTest (wOp wGt (wVar 3) (wC (.int 0)))) (wSeq (wAsg (wCB wSum (wCons (wLc [9] (iSeqW (wVar 2)) (gN 9) wYes (wOp wIx (wVar 9) (wC (.int 1)))) wNil)) (gN 5))
    (wSeq (wAsg (wCall sp__law_take (wCons (wVar 0) (wCons (wOp wAdd (wCB (wI2N fun i j => .int (if j < i then j else i)) (wCons (wVar 5) (wCons (wC (.int 300)) wNil))) (wC (.int 1))) wNil))) (gN 6))
    (wSeq (wAsg (wCall sp__law_take (wCons (wVar 0) (wCons (wVar 1) wNil))) (gN 7))
    (wAsg (wOp wSub (wOp wSub (wOp wIx (wVar 4) (wVar 7)) (wCB wSum (wCons (wVar 4) wNil))) (wVar 6)) (gIx (wVar 4) (wVar 7)))))) wNext)
    (wRet (wVar 4)))))
theorem rd__law_base (ws : List W) (G : Gp) (Q : QW) (E) (h : sp__law_base ws G Q E) : t__law_base { nx := fun _ G' => Q .non G', rt := Cl Q } (startW ["_law_bag_here", "_law_many", "_law_stock", "_law_way", "_law_ground", "_law_room", "_law_need", "_law_at", "_law_place", "_law_block"] ws) G := by
  obtain ⟨p, n, bs, rfl, bag, n1, n4, hb, q⟩ := h
  show t__law_base _ [some (.ref p), some (.int ((n : Nat) : Int)), some (blksW bs), none, none, none, none, none, none, none] G
  unfold t__law_base
  walk_at "w"
  have big : 1000 < sizeLine := by decide
  refine take_up bag (by decide) fun way G1 hw u1 => ?_
  walk_at "w"
  refine ⟨by omega, by omega, by omega, ?_⟩
  rw [show ((n : Nat) : Int).toNat = n by omega]
  refine lcW_step (fun k acc H => ∃ f : Nat → Int, acc = intsW (rowL k f) ∧ (∀ v, v < k → (f v).natAbs ≤ 20) ∧ BagUp p G H) _ 0 _ _ _ ⟨fun _ => 0, rfl, fun v hv => by omega, u1⟩ ?_ ?_
  · rintro w hw k acc H P ⟨f, rfl, hf, u⟩ hP
    walk_at "w"
    refine take_up u.at (by decide) fun d H2 hd u2 => ?_
    walk_at "w"
    refine hP _ _ ⟨fun v => if v = k then ((d : Nat) : Int) - 20 else f v, ?_, fun v hv => ?_, u.trans u2⟩
    · rw [rowL_succ]
      unfold intsW
      rw [List.map_append]
      congr 1
      · refine congrArg (List.map W.int) ?_
        unfold rowL
        exact List.map_congr_left fun v hv => by rw [if_neg (by have := List.mem_range.mp hv; omega)]
      · rw [if_pos rfl]; rfl
    · by_cases c : v = k
      · show (if v = k then _ else _ : Int).natAbs ≤ 20
        rw [if_pos c]; omega
      · show (if v = k then _ else _ : Int).natAbs ≤ 20
        rw [if_neg c]; exact hf v (by omega)
  rintro acc H ⟨f, rfl, hf, u⟩ t ht
  rw [Nat.zero_add, rangeW_length] at hf ⊢
  have pt : p ≠ t := u.at.ne ht
  have gt : G t = none := by rw [← u.ne (Ne.symm pt)]; exact ht
  have fin : ∀ gf K, (∀ v, v < n → (gf v).natAbs < 1024) → BagUp p G K → Cl Q (.ref t) (gup K t (.lst (intsW (rowL n gf)))) := fun gf K hg uK => TL.cl (by rw [uK.ne (Ne.symm pt)]; exact gt) (q gf K hg uK)
  walk_at "w"
  by_cases c : way = 0
  · rw [decide_eq_false (by omega), if_neg (by decide)]
    exact fin f H (fun v hv => by have := hf v hv; omega) u
  · rw [decide_eq_true (by omega), if_pos rfl]
    refine ⟨by have := hb.len; omega, ?_⟩
    refine lcW_m (fun b : Blk => blkW b) (fun b => .int ((b.2.1 : Nat) : Int)) _ _ ?_ ?_
    · intro b hb P hP
      walk_at "w"
      exact hP
    have w0 := wid_sum hb.ok
    refine ⟨bs.map fun b => ((b.2.1 : Nat) : Int), by rw [List.map_map]; rfl, ?_⟩
    generalize (bs.map fun b => ((b.2.1 : Nat) : Int)).sum = room at w0 ⊢
    walk_at "w"
    refine take_up (u.at.up pt) (by split <;> omega) fun need H2 hn u2 => ?_
    obtain ⟨K2, v2, rfl⟩ := bag_over pt u2
    walk_at "w"
    refine take_up (v2.at.up pt) (by omega) fun a H3 ha u3 => ?_
    obtain ⟨K3, v3, rfl⟩ := bag_over pt u3
    walk_at "w"
    have hn' : a < n := by omega
    rw [atI_row hn']
    walk_at "w"
    rw [wSum_ref, asL_at gup_same]
    refine ⟨rowL n f, rfl, ?_⟩
    have ss := rowL_sum (f := f) (n := n) (fun v hv => hf v (by omega))
    have s80 := Nat.mul_le_mul_right 20 n4
    have fa := hf a (by omega)
    generalize (rowL n f).sum = s at ss ⊢
    walk_at "w"
    have nb : need ≤ 300 := by
      have : (if (300 : Int) < room then (300 : Int) else room) ≤ 300 := by split <;> omega
      omega
    rw [ixN_natW (by simp [rowL]; exact hn')]
    walk_at "w"
    rw [show ∀ z : Int, (intsW (rowL n f)).set a (.int z) = intsW (rowL n fun k => if k = a then z else f k) from fun z => by unfold intsW; rw [← rowL_set1, List.map_set]]
    refine fin _ K3 (fun v hv => ?_) ((u.trans v2).trans v3)
    have := hf v (by omega)
    show (if v = a then _ else _ : Int).natAbs < 1024
    split <;> omega
/-- slots: _law_script 0, _law_k 1, _law_bag_here 2, _law_net_here 3, _law_stock 4, _law_ground 5, _law_weights_here 6, _law_handed 7, _law_due 8, _law_bare 9, _law_turn 10, _law_place 11, _law_width 12, _law_price 13 -/
def t_law_b1 : TSw := (wIfS (wOr (wTest (wOp wNe (wCall sp_shown (wCons (wVar 3) (wCons (wVar 7) (wCons (wVar 4) (wCons (wVar 6) wNil))))) (wVar 8))) (wTest (wOp wNe (wCall sp_shown_at_nought (wCons (wVar 3) (wCons (wVar 7) (wCons (wVar 4) (wCons (wVar 6) wNil))))) (wVar 9)))) (wRet (wC (.bl false))) wNext)
def t_law_r1 : TSw := (wIfS (wTest (wOp wNe (wVar 7) (wVar 5))) (wRet (wC (.bl false))) wNext)
def t_law_b2 : TSw := (wSeq (wAsg (wCall sp__law_bag (wCons (wVar 0) (wCons (wVar 1) wNil))) (gN 2))
    (wSeq (wAsg (wCall sp__law_net (wCons (wVar 2) wNil)) (gN 3))
    (wSeq (wAsg (wCall sp__law_blocks (wCons (wVar 2) (wCons (wOp wIx (wVar 3) (wC (.int 0))) wNil))) (gN 4))
    (wSeq (wAsg (wCall sp__law_base (wCons (wVar 2) (wCons (wOp wIx (wVar 3) (wC (.int 0))) (wCons (wVar 4) wNil)))) (gN 5))
    (wSeq (wAsg (wCall sp__law_weights (wCons (wVar 2) (wCons (wVar 3) wNil))) (gN 6))
    (wSeq (wAsg (wCB wList (wCons (wVar 5) wNil)) (gN 7))
    (wSeq (wAsg (wCall sp__law_shown (wCons (wVar 3) (wCons (wVar 5) (wCons (wVar 4) (wCons (wVar 6) wNil))))) (gN 8))
    (wSeq (wAsg (wCall sp__law_shown (wCons (wVar 3) (wCons (wVar 5) (wCons (wCB wTuple (wCons (wLc [11, 12, 13] (iSeqW (wVar 4)) (gT 3 (gsC (gN 11) (gsC (gN 12) (gsC (gN 13) gsN)))) wYes (wTup (wCons (wVar 11) (wCons (wVar 12) (wCons (wC (.int 0)) wNil))))) wNil)) (wCons (wVar 6) wNil))))) (gN 9))
    (wSeq (wFor [false, true, true, false, false, false, false, false, false, false, true, true, true, true] (iR1 (wCons (wC (.int 2)) wNil)) (gN 10) t_law_b1)
    t_law_r1)))))))))
def t_law : TSw := (wSeq (wFor [false, true, true, true, true, true, true, true, true, true, true, true, true, true] (iR1 (wCons (wCB (wI2N fun i j => .int (if j > i then j else i)) (wCons (wC (.int 1)) (wCons (wCB (wI2N fun i j => .int (if j < i then j else i)) (wCons (wC (.int 3)) (wCons (wCB wLen (wCons (wVar 0) wNil)) wNil))) wNil))) wNil)) (gN 1) t_law_b2)
    (wRet (wC (.bl true))))
theorem rd_law (ws : List W) (G : Gp) (Q : QW) (E) (h : sp_law ws G Q E) : t_law { nx := fun _ G' => Q .non G', rt := Cl Q } (startW ["_law_script", "_law_k", "_law_bag_here", "_law_net_here", "_law_stock", "_law_ground", "_law_weights_here", "_law_handed", "_law_due", "_law_bare", "_law_turn", "_law_place", "_law_width", "_law_price"] ws) G := by
  obtain ⟨ns, rfl, hl, q⟩ := h
  show t_law _ [some (.scr (ns.map W.int)), none, none, none, none, none, none, none, none, none, none, none, none, none] G
  unfold t_law
  walk_at "w"
  have big : 1000 < sizeLine := by decide
  refine ⟨by omega, by split <;> (try split) <;> omega, ?_⟩
  refine forW_inv (fun σ _ => σ = [some (.scr (ns.map W.int)), none, none, none, none, none, none, none, none, none, none, none, none, none]) _ _ _ rfl ?_ ?_
  · rintro w hw σ G1 N rfl hN
    obtain ⟨i, hi, rfl⟩ := rangeW_mem hw
    have hi6 : i < 7 := by
      have := hi
      split at this <;> (try split at this) <;> omega
    unfold t_law_b2
    walk_at "w"
    refine bag_up hl (by omega) (by omega) fun p G2 hp b2 o2 => ?_
    walk_at "w"
    refine net_up b2 fun n ls G3 net u3 => ?_
    have n1 := net.n1
    have n4 := net.n4
    obtain ⟨m, rfl⟩ : ∃ m, n = m + 1 := ⟨n - 1, by omega⟩
    walk_at "w"
    refine ⟨p, m + 1, rfl, u3.at, by omega, fun bs G4 hb u4 => ?_⟩
    walk_at "w"
    refine ⟨p, m + 1, bs, rfl, u4.at, by omega, by omega, hb, fun gf G5 hg u5 => ?_⟩
    walk_at "w"
    refine ⟨p, m + 1, ls, rfl, u5.at, net, fun lev rows G6 ok u6 => ?_⟩
    walk_at "w"
    refine ⟨m, ls, gf, bs, lev, rows, rfl, net, ok, hb, hg, ?_⟩
    walk_at "w"
    have fb := hb.len
    refine ⟨by omega, ?_⟩
    refine lcW_m (fun b : Blk => blkW b) (fun b => blkW (b.1, b.2.1, 0)) _ _ ?_ ?_
    · intro b hb P hP
      walk_at "w"
      exact ⟨by decide, hP⟩
    have en : bs.map (fun b => blkW (b.1, b.2.1, 0)) = (noughtB bs).map fun b => blkW b := by unfold noughtB; rw [List.map_map]; rfl
    rw [en]
    refine ⟨m, ls, gf, noughtB bs, lev, rows, rfl, net, ok, nought_ok hb, hg, ?_⟩
    walk_at "w"
    refine ⟨by decide, by decide, ?_⟩
    refine forW_inv (fun σ _ => σ = [some (.scr (ns.map W.int)), none, none, some (netW (m + 1) ls), some (blksW bs), some (.lst (intsW (rowL (m + 1) gf))), some (wtsW lev rows), some (.lst (intsW (rowL (m + 1) gf))), some (fr (shownR m ls gf bs lev rows)), some (fr (shownR m ls gf (noughtB bs) lev rows)), none, none, none, none]) _ _ _ rfl ?_ ?_
    · rintro w hw σ G7 N2 rfl hN2
      unfold t_law_b1
      walk_at "w"
      refine ⟨m, ls, gf, bs, lev, rows, rfl, net, ok, hb, hg, ?_⟩
      walk_at "w"
      refine ⟨wOk_fr _, wOk_fr _, ?_⟩
      rw [weqb_fr, decide_eq_true rfl]
      walk_at "w"
      refine ⟨m, ls, gf, bs, lev, rows, rfl, net, ok, hb, hg, ?_⟩
      walk_at "w"
      refine ⟨wOk_fr _, wOk_fr _, ?_⟩
      rw [weqb_fr, decide_eq_true rfl]
      walk_at "w"
      exact hN2 _ _ rfl
    · rintro σ G7 rfl
      unfold t_law_r1
      walk_at "w"
      have wg : wD 1 (.lst (intsW (rowL (m + 1) gf))) := wD_lst fun w h => by
        obtain ⟨v, _, rfl⟩ := List.mem_map.mp h
        exact wD_int
      refine ⟨wOk_of wg (by decide), wOk_of wg (by decide), ?_⟩
      rw [weqb_self wg]
      walk_at "w"
      exact hN _ _ rfl
  · rintro σ G1 rfl
    walk_at "w"
    exact .inl (q _)
end WL

namespace WL
open PySem PySem.Spec PyProof.Rows L2
/-! ## the text -/
def topS (i : Nat) : Stmt := PySem.Challenge.pw_mainskeep_k31_what_weights_show.main.body.getD i (.Pass ⟨0, 0, 0, 0⟩)
section
variable {P : Program} {w : World} {K : PySem.W.Frag} {mg : Str → Option Value} {base : Heap}
abbrev sD_common : Stmt := topS 5
theorem sc_common : FnScope ["one", "other"] ["one", "other"] (defScope sD_common) := ⟨rfl, rfl, rfl, by decide +kernel, rfl, by decide +kernel, by decide +kernel⟩
theorem ok_common {f : Addr} {fd : FuncData} (F : Fun K "common" "common" sD_common f fd) (seer : base.NoSeer) (tree : P.given.tree = none) (m_abs : mg "abs" = none) : FnOk P w K mg base CX0 (40 + 1) f fd ["one", "other"] (liftSp K sp_common) := by
  refine okW F sc_common seer tree (by decide) (fun ws G Q E h => ?_) (fun cdv A outer s H E hr hd => ⟨t_common, ?_, rd_common⟩)
  · exact len_common ws G Q E h
  · exact (qs_cons (qwhile (ks := [false, false]) PassesOwn.never (qtne hr (qv 1) qint) (qs_one (qpar (i := 0) (j := 1) rfl sc_common.nd rfl rfl (by decide) rfl rfl (qa_cons (qv 1) (qa_cons (qmod (qv 0) (qv 1)) qa_nil)) (by rfl))))
    (qs_one (qret (qabs rfl m_abs (qa_cons (qv 0) qa_nil)))))
abbrev sD_is_less : Stmt := topS 10
theorem sc_is_less : FnScope ["u", "v"] ["u", "v"] (defScope sD_is_less) := ⟨rfl, rfl, rfl, by decide +kernel, rfl, by decide +kernel, by decide +kernel⟩
theorem ok_is_less {f : Addr} {fd : FuncData} (F : Fun K "is_less" "is_less" sD_is_less f fd) (seer : base.NoSeer) (tree : P.given.tree = none) : FnOk P w K mg base CX0 (40 + 1) f fd ["u", "v"] (liftSp K sp_is_less) := by
  refine okW F sc_is_less seer tree (by decide) (fun ws G Q E h => ?_) (fun cdv A outer s H E hr hd => ⟨t_is_less, ?_, rd_is_less⟩)
  · exact len_is_less ws G Q E h
  · exact (qs_one (qret (qlt (qmul (qix (qv 0) qint) (qix (qv 1) qint)) (qmul (qix (qv 1) qint) (qix (qv 0) qint)))))
abbrev sD_hangs_together : Stmt := topS 12
theorem sc_hangs_together : FnScope ["many", "lines", "met", "left", "place", "one", "other", "stiffness", "most", "there"] ["many", "lines"] (defScope sD_hangs_together) := ⟨rfl, rfl, rfl, by decide +kernel, rfl, by decide +kernel, by decide +kernel⟩
theorem ok_hangs_together {f : Addr} {fd : FuncData} (F : Fun K "hangs_together" "hangs_together" sD_hangs_together f fd) (seer : base.NoSeer) (tree : P.given.tree = none) (m_len : mg "len" = none) : FnOk P w K mg base CX0 (40 + 1) f fd ["many", "lines"] (liftSp K sp_hangs_together) := by
  refine okW F sc_hangs_together seer tree (by decide) (fun ws G Q E h => ?_) (fun cdv A outer s H E hr hd => ⟨t_hangs_together, ?_, rd_hangs_together⟩)
  · exact len_hangs_together ws G Q E h
  · exact (qs_cons (qset (i := 2) sc_hangs_together.nd rfl (he := (qlstM (qa_cons qint qa_nil))))
    (qs_cons (qset (i := 3) sc_hangs_together.nd rfl (he := (qlstM (qa_cons qint qa_nil))))
    (qs_cons (qwhile (ks := [false, false, false, false, true, true, true, true, true, true]) PassesOwn.never (qtne hr (qv 3) (qlst qa_nil)) (qs_cons (qset (i := 4) sc_hangs_together.nd rfl (he := (qm_pop (qv 3))))
    (qs_one (qfor (ks := [false, false, false, false, false, true, true, true, true, true]) PassesOwn.never rfl (qiseq (qv 1)) (qgT rfl (qgs_cons (qgN (i := 5) sc_hangs_together.nd rfl) (qgs_cons (qgN (i := 6) sc_hangs_together.nd rfl) (qgs_cons (qgN (i := 7) sc_hangs_together.nd rfl) (qgs_cons (qgN (i := 8) sc_hangs_together.nd rfl) qgs_nil))))) (qs_one (qif (qtin (qv 4) (qtup (qa_cons (qv 5) (qa_cons (qv 6) qa_nil)))) (qs_cons (qset (i := 9) sc_hangs_together.nd rfl (he := (qsub (qadd (qv 5) (qv 6)) (qv 4))))
    (qs_one (qif (qtnin (qv 9) (qv 2)) (qs_cons (qexpr (qm_append (qv 2) (qa_cons (qv 9) qa_nil)))
    (qs_one (qexpr (qm_append (qv 3) (qa_cons (qv 9) qa_nil))))) qs_nil))) qs_nil))))))
    (qs_one (qret (qeq hr (qlen rfl m_len (qa_cons (qv 2) qa_nil)) (qv 0)))))))
abbrev sD_left_lines : Stmt := topS 13
theorem sc_left_lines : FnScope ["net", "line"] ["net", "line"] (defScope sD_left_lines) := ⟨rfl, rfl, rfl, by decide +kernel, rfl, by decide +kernel, by decide +kernel⟩
theorem ok_left_lines {f : Addr} {fd : FuncData} (F : Fun K "left_lines" "left_lines" sD_left_lines f fd) (seer : base.NoSeer) (tree : P.given.tree = none) : FnOk P w K mg base CX0 (40 + 1) f fd ["net", "line"] (liftSp K sp_left_lines) := by
  refine okW F sc_left_lines seer tree (by decide) (fun ws G Q E h => ?_) (fun cdv A outer s H E hr hd => ⟨t_left_lines, ?_, rd_left_lines⟩)
  · exact len_left_lines ws G Q E h
  · exact (qs_one (qret (qadd (qslice (qix (qv 0) qint) qp_none (qp_some (qv 1))) (qslice (qix (qv 0) qint) (qp_some (qadd (qv 1) qint)) qp_none))))
abbrev sD_Bearing___init__ : Stmt := inClass (topS 17) 0
theorem sc_Bearing___init__ : FnScope ["self", "lost", "line", "most", "scale", "numbers"] ["self", "lost", "line", "most", "scale", "numbers"] (defScope sD_Bearing___init__) := ⟨rfl, rfl, rfl, by decide +kernel, rfl, by decide +kernel, by decide +kernel⟩
theorem ok_Bearing___init__ {f : Addr} {fd : FuncData} (F : Fun K "__init__" "Bearing.__init__" sD_Bearing___init__ f fd) (seer : base.NoSeer) (tree : P.given.tree = none) (f_Bearing_lost : FldOk K "Bearing" "lost") (f_Bearing_line : FldOk K "Bearing" "line") (f_Bearing_most : FldOk K "Bearing" "most") (f_Bearing_scale : FldOk K "Bearing" "scale") (f_Bearing_numbers : FldOk K "Bearing" "numbers") : FnOk P w K mg base CX0 (40 + 1) f fd ["self", "lost", "line", "most", "scale", "numbers"] (liftSp K sp_Bearing___init__) := by
  refine okW F sc_Bearing___init__ seer tree (by decide) (fun ws G Q E h => ?_) (fun cdv A outer s H E hr hd => ⟨t_Bearing___init__, ?_, rd_Bearing___init__⟩)
  · exact len_Bearing___init__ ws G Q E h
  · exact (qs_cons (qsetF f_Bearing_lost (qv 0) (qv 1))
    (qs_cons (qsetF f_Bearing_line (qv 0) (qv 2))
    (qs_cons (qsetF f_Bearing_most (qv 0) (qv 3))
    (qs_cons (qsetF f_Bearing_scale (qv 0) (qv 4))
    (qs_one (qsetF f_Bearing_numbers (qv 0) (qv 5)))))))
abbrev sD_without_place : Stmt := topS 18
theorem sc_without_place : FnScope ["table", "i", "j", "row"] ["table", "i", "j"] (defScope sD_without_place) := ⟨rfl, rfl, rfl, by decide +kernel, rfl, by decide +kernel, by decide +kernel⟩
theorem ok_without_place {f : Addr} {fd : FuncData} (F : Fun K "without_place" "without_place" sD_without_place f fd) (seer : base.NoSeer) (tree : P.given.tree = none) : FnOk P w K mg base CX0 (40 + 1) f fd ["table", "i", "j"] (liftSp K sp_without_place) := by
  refine okW F sc_without_place seer tree (by decide) (fun ws G Q E h => ?_) (fun cdv A outer s H E hr hd => ⟨t_without_place, ?_, rd_without_place⟩)
  · exact len_without_place ws G Q E h
  · exact (qs_one (qret (qlcM (own := [("row", 3)]) rfl sc_without_place.nd (qiseq (qadd (qslice (qv 0) qp_none (qp_some (qv 1))) (qslice (qv 0) (qp_some (qadd (qv 1) qint)) qp_none))) (blkOk_by (N := ["table", "i", "j", "row"]) (sc := defScope sD_without_place) (by decide +kernel)) (gcN (i := 3) sc_without_place.nd rfl) (fun _ _ _ _ _ => qts_nil) (fun _ _ _ _ _ => (qadd (qslice (qv 3) qp_none (qp_some (qv 2))) (qslice (qv 3) (qp_some (qadd (qv 2) qint)) qp_none))))))
abbrev sD_whole : Stmt := topS 26
theorem sc_whole : FnScope ["number"] ["number"] (defScope sD_whole) := ⟨rfl, rfl, rfl, by decide +kernel, rfl, by decide +kernel, by decide +kernel⟩
theorem ok_whole {f : Addr} {fd : FuncData} (F : Fun K "whole" "whole" sD_whole f fd) (seer : base.NoSeer) (tree : P.given.tree = none) : FnOk P w K mg base CX0 (40 + 1) f fd ["number"] (liftSp K sp_whole) := by
  refine okW F sc_whole seer tree (by decide) (fun ws G Q E h => ?_) (fun cdv A outer s H E hr hd => ⟨t_whole, ?_, rd_whole⟩)
  · exact len_whole ws G Q E h
  · exact (qs_one (qret (qtup (qa_cons (qv 0) (qa_cons qint qa_nil)))))
abbrev sD_bearing_of : Stmt := topS 27
theorem sc_bearing_of : FnScope ["found", "lost", "line", "bearing"] ["found", "lost", "line"] (defScope sD_bearing_of) := ⟨rfl, rfl, rfl, by decide +kernel, rfl, by decide +kernel, by decide +kernel⟩
theorem ok_bearing_of {f : Addr} {fd : FuncData} (F : Fun K "bearing_of" "bearing_of" sD_bearing_of f fd) (seer : base.NoSeer) (tree : P.given.tree = none) (f_Bearing_lost : FldOk K "Bearing" "lost") (f_Bearing_line : FldOk K "Bearing" "line") : FnOk P w K mg base CX0 (40 + 1) f fd ["found", "lost", "line"] (liftSp K sp_bearing_of) := by
  refine okW F sc_bearing_of seer tree (by decide) (fun ws G Q E h => ?_) (fun cdv A outer s H E hr hd => ⟨t_bearing_of, ?_, rd_bearing_of⟩)
  · exact len_bearing_of ws G Q E h
  · exact (qs_cons (qfor (ks := [true, false, false, true]) PassesOwn.never rfl (qiseq (qv 0)) (qgN (i := 3) sc_bearing_of.nd rfl) (qs_one (qif (qwt (qand (qteq hr (qfld f_Bearing_lost (qv 3)) (qv 1)) (qand1 (qteq hr (qfld f_Bearing_line (qv 3)) (qv 2))))) (qs_one (qret (qv 3))) qs_nil)))
    (qs_one (qret qnon)))
abbrev sD_at_nought : Stmt := topS 32
theorem sc_at_nought : FnScope ["blocks", "place", "width", "price"] ["blocks"] (defScope sD_at_nought) := ⟨rfl, rfl, rfl, by decide +kernel, rfl, by decide +kernel, by decide +kernel⟩
theorem ok_at_nought {f : Addr} {fd : FuncData} (F : Fun K "at_nought" "at_nought" sD_at_nought f fd) (seer : base.NoSeer) (tree : P.given.tree = none) (m_tuple : mg "tuple" = none) : FnOk P w K mg base CX0 (40 + 1) f fd ["blocks"] (liftSp K sp_at_nought) := by
  refine okW F sc_at_nought seer tree (by decide) (fun ws G Q E h => ?_) (fun cdv A outer s H E hr hd => ⟨t_at_nought, ?_, rd_at_nought⟩)
  · exact len_at_nought ws G Q E h
  · exact (qs_one (qret (qtuple rfl m_tuple (qa_cons (qlc (own := [("place", 1), ("width", 2), ("price", 3)]) rfl sc_at_nought.nd (qiseq (qv 0)) (blkOk_by (N := ["blocks", "place", "width", "price"]) (sc := defScope sD_at_nought) (by decide +kernel)) (gcT rfl (gcs_cons (i := 1) sc_at_nought.nd rfl (gcs_cons (i := 2) sc_at_nought.nd rfl (gcs_cons (i := 3) sc_at_nought.nd rfl gcs_nil)))) (fun _ _ _ _ _ => qts_nil) (fun _ _ _ _ _ => (qtup (qa_cons (qv 1) (qa_cons (qv 2) (qa_cons qint qa_nil)))))) qa_nil))))
abbrev sD__law_bag : Stmt := topS 35
theorem sc__law_bag : FnScope ["_law_script", "_law_at", "_law_cell", "_law_mix", "_law_k"] ["_law_script", "_law_at"] (defScope sD__law_bag) := ⟨rfl, rfl, rfl, by decide +kernel, rfl, by decide +kernel, by decide +kernel⟩
theorem ok__law_bag {f : Addr} {fd : FuncData} (F : Fun K "_law_bag" "_law_bag" sD__law_bag f fd) (seer : base.NoSeer) (tree : P.given.tree = none) (m_len : mg "len" = none) (m_abs : mg "abs" = none) (m_range : mg "range" = none) (m_min : mg "min" = none) : FnOk P w K mg base CX0 (40 + 1) f fd ["_law_script", "_law_at"] (liftSp K sp__law_bag) := by
  refine okW F sc__law_bag seer tree (by decide) (fun ws G Q E h => ?_) (fun cdv A outer s H E hr hd => ⟨t__law_bag, ?_, rd__law_bag⟩)
  · exact len__law_bag ws G Q E h
  · exact (qs_cons (qset (i := 2) sc__law_bag.nd rfl (he := qint))
    (qs_cons (qif (qtlt (qv 1) (qlen rfl m_len (qa_cons (qv 0) qa_nil))) (qs_one (qset (i := 2) sc__law_bag.nd rfl (he := (qabs rfl m_abs (qa_cons (qix (qv 0) (qv 1)) qa_nil))))) qs_nil)
    (qs_cons (qset (i := 3) sc__law_bag.nd rfl (he := (qmod (qpow (qadd (qadd (qmod (qv 2) qint) (qmul qint (qv 1))) qint) qint) qint)))
    (qs_cons (qfor (ks := [false, true, false, false, true]) PassesOwn.never rfl (qrange1 rfl m_range (qa_cons (qmin2 rfl rfl m_min (qa_cons (qlen rfl m_len (qa_cons (qv 0) qa_nil)) (qa_cons qint qa_nil))) qa_nil)) (qgN (i := 4) sc__law_bag.nd rfl) (qs_one (qset (i := 3) sc__law_bag.nd rfl (he := (qmod (qadd (qadd (qmul (qv 3) qint) (qmul (qmod (qix (qv 0) (qv 4)) qint) (qadd (qv 4) qint))) (qv 4)) qint)))))
    (qs_cons (qif (qtlt (qv 2) (qpow qint qint)) (qs_one (qset (i := 2) sc__law_bag.nd rfl (he := qint))) qs_nil)
    (qs_one (qret (qlstM (qa_cons (qv 2) (qa_cons (qv 3) qa_nil))))))))))
abbrev sD__law_take : Stmt := topS 36
theorem sc__law_take : FnScope ["_law_bag_here", "_law_many", "_law_digit"] ["_law_bag_here", "_law_many"] (defScope sD__law_take) := ⟨rfl, rfl, rfl, by decide +kernel, rfl, by decide +kernel, by decide +kernel⟩
theorem ok__law_take {f : Addr} {fd : FuncData} (F : Fun K "_law_take" "_law_take" sD__law_take f fd) (seer : base.NoSeer) (tree : P.given.tree = none) : FnOk P w K mg base CX0 (40 + 1) f fd ["_law_bag_here", "_law_many"] (liftSp K sp__law_take) := by
  refine okW F sc__law_take seer tree (by decide) (fun ws G Q E h => ?_) (fun cdv A outer s H E hr hd => ⟨t__law_take, ?_, rd__law_take⟩)
  · exact len__law_take ws G Q E h
  · exact (qs_cons (qif (qtgt (qix (qv 0) qint) qint) (qs_cons (qset (i := 2) sc__law_take.nd rfl (he := (qmod (qix (qv 0) qint) (qv 1))))
    (qs_cons (qasg (qfdiv ⟨hd.seer, hd.tree, hd.room, hd.frame⟩ (qix (qv 0) qint) (qv 1)) (qgIx (qv 0) qint))
    (qs_one (qret (qv 2))))) qs_nil)
    (qs_cons (qasg (qmod (qadd (qmul (qix (qv 0) qint) qint) qint) qint) (qgIx (qv 0) qint))
    (qs_one (qret (qmod (qmod (qmul (qfdiv ⟨hd.seer, hd.tree, hd.room, hd.frame⟩ (qmod (qpow (qix (qv 0) qint) qint) qint) qint) qint) qint) (qv 1))))))
abbrev sD__law_frac : Stmt := topS 39
theorem sc__law_frac : FnScope ["_law_top", "_law_bottom", "_law_one", "_law_other"] ["_law_top", "_law_bottom"] (defScope sD__law_frac) := ⟨rfl, rfl, rfl, by decide +kernel, rfl, by decide +kernel, by decide +kernel⟩
theorem ok__law_frac {f : Addr} {fd : FuncData} (F : Fun K "_law_frac" "_law_frac" sD__law_frac f fd) (seer : base.NoSeer) (tree : P.given.tree = none) (m_abs : mg "abs" = none) : FnOk P w K mg base CX0 (40 + 1) f fd ["_law_top", "_law_bottom"] (liftSp K sp__law_frac) := by
  refine okW F sc__law_frac seer tree (by decide) (fun ws G Q E h => ?_) (fun cdv A outer s H E hr hd => ⟨t__law_frac, ?_, rd__law_frac⟩)
  · exact len__law_frac ws G Q E h
  · exact (qs_cons (qpar (i := 2) (j := 3) rfl sc__law_frac.nd rfl rfl (by decide) rfl rfl (qa_cons (qabs rfl m_abs (qa_cons (qv 0) qa_nil)) (qa_cons (qabs rfl m_abs (qa_cons (qv 1) qa_nil)) qa_nil)) (by rfl))
    (qs_cons (qwhile (ks := [false, false, false, false]) PassesOwn.never (qtne hr (qv 3) qint) (qs_one (qpar (i := 2) (j := 3) rfl sc__law_frac.nd rfl rfl (by decide) rfl rfl (qa_cons (qv 3) (qa_cons (qmod (qv 2) (qv 3)) qa_nil)) (by rfl))))
    (qs_cons (qif (qtlt (qv 1) qint) (qs_one (qset (i := 2) sc__law_frac.nd rfl (he := (qneg (qv 2))))) qs_nil)
    (qs_one (qret (qtup (qa_cons (qfdiv ⟨hd.seer, hd.tree, hd.room, hd.frame⟩ (qv 0) (qv 2)) (qa_cons (qfdiv ⟨hd.seer, hd.tree, hd.room, hd.frame⟩ (qv 1) (qv 2)) qa_nil))))))))
abbrev sD__law_losable : Stmt := topS 46
theorem sc__law_losable : FnScope ["_law_net_here", "_law_found", "_law_lost", "_law_met", "_law_turn", "_law_k", "_law_line_here"] ["_law_net_here"] (defScope sD__law_losable) := ⟨rfl, rfl, rfl, by decide +kernel, rfl, by decide +kernel, by decide +kernel⟩
theorem ok__law_losable {f : Addr} {fd : FuncData} (F : Fun K "_law_losable" "_law_losable" sD__law_losable f fd) (seer : base.NoSeer) (tree : P.given.tree = none) (m_range : mg "range" = none) (m_len : mg "len" = none) (m_enumerate : mg "enumerate" = none) : FnOk P w K mg base CX0 (40 + 1) f fd ["_law_net_here"] (liftSp K sp__law_losable) := by
  refine okW F sc__law_losable seer tree (by decide) (fun ws G Q E h => ?_) (fun cdv A outer s H E hr hd => ⟨t__law_losable, ?_, rd__law_losable⟩)
  · exact len__law_losable ws G Q E h
  · exact (qs_cons (qset (i := 1) sc__law_losable.nd rfl (he := (qlstM qa_nil)))
    (qs_cons (qfor (ks := [false, false, true, true, true, true, true]) PassesOwn.never rfl (qrange1 rfl m_range (qa_cons (qlen rfl m_len (qa_cons (qix (qv 0) qint) qa_nil)) qa_nil)) (qgN (i := 2) sc__law_losable.nd rfl) (qs_cons (qset (i := 3) sc__law_losable.nd rfl (he := (qdone qint qbl)))
    (qs_cons (qfor (ks := [false, false, false, false, true, true, true]) PassesOwn.never rfl (qrange1 rfl m_range (qa_cons (qix (qv 0) qint) qa_nil)) (qgN (i := 4) sc__law_losable.nd rfl) (qs_one (qfor (ks := [false, false, false, false, true, true, true]) PassesOwn.never rfl (qienumG rfl m_enumerate (qa_cons (qix (qv 0) qint) qa_nil)) (qgT rfl (qgs_cons (qgN (i := 5) sc__law_losable.nd rfl) (qgs_cons (qgN (i := 6) sc__law_losable.nd rfl) qgs_nil))) (qs_one (qif (qwt (qand (qtne hr (qv 5) (qv 2)) (qand1 (qwt (qor (qtdin hr (qix (qv 6) qint) (qv 3)) (qor1 (qtdin hr (qix (qv 6) qint) (qv 3)))))))) (qs_cons (qdput hr (qv 3) (qix (qv 6) qint) qbl)
    (qs_one (qdput hr (qv 3) (qix (qv 6) qint) qbl))) qs_nil)))))
    (qs_one (qif (qteq hr (qlenD rfl m_len (qa_cons (qv 3) qa_nil)) (qix (qv 0) qint)) (qs_one (qexpr (qm_append (qv 1) (qa_cons (qv 2) qa_nil)))) qs_nil)))))
    (qs_one (qret (qv 1)))))
abbrev sD_fraction : Stmt := topS 6
theorem sc_fraction : FnScope ["top", "bottom", "part"] ["top", "bottom"] (defScope sD_fraction) := ⟨rfl, rfl, rfl, by decide +kernel, rfl, by decide +kernel, by decide +kernel⟩
theorem ok_fraction {f : Addr} {fd : FuncData} (F : Fun K "fraction" "fraction" sD_fraction f fd) (seer : base.NoSeer) (tree : P.given.tree = none) (c_common : Cal P w K mg base CX0 41 "common" sp_common) : FnOk P w K mg base CX0 (41 + 1) f fd ["top", "bottom"] (liftSp K sp_fraction) := by
  refine okW F sc_fraction seer tree (by decide) (fun ws G Q E h => ?_) (fun cdv A outer s H E hr hd => ⟨t_fraction, ?_, rd_fraction⟩)
  · exact len_fraction ws G Q E h
  · exact (qs_cons (qif (qteq hr (qv 1) qint) (qs_one qnever) qs_nil)
    (qs_cons (qset (i := 2) sc_fraction.nd rfl (he := (qcall c_common (hr.mono (by decide)) rfl (qa_cons (qv 0) (qa_cons (qv 1) qa_nil)))))
    (qs_cons (qif (qtlt (qv 1) qint) (qs_one (qset (i := 2) sc_fraction.nd rfl (he := (qneg (qv 2))))) qs_nil)
    (qs_one (qret (qtup (qa_cons (qfdiv ⟨hd.seer, hd.tree, hd.room, hd.frame⟩ (qv 0) (qv 2)) (qa_cons (qfdiv ⟨hd.seer, hd.tree, hd.room, hd.frame⟩ (qv 1) (qv 2)) qa_nil))))))))
abbrev sD_losable : Stmt := topS 14
theorem sc_losable : FnScope ["net", "k"] ["net"] (defScope sD_losable) := ⟨rfl, rfl, rfl, by decide +kernel, rfl, by decide +kernel, by decide +kernel⟩
theorem ok_losable {f : Addr} {fd : FuncData} (F : Fun K "losable" "losable" sD_losable f fd) (seer : base.NoSeer) (tree : P.given.tree = none) (c_hangs_together : Cal P w K mg base CX0 41 "hangs_together" sp_hangs_together) (c_left_lines : Cal P w K mg base CX0 41 "left_lines" sp_left_lines) (m_range : mg "range" = none) (m_len : mg "len" = none) : FnOk P w K mg base CX0 (41 + 1) f fd ["net"] (liftSp K sp_losable) := by
  refine okW F sc_losable seer tree (by decide) (fun ws G Q E h => ?_) (fun cdv A outer s H E hr hd => ⟨t_losable, ?_, rd_losable⟩)
  · exact len_losable ws G Q E h
  · exact (qs_one (qret (qlcM (own := [("k", 1)]) rfl sc_losable.nd (qrange1 rfl m_range (qa_cons (qlen rfl m_len (qa_cons (qix (qv 0) qint) qa_nil)) qa_nil)) (blkOk_by (N := ["net", "k"]) (sc := defScope sD_losable) (by decide +kernel)) (gcN (i := 1) sc_losable.nd rfl) (fun _ _ _ _ _ => qts_one (qtv (qcall c_hangs_together (hr.mono (by decide)) rfl (qa_cons (qix (qv 0) qint) (qa_cons (qcall c_left_lines (hr.mono (by decide)) rfl (qa_cons (qv 0) (qa_cons (qv 1) qa_nil))) qa_nil))))) (fun _ _ _ _ _ => (qv 1)))))
abbrev sD_stiff_table : Stmt := topS 20
theorem sc_stiff_table : FnScope ["many", "lines", "table", "one", "other", "stiffness", "i", "j"] ["many", "lines"] (defScope sD_stiff_table) := ⟨rfl, rfl, rfl, by decide +kernel, rfl, by decide +kernel, by decide +kernel⟩
theorem ok_stiff_table {f : Addr} {fd : FuncData} (F : Fun K "stiff_table" "stiff_table" sD_stiff_table f fd) (seer : base.NoSeer) (tree : P.given.tree = none) (c_without_place : Cal P w K mg base CX0 41 "without_place" sp_without_place) (m_range : mg "range" = none) : FnOk P w K mg base CX0 (41 + 1) f fd ["many", "lines"] (liftSp K sp_stiff_table) := by
  refine okW F sc_stiff_table seer tree (by decide) (fun ws G Q E h => ?_) (fun cdv A outer s H E hr hd => ⟨t_stiff_table, ?_, rd_stiff_table⟩)
  · exact len_stiff_table ws G Q E h
  · exact (qs_cons (qsetLc (j := 2) (own := [("i", 6)]) rfl sc_stiff_table.nd rfl rfl (sw_true rfl rfl rfl (by decide +kernel)) (qrange1 rfl m_range (qa_cons (qv 0) qa_nil)) (blkOk_by (N := ["many", "lines", "table", "one", "other", "stiffness", "i", "j"]) (sc := defScope sD_stiff_table) (by decide +kernel)) (gcN (i := 6) sc_stiff_table.nd rfl) (fun _ _ _ _ _ => qts_nil) (fun _ _ _ _ _ => (qlcM (own := [("j", 7)]) rfl sc_stiff_table.nd (qrange1 rfl m_range (qa_cons (qv 0) qa_nil)) (by exact blkOk_nest (N := ["many", "lines", "table", "one", "other", "stiffness", "i", "j"]) (by decide +kernel)) (gcN (i := 7) sc_stiff_table.nd rfl) (fun _ _ _ _ _ => qts_nil) (fun _ _ _ _ _ => qint))))
    (qs_cons (qfor (ks := [true, true, false, true, true, true, true, true]) PassesOwn.never rfl (qiseq (qv 1)) (qgT rfl (qgs_cons (qgN (i := 3) sc_stiff_table.nd rfl) (qgs_cons (qgN (i := 4) sc_stiff_table.nd rfl) (qgs_cons (qgN (i := 5) sc_stiff_table.nd rfl) qgs_nil)))) (qs_cons (qaugAIx (qix (qv 2) (qv 3)) (qv 3) (qv 5))
    (qs_cons (qaugAIx (qix (qv 2) (qv 4)) (qv 4) (qv 5))
    (qs_cons (qaugSIx (qix (qv 2) (qv 3)) (qv 4) (qv 5))
    (qs_one (qaugSIx (qix (qv 2) (qv 4)) (qv 3) (qv 5)))))))
    (qs_one (qfzN 2 (qret (qcall c_without_place (hr.mono (by decide)) rfl (qa_cons (qv 2) (qa_cons qint (qa_cons qint qa_nil)))))))))
abbrev sD__law_line : Stmt := topS 37
theorem sc__law_line : FnScope ["_law_bag_here", "_law_one", "_law_other", "_law_way", "_law_most", "_law_ends"] ["_law_bag_here", "_law_one", "_law_other"] (defScope sD__law_line) := ⟨rfl, rfl, rfl, by decide +kernel, rfl, by decide +kernel, by decide +kernel⟩
theorem ok__law_line {f : Addr} {fd : FuncData} (F : Fun K "_law_line" "_law_line" sD__law_line f fd) (seer : base.NoSeer) (tree : P.given.tree = none) (c__law_take : Cal P w K mg base CX0 41 "_law_take" sp__law_take) (m_int : mg "int" = none) : FnOk P w K mg base CX0 (41 + 1) f fd ["_law_bag_here", "_law_one", "_law_other"] (liftSp K sp__law_line) := by
  refine okW F sc__law_line seer tree (by decide) (fun ws G Q E h => ?_) (fun cdv A outer s H E hr hd => ⟨t__law_line, ?_, rd__law_line⟩)
  · exact len__law_line ws G Q E h
  · exact (qs_cons (qset (i := 3) sc__law_line.nd rfl (he := (qcall c__law_take (hr.mono (by decide)) rfl (qa_cons (qv 0) (qa_cons qint qa_nil)))))
    (qs_cons (qset (i := 4) sc__law_line.nd rfl (he := (qadd (qcall c__law_take (hr.mono (by decide)) rfl (qa_cons (qv 0) (qa_cons (qix (qlst (qa_cons qint (qa_cons qint (qa_cons qint (qa_cons qint qa_nil))))) (qv 3)) qa_nil))) (qmul qint (qint1 rfl m_int (qa_cons (qeq hr (qv 3) qint) qa_nil))))))
    (qs_cons (qset (i := 5) sc__law_line.nd rfl (he := (qix (qlst (qa_cons (qtup (qa_cons (qv 1) (qa_cons (qv 2) qa_nil))) (qa_cons (qtup (qa_cons (qv 2) (qa_cons (qv 1) qa_nil))) qa_nil))) (qcall c__law_take (hr.mono (by decide)) rfl (qa_cons (qv 0) (qa_cons qint qa_nil))))))
    (qs_one (qret (qadd (qv 5) (qtup (qa_cons (qadd qint (qcall c__law_take (hr.mono (by decide)) rfl (qa_cons (qv 0) (qa_cons qint qa_nil)))) (qa_cons (qv 4) qa_nil)))))))))
abbrev sD__law_plus : Stmt := topS 40
theorem sc__law_plus : FnScope ["_law_u", "_law_v"] ["_law_u", "_law_v"] (defScope sD__law_plus) := ⟨rfl, rfl, rfl, by decide +kernel, rfl, by decide +kernel, by decide +kernel⟩
theorem ok__law_plus {f : Addr} {fd : FuncData} (F : Fun K "_law_plus" "_law_plus" sD__law_plus f fd) (seer : base.NoSeer) (tree : P.given.tree = none) (c__law_frac : Cal P w K mg base CX0 41 "_law_frac" sp__law_frac) : FnOk P w K mg base CX0 (41 + 1) f fd ["_law_u", "_law_v"] (liftSp K sp__law_plus) := by
  refine okW F sc__law_plus seer tree (by decide) (fun ws G Q E h => ?_) (fun cdv A outer s H E hr hd => ⟨t__law_plus, ?_, rd__law_plus⟩)
  · exact len__law_plus ws G Q E h
  · exact (qs_one (qret (qcall c__law_frac (hr.mono (by decide)) rfl (qa_cons (qadd (qmul (qix (qv 0) qint) (qix (qv 1) qint)) (qmul (qix (qv 1) qint) (qix (qv 0) qint))) (qa_cons (qmul (qix (qv 0) qint) (qix (qv 1) qint)) qa_nil)))))
abbrev sD__law_times : Stmt := topS 41
theorem sc__law_times : FnScope ["_law_u", "_law_v"] ["_law_u", "_law_v"] (defScope sD__law_times) := ⟨rfl, rfl, rfl, by decide +kernel, rfl, by decide +kernel, by decide +kernel⟩
theorem ok__law_times {f : Addr} {fd : FuncData} (F : Fun K "_law_times" "_law_times" sD__law_times f fd) (seer : base.NoSeer) (tree : P.given.tree = none) (c__law_frac : Cal P w K mg base CX0 41 "_law_frac" sp__law_frac) : FnOk P w K mg base CX0 (41 + 1) f fd ["_law_u", "_law_v"] (liftSp K sp__law_times) := by
  refine okW F sc__law_times seer tree (by decide) (fun ws G Q E h => ?_) (fun cdv A outer s H E hr hd => ⟨t__law_times, ?_, rd__law_times⟩)
  · exact len__law_times ws G Q E h
  · exact (qs_one (qret (qcall c__law_frac (hr.mono (by decide)) rfl (qa_cons (qmul (qix (qv 0) qint) (qix (qv 1) qint)) (qa_cons (qmul (qix (qv 0) qint) (qix (qv 1) qint)) qa_nil)))))
abbrev sD__law_limits : Stmt := topS 50
theorem sc__law_limits : FnScope ["_law_net_here", "_law_found", "_law_lost", "_law_line_here"] ["_law_net_here"] (defScope sD__law_limits) := ⟨rfl, rfl, rfl, by decide +kernel, rfl, by decide +kernel, by decide +kernel⟩
theorem ok__law_limits {f : Addr} {fd : FuncData} (F : Fun K "_law_limits" "_law_limits" sD__law_limits f fd) (seer : base.NoSeer) (tree : P.given.tree = none) (c__law_losable : Cal P w K mg base CX0 41 "_law_losable" sp__law_losable) (m_range : mg "range" = none) (m_len : mg "len" = none) : FnOk P w K mg base CX0 (41 + 1) f fd ["_law_net_here"] (liftSp K sp__law_limits) := by
  refine okW F sc__law_limits seer tree (by decide) (fun ws G Q E h => ?_) (fun cdv A outer s H E hr hd => ⟨t__law_limits, ?_, rd__law_limits⟩)
  · exact len__law_limits ws G Q E h
  · exact (qs_cons (qset (i := 1) sc__law_limits.nd rfl (he := (qlstM qa_nil)))
    (qs_cons (qfor (ks := [false, false, true, true]) PassesOwn.never rfl (qiseq (qadd (qlst (qa_cons (qneg qint) qa_nil)) (qcall c__law_losable (hr.mono (by decide)) rfl (qa_cons (qv 0) qa_nil)))) (qgN (i := 2) sc__law_limits.nd rfl) (qs_one (qfor (ks := [false, false, false, true]) PassesOwn.never rfl (qrange1 rfl m_range (qa_cons (qlen rfl m_len (qa_cons (qix (qv 0) qint) qa_nil)) qa_nil)) (qgN (i := 3) sc__law_limits.nd rfl) (qs_one (qif (qtne hr (qv 3) (qv 2)) (qs_one (qexpr (qm_extend (qv 1) (qa_cons (qlst (qa_cons (qtup (qa_cons (qv 2) (qa_cons (qv 3) (qa_cons (qneg qint) qa_nil)))) (qa_cons (qtup (qa_cons (qv 2) (qa_cons (qv 3) (qa_cons qint qa_nil)))) qa_nil))) qa_nil)))) qs_nil)))))
    (qs_one (qret (qv 1)))))
abbrev sD__law_blocks : Stmt := topS 52
theorem sc__law_blocks : FnScope ["_law_bag_here", "_law_many", "_law_found", "_law_k", "_law_way", "_law_width", "_law_price"] ["_law_bag_here", "_law_many"] (defScope sD__law_blocks) := ⟨rfl, rfl, rfl, by decide +kernel, rfl, by decide +kernel, by decide +kernel⟩
theorem ok__law_blocks {f : Addr} {fd : FuncData} (F : Fun K "_law_blocks" "_law_blocks" sD__law_blocks f fd) (seer : base.NoSeer) (tree : P.given.tree = none) (c__law_take : Cal P w K mg base CX0 41 "_law_take" sp__law_take) (m_range : mg "range" = none) (m_tuple : mg "tuple" = none) : FnOk P w K mg base CX0 (41 + 1) f fd ["_law_bag_here", "_law_many"] (liftSp K sp__law_blocks) := by
  refine okW F sc__law_blocks seer tree (by decide) (fun ws G Q E h => ?_) (fun cdv A outer s H E hr hd => ⟨t__law_blocks, ?_, rd__law_blocks⟩)
  · exact len__law_blocks ws G Q E h
  · exact (qs_cons (qset (i := 2) sc__law_blocks.nd rfl (he := (qlstM qa_nil)))
    (qs_cons (qfor (ks := [false, false, false, true, true, true, true]) PassesOwn.never rfl (qrange1 rfl m_range (qa_cons (qcall c__law_take (hr.mono (by decide)) rfl (qa_cons (qv 0) (qa_cons qint qa_nil))) qa_nil)) (qgN (i := 3) sc__law_blocks.nd rfl) (qs_cons (qset (i := 4) sc__law_blocks.nd rfl (he := (qcall c__law_take (hr.mono (by decide)) rfl (qa_cons (qv 0) (qa_cons qint qa_nil)))))
    (qs_cons (qset (i := 5) sc__law_blocks.nd rfl (he := (qcall c__law_take (hr.mono (by decide)) rfl (qa_cons (qv 0) (qa_cons (qix (qlst (qa_cons qint (qa_cons qint (qa_cons qint (qa_cons qint qa_nil))))) (qv 4)) qa_nil)))))
    (qs_cons (qset (i := 6) sc__law_blocks.nd rfl (he := (qcall c__law_take (hr.mono (by decide)) rfl (qa_cons (qv 0) (qa_cons (qix (qlst (qa_cons qint (qa_cons qint (qa_cons qint (qa_cons qint qa_nil))))) (qcall c__law_take (hr.mono (by decide)) rfl (qa_cons (qv 0) (qa_cons qint qa_nil)))) qa_nil)))))
    (qs_one (qexpr (qm_append (qv 2) (qa_cons (qtup (qa_cons (qcall c__law_take (hr.mono (by decide)) rfl (qa_cons (qv 0) (qa_cons (qv 1) qa_nil))) (qa_cons (qv 5) (qa_cons (qv 6) qa_nil)))) qa_nil))))))))
    (qs_one (qret (qtuple rfl m_tuple (qa_cons (qv 2) qa_nil))))))
abbrev sD__law_base : Stmt := topS 53
theorem sc__law_base : FnScope ["_law_bag_here", "_law_many", "_law_stock", "_law_way", "_law_ground", "_law_room", "_law_need", "_law_at", "_law_place", "_law_block"] ["_law_bag_here", "_law_many", "_law_stock"] (defScope sD__law_base) := ⟨rfl, rfl, rfl, by decide +kernel, rfl, by decide +kernel, by decide +kernel⟩
theorem ok__law_base {f : Addr} {fd : FuncData} (F : Fun K "_law_base" "_law_base" sD__law_base f fd) (seer : base.NoSeer) (tree : P.given.tree = none) (c__law_take : Cal P w K mg base CX0 41 "_law_take" sp__law_take) (m_range : mg "range" = none) (m_sum : mg "sum" = none) (m_min : mg "min" = none) : FnOk P w K mg base CX0 (41 + 1) f fd ["_law_bag_here", "_law_many", "_law_stock"] (liftSp K sp__law_base) := by
  refine okW F sc__law_base seer tree (by decide) (fun ws G Q E h => ?_) (fun cdv A outer s H E hr hd => ⟨t__law_base, ?_, rd__law_base⟩)
  · exact len__law_base ws G Q E h
  · exact (qs_cons (qset (i := 3) sc__law_base.nd rfl (he := (qcall c__law_take (hr.mono (by decide)) rfl (qa_cons (qv 0) (qa_cons qint qa_nil)))))
    (qs_cons (qsetLcM (j := 4) (own := [("_law_place", 8)]) rfl sc__law_base.nd rfl rfl (sw_true rfl rfl rfl (by decide +kernel)) (qrange1 rfl m_range (qa_cons (qv 1) qa_nil)) (blkOk_by (N := ["_law_bag_here", "_law_many", "_law_stock", "_law_way", "_law_ground", "_law_room", "_law_need", "_law_at", "_law_place", "_law_block"]) (sc := defScope sD__law_base) (by decide +kernel)) (gcN (i := 8) sc__law_base.nd rfl) (fun _ _ _ _ _ => qts_nil) (fun _ _ _ _ _ => (qsub (qcall c__law_take (hr.mono (by decide)) rfl (qa_cons (qv 0) (qa_cons qint qa_nil))) qint)))
    (qs_cons (qif (qtgt (qv 3) qint) (qs_cons (qset (i := 5) sc__law_base.nd rfl (he := (qsum rfl rfl m_sum (qa_cons (qlc (own := [("_law_block", 9)]) rfl sc__law_base.nd (qiseq (qv 2)) (blkOk_by (N := ["_law_bag_here", "_law_many", "_law_stock", "_law_way", "_law_ground", "_law_room", "_law_need", "_law_at", "_law_place", "_law_block"]) (sc := defScope sD__law_base) (by decide +kernel)) (gcN (i := 9) sc__law_base.nd rfl) (fun _ _ _ _ _ => qts_nil) (fun _ _ _ _ _ => (qix (qv 9) qint))) qa_nil))))
    (qs_cons (qset (i := 6) sc__law_base.nd rfl (he := (qcall c__law_take (hr.mono (by decide)) rfl (qa_cons (qv 0) (qa_cons (qadd (qmin2 rfl rfl m_min (qa_cons (qv 5) (qa_cons qint qa_nil))) qint) qa_nil)))))
    (qs_cons (qset (i := 7) sc__law_base.nd rfl (he := (qcall c__law_take (hr.mono (by decide)) rfl (qa_cons (qv 0) (qa_cons (qv 1) qa_nil)))))
    (qs_one (qasg (qsub (qsub (qix (qv 4) (qv 7)) (qsum rfl rfl m_sum (qa_cons (qv 4) qa_nil))) (qv 6)) (qgIx (qv 4) (qv 7))))))) qs_nil)
    (qs_one (qret (qv 4))))))
abbrev sD_plus : Stmt := topS 7
theorem sc_plus : FnScope ["u", "v"] ["u", "v"] (defScope sD_plus) := ⟨rfl, rfl, rfl, by decide +kernel, rfl, by decide +kernel, by decide +kernel⟩
theorem ok_plus {f : Addr} {fd : FuncData} (F : Fun K "plus" "plus" sD_plus f fd) (seer : base.NoSeer) (tree : P.given.tree = none) (c_fraction : Cal P w K mg base CX0 42 "fraction" sp_fraction) : FnOk P w K mg base CX0 (42 + 1) f fd ["u", "v"] (liftSp K sp_plus) := by
  refine okW F sc_plus seer tree (by decide) (fun ws G Q E h => ?_) (fun cdv A outer s H E hr hd => ⟨t_plus, ?_, rd_plus⟩)
  · exact len_plus ws G Q E h
  · exact (qs_one (qret (qcall c_fraction (hr.mono (by decide)) rfl (qa_cons (qadd (qmul (qix (qv 0) qint) (qix (qv 1) qint)) (qmul (qix (qv 1) qint) (qix (qv 0) qint))) (qa_cons (qmul (qix (qv 0) qint) (qix (qv 1) qint)) qa_nil)))))
abbrev sD_minus : Stmt := topS 8
theorem sc_minus : FnScope ["u", "v"] ["u", "v"] (defScope sD_minus) := ⟨rfl, rfl, rfl, by decide +kernel, rfl, by decide +kernel, by decide +kernel⟩
theorem ok_minus {f : Addr} {fd : FuncData} (F : Fun K "minus" "minus" sD_minus f fd) (seer : base.NoSeer) (tree : P.given.tree = none) (c_fraction : Cal P w K mg base CX0 42 "fraction" sp_fraction) : FnOk P w K mg base CX0 (42 + 1) f fd ["u", "v"] (liftSp K sp_minus) := by
  refine okW F sc_minus seer tree (by decide) (fun ws G Q E h => ?_) (fun cdv A outer s H E hr hd => ⟨t_minus, ?_, rd_minus⟩)
  · exact len_minus ws G Q E h
  · exact (qs_one (qret (qcall c_fraction (hr.mono (by decide)) rfl (qa_cons (qsub (qmul (qix (qv 0) qint) (qix (qv 1) qint)) (qmul (qix (qv 1) qint) (qix (qv 0) qint))) (qa_cons (qmul (qix (qv 0) qint) (qix (qv 1) qint)) qa_nil)))))
abbrev sD_times : Stmt := topS 9
theorem sc_times : FnScope ["u", "v"] ["u", "v"] (defScope sD_times) := ⟨rfl, rfl, rfl, by decide +kernel, rfl, by decide +kernel, by decide +kernel⟩
theorem ok_times {f : Addr} {fd : FuncData} (F : Fun K "times" "times" sD_times f fd) (seer : base.NoSeer) (tree : P.given.tree = none) (c_fraction : Cal P w K mg base CX0 42 "fraction" sp_fraction) : FnOk P w K mg base CX0 (42 + 1) f fd ["u", "v"] (liftSp K sp_times) := by
  refine okW F sc_times seer tree (by decide) (fun ws G Q E h => ?_) (fun cdv A outer s H E hr hd => ⟨t_times, ?_, rd_times⟩)
  · exact len_times ws G Q E h
  · exact (qs_one (qret (qcall c_fraction (hr.mono (by decide)) rfl (qa_cons (qmul (qix (qv 0) qint) (qix (qv 1) qint)) (qa_cons (qmul (qix (qv 0) qint) (qix (qv 1) qint)) qa_nil)))))
abbrev sD__law_net : Stmt := topS 38
theorem sc__law_net : FnScope ["_law_bag_here", "_law_many", "_law_more", "_law_lines", "_law_place", "_law_at", "_law_k", "_law_one"] ["_law_bag_here"] (defScope sD__law_net) := ⟨rfl, rfl, rfl, by decide +kernel, rfl, by decide +kernel, by decide +kernel⟩
theorem ok__law_net {f : Addr} {fd : FuncData} (F : Fun K "_law_net" "_law_net" sD__law_net f fd) (seer : base.NoSeer) (tree : P.given.tree = none) (c__law_take : Cal P w K mg base CX0 41 "_law_take" sp__law_take) (c__law_line : Cal P w K mg base CX0 42 "_law_line" sp__law_line) (m_range : mg "range" = none) (m_len : mg "len" = none) (m_tuple : mg "tuple" = none) : FnOk P w K mg base CX0 (42 + 1) f fd ["_law_bag_here"] (liftSp K sp__law_net) := by
  refine okW F sc__law_net seer tree (by decide) (fun ws G Q E h => ?_) (fun cdv A outer s H E hr hd => ⟨t__law_net, ?_, rd__law_net⟩)
  · exact len__law_net ws G Q E h
  · exact (qs_cons (qset (i := 1) sc__law_net.nd rfl (he := (qadd qint (qcall c__law_take (hr.mono (by decide)) rfl (qa_cons (qv 0) (qa_cons qint qa_nil))))))
    (qs_cons (qset (i := 2) sc__law_net.nd rfl (he := qint))
    (qs_cons (qif (qtgt (qv 1) qint) (qs_one (qset (i := 2) sc__law_net.nd rfl (he := (qcall c__law_take (hr.mono (by decide)) rfl (qa_cons (qv 0) (qa_cons (qsub qint (qv 1)) qa_nil)))))) qs_nil)
    (qs_cons (qset (i := 3) sc__law_net.nd rfl (he := (qlstM qa_nil)))
    (qs_cons (qfor (ks := [false, false, false, false, true, true, true, true]) PassesOwn.never rfl (qrange2 rfl m_range (qa_cons qint (qa_cons (qv 1) qa_nil))) (qgN (i := 4) sc__law_net.nd rfl) (qs_cons (qset (i := 5) sc__law_net.nd rfl (he := (qcall c__law_take (hr.mono (by decide)) rfl (qa_cons (qv 0) (qa_cons (qadd (qlen rfl m_len (qa_cons (qv 3) qa_nil)) qint) qa_nil)))))
    (qs_one (qexpr (qm_insert (qv 3) (qa_cons (qv 5) (qa_cons (qcall c__law_line (hr.mono (by decide)) rfl (qa_cons (qv 0) (qa_cons (qcall c__law_take (hr.mono (by decide)) rfl (qa_cons (qv 0) (qa_cons (qv 4) qa_nil))) (qa_cons (qv 4) qa_nil)))) qa_nil)))))))
    (qs_cons (qfor (ks := [false, false, true, false, true, true, true, true]) PassesOwn.never rfl (qrange1 rfl m_range (qa_cons (qv 2) qa_nil)) (qgN (i := 6) sc__law_net.nd rfl) (qs_cons (qset (i := 5) sc__law_net.nd rfl (he := (qcall c__law_take (hr.mono (by decide)) rfl (qa_cons (qv 0) (qa_cons (qadd (qlen rfl m_len (qa_cons (qv 3) qa_nil)) qint) qa_nil)))))
    (qs_cons (qset (i := 7) sc__law_net.nd rfl (he := (qcall c__law_take (hr.mono (by decide)) rfl (qa_cons (qv 0) (qa_cons (qv 1) qa_nil)))))
    (qs_one (qexpr (qm_insert (qv 3) (qa_cons (qv 5) (qa_cons (qcall c__law_line (hr.mono (by decide)) rfl (qa_cons (qv 0) (qa_cons (qv 7) (qa_cons (qmod (qadd (qadd (qv 7) qint) (qcall c__law_take (hr.mono (by decide)) rfl (qa_cons (qv 0) (qa_cons (qsub (qv 1) qint) qa_nil)))) (qv 1)) qa_nil)))) qa_nil))))))))
    (qs_one (qret (qtup (qa_cons (qv 1) (qa_cons (qtuple rfl m_tuple (qa_cons (qv 3) qa_nil)) qa_nil)))))))))))
abbrev sD__law_minus : Stmt := topS 42
theorem sc__law_minus : FnScope ["_law_u", "_law_v"] ["_law_u", "_law_v"] (defScope sD__law_minus) := ⟨rfl, rfl, rfl, by decide +kernel, rfl, by decide +kernel, by decide +kernel⟩
theorem ok__law_minus {f : Addr} {fd : FuncData} (F : Fun K "_law_minus" "_law_minus" sD__law_minus f fd) (seer : base.NoSeer) (tree : P.given.tree = none) (c__law_plus : Cal P w K mg base CX0 42 "_law_plus" sp__law_plus) : FnOk P w K mg base CX0 (42 + 1) f fd ["_law_u", "_law_v"] (liftSp K sp__law_minus) := by
  refine okW F sc__law_minus seer tree (by decide) (fun ws G Q E h => ?_) (fun cdv A outer s H E hr hd => ⟨t__law_minus, ?_, rd__law_minus⟩)
  · exact len__law_minus ws G Q E h
  · exact (qs_one (qret (qcall c__law_plus (hr.mono (by decide)) rfl (qa_cons (qv 0) (qa_cons (qtup (qa_cons (qneg (qix (qv 1) qint)) (qa_cons (qix (qv 1) qint) qa_nil))) qa_nil)))))
abbrev sD__law_weights : Stmt := topS 51
theorem sc__law_weights : FnScope ["_law_bag_here", "_law_net_here", "_law_some", "_law_level", "_law_many", "_law_rows", "_law_k", "_law_limit"] ["_law_bag_here", "_law_net_here"] (defScope sD__law_weights) := ⟨rfl, rfl, rfl, by decide +kernel, rfl, by decide +kernel, by decide +kernel⟩
theorem ok__law_weights {f : Addr} {fd : FuncData} (F : Fun K "_law_weights" "_law_weights" sD__law_weights f fd) (seer : base.NoSeer) (tree : P.given.tree = none) (c__law_limits : Cal P w K mg base CX0 42 "_law_limits" sp__law_limits) (c__law_frac : Cal P w K mg base CX0 41 "_law_frac" sp__law_frac) (c__law_take : Cal P w K mg base CX0 41 "_law_take" sp__law_take) (m_range : mg "range" = none) (m_min : mg "min" = none) (m_sum : mg "sum" = none) (m_len : mg "len" = none) (m_tuple : mg "tuple" = none) (m_sorted : mg "sorted" = none) : FnOk P w K mg base CX0 (42 + 1) f fd ["_law_bag_here", "_law_net_here"] (liftSp K sp__law_weights) := by
  refine okW F sc__law_weights seer tree (by decide) (fun ws G Q E h => ?_) (fun cdv A outer s H E hr hd => ⟨t__law_weights, ?_, rd__law_weights⟩)
  · exact len__law_weights ws G Q E h
  · exact (qs_cons (qset (i := 2) sc__law_weights.nd rfl (he := (qcall c__law_limits (hr.mono (by decide)) rfl (qa_cons (qv 1) qa_nil))))
    (qs_cons (qset (i := 3) sc__law_weights.nd rfl (he := (qcall c__law_frac (hr.mono (by decide)) rfl (qa_cons (qsub (qcall c__law_take (hr.mono (by decide)) rfl (qa_cons (qv 0) (qa_cons qint qa_nil))) qint) (qa_cons (qadd qint (qcall c__law_take (hr.mono (by decide)) rfl (qa_cons (qv 0) (qa_cons qint qa_nil)))) qa_nil)))))
    (qs_cons (qset (i := 4) sc__law_weights.nd rfl (he := (qlstM (qa_cons (qcall c__law_take (hr.mono (by decide)) rfl (qa_cons (qv 0) (qa_cons qint qa_nil))) (qa_cons qint qa_nil)))))
    (qs_cons (qif (qteq hr (qcall c__law_take (hr.mono (by decide)) rfl (qa_cons (qv 0) (qa_cons qint qa_nil))) qint) (qs_one (qasg (qcall c__law_take (hr.mono (by decide)) rfl (qa_cons (qv 0) (qa_cons qint qa_nil))) (qgIx (qv 4) qint))) qs_nil)
    (qs_cons (qset (i := 5) sc__law_weights.nd rfl (he := (qlstM qa_nil)))
    (qs_cons (qfor (ks := [false, true, false, false, true, false, true, true]) PassesOwn.never rfl (qrange1 rfl m_range (qa_cons (qmin2 rfl rfl m_min (qa_cons (qsum rfl rfl m_sum (qa_cons (qv 4) qa_nil)) (qa_cons (qlen rfl m_len (qa_cons (qv 2) qa_nil)) qa_nil))) qa_nil)) (qgN (i := 6) sc__law_weights.nd rfl) (qs_cons (qset (i := 7) sc__law_weights.nd rfl (he := (qm_popAt (qv 2) (qa_cons (qcall c__law_take (hr.mono (by decide)) rfl (qa_cons (qv 0) (qa_cons (qlen rfl m_len (qa_cons (qv 2) qa_nil)) qa_nil))) qa_nil))))
    (qs_one (qexpr (qm_append (qv 5) (qa_cons (qadd (qv 7) (qtup (qa_cons (qcall c__law_frac (hr.mono (by decide)) rfl (qa_cons (qadd qint (qcall c__law_take (hr.mono (by decide)) rfl (qa_cons (qv 0) (qa_cons qint qa_nil)))) (qa_cons (qadd qint (qcall c__law_take (hr.mono (by decide)) rfl (qa_cons (qv 0) (qa_cons qint qa_nil)))) qa_nil))) qa_nil))) qa_nil))))))
    (qs_one (qret (qtup (qa_cons (qv 3) (qa_cons (qtuple rfl m_tuple (qa_cons (qsorted hr rfl m_sorted (qa_cons (qv 5) qa_nil)) qa_nil)) qa_nil)))))))))))
abbrev sD_prices_by : Stmt := topS 28
theorem sc_prices_by : FnScope ["found", "many", "weights", "level", "rows", "at_places", "lost", "line", "side", "weight", "bearing", "place", "share"] ["found", "many", "weights"] (defScope sD_prices_by) := ⟨rfl, rfl, rfl, by decide +kernel, rfl, by decide +kernel, by decide +kernel⟩
theorem ok_prices_by {f : Addr} {fd : FuncData} (F : Fun K "prices_by" "prices_by" sD_prices_by f fd) (seer : base.NoSeer) (tree : P.given.tree = none) (c_bearing_of : Cal P w K mg base CX0 41 "bearing_of" sp_bearing_of) (c_fraction : Cal P w K mg base CX0 42 "fraction" sp_fraction) (c_minus : Cal P w K mg base CX0 43 "minus" sp_minus) (c_times : Cal P w K mg base CX0 43 "times" sp_times) (f_Bearing_numbers : FldOk K "Bearing" "numbers") (f_Bearing_scale : FldOk K "Bearing" "scale") (m_range : mg "range" = none) : FnOk P w K mg base CX0 (43 + 1) f fd ["found", "many", "weights"] (liftSp K sp_prices_by) := by
  refine okW F sc_prices_by seer tree (by decide) (fun ws G Q E h => ?_) (fun cdv A outer s H E hr hd => ⟨t_prices_by, ?_, rd_prices_by⟩)
  · exact len_prices_by ws G Q E h
  · exact (qs_cons (qasg (qv 2) (qgT rfl (qgs_cons (qgN (i := 3) sc_prices_by.nd rfl) (qgs_cons (qgN (i := 4) sc_prices_by.nd rfl) qgs_nil))))
    (qs_cons (qsetLcM (j := 5) (own := [("place", 11)]) rfl sc_prices_by.nd rfl rfl (sw_true rfl rfl rfl (by decide +kernel)) (qrange1 rfl m_range (qa_cons (qv 1) qa_nil)) (blkOk_by (N := ["found", "many", "weights", "level", "rows", "at_places", "lost", "line", "side", "weight", "bearing", "place", "share"]) (sc := defScope sD_prices_by) (by decide +kernel)) (gcN (i := 11) sc_prices_by.nd rfl) (fun _ _ _ _ _ => qts_nil) (fun _ _ _ _ _ => (qv 3)))
    (qs_cons (qfor (ks := [false, false, true, true, true, false, true, true, true, true, true, true, true]) PassesOwn.never rfl (qiseq (qv 4)) (qgT rfl (qgs_cons (qgN (i := 6) sc_prices_by.nd rfl) (qgs_cons (qgN (i := 7) sc_prices_by.nd rfl) (qgs_cons (qgN (i := 8) sc_prices_by.nd rfl) (qgs_cons (qgN (i := 9) sc_prices_by.nd rfl) qgs_nil))))) (qs_cons (qset (i := 10) sc_prices_by.nd rfl (he := (qcall c_bearing_of (hr.mono (by decide)) rfl (qa_cons (qv 0) (qa_cons (qv 6) (qa_cons (qv 7) qa_nil))))))
    (qs_one (qfor (ks := [false, false, true, true, true, false, true, true, false, false, false, true, true]) PassesOwn.never rfl (qrange1 rfl m_range (qa_cons (qv 1) qa_nil)) (qgN (i := 11) sc_prices_by.nd rfl) (qs_cons (qset (i := 12) sc_prices_by.nd rfl (he := (qcall c_fraction (hr.mono (by decide)) rfl (qa_cons (qmul (qv 8) (qix (qfld f_Bearing_numbers (qv 10)) (qv 11))) (qa_cons (qfld f_Bearing_scale (qv 10)) qa_nil)))))
    (qs_one (qasg (qcall c_minus (hr.mono (by decide)) rfl (qa_cons (qix (qv 5) (qv 11)) (qa_cons (qcall c_times (hr.mono (by decide)) rfl (qa_cons (qv 9) (qa_cons (qv 12) qa_nil))) qa_nil))) (qgIx (qv 5) (qv 11)))))))))
    (qs_one (qret (qv 5))))))
abbrev sD_borne_rent : Stmt := topS 29
theorem sc_borne_rent : FnScope ["net", "weights", "total", "lost", "line", "side", "weight"] ["net", "weights"] (defScope sD_borne_rent) := ⟨rfl, rfl, rfl, by decide +kernel, rfl, by decide +kernel, by decide +kernel⟩
theorem ok_borne_rent {f : Addr} {fd : FuncData} (F : Fun K "borne_rent" "borne_rent" sD_borne_rent f fd) (seer : base.NoSeer) (tree : P.given.tree = none) (c_plus : Cal P w K mg base CX0 43 "plus" sp_plus) (c_times : Cal P w K mg base CX0 43 "times" sp_times) (c_whole : Cal P w K mg base CX0 41 "whole" sp_whole) (c_NOUGHT : GlobW K mg "NOUGHT" (.tup [.int 0, .int 1])) : FnOk P w K mg base CX0 (43 + 1) f fd ["net", "weights"] (liftSp K sp_borne_rent) := by
  refine okW F sc_borne_rent seer tree (by decide) (fun ws G Q E h => ?_) (fun cdv A outer s H E hr hd => ⟨t_borne_rent, ?_, rd_borne_rent⟩)
  · exact len_borne_rent ws G Q E h
  · exact (qs_cons (qset (i := 2) sc_borne_rent.nd rfl (he := (qglob rfl c_NOUGHT)))
    (qs_cons (qfor (ks := [false, true, false, true, true, true, true]) PassesOwn.never rfl (qiseq (qix (qv 1) qint)) (qgT rfl (qgs_cons (qgN (i := 3) sc_borne_rent.nd rfl) (qgs_cons (qgN (i := 4) sc_borne_rent.nd rfl) (qgs_cons (qgN (i := 5) sc_borne_rent.nd rfl) (qgs_cons (qgN (i := 6) sc_borne_rent.nd rfl) qgs_nil))))) (qs_one (qset (i := 2) sc_borne_rent.nd rfl (he := (qcall c_plus (hr.mono (by decide)) rfl (qa_cons (qv 2) (qa_cons (qcall c_times (hr.mono (by decide)) rfl (qa_cons (qv 6) (qa_cons (qcall c_whole (hr.mono (by decide)) rfl (qa_cons (qix (qix (qix (qv 0) qint) (qv 4)) qint) qa_nil)) qa_nil))) qa_nil)))))))
    (qs_one (qret (qv 2)))))
abbrev sD__law_solved : Stmt := topS 44
theorem sc__law_solved : FnScope ["_law_table", "_law_right", "_law_rows", "_law_k", "_law_at", "_law_back", "_law_i", "_law_factor", "_law_row", "_law_one", "_law_other"] ["_law_table", "_law_right"] (defScope sD__law_solved) := ⟨rfl, rfl, rfl, by decide +kernel, rfl, by decide +kernel, by decide +kernel⟩
theorem ok__law_solved {f : Addr} {fd : FuncData} (F : Fun K "_law_solved" "_law_solved" sD__law_solved f fd) (seer : base.NoSeer) (tree : P.given.tree = none) (c__law_times : Cal P w K mg base CX0 42 "_law_times" sp__law_times) (c__law_minus : Cal P w K mg base CX0 43 "_law_minus" sp__law_minus) (m_zip : mg "zip" = none) (m_list : mg "list" = none) (m_range : mg "range" = none) (m_len : mg "len" = none) (m_int : mg "int" = none) (m_abs : mg "abs" = none) : FnOk P w K mg base CX0 (43 + 1) f fd ["_law_table", "_law_right"] (liftSp K sp__law_solved) := by
  refine okW F sc__law_solved seer tree (by decide) (fun ws G Q E h => ?_) (fun cdv A outer s H E hr hd => ⟨t__law_solved, ?_, rd__law_solved⟩)
  · exact len__law_solved ws G Q E h
  · exact (qs_cons (qsetLcM (j := 2) (own := [("_law_row", 8), ("_law_one", 9)]) rfl sc__law_solved.nd rfl rfl (sw_true rfl rfl rfl (by decide +kernel)) (qizipG2 rfl m_zip (qa_cons (qv 0) (qa_cons (qv 1) qa_nil))) (blkOk_by (N := ["_law_table", "_law_right", "_law_rows", "_law_k", "_law_at", "_law_back", "_law_i", "_law_factor", "_law_row", "_law_one", "_law_other"]) (sc := defScope sD__law_solved) (by decide +kernel)) (gcT rfl (gcs_cons (i := 8) sc__law_solved.nd rfl (gcs_cons (i := 9) sc__law_solved.nd rfl gcs_nil))) (fun _ _ _ _ _ => qts_nil) (fun _ _ _ _ _ => (qadd (qlist rfl m_list (qa_cons (qv 8) qa_nil)) (qlst (qa_cons (qv 9) qa_nil)))))
    (qs_cons (qfor (ks := [true, true, false, true, true, true, true, true, true, true, true]) PassesOwn.never rfl (qrange1 rfl m_range (qa_cons (qlen rfl m_len (qa_cons (qv 2) qa_nil)) qa_nil)) (qgN (i := 3) sc__law_solved.nd rfl) (qs_cons (qset (i := 4) sc__law_solved.nd rfl (he := (qv 3)))
    (qs_cons (qwhile (ks := [true, true, false, false, false, true, true, true, true, true, true]) PassesOwn.never (qteq hr (qix (qix (qix (qv 2) (qv 4)) (qv 3)) qint) qint) (qs_one (qset (i := 4) sc__law_solved.nd rfl (he := (qadd (qv 4) qint)))))
    (qs_cons (qasg (qtup (qa_cons (qix (qv 2) (qv 4)) (qa_cons (qix (qv 2) (qv 3)) qa_nil))) (qgT rfl (qgs_cons (qgIx (qv 2) (qv 3)) (qgs_cons (qgIx (qv 2) (qv 4)) qgs_nil))))
    (qs_cons (qset (i := 5) sc__law_solved.nd rfl (he := (qtup (qa_cons (qmul (qix (qix (qix (qv 2) (qv 3)) (qv 3)) qint) (qix (qlst (qa_cons qint (qa_cons (qneg qint) qa_nil))) (qint1 rfl m_int (qa_cons (qlt (qix (qix (qix (qv 2) (qv 3)) (qv 3)) qint) qint) qa_nil)))) (qa_cons (qabs rfl m_abs (qa_cons (qix (qix (qix (qv 2) (qv 3)) (qv 3)) qint) qa_nil)) qa_nil)))))
    (qs_cons (qasg (qlc (own := [("_law_one", 9)]) rfl sc__law_solved.nd (qiseq (qix (qv 2) (qv 3))) (blkOk_by (N := ["_law_table", "_law_right", "_law_rows", "_law_k", "_law_at", "_law_back", "_law_i", "_law_factor", "_law_row", "_law_one", "_law_other"]) (sc := defScope sD__law_solved) (by decide +kernel)) (gcN (i := 9) sc__law_solved.nd rfl) (fun _ _ _ _ _ => qts_nil) (fun _ _ _ _ _ => (qcall c__law_times (hr.mono (by decide)) rfl (qa_cons (qv 9) (qa_cons (qv 5) qa_nil))))) (qgIx (qv 2) (qv 3)))
    (qs_one (qfor (ks := [true, true, false, false, true, true, true, true, true, true, true]) PassesOwn.never rfl (qrange1 rfl m_range (qa_cons (qlen rfl m_len (qa_cons (qv 2) qa_nil)) qa_nil)) (qgN (i := 6) sc__law_solved.nd rfl) (qs_one (qif (qtne hr (qv 6) (qv 3)) (qs_cons (qset (i := 7) sc__law_solved.nd rfl (he := (qix (qix (qv 2) (qv 6)) (qv 3))))
    (qs_one (qasg (qlc (own := [("_law_one", 9), ("_law_other", 10)]) rfl sc__law_solved.nd (qizipG2 rfl m_zip (qa_cons (qix (qv 2) (qv 6)) (qa_cons (qix (qv 2) (qv 3)) qa_nil))) (blkOk_by (N := ["_law_table", "_law_right", "_law_rows", "_law_k", "_law_at", "_law_back", "_law_i", "_law_factor", "_law_row", "_law_one", "_law_other"]) (sc := defScope sD__law_solved) (by decide +kernel)) (gcT rfl (gcs_cons (i := 9) sc__law_solved.nd rfl (gcs_cons (i := 10) sc__law_solved.nd rfl gcs_nil))) (fun _ _ _ _ _ => qts_nil) (fun _ _ _ _ _ => (qcall c__law_minus (hr.mono (by decide)) rfl (qa_cons (qv 9) (qa_cons (qcall c__law_times (hr.mono (by decide)) rfl (qa_cons (qv 7) (qa_cons (qv 10) qa_nil))) qa_nil))))) (qgIx (qv 2) (qv 6))))) qs_nil))))))))))
    (qs_one (qret (qlcM (own := [("_law_row", 8)]) rfl sc__law_solved.nd (qiseq (qv 2)) (blkOk_by (N := ["_law_table", "_law_right", "_law_rows", "_law_k", "_law_at", "_law_back", "_law_i", "_law_factor", "_law_row", "_law_one", "_law_other"]) (sc := defScope sD__law_solved) (by decide +kernel)) (gcN (i := 8) sc__law_solved.nd rfl) (fun _ _ _ _ _ => qts_nil) (fun _ _ _ _ _ => (qix (qv 8) (qneg qint))))))))
abbrev sD_shown_by : Stmt := topS 30
theorem sc_shown_by : FnScope ["found", "net", "base", "blocks", "weights", "at_places", "total", "place", "width", "price", "gain", "put"] ["found", "net", "base", "blocks", "weights"] (defScope sD_shown_by) := ⟨rfl, rfl, rfl, by decide +kernel, rfl, by decide +kernel, by decide +kernel⟩
theorem ok_shown_by {f : Addr} {fd : FuncData} (F : Fun K "shown_by" "shown_by" sD_shown_by f fd) (seer : base.NoSeer) (tree : P.given.tree = none) (c_prices_by : Cal P w K mg base CX0 44 "prices_by" sp_prices_by) (c_minus : Cal P w K mg base CX0 43 "minus" sp_minus) (c_borne_rent : Cal P w K mg base CX0 44 "borne_rent" sp_borne_rent) (c_whole : Cal P w K mg base CX0 41 "whole" sp_whole) (c_is_less : Cal P w K mg base CX0 41 "is_less" sp_is_less) (c_plus : Cal P w K mg base CX0 43 "plus" sp_plus) (c_times : Cal P w K mg base CX0 43 "times" sp_times) (m_zip : mg "zip" = none) (c_NOUGHT : GlobW K mg "NOUGHT" (.tup [.int 0, .int 1])) : FnOk P w K mg base CX0 (44 + 1) f fd ["found", "net", "base", "blocks", "weights"] (liftSp K sp_shown_by) := by
  refine okW F sc_shown_by seer tree (by decide) (fun ws G Q E h => ?_) (fun cdv A outer s H E hr hd => ⟨t_shown_by, ?_, rd_shown_by⟩)
  · exact len_shown_by ws G Q E h
  · exact (qs_cons (qset (i := 5) sc_shown_by.nd rfl (he := (qcall c_prices_by (hr.mono (by decide)) rfl (qa_cons (qv 0) (qa_cons (qix (qv 1) qint) (qa_cons (qv 4) qa_nil))))))
    (qs_cons (qset (i := 6) sc_shown_by.nd rfl (he := (qcall c_minus (hr.mono (by decide)) rfl (qa_cons (qglob rfl c_NOUGHT) (qa_cons (qcall c_borne_rent (hr.mono (by decide)) rfl (qa_cons (qv 1) (qa_cons (qv 4) qa_nil))) qa_nil)))))
    (qs_cons (qfor (ks := [true, true, false, true, true, false, false, true, true, true, true, true]) PassesOwn.never rfl (qiseq (qv 3)) (qgT rfl (qgs_cons (qgN (i := 7) sc_shown_by.nd rfl) (qgs_cons (qgN (i := 8) sc_shown_by.nd rfl) (qgs_cons (qgN (i := 9) sc_shown_by.nd rfl) qgs_nil)))) (qs_cons (qset (i := 10) sc_shown_by.nd rfl (he := (qcall c_minus (hr.mono (by decide)) rfl (qa_cons (qcall c_whole (hr.mono (by decide)) rfl (qa_cons (qv 9) qa_nil)) (qa_cons (qix (qv 5) (qv 7)) qa_nil)))))
    (qs_one (qif (qtv (qcall c_is_less (hr.mono (by decide)) rfl (qa_cons (qv 10) (qa_cons (qglob rfl c_NOUGHT) qa_nil)))) (qs_one (qset (i := 6) sc_shown_by.nd rfl (he := (qcall c_plus (hr.mono (by decide)) rfl (qa_cons (qv 6) (qa_cons (qcall c_times (hr.mono (by decide)) rfl (qa_cons (qcall c_whole (hr.mono (by decide)) rfl (qa_cons (qv 8) qa_nil)) (qa_cons (qv 10) qa_nil))) qa_nil)))))) qs_nil))))
    (qs_cons (qfor (ks := [true, true, true, true, true, true, false, true, true, true, true, true]) PassesOwn.never rfl (qizipG2 rfl m_zip (qa_cons (qv 5) (qa_cons (qv 2) qa_nil))) (qgT rfl (qgs_cons (qgN (i := 9) sc_shown_by.nd rfl) (qgs_cons (qgN (i := 11) sc_shown_by.nd rfl) qgs_nil))) (qs_one (qset (i := 6) sc_shown_by.nd rfl (he := (qcall c_minus (hr.mono (by decide)) rfl (qa_cons (qv 6) (qa_cons (qcall c_times (hr.mono (by decide)) rfl (qa_cons (qv 9) (qa_cons (qcall c_whole (hr.mono (by decide)) rfl (qa_cons (qv 11) qa_nil)) qa_nil))) qa_nil)))))))
    (qs_one (qret (qv 6)))))))
abbrev sD__law_streams : Stmt := topS 45
theorem sc__law_streams : FnScope ["_law_net_here", "_law_lost", "_law_puts", "_law_many", "_law_lines", "_law_table", "_law_k", "_law_one", "_law_other", "_law_stiffness", "_law_most", "_law_here", "_law_there", "_law_levels", "_law_found", "_law_i", "_law_j", "_law_row"] ["_law_net_here", "_law_lost", "_law_puts"] (defScope sD__law_streams) := ⟨rfl, rfl, rfl, by decide +kernel, rfl, by decide +kernel, by decide +kernel⟩
theorem ok__law_streams {f : Addr} {fd : FuncData} (F : Fun K "_law_streams" "_law_streams" sD__law_streams f fd) (seer : base.NoSeer) (tree : P.given.tree = none) (c__law_plus : Cal P w K mg base CX0 42 "_law_plus" sp__law_plus) (c__law_minus : Cal P w K mg base CX0 43 "_law_minus" sp__law_minus) (c__law_solved : Cal P w K mg base CX0 44 "_law_solved" sp__law_solved) (c__law_times : Cal P w K mg base CX0 42 "_law_times" sp__law_times) (m_range : mg "range" = none) (m_enumerate : mg "enumerate" = none) (m_int : mg "int" = none) : FnOk P w K mg base CX0 (44 + 1) f fd ["_law_net_here", "_law_lost", "_law_puts"] (liftSp K sp__law_streams) := by
  refine okW F sc__law_streams seer tree (by decide) (fun ws G Q E h => ?_) (fun cdv A outer s H E hr hd => ⟨t__law_streams, ?_, rd__law_streams⟩)
  · exact len__law_streams ws G Q E h
  · exact (qs_cons (qasg (qv 0) (qgT rfl (qgs_cons (qgN (i := 3) sc__law_streams.nd rfl) (qgs_cons (qgN (i := 4) sc__law_streams.nd rfl) qgs_nil))))
    (qs_cons (qsetLc (j := 5) (own := [("_law_i", 15)]) rfl sc__law_streams.nd rfl rfl (sw_true rfl rfl rfl (by decide +kernel)) (qrange1 rfl m_range (qa_cons (qv 3) qa_nil)) (blkOk_by (N := ["_law_net_here", "_law_lost", "_law_puts", "_law_many", "_law_lines", "_law_table", "_law_k", "_law_one", "_law_other", "_law_stiffness", "_law_most", "_law_here", "_law_there", "_law_levels", "_law_found", "_law_i", "_law_j", "_law_row"]) (sc := defScope sD__law_streams) (by decide +kernel)) (gcN (i := 15) sc__law_streams.nd rfl) (fun _ _ _ _ _ => qts_nil) (fun _ _ _ _ _ => (qlcM (own := [("_law_j", 16)]) rfl sc__law_streams.nd (qrange1 rfl m_range (qa_cons (qv 3) qa_nil)) (by exact blkOk_nest (N := ["_law_net_here", "_law_lost", "_law_puts", "_law_many", "_law_lines", "_law_table", "_law_k", "_law_one", "_law_other", "_law_stiffness", "_law_most", "_law_here", "_law_there", "_law_levels", "_law_found", "_law_i", "_law_j", "_law_row"]) (by decide +kernel)) (gcN (i := 16) sc__law_streams.nd rfl) (fun _ _ _ _ _ => qts_nil) (fun _ _ _ _ _ => (qtup (qa_cons qint (qa_cons qint qa_nil)))))))
    (qs_cons (qfor (ks := [true, false, false, true, false, false, true, true, true, true, true, true, true, true, true, true, true, true]) PassesOwn.never rfl (qienumG rfl m_enumerate (qa_cons (qv 4) qa_nil)) (qgT rfl (qgs_cons (qgN (i := 6) sc__law_streams.nd rfl) (qgs_cons (qgT rfl (qgs_cons (qgN (i := 7) sc__law_streams.nd rfl) (qgs_cons (qgN (i := 8) sc__law_streams.nd rfl) (qgs_cons (qgN (i := 9) sc__law_streams.nd rfl) (qgs_cons (qgN (i := 10) sc__law_streams.nd rfl) qgs_nil))))) qgs_nil))) (qs_one (qif (qtne hr (qv 6) (qv 1)) (qs_one (qfor (ks := [true, false, false, true, false, false, true, true, true, false, true, true, true, true, true, true, true, true]) PassesOwn.never rfl (qiseq (qtup (qa_cons (qtup (qa_cons (qv 7) (qa_cons (qv 8) qa_nil))) (qa_cons (qtup (qa_cons (qv 8) (qa_cons (qv 7) qa_nil))) qa_nil)))) (qgT rfl (qgs_cons (qgN (i := 11) sc__law_streams.nd rfl) (qgs_cons (qgN (i := 12) sc__law_streams.nd rfl) qgs_nil))) (qs_cons (qasg (qcall c__law_plus (hr.mono (by decide)) rfl (qa_cons (qix (qix (qv 5) (qv 11)) (qv 11)) (qa_cons (qtup (qa_cons (qv 9) (qa_cons qint qa_nil))) qa_nil))) (qgIx (qix (qv 5) (qv 11)) (qv 11)))
    (qs_one (qasg (qcall c__law_minus (hr.mono (by decide)) rfl (qa_cons (qix (qix (qv 5) (qv 11)) (qv 12)) (qa_cons (qtup (qa_cons (qv 9) (qa_cons qint qa_nil))) qa_nil))) (qgIx (qix (qv 5) (qv 11)) (qv 12))))))) qs_nil)))
    (qs_cons (qfzN 5 (qset (i := 13) sc__law_streams.nd rfl (he := (qadd (qlst (qa_cons (qtup (qa_cons qint (qa_cons qint qa_nil))) qa_nil)) (qcall c__law_solved (hr.mono (by decide)) rfl (qa_cons (qlc (own := [("_law_row", 17)]) rfl sc__law_streams.nd (qiseq (qslice (qv 5) (qp_some qint) qp_none)) (blkOk_by (N := ["_law_net_here", "_law_lost", "_law_puts", "_law_many", "_law_lines", "_law_table", "_law_k", "_law_one", "_law_other", "_law_stiffness", "_law_most", "_law_here", "_law_there", "_law_levels", "_law_found", "_law_i", "_law_j", "_law_row"]) (sc := defScope sD__law_streams) (by decide +kernel)) (gcN (i := 17) sc__law_streams.nd rfl) (fun _ _ _ _ _ => qts_nil) (fun _ _ _ _ _ => (qslice (qv 17) (qp_some qint) qp_none))) (qa_cons (qslice (qv 2) (qp_some qint) qp_none) qa_nil)))))))
    (qs_cons (qset (i := 14) sc__law_streams.nd rfl (he := (qlstM qa_nil)))
    (qs_cons (qfor (ks := [true, false, true, true, true, true, true, true, true, true, true, true, true, false, false, true, true, true]) PassesOwn.never rfl (qienumG rfl m_enumerate (qa_cons (qv 4) qa_nil)) (qgT rfl (qgs_cons (qgN (i := 6) sc__law_streams.nd rfl) (qgs_cons (qgT rfl (qgs_cons (qgN (i := 7) sc__law_streams.nd rfl) (qgs_cons (qgN (i := 8) sc__law_streams.nd rfl) (qgs_cons (qgN (i := 9) sc__law_streams.nd rfl) (qgs_cons (qgN (i := 10) sc__law_streams.nd rfl) qgs_nil))))) qgs_nil))) (qs_one (qexpr (qm_append (qv 14) (qa_cons (qcall c__law_times (hr.mono (by decide)) rfl (qa_cons (qtup (qa_cons (qmul (qv 9) (qint1 rfl m_int (qa_cons (qne hr (qv 6) (qv 1)) qa_nil))) (qa_cons qint qa_nil))) (qa_cons (qcall c__law_minus (hr.mono (by decide)) rfl (qa_cons (qix (qv 13) (qv 7)) (qa_cons (qix (qv 13) (qv 8)) qa_nil))) qa_nil))) qa_nil)))))
    (qs_one (qret (qv 14)))))))))
abbrev sD__law_unit_streams : Stmt := topS 47
theorem sc__law_unit_streams : FnScope ["_law_net_here", "_law_lost", "_law_found", "_law_place", "_law_puts", "_law_k"] ["_law_net_here", "_law_lost"] (defScope sD__law_unit_streams) := ⟨rfl, rfl, rfl, by decide +kernel, rfl, by decide +kernel, by decide +kernel⟩
theorem ok__law_unit_streams {f : Addr} {fd : FuncData} (F : Fun K "_law_unit_streams" "_law_unit_streams" sD__law_unit_streams f fd) (seer : base.NoSeer) (tree : P.given.tree = none) (c__law_streams : Cal P w K mg base CX0 45 "_law_streams" sp__law_streams) (m_range : mg "range" = none) (m_int : mg "int" = none) : FnOk P w K mg base CX0 (45 + 1) f fd ["_law_net_here", "_law_lost"] (liftSp K sp__law_unit_streams) := by
  refine okW F sc__law_unit_streams seer tree (by decide) (fun ws G Q E h => ?_) (fun cdv A outer s H E hr hd => ⟨t__law_unit_streams, ?_, rd__law_unit_streams⟩)
  · exact len__law_unit_streams ws G Q E h
  · exact (qs_cons (qset (i := 2) sc__law_unit_streams.nd rfl (he := (qlstM qa_nil)))
    (qs_cons (qfor (ks := [false, false, false, true, true, true]) PassesOwn.never rfl (qrange1 rfl m_range (qa_cons (qix (qv 0) qint) qa_nil)) (qgN (i := 3) sc__law_unit_streams.nd rfl) (qs_cons (qsetLc (j := 4) (own := [("_law_k", 5)]) rfl sc__law_unit_streams.nd rfl rfl (sw_true rfl rfl rfl (by decide +kernel)) (qrange1 rfl m_range (qa_cons (qix (qv 0) qint) qa_nil)) (blkOk_by (N := ["_law_net_here", "_law_lost", "_law_found", "_law_place", "_law_puts", "_law_k"]) (sc := defScope sD__law_unit_streams) (by decide +kernel)) (gcN (i := 5) sc__law_unit_streams.nd rfl) (fun _ _ _ _ _ => qts_nil) (fun _ _ _ _ _ => (qtup (qa_cons (qsub (qint1 rfl m_int (qa_cons (qeq hr (qv 5) (qv 3)) qa_nil)) (qint1 rfl m_int (qa_cons (qeq hr (qv 5) qint) qa_nil))) (qa_cons qint qa_nil)))))
    (qs_one (qexpr (qm_append (qv 2) (qa_cons (qcall c__law_streams (hr.mono (by decide)) rfl (qa_cons (qv 0) (qa_cons (qv 1) (qa_cons (qv 4) qa_nil)))) qa_nil))))))
    (qs_one (qret (qv 2)))))
abbrev sD_size_number : Stmt := topS 19
theorem sc_size_number : FnScope ["table", "found", "sign", "j", "number"] ["table"] (defScope sD_size_number) := ⟨rfl, rfl, rfl, by decide +kernel, rfl, by decide +kernel, by decide +kernel⟩
theorem ok0_size_number {f : Addr} {fd : FuncData} (F : Fun K "size_number" "size_number" sD_size_number f fd) (seer : base.NoSeer) (tree : P.given.tree = none) : FnOk P w K mg base CX0 (41 + 1) f fd ["table"] (liftSp K (spr_size_number 0)) := by
  exact okW F sc_size_number seer tree (by decide) (fun ws G Q E h => (h : False).elim) (fun cdv A outer s H E hr hd => ⟨wNever, qs_never, fun _ _ _ _ h => (h : False).elim⟩)
theorem ok_size_number (n : Nat) (hn : n ≤ 5) {f : Addr} {fd : FuncData} (F : Fun K "size_number" "size_number" sD_size_number f fd) (seer : base.NoSeer) (tree : P.given.tree = none) (c_without_place : Cal P w K mg base CX0 41 "without_place" sp_without_place) (m_enumerate : mg "enumerate" = none) (c_rec : Cal P w K mg base CX0 (42 + n) "size_number" (spr_size_number n)) : FnOk P w K mg base CX0 (42 + n + 1) f fd ["table"] (liftSp K (spr_size_number (n + 1))) := by
  refine okW F sc_size_number seer tree (by omega) (fun ws G Q E h => ?_) (fun cdv A outer s H E hr hd => ⟨t_size_number (spr_size_number n), ?_, rd_size_number n⟩)
  · exact len_size_number n ws G Q E h
  · exact (qs_cons (qif (qteq hr (qv 0) (qlst qa_nil)) (qs_one (qret qint)) qs_nil)
    (qs_cons (qset (i := 1) sc_size_number.nd rfl (he := qint))
    (qs_cons (qset (i := 2) sc_size_number.nd rfl (he := qint))
    (qs_cons (qfor (ks := [false, false, false, true, true]) PassesOwn.never rfl (qienumG rfl m_enumerate (qa_cons (qix (qv 0) qint) qa_nil)) (qgT rfl (qgs_cons (qgN (i := 3) sc_size_number.nd rfl) (qgs_cons (qgN (i := 4) sc_size_number.nd rfl) qgs_nil))) (qs_cons (qif (qtne hr (qv 4) qint) (qs_one (qaugA (i := 1) sc_size_number.nd rfl (he := (qmul (qmul (qv 2) (qv 4)) (qcall c_rec (hr.mono (by omega)) rfl (qa_cons (qcall c_without_place (hr.mono (by omega)) rfl (qa_cons (qv 0) (qa_cons qint (qa_cons (qv 3) qa_nil)))) qa_nil)))))) qs_nil)
    (qs_one (qset (i := 2) sc_size_number.nd rfl (he := (qneg (qv 2)))))))
    (qs_one (qret (qv 1)))))))
abbrev sD__law_prices : Stmt := topS 48
theorem sc__law_prices : FnScope ["_law_net_here", "_law_weights_here", "_law_found", "_law_lost", "_law_line_here", "_law_side", "_law_weight", "_law_units", "_law_place"] ["_law_net_here", "_law_weights_here"] (defScope sD__law_prices) := ⟨rfl, rfl, rfl, by decide +kernel, rfl, by decide +kernel, by decide +kernel⟩
theorem ok__law_prices {f : Addr} {fd : FuncData} (F : Fun K "_law_prices" "_law_prices" sD__law_prices f fd) (seer : base.NoSeer) (tree : P.given.tree = none) (c__law_unit_streams : Cal P w K mg base CX0 46 "_law_unit_streams" sp__law_unit_streams) (c__law_minus : Cal P w K mg base CX0 43 "_law_minus" sp__law_minus) (c__law_times : Cal P w K mg base CX0 42 "_law_times" sp__law_times) (m_range : mg "range" = none) : FnOk P w K mg base CX0 (46 + 1) f fd ["_law_net_here", "_law_weights_here"] (liftSp K sp__law_prices) := by
  refine okW F sc__law_prices seer tree (by decide) (fun ws G Q E h => ?_) (fun cdv A outer s H E hr hd => ⟨t__law_prices, ?_, rd__law_prices⟩)
  · exact len__law_prices ws G Q E h
  · exact (qs_cons (qsetLcM (j := 2) (own := [("_law_place", 8)]) rfl sc__law_prices.nd rfl rfl (sw_true rfl rfl rfl (by decide +kernel)) (qrange1 rfl m_range (qa_cons (qix (qv 0) qint) qa_nil)) (blkOk_by (N := ["_law_net_here", "_law_weights_here", "_law_found", "_law_lost", "_law_line_here", "_law_side", "_law_weight", "_law_units", "_law_place"]) (sc := defScope sD__law_prices) (by decide +kernel)) (gcN (i := 8) sc__law_prices.nd rfl) (fun _ _ _ _ _ => qts_nil) (fun _ _ _ _ _ => (qix (qv 1) qint)))
    (qs_cons (qfor (ks := [false, true, false, true, true, true, true, true, true]) PassesOwn.never rfl (qiseq (qix (qv 1) qint)) (qgT rfl (qgs_cons (qgN (i := 3) sc__law_prices.nd rfl) (qgs_cons (qgN (i := 4) sc__law_prices.nd rfl) (qgs_cons (qgN (i := 5) sc__law_prices.nd rfl) (qgs_cons (qgN (i := 6) sc__law_prices.nd rfl) qgs_nil))))) (qs_cons (qset (i := 7) sc__law_prices.nd rfl (he := (qcall c__law_unit_streams (hr.mono (by decide)) rfl (qa_cons (qv 0) (qa_cons (qv 3) qa_nil)))))
    (qs_one (qfor (ks := [false, true, false, true, false, false, false, false, true]) PassesOwn.never rfl (qrange1 rfl m_range (qa_cons (qix (qv 0) qint) qa_nil)) (qgN (i := 8) sc__law_prices.nd rfl) (qs_one (qasg (qcall c__law_minus (hr.mono (by decide)) rfl (qa_cons (qix (qv 2) (qv 8)) (qa_cons (qcall c__law_times (hr.mono (by decide)) rfl (qa_cons (qv 6) (qa_cons (qcall c__law_times (hr.mono (by decide)) rfl (qa_cons (qtup (qa_cons (qv 5) (qa_cons qint qa_nil))) (qa_cons (qix (qix (qv 7) (qv 8)) (qv 4)) qa_nil))) qa_nil))) qa_nil))) (qgIx (qv 2) (qv 8))))))))
    (qs_one (qret (qv 2)))))
abbrev sD_heights_of_units : Stmt := topS 21
theorem sc_heights_of_units : FnScope ["many", "lines", "table", "found", "place", "heights", "i", "sign"] ["many", "lines"] (defScope sD_heights_of_units) := ⟨rfl, rfl, rfl, by decide +kernel, rfl, by decide +kernel, by decide +kernel⟩
theorem ok_heights_of_units {f : Addr} {fd : FuncData} (F : Fun K "heights_of_units" "heights_of_units" sD_heights_of_units f fd) (seer : base.NoSeer) (tree : P.given.tree = none) (c_stiff_table : Cal P w K mg base CX0 42 "stiff_table" sp_stiff_table) (c_size_number : Cal P w K mg base CX0 47 "size_number" sp_size_number) (c_without_place : Cal P w K mg base CX0 41 "without_place" sp_without_place) (m_range : mg "range" = none) : FnOk P w K mg base CX0 (47 + 1) f fd ["many", "lines"] (liftSp K sp_heights_of_units) := by
  refine okW F sc_heights_of_units seer tree (by decide) (fun ws G Q E h => ?_) (fun cdv A outer s H E hr hd => ⟨t_heights_of_units, ?_, rd_heights_of_units⟩)
  · exact len_heights_of_units ws G Q E h
  · exact (qs_cons (qset (i := 2) sc_heights_of_units.nd rfl (he := (qcall c_stiff_table (hr.mono (by decide)) rfl (qa_cons (qv 0) (qa_cons (qv 1) qa_nil)))))
    (qs_cons (qset (i := 3) sc_heights_of_units.nd rfl (he := (qlstM (qa_cons (qlc (own := [("i", 6)]) rfl sc_heights_of_units.nd (qrange1 rfl m_range (qa_cons (qv 0) qa_nil)) (blkOk_by (N := ["many", "lines", "table", "found", "place", "heights", "i", "sign"]) (sc := defScope sD_heights_of_units) (by decide +kernel)) (gcN (i := 6) sc_heights_of_units.nd rfl) (fun _ _ _ _ _ => qts_nil) (fun _ _ _ _ _ => qint)) qa_nil))))
    (qs_cons (qfor (ks := [false, true, false, false, true, true, true, true]) PassesOwn.never rfl (qrange1 rfl m_range (qa_cons (qsub (qv 0) qint) qa_nil)) (qgN (i := 4) sc_heights_of_units.nd rfl) (qs_cons (qset (i := 5) sc_heights_of_units.nd rfl (he := (qlstM (qa_cons qint qa_nil))))
    (qs_cons (qfor (ks := [false, true, false, false, false, false, true, true]) PassesOwn.never rfl (qrange1 rfl m_range (qa_cons (qsub (qv 0) qint) qa_nil)) (qgN (i := 6) sc_heights_of_units.nd rfl) (qs_cons (qset (i := 7) sc_heights_of_units.nd rfl (he := (qsub qint (qmul qint (qmod (qadd (qv 4) (qv 6)) qint)))))
    (qs_one (qexpr (qm_append (qv 5) (qa_cons (qmul (qv 7) (qcall c_size_number (hr.mono (by decide)) rfl (qa_cons (qcall c_without_place (hr.mono (by decide)) rfl (qa_cons (qv 2) (qa_cons (qv 4) (qa_cons (qv 6) qa_nil)))) qa_nil))) qa_nil))))))
    (qs_one (qfz 5 (qexpr (qm_append (qv 3) (qa_cons (qv 5) qa_nil))))))))
    (qs_one (qfz 3 (qret (qtup (qa_cons (qv 3) (qa_cons (qcall c_size_number (hr.mono (by decide)) rfl (qa_cons (qv 2) qa_nil)) qa_nil)))))))))
abbrev sD__law_shown : Stmt := topS 49
theorem sc__law_shown : FnScope ["_law_net_here", "_law_ground", "_law_stock", "_law_weights_here", "_law_at_places", "_law_total", "_law_place", "_law_width", "_law_price", "_law_lack", "_law_put", "_law_lost", "_law_line_here", "_law_side", "_law_weight"] ["_law_net_here", "_law_ground", "_law_stock", "_law_weights_here"] (defScope sD__law_shown) := ⟨rfl, rfl, rfl, by decide +kernel, rfl, by decide +kernel, by decide +kernel⟩
theorem ok__law_shown {f : Addr} {fd : FuncData} (F : Fun K "_law_shown" "_law_shown" sD__law_shown f fd) (seer : base.NoSeer) (tree : P.given.tree = none) (c__law_prices : Cal P w K mg base CX0 47 "_law_prices" sp__law_prices) (c__law_minus : Cal P w K mg base CX0 43 "_law_minus" sp__law_minus) (c__law_plus : Cal P w K mg base CX0 42 "_law_plus" sp__law_plus) (c__law_times : Cal P w K mg base CX0 42 "_law_times" sp__law_times) (m_zip : mg "zip" = none) : FnOk P w K mg base CX0 (47 + 1) f fd ["_law_net_here", "_law_ground", "_law_stock", "_law_weights_here"] (liftSp K sp__law_shown) := by
  refine okW F sc__law_shown seer tree (by decide) (fun ws G Q E h => ?_) (fun cdv A outer s H E hr hd => ⟨t__law_shown, ?_, rd__law_shown⟩)
  · exact len__law_shown ws G Q E h
  · exact (qs_cons (qset (i := 4) sc__law_shown.nd rfl (he := (qcall c__law_prices (hr.mono (by decide)) rfl (qa_cons (qv 0) (qa_cons (qv 3) qa_nil)))))
    (qs_cons (qset (i := 5) sc__law_shown.nd rfl (he := (qtup (qa_cons qint (qa_cons qint qa_nil)))))
    (qs_cons (qfor (ks := [false, false, true, false, false, false, true, true, true, true, true, true, true, true, true]) PassesOwn.never rfl (qiseq (qv 2)) (qgT rfl (qgs_cons (qgN (i := 6) sc__law_shown.nd rfl) (qgs_cons (qgN (i := 7) sc__law_shown.nd rfl) (qgs_cons (qgN (i := 8) sc__law_shown.nd rfl) qgs_nil)))) (qs_cons (qset (i := 9) sc__law_shown.nd rfl (he := (qcall c__law_minus (hr.mono (by decide)) rfl (qa_cons (qtup (qa_cons (qv 8) (qa_cons qint qa_nil))) (qa_cons (qix (qv 4) (qv 6)) qa_nil)))))
    (qs_one (qif (qtlt (qix (qv 9) qint) qint) (qs_one (qset (i := 5) sc__law_shown.nd rfl (he := (qcall c__law_plus (hr.mono (by decide)) rfl (qa_cons (qv 5) (qa_cons (qcall c__law_times (hr.mono (by decide)) rfl (qa_cons (qtup (qa_cons (qv 7) (qa_cons qint qa_nil))) (qa_cons (qv 9) qa_nil))) qa_nil)))))) qs_nil))))
    (qs_cons (qfor (ks := [false, true, true, false, true, false, true, true, true, true, true, true, true, true, true]) PassesOwn.never rfl (qizipG2 rfl m_zip (qa_cons (qv 4) (qa_cons (qv 1) qa_nil))) (qgT rfl (qgs_cons (qgN (i := 8) sc__law_shown.nd rfl) (qgs_cons (qgN (i := 10) sc__law_shown.nd rfl) qgs_nil))) (qs_one (qset (i := 5) sc__law_shown.nd rfl (he := (qcall c__law_minus (hr.mono (by decide)) rfl (qa_cons (qv 5) (qa_cons (qcall c__law_times (hr.mono (by decide)) rfl (qa_cons (qv 8) (qa_cons (qtup (qa_cons (qv 10) (qa_cons qint qa_nil))) qa_nil))) qa_nil)))))))
    (qs_cons (qfor (ks := [false, true, true, true, true, false, true, true, true, true, true, true, true, true, true]) PassesOwn.never rfl (qiseq (qix (qv 3) qint)) (qgT rfl (qgs_cons (qgN (i := 11) sc__law_shown.nd rfl) (qgs_cons (qgN (i := 12) sc__law_shown.nd rfl) (qgs_cons (qgN (i := 13) sc__law_shown.nd rfl) (qgs_cons (qgN (i := 14) sc__law_shown.nd rfl) qgs_nil))))) (qs_one (qset (i := 5) sc__law_shown.nd rfl (he := (qcall c__law_minus (hr.mono (by decide)) rfl (qa_cons (qv 5) (qa_cons (qcall c__law_times (hr.mono (by decide)) rfl (qa_cons (qv 14) (qa_cons (qtup (qa_cons (qix (qix (qix (qv 0) qint) (qv 12)) qint) (qa_cons qint qa_nil))) qa_nil))) qa_nil)))))))
    (qs_one (qret (qv 5))))))))
abbrev sD_bearings_with : Stmt := topS 22
theorem sc_bearings_with : FnScope ["net", "lost", "many", "lines", "kept", "units", "scale", "found", "number", "one", "other", "stiffness", "most", "shares", "heights"] ["net", "lost"] (defScope sD_bearings_with) := ⟨rfl, rfl, rfl, by decide +kernel, rfl, by decide +kernel, by decide +kernel⟩
theorem ok_bearings_with {f : Addr} {fd : FuncData} (F : Fun K "bearings_with" "bearings_with" sD_bearings_with f fd) (seer : base.NoSeer) (tree : P.given.tree = none) (c_heights_of_units : Cal P w K mg base CX0 48 "heights_of_units" sp_heights_of_units) (c_Bearing___init__ : CalC P w K mg base CX0 41 "Bearing" sp_Bearing___init__) (m_range : mg "range" = none) (m_len : mg "len" = none) : FnOk P w K mg base CX0 (48 + 1) f fd ["net", "lost"] (liftSp K sp_bearings_with) := by
  refine okW F sc_bearings_with seer tree (by decide) (fun ws G Q E h => ?_) (fun cdv A outer s H E hr hd => ⟨t_bearings_with, ?_, rd_bearings_with⟩)
  · exact len_bearings_with ws G Q E h
  · exact (qs_cons (qasg (qv 0) (qgT rfl (qgs_cons (qgN (i := 2) sc_bearings_with.nd rfl) (qgs_cons (qgN (i := 3) sc_bearings_with.nd rfl) qgs_nil))))
    (qs_cons (qsetLc (j := 4) (own := [("number", 8)]) rfl sc_bearings_with.nd rfl rfl (sw_true rfl rfl rfl (by decide +kernel)) (qrange1 rfl m_range (qa_cons (qlen rfl m_len (qa_cons (qv 3) qa_nil)) qa_nil)) (blkOk_by (N := ["net", "lost", "many", "lines", "kept", "units", "scale", "found", "number", "one", "other", "stiffness", "most", "shares", "heights"]) (sc := defScope sD_bearings_with) (by decide +kernel)) (gcN (i := 8) sc_bearings_with.nd rfl) (fun _ _ _ _ _ => qts_one (qtne hr (qv 8) (qv 1))) (fun _ _ _ _ _ => (qv 8)))
    (qs_cons (qasg (qcall c_heights_of_units (hr.mono (by decide)) rfl (qa_cons (qv 2) (qa_cons (qlc (own := [("number", 8)]) rfl sc_bearings_with.nd (qiseq (qv 4)) (blkOk_by (N := ["net", "lost", "many", "lines", "kept", "units", "scale", "found", "number", "one", "other", "stiffness", "most", "shares", "heights"]) (sc := defScope sD_bearings_with) (by decide +kernel)) (gcN (i := 8) sc_bearings_with.nd rfl) (fun _ _ _ _ _ => qts_nil) (fun _ _ _ _ _ => (qslice (qix (qv 3) (qv 8)) qp_none (qp_some qint)))) qa_nil))) (qgT rfl (qgs_cons (qgN (i := 5) sc_bearings_with.nd rfl) (qgs_cons (qgN (i := 6) sc_bearings_with.nd rfl) qgs_nil))))
    (qs_cons (qset (i := 7) sc_bearings_with.nd rfl (he := (qlstM qa_nil)))
    (qs_cons (qfor (ks := [true, false, true, false, true, false, false, false, true, true, true, true, true, true, true]) PassesOwn.never rfl (qiseq (qv 4)) (qgN (i := 8) sc_bearings_with.nd rfl) (qs_cons (qasg (qix (qv 3) (qv 8)) (qgT rfl (qgs_cons (qgN (i := 9) sc_bearings_with.nd rfl) (qgs_cons (qgN (i := 10) sc_bearings_with.nd rfl) (qgs_cons (qgN (i := 11) sc_bearings_with.nd rfl) (qgs_cons (qgN (i := 12) sc_bearings_with.nd rfl) qgs_nil))))))
    (qs_cons (qsetLc (j := 13) (own := [("heights", 14)]) rfl sc_bearings_with.nd rfl rfl (sw_true rfl rfl rfl (by decide +kernel)) (qiseq (qv 5)) (blkOk_by (N := ["net", "lost", "many", "lines", "kept", "units", "scale", "found", "number", "one", "other", "stiffness", "most", "shares", "heights"]) (sc := defScope sD_bearings_with) (by decide +kernel)) (gcN (i := 14) sc_bearings_with.nd rfl) (fun _ _ _ _ _ => qts_nil) (fun _ _ _ _ _ => (qmul (qv 11) (qsub (qix (qv 14) (qv 9)) (qix (qv 14) (qv 10))))))
    (qs_one (qexpr (qm_append (qv 7) (qa_cons (qmakeZ c_Bearing___init__ (hr.mono (by decide)) rfl (qa_cons (qv 1) (qa_cons (qv 8) (qa_cons (qv 12) (qa_cons (qv 6) (qa_cons (qv 13) qa_nil)))))) qa_nil)))))))
    (qs_one (qret (qv 7))))))))
abbrev sD_bearings : Stmt := topS 23
theorem sc_bearings : FnScope ["net", "found", "lost"] ["net"] (defScope sD_bearings) := ⟨rfl, rfl, rfl, by decide +kernel, rfl, by decide +kernel, by decide +kernel⟩
theorem ok_bearings {f : Addr} {fd : FuncData} (F : Fun K "bearings" "bearings" sD_bearings f fd) (seer : base.NoSeer) (tree : P.given.tree = none) (c_losable : Cal P w K mg base CX0 42 "losable" sp_losable) (c_bearings_with : Cal P w K mg base CX0 49 "bearings_with" sp_bearings_with) (c_NONE_LOST : GlobW K mg "NONE_LOST" (.int (-1))) : FnOk P w K mg base CX0 (49 + 1) f fd ["net"] (liftSp K sp_bearings) := by
  refine okW F sc_bearings seer tree (by decide) (fun ws G Q E h => ?_) (fun cdv A outer s H E hr hd => ⟨t_bearings, ?_, rd_bearings⟩)
  · exact len_bearings ws G Q E h
  · exact (qs_cons (qset (i := 1) sc_bearings.nd rfl (he := (qlstM qa_nil)))
    (qs_cons (qfor (ks := [false, false, true]) PassesOwn.never rfl (qiseq (qadd (qlst (qa_cons (qglob rfl c_NONE_LOST) qa_nil)) (qcall c_losable (hr.mono (by decide)) rfl (qa_cons (qv 0) qa_nil)))) (qgN (i := 2) sc_bearings.nd rfl) (qs_one (qexpr (qm_extend (qv 1) (qa_cons (qcall c_bearings_with (hr.mono (by decide)) rfl (qa_cons (qv 0) (qa_cons (qv 2) qa_nil))) qa_nil)))))
    (qs_one (qret (qv 1)))))
abbrev sD_shown : Stmt := topS 31
theorem sc_shown : FnScope ["net", "base", "blocks", "weights"] ["net", "base", "blocks", "weights"] (defScope sD_shown) := ⟨rfl, rfl, rfl, by decide +kernel, rfl, by decide +kernel, by decide +kernel⟩
theorem ok_shown {f : Addr} {fd : FuncData} (F : Fun K "shown" "shown" sD_shown f fd) (seer : base.NoSeer) (tree : P.given.tree = none) (c_shown_by : Cal P w K mg base CX0 45 "shown_by" sp_shown_by) (c_bearings : Cal P w K mg base CX0 50 "bearings" sp_bearings) : FnOk P w K mg base CX0 (50 + 1) f fd ["net", "base", "blocks", "weights"] (liftSp K sp_shown) := by
  refine okW F sc_shown seer tree (by decide) (fun ws G Q E h => ?_) (fun cdv A outer s H E hr hd => ⟨t_shown, ?_, rd_shown⟩)
  · exact len_shown ws G Q E h
  · exact (qs_one (qret (qcall c_shown_by (hr.mono (by decide)) rfl (qa_cons (qcall c_bearings (hr.mono (by decide)) rfl (qa_cons (qv 0) qa_nil)) (qa_cons (qv 0) (qa_cons (qv 1) (qa_cons (qv 2) (qa_cons (qv 3) qa_nil))))))))
abbrev sD_shown_at_nought : Stmt := topS 33
theorem sc_shown_at_nought : FnScope ["net", "base", "blocks", "weights"] ["net", "base", "blocks", "weights"] (defScope sD_shown_at_nought) := ⟨rfl, rfl, rfl, by decide +kernel, rfl, by decide +kernel, by decide +kernel⟩
theorem ok_shown_at_nought {f : Addr} {fd : FuncData} (F : Fun K "shown_at_nought" "shown_at_nought" sD_shown_at_nought f fd) (seer : base.NoSeer) (tree : P.given.tree = none) (c_shown : Cal P w K mg base CX0 51 "shown" sp_shown) (c_at_nought : Cal P w K mg base CX0 41 "at_nought" sp_at_nought) : FnOk P w K mg base CX0 (51 + 1) f fd ["net", "base", "blocks", "weights"] (liftSp K sp_shown_at_nought) := by
  refine okW F sc_shown_at_nought seer tree (by decide) (fun ws G Q E h => ?_) (fun cdv A outer s H E hr hd => ⟨t_shown_at_nought, ?_, rd_shown_at_nought⟩)
  · exact len_shown_at_nought ws G Q E h
  · exact (qs_one (qret (qcall c_shown (hr.mono (by decide)) rfl (qa_cons (qv 0) (qa_cons (qv 1) (qa_cons (qcall c_at_nought (hr.mono (by decide)) rfl (qa_cons (qv 2) qa_nil)) (qa_cons (qv 3) qa_nil)))))))
abbrev sD_law : Stmt := topS 54
theorem sc_law : FnScope ["_law_script", "_law_k", "_law_bag_here", "_law_net_here", "_law_stock", "_law_ground", "_law_weights_here", "_law_handed", "_law_due", "_law_bare", "_law_turn", "_law_place", "_law_width", "_law_price"] ["_law_script"] (defScope sD_law) := ⟨rfl, rfl, rfl, by decide +kernel, rfl, by decide +kernel, by decide +kernel⟩
theorem ok_law {f : Addr} {fd : FuncData} (F : Fun K "law" "law" sD_law f fd) (seer : base.NoSeer) (tree : P.given.tree = none) (c__law_bag : Cal P w K mg base CX0 41 "_law_bag" sp__law_bag) (c__law_net : Cal P w K mg base CX0 43 "_law_net" sp__law_net) (c__law_blocks : Cal P w K mg base CX0 42 "_law_blocks" sp__law_blocks) (c__law_base : Cal P w K mg base CX0 42 "_law_base" sp__law_base) (c__law_weights : Cal P w K mg base CX0 43 "_law_weights" sp__law_weights) (c__law_shown : Cal P w K mg base CX0 48 "_law_shown" sp__law_shown) (c_shown : Cal P w K mg base CX0 51 "shown" sp_shown) (c_shown_at_nought : Cal P w K mg base CX0 52 "shown_at_nought" sp_shown_at_nought) (m_range : mg "range" = none) (m_max : mg "max" = none) (m_min : mg "min" = none) (m_len : mg "len" = none) (m_list : mg "list" = none) (m_tuple : mg "tuple" = none) : FnOk P w K mg base CX0 (52 + 1) f fd ["_law_script"] (liftSp K sp_law) := by
  refine okW F sc_law seer tree (by decide) (fun ws G Q E h => ?_) (fun cdv A outer s H E hr hd => ⟨t_law, ?_, rd_law⟩)
  · exact len_law ws G Q E h
  · exact (qs_cons (qfor (ks := [false, true, true, true, true, true, true, true, true, true, true, true, true, true]) PassesOwn.never rfl (qrange1 rfl m_range (qa_cons (qmax2 rfl rfl m_max (qa_cons qint (qa_cons (qmin2 rfl rfl m_min (qa_cons qint (qa_cons (qlen rfl m_len (qa_cons (qv 0) qa_nil)) qa_nil))) qa_nil))) qa_nil)) (qgN (i := 1) sc_law.nd rfl) (qs_cons (qset (i := 2) sc_law.nd rfl (he := (qcall c__law_bag (hr.mono (by decide)) rfl (qa_cons (qv 0) (qa_cons (qv 1) qa_nil)))))
    (qs_cons (qset (i := 3) sc_law.nd rfl (he := (qcall c__law_net (hr.mono (by decide)) rfl (qa_cons (qv 2) qa_nil))))
    (qs_cons (qset (i := 4) sc_law.nd rfl (he := (qcall c__law_blocks (hr.mono (by decide)) rfl (qa_cons (qv 2) (qa_cons (qix (qv 3) qint) qa_nil)))))
    (qs_cons (qset (i := 5) sc_law.nd rfl (he := (qcall c__law_base (hr.mono (by decide)) rfl (qa_cons (qv 2) (qa_cons (qix (qv 3) qint) (qa_cons (qv 4) qa_nil))))))
    (qs_cons (qset (i := 6) sc_law.nd rfl (he := (qcall c__law_weights (hr.mono (by decide)) rfl (qa_cons (qv 2) (qa_cons (qv 3) qa_nil)))))
    (qs_cons (qset (i := 7) sc_law.nd rfl (he := (qlist rfl m_list (qa_cons (qv 5) qa_nil))))
    (qs_cons (qset (i := 8) sc_law.nd rfl (he := (qcall c__law_shown (hr.mono (by decide)) rfl (qa_cons (qv 3) (qa_cons (qv 5) (qa_cons (qv 4) (qa_cons (qv 6) qa_nil)))))))
    (qs_cons (qset (i := 9) sc_law.nd rfl (he := (qcall c__law_shown (hr.mono (by decide)) rfl (qa_cons (qv 3) (qa_cons (qv 5) (qa_cons (qtuple rfl m_tuple (qa_cons (qlc (own := [("_law_place", 11), ("_law_width", 12), ("_law_price", 13)]) rfl sc_law.nd (qiseq (qv 4)) (blkOk_by (N := ["_law_script", "_law_k", "_law_bag_here", "_law_net_here", "_law_stock", "_law_ground", "_law_weights_here", "_law_handed", "_law_due", "_law_bare", "_law_turn", "_law_place", "_law_width", "_law_price"]) (sc := defScope sD_law) (by decide +kernel)) (gcT rfl (gcs_cons (i := 11) sc_law.nd rfl (gcs_cons (i := 12) sc_law.nd rfl (gcs_cons (i := 13) sc_law.nd rfl gcs_nil)))) (fun _ _ _ _ _ => qts_nil) (fun _ _ _ _ _ => (qtup (qa_cons (qv 11) (qa_cons (qv 12) (qa_cons qint qa_nil)))))) qa_nil)) (qa_cons (qv 6) qa_nil)))))))
    (qs_cons (qfor (ks := [false, true, true, false, false, false, false, false, false, false, true, true, true, true]) PassesOwn.never rfl (qrange1 rfl m_range (qa_cons qint qa_nil)) (qgN (i := 10) sc_law.nd rfl) (qs_one (qif (qwt (qor (qtne hr (qcall c_shown (hr.mono (by decide)) rfl (qa_cons (qv 3) (qa_cons (qv 7) (qa_cons (qv 4) (qa_cons (qv 6) qa_nil))))) (qv 8)) (qor1 (qtne hr (qcall c_shown_at_nought (hr.mono (by decide)) rfl (qa_cons (qv 3) (qa_cons (qv 7) (qa_cons (qv 4) (qa_cons (qv 6) qa_nil))))) (qv 9))))) (qs_one (qret qbl)) qs_nil)))
    (qs_one (qif (qtne hr (qv 7) (qv 5)) (qs_one (qret qbl)) qs_nil))))))))))))
    (qs_one (qret qbl)))
end
theorem all_mk {l : PySem.W.OpenLaw} {w : World} {K : PySem.W.Frag} {h : Heap} {mg : Str → Option Value} {fa f0 f1 f2 f3 f4 f5 f6 f7 f8 f9 f10 f11 f12 f13 f14 f15 f16 f17 f18 f19 f20 f21 f22 f23 f24 f25 f26 f27 f28 f29 f30 f31 f32 f33 f34 f35 f36 f37 f38 f39 f40 f41 f42 : Addr} (X : K.In h) (G : h.Ns mainGlobals mg) (tree : l.prog.given.tree = none) (hfa : mg "law" = some (.ref fa))
    {C_Bearing : Addr}
    {od0 an0 od1 an1 od2 an2 od3 an3 od4 an4 od5 an5 od6 an6 od7 an7 od8 an8 od9 an9 od10 an10 od11 an11 od12 an12 od13 an13 od14 an14 od15 an15 od16 an16 od17 an17 od18 an18 od19 an19 od20 an20 od21 an21 od22 an22 od23 an23 od24 an24 od25 an25 od26 an26 od27 an27 od28 an28 od29 an29 od30 an30 od31 an31 od32 an32 od33 an33 od34 an34 od35 an35 od36 an36 od37 an37 od38 an38 od39 an39 od40 an40 od41 an41 od42 an42 : Option Addr} {sl0 sl1 sl2 sl3 sl4 sl5 sl6 sl7 sl8 sl9 sl10 sl11 sl12 sl13 sl14 sl15 sl16 sl17 sl18 sl19 sl20 sl21 sl22 sl23 sl24 sl25 sl26 sl27 sl28 sl29 sl30 sl31 sl32 sl33 sl34 sl35 sl36 sl37 sl38 sl39 sl40 sl41 sl42 : Array (Option Value)} {oc0 kV0 dc0 pm0 cd0 ct0 oc1 kV1 dc1 pm1 cd1 ct1 oc2 kV2 dc2 pm2 cd2 ct2 oc3 kV3 dc3 pm3 cd3 ct3 oc4 kV4 dc4 pm4 cd4 ct4 oc5 kV5 dc5 pm5 cd5 ct5 oc6 kV6 dc6 pm6 cd6 ct6 oc7 kV7 dc7 pm7 cd7 ct7 oc8 kV8 dc8 pm8 cd8 ct8 oc9 kV9 dc9 pm9 cd9 ct9 oc10 kV10 dc10 pm10 cd10 ct10 oc11 kV11 dc11 pm11 cd11 ct11 oc12 kV12 dc12 pm12 cd12 ct12 oc13 kV13 dc13 pm13 cd13 ct13 oc14 kV14 dc14 pm14 cd14 ct14 oc15 kV15 dc15 pm15 cd15 ct15 oc16 kV16 dc16 pm16 cd16 ct16 oc17 kV17 dc17 pm17 cd17 ct17 oc18 kV18 dc18 pm18 cd18 ct18 oc19 kV19 dc19 pm19 cd19 ct19 oc20 kV20 dc20 pm20 cd20 ct20 oc21 kV21 dc21 pm21 cd21 ct21 oc22 kV22 dc22 pm22 cd22 ct22 oc23 kV23 dc23 pm23 cd23 ct23 oc24 kV24 dc24 pm24 cd24 ct24 oc25 kV25 dc25 pm25 cd25 ct25 oc26 kV26 dc26 pm26 cd26 ct26 oc27 kV27 dc27 pm27 cd27 ct27 oc28 kV28 dc28 pm28 cd28 ct28 oc29 kV29 dc29 pm29 cd29 ct29 oc30 kV30 dc30 pm30 cd30 ct30 oc31 kV31 dc31 pm31 cd31 ct31 oc32 kV32 dc32 pm32 cd32 ct32 oc33 kV33 dc33 pm33 cd33 ct33 oc34 kV34 dc34 pm34 cd34 ct34 oc35 kV35 dc35 pm35 cd35 ct35 oc36 kV36 dc36 pm36 cd36 ct36 oc37 kV37 dc37 pm37 cd37 ct37 oc38 kV38 dc38 pm38 cd38 ct38 oc39 kV39 dc39 pm39 cd39 ct39 oc40 kV40 dc40 pm40 cd40 ct40 oc41 kV41 dc41 pm41 cd41 ct41 oc42 kV42 dc42 pm42 cd42 ct42 : Value}
    (a0 : PySem.W.nsIn K mainGlobals "common" = some (some (.ref f0))) (l0 : K.lookup f0 = some ⟨oc0, od0, .func (PySem.W.fnOf "common" "common" (defArgs sD_common) (defBody sD_common) (defScope sD_common) .none kV0 dc0 pm0 an0 cd0 ct0), sl0⟩) (c0 : PySem.W.codeIn K cd0 "common" = true) (k0 : PySem.W.keepIn K (.ref f0) = true)
    (a1 : PySem.W.nsIn K mainGlobals "is_less" = some (some (.ref f1))) (l1 : K.lookup f1 = some ⟨oc1, od1, .func (PySem.W.fnOf "is_less" "is_less" (defArgs sD_is_less) (defBody sD_is_less) (defScope sD_is_less) .none kV1 dc1 pm1 an1 cd1 ct1), sl1⟩) (c1 : PySem.W.codeIn K cd1 "is_less" = true) (k1 : PySem.W.keepIn K (.ref f1) = true)
    (a2 : PySem.W.nsIn K mainGlobals "hangs_together" = some (some (.ref f2))) (l2 : K.lookup f2 = some ⟨oc2, od2, .func (PySem.W.fnOf "hangs_together" "hangs_together" (defArgs sD_hangs_together) (defBody sD_hangs_together) (defScope sD_hangs_together) .none kV2 dc2 pm2 an2 cd2 ct2), sl2⟩) (c2 : PySem.W.codeIn K cd2 "hangs_together" = true) (k2 : PySem.W.keepIn K (.ref f2) = true)
    (a3 : PySem.W.nsIn K mainGlobals "left_lines" = some (some (.ref f3))) (l3 : K.lookup f3 = some ⟨oc3, od3, .func (PySem.W.fnOf "left_lines" "left_lines" (defArgs sD_left_lines) (defBody sD_left_lines) (defScope sD_left_lines) .none kV3 dc3 pm3 an3 cd3 ct3), sl3⟩) (c3 : PySem.W.codeIn K cd3 "left_lines" = true) (k3 : PySem.W.keepIn K (.ref f3) = true)
    (a4 : PySem.W.findIn K (.ref C_Bearing) "__init__" = some (some (.ref f4))) (i4 : PySem.W.isFn K (.ref f4) = true) (l4 : K.lookup f4 = some ⟨oc4, od4, .func (PySem.W.fnOf "__init__" "Bearing.__init__" (defArgs sD_Bearing___init__) (defBody sD_Bearing___init__) (defScope sD_Bearing___init__) .none kV4 dc4 pm4 an4 cd4 ct4), sl4⟩) (c4 : PySem.W.codeIn K cd4 "Bearing.__init__" = true) (k4 : PySem.W.keepIn K (.ref f4) = true)
    (a5 : PySem.W.nsIn K mainGlobals "without_place" = some (some (.ref f5))) (l5 : K.lookup f5 = some ⟨oc5, od5, .func (PySem.W.fnOf "without_place" "without_place" (defArgs sD_without_place) (defBody sD_without_place) (defScope sD_without_place) .none kV5 dc5 pm5 an5 cd5 ct5), sl5⟩) (c5 : PySem.W.codeIn K cd5 "without_place" = true) (k5 : PySem.W.keepIn K (.ref f5) = true)
    (a6 : PySem.W.nsIn K mainGlobals "whole" = some (some (.ref f6))) (l6 : K.lookup f6 = some ⟨oc6, od6, .func (PySem.W.fnOf "whole" "whole" (defArgs sD_whole) (defBody sD_whole) (defScope sD_whole) .none kV6 dc6 pm6 an6 cd6 ct6), sl6⟩) (c6 : PySem.W.codeIn K cd6 "whole" = true) (k6 : PySem.W.keepIn K (.ref f6) = true)
    (a7 : PySem.W.nsIn K mainGlobals "bearing_of" = some (some (.ref f7))) (l7 : K.lookup f7 = some ⟨oc7, od7, .func (PySem.W.fnOf "bearing_of" "bearing_of" (defArgs sD_bearing_of) (defBody sD_bearing_of) (defScope sD_bearing_of) .none kV7 dc7 pm7 an7 cd7 ct7), sl7⟩) (c7 : PySem.W.codeIn K cd7 "bearing_of" = true) (k7 : PySem.W.keepIn K (.ref f7) = true)
    (a8 : PySem.W.nsIn K mainGlobals "at_nought" = some (some (.ref f8))) (l8 : K.lookup f8 = some ⟨oc8, od8, .func (PySem.W.fnOf "at_nought" "at_nought" (defArgs sD_at_nought) (defBody sD_at_nought) (defScope sD_at_nought) .none kV8 dc8 pm8 an8 cd8 ct8), sl8⟩) (c8 : PySem.W.codeIn K cd8 "at_nought" = true) (k8 : PySem.W.keepIn K (.ref f8) = true)
    (a9 : PySem.W.nsIn K mainGlobals "_law_bag" = some (some (.ref f9))) (l9 : K.lookup f9 = some ⟨oc9, od9, .func (PySem.W.fnOf "_law_bag" "_law_bag" (defArgs sD__law_bag) (defBody sD__law_bag) (defScope sD__law_bag) .none kV9 dc9 pm9 an9 cd9 ct9), sl9⟩) (c9 : PySem.W.codeIn K cd9 "_law_bag" = true) (k9 : PySem.W.keepIn K (.ref f9) = true)
    (a10 : PySem.W.nsIn K mainGlobals "_law_take" = some (some (.ref f10))) (l10 : K.lookup f10 = some ⟨oc10, od10, .func (PySem.W.fnOf "_law_take" "_law_take" (defArgs sD__law_take) (defBody sD__law_take) (defScope sD__law_take) .none kV10 dc10 pm10 an10 cd10 ct10), sl10⟩) (c10 : PySem.W.codeIn K cd10 "_law_take" = true) (k10 : PySem.W.keepIn K (.ref f10) = true)
    (a11 : PySem.W.nsIn K mainGlobals "_law_frac" = some (some (.ref f11))) (l11 : K.lookup f11 = some ⟨oc11, od11, .func (PySem.W.fnOf "_law_frac" "_law_frac" (defArgs sD__law_frac) (defBody sD__law_frac) (defScope sD__law_frac) .none kV11 dc11 pm11 an11 cd11 ct11), sl11⟩) (c11 : PySem.W.codeIn K cd11 "_law_frac" = true) (k11 : PySem.W.keepIn K (.ref f11) = true)
    (a12 : PySem.W.nsIn K mainGlobals "_law_losable" = some (some (.ref f12))) (l12 : K.lookup f12 = some ⟨oc12, od12, .func (PySem.W.fnOf "_law_losable" "_law_losable" (defArgs sD__law_losable) (defBody sD__law_losable) (defScope sD__law_losable) .none kV12 dc12 pm12 an12 cd12 ct12), sl12⟩) (c12 : PySem.W.codeIn K cd12 "_law_losable" = true) (k12 : PySem.W.keepIn K (.ref f12) = true)
    (a13 : PySem.W.nsIn K mainGlobals "fraction" = some (some (.ref f13))) (l13 : K.lookup f13 = some ⟨oc13, od13, .func (PySem.W.fnOf "fraction" "fraction" (defArgs sD_fraction) (defBody sD_fraction) (defScope sD_fraction) .none kV13 dc13 pm13 an13 cd13 ct13), sl13⟩) (c13 : PySem.W.codeIn K cd13 "fraction" = true) (k13 : PySem.W.keepIn K (.ref f13) = true)
    (a14 : PySem.W.nsIn K mainGlobals "losable" = some (some (.ref f14))) (l14 : K.lookup f14 = some ⟨oc14, od14, .func (PySem.W.fnOf "losable" "losable" (defArgs sD_losable) (defBody sD_losable) (defScope sD_losable) .none kV14 dc14 pm14 an14 cd14 ct14), sl14⟩) (c14 : PySem.W.codeIn K cd14 "losable" = true) (k14 : PySem.W.keepIn K (.ref f14) = true)
    (a15 : PySem.W.nsIn K mainGlobals "stiff_table" = some (some (.ref f15))) (l15 : K.lookup f15 = some ⟨oc15, od15, .func (PySem.W.fnOf "stiff_table" "stiff_table" (defArgs sD_stiff_table) (defBody sD_stiff_table) (defScope sD_stiff_table) .none kV15 dc15 pm15 an15 cd15 ct15), sl15⟩) (c15 : PySem.W.codeIn K cd15 "stiff_table" = true) (k15 : PySem.W.keepIn K (.ref f15) = true)
    (a16 : PySem.W.nsIn K mainGlobals "_law_line" = some (some (.ref f16))) (l16 : K.lookup f16 = some ⟨oc16, od16, .func (PySem.W.fnOf "_law_line" "_law_line" (defArgs sD__law_line) (defBody sD__law_line) (defScope sD__law_line) .none kV16 dc16 pm16 an16 cd16 ct16), sl16⟩) (c16 : PySem.W.codeIn K cd16 "_law_line" = true) (k16 : PySem.W.keepIn K (.ref f16) = true)
    (a17 : PySem.W.nsIn K mainGlobals "_law_plus" = some (some (.ref f17))) (l17 : K.lookup f17 = some ⟨oc17, od17, .func (PySem.W.fnOf "_law_plus" "_law_plus" (defArgs sD__law_plus) (defBody sD__law_plus) (defScope sD__law_plus) .none kV17 dc17 pm17 an17 cd17 ct17), sl17⟩) (c17 : PySem.W.codeIn K cd17 "_law_plus" = true) (k17 : PySem.W.keepIn K (.ref f17) = true)
    (a18 : PySem.W.nsIn K mainGlobals "_law_times" = some (some (.ref f18))) (l18 : K.lookup f18 = some ⟨oc18, od18, .func (PySem.W.fnOf "_law_times" "_law_times" (defArgs sD__law_times) (defBody sD__law_times) (defScope sD__law_times) .none kV18 dc18 pm18 an18 cd18 ct18), sl18⟩) (c18 : PySem.W.codeIn K cd18 "_law_times" = true) (k18 : PySem.W.keepIn K (.ref f18) = true)
    (a19 : PySem.W.nsIn K mainGlobals "_law_limits" = some (some (.ref f19))) (l19 : K.lookup f19 = some ⟨oc19, od19, .func (PySem.W.fnOf "_law_limits" "_law_limits" (defArgs sD__law_limits) (defBody sD__law_limits) (defScope sD__law_limits) .none kV19 dc19 pm19 an19 cd19 ct19), sl19⟩) (c19 : PySem.W.codeIn K cd19 "_law_limits" = true) (k19 : PySem.W.keepIn K (.ref f19) = true)
    (a20 : PySem.W.nsIn K mainGlobals "_law_blocks" = some (some (.ref f20))) (l20 : K.lookup f20 = some ⟨oc20, od20, .func (PySem.W.fnOf "_law_blocks" "_law_blocks" (defArgs sD__law_blocks) (defBody sD__law_blocks) (defScope sD__law_blocks) .none kV20 dc20 pm20 an20 cd20 ct20), sl20⟩) (c20 : PySem.W.codeIn K cd20 "_law_blocks" = true) (k20 : PySem.W.keepIn K (.ref f20) = true)
    (a21 : PySem.W.nsIn K mainGlobals "_law_base" = some (some (.ref f21))) (l21 : K.lookup f21 = some ⟨oc21, od21, .func (PySem.W.fnOf "_law_base" "_law_base" (defArgs sD__law_base) (defBody sD__law_base) (defScope sD__law_base) .none kV21 dc21 pm21 an21 cd21 ct21), sl21⟩) (c21 : PySem.W.codeIn K cd21 "_law_base" = true) (k21 : PySem.W.keepIn K (.ref f21) = true)
    (a22 : PySem.W.nsIn K mainGlobals "plus" = some (some (.ref f22))) (l22 : K.lookup f22 = some ⟨oc22, od22, .func (PySem.W.fnOf "plus" "plus" (defArgs sD_plus) (defBody sD_plus) (defScope sD_plus) .none kV22 dc22 pm22 an22 cd22 ct22), sl22⟩) (c22 : PySem.W.codeIn K cd22 "plus" = true) (k22 : PySem.W.keepIn K (.ref f22) = true)
    (a23 : PySem.W.nsIn K mainGlobals "minus" = some (some (.ref f23))) (l23 : K.lookup f23 = some ⟨oc23, od23, .func (PySem.W.fnOf "minus" "minus" (defArgs sD_minus) (defBody sD_minus) (defScope sD_minus) .none kV23 dc23 pm23 an23 cd23 ct23), sl23⟩) (c23 : PySem.W.codeIn K cd23 "minus" = true) (k23 : PySem.W.keepIn K (.ref f23) = true)
    (a24 : PySem.W.nsIn K mainGlobals "times" = some (some (.ref f24))) (l24 : K.lookup f24 = some ⟨oc24, od24, .func (PySem.W.fnOf "times" "times" (defArgs sD_times) (defBody sD_times) (defScope sD_times) .none kV24 dc24 pm24 an24 cd24 ct24), sl24⟩) (c24 : PySem.W.codeIn K cd24 "times" = true) (k24 : PySem.W.keepIn K (.ref f24) = true)
    (a25 : PySem.W.nsIn K mainGlobals "_law_net" = some (some (.ref f25))) (l25 : K.lookup f25 = some ⟨oc25, od25, .func (PySem.W.fnOf "_law_net" "_law_net" (defArgs sD__law_net) (defBody sD__law_net) (defScope sD__law_net) .none kV25 dc25 pm25 an25 cd25 ct25), sl25⟩) (c25 : PySem.W.codeIn K cd25 "_law_net" = true) (k25 : PySem.W.keepIn K (.ref f25) = true)
    (a26 : PySem.W.nsIn K mainGlobals "_law_minus" = some (some (.ref f26))) (l26 : K.lookup f26 = some ⟨oc26, od26, .func (PySem.W.fnOf "_law_minus" "_law_minus" (defArgs sD__law_minus) (defBody sD__law_minus) (defScope sD__law_minus) .none kV26 dc26 pm26 an26 cd26 ct26), sl26⟩) (c26 : PySem.W.codeIn K cd26 "_law_minus" = true) (k26 : PySem.W.keepIn K (.ref f26) = true)
    (a27 : PySem.W.nsIn K mainGlobals "_law_weights" = some (some (.ref f27))) (l27 : K.lookup f27 = some ⟨oc27, od27, .func (PySem.W.fnOf "_law_weights" "_law_weights" (defArgs sD__law_weights) (defBody sD__law_weights) (defScope sD__law_weights) .none kV27 dc27 pm27 an27 cd27 ct27), sl27⟩) (c27 : PySem.W.codeIn K cd27 "_law_weights" = true) (k27 : PySem.W.keepIn K (.ref f27) = true)
    (a28 : PySem.W.nsIn K mainGlobals "prices_by" = some (some (.ref f28))) (l28 : K.lookup f28 = some ⟨oc28, od28, .func (PySem.W.fnOf "prices_by" "prices_by" (defArgs sD_prices_by) (defBody sD_prices_by) (defScope sD_prices_by) .none kV28 dc28 pm28 an28 cd28 ct28), sl28⟩) (c28 : PySem.W.codeIn K cd28 "prices_by" = true) (k28 : PySem.W.keepIn K (.ref f28) = true)
    (a29 : PySem.W.nsIn K mainGlobals "borne_rent" = some (some (.ref f29))) (l29 : K.lookup f29 = some ⟨oc29, od29, .func (PySem.W.fnOf "borne_rent" "borne_rent" (defArgs sD_borne_rent) (defBody sD_borne_rent) (defScope sD_borne_rent) .none kV29 dc29 pm29 an29 cd29 ct29), sl29⟩) (c29 : PySem.W.codeIn K cd29 "borne_rent" = true) (k29 : PySem.W.keepIn K (.ref f29) = true)
    (a30 : PySem.W.nsIn K mainGlobals "_law_solved" = some (some (.ref f30))) (l30 : K.lookup f30 = some ⟨oc30, od30, .func (PySem.W.fnOf "_law_solved" "_law_solved" (defArgs sD__law_solved) (defBody sD__law_solved) (defScope sD__law_solved) .none kV30 dc30 pm30 an30 cd30 ct30), sl30⟩) (c30 : PySem.W.codeIn K cd30 "_law_solved" = true) (k30 : PySem.W.keepIn K (.ref f30) = true)
    (a31 : PySem.W.nsIn K mainGlobals "shown_by" = some (some (.ref f31))) (l31 : K.lookup f31 = some ⟨oc31, od31, .func (PySem.W.fnOf "shown_by" "shown_by" (defArgs sD_shown_by) (defBody sD_shown_by) (defScope sD_shown_by) .none kV31 dc31 pm31 an31 cd31 ct31), sl31⟩) (c31 : PySem.W.codeIn K cd31 "shown_by" = true) (k31 : PySem.W.keepIn K (.ref f31) = true)
    (a32 : PySem.W.nsIn K mainGlobals "_law_streams" = some (some (.ref f32))) (l32 : K.lookup f32 = some ⟨oc32, od32, .func (PySem.W.fnOf "_law_streams" "_law_streams" (defArgs sD__law_streams) (defBody sD__law_streams) (defScope sD__law_streams) .none kV32 dc32 pm32 an32 cd32 ct32), sl32⟩) (c32 : PySem.W.codeIn K cd32 "_law_streams" = true) (k32 : PySem.W.keepIn K (.ref f32) = true)
    (a33 : PySem.W.nsIn K mainGlobals "_law_unit_streams" = some (some (.ref f33))) (l33 : K.lookup f33 = some ⟨oc33, od33, .func (PySem.W.fnOf "_law_unit_streams" "_law_unit_streams" (defArgs sD__law_unit_streams) (defBody sD__law_unit_streams) (defScope sD__law_unit_streams) .none kV33 dc33 pm33 an33 cd33 ct33), sl33⟩) (c33 : PySem.W.codeIn K cd33 "_law_unit_streams" = true) (k33 : PySem.W.keepIn K (.ref f33) = true)
    (a34 : PySem.W.nsIn K mainGlobals "size_number" = some (some (.ref f34))) (l34 : K.lookup f34 = some ⟨oc34, od34, .func (PySem.W.fnOf "size_number" "size_number" (defArgs sD_size_number) (defBody sD_size_number) (defScope sD_size_number) .none kV34 dc34 pm34 an34 cd34 ct34), sl34⟩) (c34 : PySem.W.codeIn K cd34 "size_number" = true) (k34 : PySem.W.keepIn K (.ref f34) = true)
    (a35 : PySem.W.nsIn K mainGlobals "_law_prices" = some (some (.ref f35))) (l35 : K.lookup f35 = some ⟨oc35, od35, .func (PySem.W.fnOf "_law_prices" "_law_prices" (defArgs sD__law_prices) (defBody sD__law_prices) (defScope sD__law_prices) .none kV35 dc35 pm35 an35 cd35 ct35), sl35⟩) (c35 : PySem.W.codeIn K cd35 "_law_prices" = true) (k35 : PySem.W.keepIn K (.ref f35) = true)
    (a36 : PySem.W.nsIn K mainGlobals "heights_of_units" = some (some (.ref f36))) (l36 : K.lookup f36 = some ⟨oc36, od36, .func (PySem.W.fnOf "heights_of_units" "heights_of_units" (defArgs sD_heights_of_units) (defBody sD_heights_of_units) (defScope sD_heights_of_units) .none kV36 dc36 pm36 an36 cd36 ct36), sl36⟩) (c36 : PySem.W.codeIn K cd36 "heights_of_units" = true) (k36 : PySem.W.keepIn K (.ref f36) = true)
    (a37 : PySem.W.nsIn K mainGlobals "_law_shown" = some (some (.ref f37))) (l37 : K.lookup f37 = some ⟨oc37, od37, .func (PySem.W.fnOf "_law_shown" "_law_shown" (defArgs sD__law_shown) (defBody sD__law_shown) (defScope sD__law_shown) .none kV37 dc37 pm37 an37 cd37 ct37), sl37⟩) (c37 : PySem.W.codeIn K cd37 "_law_shown" = true) (k37 : PySem.W.keepIn K (.ref f37) = true)
    (a38 : PySem.W.nsIn K mainGlobals "bearings_with" = some (some (.ref f38))) (l38 : K.lookup f38 = some ⟨oc38, od38, .func (PySem.W.fnOf "bearings_with" "bearings_with" (defArgs sD_bearings_with) (defBody sD_bearings_with) (defScope sD_bearings_with) .none kV38 dc38 pm38 an38 cd38 ct38), sl38⟩) (c38 : PySem.W.codeIn K cd38 "bearings_with" = true) (k38 : PySem.W.keepIn K (.ref f38) = true)
    (a39 : PySem.W.nsIn K mainGlobals "bearings" = some (some (.ref f39))) (l39 : K.lookup f39 = some ⟨oc39, od39, .func (PySem.W.fnOf "bearings" "bearings" (defArgs sD_bearings) (defBody sD_bearings) (defScope sD_bearings) .none kV39 dc39 pm39 an39 cd39 ct39), sl39⟩) (c39 : PySem.W.codeIn K cd39 "bearings" = true) (k39 : PySem.W.keepIn K (.ref f39) = true)
    (a40 : PySem.W.nsIn K mainGlobals "shown" = some (some (.ref f40))) (l40 : K.lookup f40 = some ⟨oc40, od40, .func (PySem.W.fnOf "shown" "shown" (defArgs sD_shown) (defBody sD_shown) (defScope sD_shown) .none kV40 dc40 pm40 an40 cd40 ct40), sl40⟩) (c40 : PySem.W.codeIn K cd40 "shown" = true) (k40 : PySem.W.keepIn K (.ref f40) = true)
    (a41 : PySem.W.nsIn K mainGlobals "shown_at_nought" = some (some (.ref f41))) (l41 : K.lookup f41 = some ⟨oc41, od41, .func (PySem.W.fnOf "shown_at_nought" "shown_at_nought" (defArgs sD_shown_at_nought) (defBody sD_shown_at_nought) (defScope sD_shown_at_nought) .none kV41 dc41 pm41 an41 cd41 ct41), sl41⟩) (c41 : PySem.W.codeIn K cd41 "shown_at_nought" = true) (k41 : PySem.W.keepIn K (.ref f41) = true)
    (a42 : PySem.W.nsIn K mainGlobals "law" = some (some (.ref f42))) (l42 : K.lookup f42 = some ⟨oc42, od42, .func (PySem.W.fnOf "law" "law" (defArgs sD_law) (defBody sD_law) (defScope sD_law) .none kV42 dc42 pm42 an42 cd42 ct42), sl42⟩) (c42 : PySem.W.codeIn K cd42 "law" = true) (k42 : PySem.W.keepIn K (.ref f42) = true)
    (aC_Bearing : PySem.W.nsIn K mainGlobals "Bearing" = some (some (.ref C_Bearing))) (pg_Bearing : PySem.W.plainGet K C_Bearing Str.empty = true) (hd_Bearing : PySem.W.hasDictIn K C_Bearing = true) (po_Bearing : PySem.W.plainOver K C_Bearing = true) (sa_Bearing : PySem.W.findIn K (.ref C_Bearing) "__setattr__" = some (some (.builtin "object.__setattr__"))) (mk_Bearing : PySem.W.makesIn K C_Bearing = true) (kc_Bearing : PySem.W.keepIn K (.ref C_Bearing) = true)
    (nf_Bearing_line : PySem.W.findIn K (.ref C_Bearing) "line" = some none)
    (nf_Bearing_lost : PySem.W.findIn K (.ref C_Bearing) "lost" = some none)
    (nf_Bearing_most : PySem.W.findIn K (.ref C_Bearing) "most" = some none)
    (nf_Bearing_numbers : PySem.W.findIn K (.ref C_Bearing) "numbers" = some none)
    (nf_Bearing_scale : PySem.W.findIn K (.ref C_Bearing) "scale" = some none)
    (z_abs : PySem.W.nsIn K mainGlobals "abs" = some none)
    (z_enumerate : PySem.W.nsIn K mainGlobals "enumerate" = some none)
    (z_int : PySem.W.nsIn K mainGlobals "int" = some none)
    (z_len : PySem.W.nsIn K mainGlobals "len" = some none)
    (z_list : PySem.W.nsIn K mainGlobals "list" = some none)
    (z_max : PySem.W.nsIn K mainGlobals "max" = some none)
    (z_min : PySem.W.nsIn K mainGlobals "min" = some none)
    (z_range : PySem.W.nsIn K mainGlobals "range" = some none)
    (z_sorted : PySem.W.nsIn K mainGlobals "sorted" = some none)
    (z_sum : PySem.W.nsIn K mainGlobals "sum" = some none)
    (z_tuple : PySem.W.nsIn K mainGlobals "tuple" = some none)
    (z_zip : PySem.W.nsIn K mainGlobals "zip" = some none)
    {tk_NONE_LOST : Tok} (g_NONE_LOST : PySem.W.nsIn K mainGlobals "NONE_LOST" = some (some (.int (-1) tk_NONE_LOST)))
    {ga_NOUGHT : Addr} {od_NOUGHT : Option Addr} {sl_NOUGHT : Array (Option Value)} {nn_NOUGHT : Nat} {tk_NOUGHT_0 tk_NOUGHT_1 : Tok} (g_NOUGHT : PySem.W.nsIn K mainGlobals "NOUGHT" = some (some (.ref ga_NOUGHT))) (o_NOUGHT : K.lookup ga_NOUGHT = some ⟨.type "tuple", od_NOUGHT, .seq #[.int (0) tk_NOUGHT_0, .int (1) tk_NOUGHT_1] nn_NOUGHT, sl_NOUGHT⟩)
    : ∃ fd : FuncData, (∀ (s : Shared) (v : Value), BindsTo s fd ⟨[v], []⟩ [("_law_script", v)]) ∧ ∀ base : Heap, K.In base → base.Ns mainGlobals mg → base.NoSeer → FnOk l.prog w K mg base CX0 53 fa fd ["_law_script"] (liftSp K sp_law) := by
  have e := hfa.symm.trans (PySem.W.mg_of X G a42)
  cases e
  have m_abs : mg "abs" = none := PySem.W.mg_none_of X G z_abs
  have m_enumerate : mg "enumerate" = none := PySem.W.mg_none_of X G z_enumerate
  have m_int : mg "int" = none := PySem.W.mg_none_of X G z_int
  have m_len : mg "len" = none := PySem.W.mg_none_of X G z_len
  have m_list : mg "list" = none := PySem.W.mg_none_of X G z_list
  have m_max : mg "max" = none := PySem.W.mg_none_of X G z_max
  have m_min : mg "min" = none := PySem.W.mg_none_of X G z_min
  have m_range : mg "range" = none := PySem.W.mg_none_of X G z_range
  have m_sorted : mg "sorted" = none := PySem.W.mg_none_of X G z_sorted
  have m_sum : mg "sum" = none := PySem.W.mg_none_of X G z_sum
  have m_tuple : mg "tuple" = none := PySem.W.mg_none_of X G z_tuple
  have m_zip : mg "zip" = none := PySem.W.mg_none_of X G z_zip
  have c_NONE_LOST : GlobW K mg "NONE_LOST" (.int (-1)) := GlobW.int (PySem.W.mg_of X G g_NONE_LOST)
  have c_NOUGHT : GlobW K mg "NOUGHT" (.tup [.int 0, .int 1]) := GlobW.tup (vs := [.int (0), .int (1)]) (PySem.W.mg_of X G g_NOUGHT) (.inr ⟨_, _, _, o_NOUGHT, rfl, rfl, (show 2 ≤ sizeLine by decide), .cons ⟨_, rfl⟩ (.cons ⟨_, rfl⟩ (.nil))⟩) (.cons .int (.cons .int (.nil)))
  have cl_Bearing : Cls K C_Bearing := ⟨pg_Bearing, hd_Bearing, po_Bearing, sa_Bearing⟩
  have f_Bearing_line : FldOk K "Bearing" "line" := ⟨fun D d => by have e := ClsA.one aC_Bearing d; subst e; exact ⟨cl_Bearing, nf_Bearing_line⟩⟩
  have f_Bearing_lost : FldOk K "Bearing" "lost" := ⟨fun D d => by have e := ClsA.one aC_Bearing d; subst e; exact ⟨cl_Bearing, nf_Bearing_lost⟩⟩
  have f_Bearing_most : FldOk K "Bearing" "most" := ⟨fun D d => by have e := ClsA.one aC_Bearing d; subst e; exact ⟨cl_Bearing, nf_Bearing_most⟩⟩
  have f_Bearing_numbers : FldOk K "Bearing" "numbers" := ⟨fun D d => by have e := ClsA.one aC_Bearing d; subst e; exact ⟨cl_Bearing, nf_Bearing_numbers⟩⟩
  have f_Bearing_scale : FldOk K "Bearing" "scale" := ⟨fun D d => by have e := ClsA.one aC_Bearing d; subst e; exact ⟨cl_Bearing, nf_Bearing_scale⟩⟩
  have F0 := fun_mk (st := sD_common) l0 c0 k0
  have F1 := fun_mk (st := sD_is_less) l1 c1 k1
  have F2 := fun_mk (st := sD_hangs_together) l2 c2 k2
  have F3 := fun_mk (st := sD_left_lines) l3 c3 k3
  have F4 := fun_mk (st := sD_Bearing___init__) l4 c4 k4
  have F5 := fun_mk (st := sD_without_place) l5 c5 k5
  have F6 := fun_mk (st := sD_whole) l6 c6 k6
  have F7 := fun_mk (st := sD_bearing_of) l7 c7 k7
  have F8 := fun_mk (st := sD_at_nought) l8 c8 k8
  have F9 := fun_mk (st := sD__law_bag) l9 c9 k9
  have F10 := fun_mk (st := sD__law_take) l10 c10 k10
  have F11 := fun_mk (st := sD__law_frac) l11 c11 k11
  have F12 := fun_mk (st := sD__law_losable) l12 c12 k12
  have F13 := fun_mk (st := sD_fraction) l13 c13 k13
  have F14 := fun_mk (st := sD_losable) l14 c14 k14
  have F15 := fun_mk (st := sD_stiff_table) l15 c15 k15
  have F16 := fun_mk (st := sD__law_line) l16 c16 k16
  have F17 := fun_mk (st := sD__law_plus) l17 c17 k17
  have F18 := fun_mk (st := sD__law_times) l18 c18 k18
  have F19 := fun_mk (st := sD__law_limits) l19 c19 k19
  have F20 := fun_mk (st := sD__law_blocks) l20 c20 k20
  have F21 := fun_mk (st := sD__law_base) l21 c21 k21
  have F22 := fun_mk (st := sD_plus) l22 c22 k22
  have F23 := fun_mk (st := sD_minus) l23 c23 k23
  have F24 := fun_mk (st := sD_times) l24 c24 k24
  have F25 := fun_mk (st := sD__law_net) l25 c25 k25
  have F26 := fun_mk (st := sD__law_minus) l26 c26 k26
  have F27 := fun_mk (st := sD__law_weights) l27 c27 k27
  have F28 := fun_mk (st := sD_prices_by) l28 c28 k28
  have F29 := fun_mk (st := sD_borne_rent) l29 c29 k29
  have F30 := fun_mk (st := sD__law_solved) l30 c30 k30
  have F31 := fun_mk (st := sD_shown_by) l31 c31 k31
  have F32 := fun_mk (st := sD__law_streams) l32 c32 k32
  have F33 := fun_mk (st := sD__law_unit_streams) l33 c33 k33
  have F34 := fun_mk (st := sD_size_number) l34 c34 k34
  have F35 := fun_mk (st := sD__law_prices) l35 c35 k35
  have F36 := fun_mk (st := sD_heights_of_units) l36 c36 k36
  have F37 := fun_mk (st := sD__law_shown) l37 c37 k37
  have F38 := fun_mk (st := sD_bearings_with) l38 c38 k38
  have F39 := fun_mk (st := sD_bearings) l39 c39 k39
  have F40 := fun_mk (st := sD_shown) l40 c40 k40
  have F41 := fun_mk (st := sD_shown_at_nought) l41 c41 k41
  have F42 := fun_mk (st := sD_law) l42 c42 k42
  exact ⟨_, fun s v => .of_eq rfl, fun base _ _ seer => by
    have c_common : Cal l.prog w K mg base CX0 41 "common" sp_common := ⟨_, _, _, ok_common F0 seer tree m_abs, PySem.W.mg_of X G a0, k0, F0.binds (ps := ["one", "other"]) fun _ _ _ _ _ _ us hl => match us, hl with | [_, _], _ => rfl⟩
    have c_is_less : Cal l.prog w K mg base CX0 41 "is_less" sp_is_less := ⟨_, _, _, ok_is_less F1 seer tree, PySem.W.mg_of X G a1, k1, F1.binds (ps := ["u", "v"]) fun _ _ _ _ _ _ us hl => match us, hl with | [_, _], _ => rfl⟩
    have c_hangs_together : Cal l.prog w K mg base CX0 41 "hangs_together" sp_hangs_together := ⟨_, _, _, ok_hangs_together F2 seer tree m_len, PySem.W.mg_of X G a2, k2, F2.binds (ps := ["many", "lines"]) fun _ _ _ _ _ _ us hl => match us, hl with | [_, _], _ => rfl⟩
    have c_left_lines : Cal l.prog w K mg base CX0 41 "left_lines" sp_left_lines := ⟨_, _, _, ok_left_lines F3 seer tree, PySem.W.mg_of X G a3, k3, F3.binds (ps := ["net", "line"]) fun _ _ _ _ _ _ us hl => match us, hl with | [_, _], _ => rfl⟩
    have c_Bearing___init__ : CalC l.prog w K mg base CX0 41 "Bearing" sp_Bearing___init__ := ⟨⟨_, _, _, _, aC_Bearing, ⟨mk_Bearing, a4, i4, kc_Bearing⟩, PySem.W.mg_of X G aC_Bearing, ok_Bearing___init__ F4 seer tree f_Bearing_lost f_Bearing_line f_Bearing_most f_Bearing_scale f_Bearing_numbers, F4.binds (ps := ["self", "lost", "line", "most", "scale", "numbers"]) fun _ _ _ _ _ _ us hl => match us, hl with | [_, _, _, _, _, _], _ => rfl⟩⟩
    have c_without_place : Cal l.prog w K mg base CX0 41 "without_place" sp_without_place := ⟨_, _, _, ok_without_place F5 seer tree, PySem.W.mg_of X G a5, k5, F5.binds (ps := ["table", "i", "j"]) fun _ _ _ _ _ _ us hl => match us, hl with | [_, _, _], _ => rfl⟩
    have c_whole : Cal l.prog w K mg base CX0 41 "whole" sp_whole := ⟨_, _, _, ok_whole F6 seer tree, PySem.W.mg_of X G a6, k6, F6.binds (ps := ["number"]) fun _ _ _ _ _ _ us hl => match us, hl with | [_], _ => rfl⟩
    have c_bearing_of : Cal l.prog w K mg base CX0 41 "bearing_of" sp_bearing_of := ⟨_, _, _, ok_bearing_of F7 seer tree f_Bearing_lost f_Bearing_line, PySem.W.mg_of X G a7, k7, F7.binds (ps := ["found", "lost", "line"]) fun _ _ _ _ _ _ us hl => match us, hl with | [_, _, _], _ => rfl⟩
    have c_at_nought : Cal l.prog w K mg base CX0 41 "at_nought" sp_at_nought := ⟨_, _, _, ok_at_nought F8 seer tree m_tuple, PySem.W.mg_of X G a8, k8, F8.binds (ps := ["blocks"]) fun _ _ _ _ _ _ us hl => match us, hl with | [_], _ => rfl⟩
    have c__law_bag : Cal l.prog w K mg base CX0 41 "_law_bag" sp__law_bag := ⟨_, _, _, ok__law_bag F9 seer tree m_len m_abs m_range m_min, PySem.W.mg_of X G a9, k9, F9.binds (ps := ["_law_script", "_law_at"]) fun _ _ _ _ _ _ us hl => match us, hl with | [_, _], _ => rfl⟩
    have c__law_take : Cal l.prog w K mg base CX0 41 "_law_take" sp__law_take := ⟨_, _, _, ok__law_take F10 seer tree, PySem.W.mg_of X G a10, k10, F10.binds (ps := ["_law_bag_here", "_law_many"]) fun _ _ _ _ _ _ us hl => match us, hl with | [_, _], _ => rfl⟩
    have c__law_frac : Cal l.prog w K mg base CX0 41 "_law_frac" sp__law_frac := ⟨_, _, _, ok__law_frac F11 seer tree m_abs, PySem.W.mg_of X G a11, k11, F11.binds (ps := ["_law_top", "_law_bottom"]) fun _ _ _ _ _ _ us hl => match us, hl with | [_, _], _ => rfl⟩
    have c__law_losable : Cal l.prog w K mg base CX0 41 "_law_losable" sp__law_losable := ⟨_, _, _, ok__law_losable F12 seer tree m_range m_len m_enumerate, PySem.W.mg_of X G a12, k12, F12.binds (ps := ["_law_net_here"]) fun _ _ _ _ _ _ us hl => match us, hl with | [_], _ => rfl⟩
    have c_fraction : Cal l.prog w K mg base CX0 42 "fraction" sp_fraction := ⟨_, _, _, ok_fraction F13 seer tree c_common, PySem.W.mg_of X G a13, k13, F13.binds (ps := ["top", "bottom"]) fun _ _ _ _ _ _ us hl => match us, hl with | [_, _], _ => rfl⟩
    have c_losable : Cal l.prog w K mg base CX0 42 "losable" sp_losable := ⟨_, _, _, ok_losable F14 seer tree c_hangs_together c_left_lines m_range m_len, PySem.W.mg_of X G a14, k14, F14.binds (ps := ["net"]) fun _ _ _ _ _ _ us hl => match us, hl with | [_], _ => rfl⟩
    have c_stiff_table : Cal l.prog w K mg base CX0 42 "stiff_table" sp_stiff_table := ⟨_, _, _, ok_stiff_table F15 seer tree c_without_place m_range, PySem.W.mg_of X G a15, k15, F15.binds (ps := ["many", "lines"]) fun _ _ _ _ _ _ us hl => match us, hl with | [_, _], _ => rfl⟩
    have c__law_line : Cal l.prog w K mg base CX0 42 "_law_line" sp__law_line := ⟨_, _, _, ok__law_line F16 seer tree c__law_take m_int, PySem.W.mg_of X G a16, k16, F16.binds (ps := ["_law_bag_here", "_law_one", "_law_other"]) fun _ _ _ _ _ _ us hl => match us, hl with | [_, _, _], _ => rfl⟩
    have c__law_plus : Cal l.prog w K mg base CX0 42 "_law_plus" sp__law_plus := ⟨_, _, _, ok__law_plus F17 seer tree c__law_frac, PySem.W.mg_of X G a17, k17, F17.binds (ps := ["_law_u", "_law_v"]) fun _ _ _ _ _ _ us hl => match us, hl with | [_, _], _ => rfl⟩
    have c__law_times : Cal l.prog w K mg base CX0 42 "_law_times" sp__law_times := ⟨_, _, _, ok__law_times F18 seer tree c__law_frac, PySem.W.mg_of X G a18, k18, F18.binds (ps := ["_law_u", "_law_v"]) fun _ _ _ _ _ _ us hl => match us, hl with | [_, _], _ => rfl⟩
    have c__law_limits : Cal l.prog w K mg base CX0 42 "_law_limits" sp__law_limits := ⟨_, _, _, ok__law_limits F19 seer tree c__law_losable m_range m_len, PySem.W.mg_of X G a19, k19, F19.binds (ps := ["_law_net_here"]) fun _ _ _ _ _ _ us hl => match us, hl with | [_], _ => rfl⟩
    have c__law_blocks : Cal l.prog w K mg base CX0 42 "_law_blocks" sp__law_blocks := ⟨_, _, _, ok__law_blocks F20 seer tree c__law_take m_range m_tuple, PySem.W.mg_of X G a20, k20, F20.binds (ps := ["_law_bag_here", "_law_many"]) fun _ _ _ _ _ _ us hl => match us, hl with | [_, _], _ => rfl⟩
    have c__law_base : Cal l.prog w K mg base CX0 42 "_law_base" sp__law_base := ⟨_, _, _, ok__law_base F21 seer tree c__law_take m_range m_sum m_min, PySem.W.mg_of X G a21, k21, F21.binds (ps := ["_law_bag_here", "_law_many", "_law_stock"]) fun _ _ _ _ _ _ us hl => match us, hl with | [_, _, _], _ => rfl⟩
    have c_plus : Cal l.prog w K mg base CX0 43 "plus" sp_plus := ⟨_, _, _, ok_plus F22 seer tree c_fraction, PySem.W.mg_of X G a22, k22, F22.binds (ps := ["u", "v"]) fun _ _ _ _ _ _ us hl => match us, hl with | [_, _], _ => rfl⟩
    have c_minus : Cal l.prog w K mg base CX0 43 "minus" sp_minus := ⟨_, _, _, ok_minus F23 seer tree c_fraction, PySem.W.mg_of X G a23, k23, F23.binds (ps := ["u", "v"]) fun _ _ _ _ _ _ us hl => match us, hl with | [_, _], _ => rfl⟩
    have c_times : Cal l.prog w K mg base CX0 43 "times" sp_times := ⟨_, _, _, ok_times F24 seer tree c_fraction, PySem.W.mg_of X G a24, k24, F24.binds (ps := ["u", "v"]) fun _ _ _ _ _ _ us hl => match us, hl with | [_, _], _ => rfl⟩
    have c__law_net : Cal l.prog w K mg base CX0 43 "_law_net" sp__law_net := ⟨_, _, _, ok__law_net F25 seer tree c__law_take c__law_line m_range m_len m_tuple, PySem.W.mg_of X G a25, k25, F25.binds (ps := ["_law_bag_here"]) fun _ _ _ _ _ _ us hl => match us, hl with | [_], _ => rfl⟩
    have c__law_minus : Cal l.prog w K mg base CX0 43 "_law_minus" sp__law_minus := ⟨_, _, _, ok__law_minus F26 seer tree c__law_plus, PySem.W.mg_of X G a26, k26, F26.binds (ps := ["_law_u", "_law_v"]) fun _ _ _ _ _ _ us hl => match us, hl with | [_, _], _ => rfl⟩
    have c__law_weights : Cal l.prog w K mg base CX0 43 "_law_weights" sp__law_weights := ⟨_, _, _, ok__law_weights F27 seer tree c__law_limits c__law_frac c__law_take m_range m_min m_sum m_len m_tuple m_sorted, PySem.W.mg_of X G a27, k27, F27.binds (ps := ["_law_bag_here", "_law_net_here"]) fun _ _ _ _ _ _ us hl => match us, hl with | [_, _], _ => rfl⟩
    have c_prices_by : Cal l.prog w K mg base CX0 44 "prices_by" sp_prices_by := ⟨_, _, _, ok_prices_by F28 seer tree c_bearing_of c_fraction c_minus c_times f_Bearing_numbers f_Bearing_scale m_range, PySem.W.mg_of X G a28, k28, F28.binds (ps := ["found", "many", "weights"]) fun _ _ _ _ _ _ us hl => match us, hl with | [_, _, _], _ => rfl⟩
    have c_borne_rent : Cal l.prog w K mg base CX0 44 "borne_rent" sp_borne_rent := ⟨_, _, _, ok_borne_rent F29 seer tree c_plus c_times c_whole c_NOUGHT, PySem.W.mg_of X G a29, k29, F29.binds (ps := ["net", "weights"]) fun _ _ _ _ _ _ us hl => match us, hl with | [_, _], _ => rfl⟩
    have c__law_solved : Cal l.prog w K mg base CX0 44 "_law_solved" sp__law_solved := ⟨_, _, _, ok__law_solved F30 seer tree c__law_times c__law_minus m_zip m_list m_range m_len m_int m_abs, PySem.W.mg_of X G a30, k30, F30.binds (ps := ["_law_table", "_law_right"]) fun _ _ _ _ _ _ us hl => match us, hl with | [_, _], _ => rfl⟩
    have c_shown_by : Cal l.prog w K mg base CX0 45 "shown_by" sp_shown_by := ⟨_, _, _, ok_shown_by F31 seer tree c_prices_by c_minus c_borne_rent c_whole c_is_less c_plus c_times m_zip c_NOUGHT, PySem.W.mg_of X G a31, k31, F31.binds (ps := ["found", "net", "base", "blocks", "weights"]) fun _ _ _ _ _ _ us hl => match us, hl with | [_, _, _, _, _], _ => rfl⟩
    have c__law_streams : Cal l.prog w K mg base CX0 45 "_law_streams" sp__law_streams := ⟨_, _, _, ok__law_streams F32 seer tree c__law_plus c__law_minus c__law_solved c__law_times m_range m_enumerate m_int, PySem.W.mg_of X G a32, k32, F32.binds (ps := ["_law_net_here", "_law_lost", "_law_puts"]) fun _ _ _ _ _ _ us hl => match us, hl with | [_, _, _], _ => rfl⟩
    have c__law_unit_streams : Cal l.prog w K mg base CX0 46 "_law_unit_streams" sp__law_unit_streams := ⟨_, _, _, ok__law_unit_streams F33 seer tree c__law_streams m_range m_int, PySem.W.mg_of X G a33, k33, F33.binds (ps := ["_law_net_here", "_law_lost"]) fun _ _ _ _ _ _ us hl => match us, hl with | [_, _], _ => rfl⟩
    have c_size_number_0 : Cal l.prog w K mg base CX0 42 "size_number" (spr_size_number 0) := ⟨_, _, _, ok0_size_number F34 seer tree, PySem.W.mg_of X G a34, k34, F34.binds (ps := ["table"]) fun _ _ _ _ _ _ us hl => match us, hl with | [_], _ => rfl⟩
    have c_size_number_1 : Cal l.prog w K mg base CX0 43 "size_number" (spr_size_number 1) := ⟨_, _, _, ok_size_number 0 (by decide) F34 seer tree c_without_place m_enumerate c_size_number_0, PySem.W.mg_of X G a34, k34, F34.binds (ps := ["table"]) fun _ _ _ _ _ _ us hl => match us, hl with | [_], _ => rfl⟩
    have c_size_number_2 : Cal l.prog w K mg base CX0 44 "size_number" (spr_size_number 2) := ⟨_, _, _, ok_size_number 1 (by decide) F34 seer tree c_without_place m_enumerate c_size_number_1, PySem.W.mg_of X G a34, k34, F34.binds (ps := ["table"]) fun _ _ _ _ _ _ us hl => match us, hl with | [_], _ => rfl⟩
    have c_size_number_3 : Cal l.prog w K mg base CX0 45 "size_number" (spr_size_number 3) := ⟨_, _, _, ok_size_number 2 (by decide) F34 seer tree c_without_place m_enumerate c_size_number_2, PySem.W.mg_of X G a34, k34, F34.binds (ps := ["table"]) fun _ _ _ _ _ _ us hl => match us, hl with | [_], _ => rfl⟩
    have c_size_number_4 : Cal l.prog w K mg base CX0 46 "size_number" (spr_size_number 4) := ⟨_, _, _, ok_size_number 3 (by decide) F34 seer tree c_without_place m_enumerate c_size_number_3, PySem.W.mg_of X G a34, k34, F34.binds (ps := ["table"]) fun _ _ _ _ _ _ us hl => match us, hl with | [_], _ => rfl⟩
    have c_size_number_5 : Cal l.prog w K mg base CX0 47 "size_number" (spr_size_number 5) := ⟨_, _, _, ok_size_number 4 (by decide) F34 seer tree c_without_place m_enumerate c_size_number_4, PySem.W.mg_of X G a34, k34, F34.binds (ps := ["table"]) fun _ _ _ _ _ _ us hl => match us, hl with | [_], _ => rfl⟩
    have c_size_number : Cal l.prog w K mg base CX0 47 "size_number" sp_size_number := c_size_number_5
    have c__law_prices : Cal l.prog w K mg base CX0 47 "_law_prices" sp__law_prices := ⟨_, _, _, ok__law_prices F35 seer tree c__law_unit_streams c__law_minus c__law_times m_range, PySem.W.mg_of X G a35, k35, F35.binds (ps := ["_law_net_here", "_law_weights_here"]) fun _ _ _ _ _ _ us hl => match us, hl with | [_, _], _ => rfl⟩
    have c_heights_of_units : Cal l.prog w K mg base CX0 48 "heights_of_units" sp_heights_of_units := ⟨_, _, _, ok_heights_of_units F36 seer tree c_stiff_table c_size_number c_without_place m_range, PySem.W.mg_of X G a36, k36, F36.binds (ps := ["many", "lines"]) fun _ _ _ _ _ _ us hl => match us, hl with | [_, _], _ => rfl⟩
    have c__law_shown : Cal l.prog w K mg base CX0 48 "_law_shown" sp__law_shown := ⟨_, _, _, ok__law_shown F37 seer tree c__law_prices c__law_minus c__law_plus c__law_times m_zip, PySem.W.mg_of X G a37, k37, F37.binds (ps := ["_law_net_here", "_law_ground", "_law_stock", "_law_weights_here"]) fun _ _ _ _ _ _ us hl => match us, hl with | [_, _, _, _], _ => rfl⟩
    have c_bearings_with : Cal l.prog w K mg base CX0 49 "bearings_with" sp_bearings_with := ⟨_, _, _, ok_bearings_with F38 seer tree c_heights_of_units c_Bearing___init__ m_range m_len, PySem.W.mg_of X G a38, k38, F38.binds (ps := ["net", "lost"]) fun _ _ _ _ _ _ us hl => match us, hl with | [_, _], _ => rfl⟩
    have c_bearings : Cal l.prog w K mg base CX0 50 "bearings" sp_bearings := ⟨_, _, _, ok_bearings F39 seer tree c_losable c_bearings_with c_NONE_LOST, PySem.W.mg_of X G a39, k39, F39.binds (ps := ["net"]) fun _ _ _ _ _ _ us hl => match us, hl with | [_], _ => rfl⟩
    have c_shown : Cal l.prog w K mg base CX0 51 "shown" sp_shown := ⟨_, _, _, ok_shown F40 seer tree c_shown_by c_bearings, PySem.W.mg_of X G a40, k40, F40.binds (ps := ["net", "base", "blocks", "weights"]) fun _ _ _ _ _ _ us hl => match us, hl with | [_, _, _, _], _ => rfl⟩
    have c_shown_at_nought : Cal l.prog w K mg base CX0 52 "shown_at_nought" sp_shown_at_nought := ⟨_, _, _, ok_shown_at_nought F41 seer tree c_shown c_at_nought, PySem.W.mg_of X G a41, k41, F41.binds (ps := ["net", "base", "blocks", "weights"]) fun _ _ _ _ _ _ us hl => match us, hl with | [_, _, _, _], _ => rfl⟩
    exact ok_law F42 seer tree c__law_bag c__law_net c__law_blocks c__law_base c__law_weights c__law_shown c_shown c_shown_at_nought m_range m_max m_min m_len m_list m_tuple⟩
end WL
open PySem PySem.W PyProof.Rows
set_option maxHeartbeats 0 in
theorem PySem.Challenge.cw_mainskeep_k31_what_weights_show_holds : PySem.Challenge.rw_mainskeep_k31_what_weights_show.Holds := by
  w_on; o_law; k_head; (case hw => w_witness2)
  k_fill
  refine WL.walk_deep (l := PySem.Challenge.rw_mainskeep_k31_what_weights_show) (n := 63) (k := 53) (x := "_law_script") (sp := fun w => WL.liftSp _ WL.sp_law) rfl (by decide) rfl ⟨rfl, by decide, by decide⟩ (by decide +kernel) (fun w h Y => PySem.W.kIn_of Y) ?F (fun _ _ _ _ hl hO hS => WL.law_sp hl hO hS)
  case F =>
    intro w mg fa h KX G hmg
    refine' WL.all_mk KX G rfl hmg ?a0 ?l0 ?c0 ?k0 ?a1 ?l1 ?c1 ?k1 ?a2 ?l2 ?c2 ?k2 ?a3 ?l3 ?c3 ?k3 ?a4 ?i4 ?l4 ?c4 ?k4 ?a5 ?l5 ?c5 ?k5 ?a6 ?l6 ?c6 ?k6 ?a7 ?l7 ?c7 ?k7 ?a8 ?l8 ?c8 ?k8 ?a9 ?l9 ?c9 ?k9 ?a10 ?l10 ?c10 ?k10 ?a11 ?l11 ?c11 ?k11 ?a12 ?l12 ?c12 ?k12 ?a13 ?l13 ?c13 ?k13 ?a14 ?l14 ?c14 ?k14 ?a15 ?l15 ?c15 ?k15 ?a16 ?l16 ?c16 ?k16 ?a17 ?l17 ?c17 ?k17 ?a18 ?l18 ?c18 ?k18 ?a19 ?l19 ?c19 ?k19 ?a20 ?l20 ?c20 ?k20 ?a21 ?l21 ?c21 ?k21 ?a22 ?l22 ?c22 ?k22 ?a23 ?l23 ?c23 ?k23 ?a24 ?l24 ?c24 ?k24 ?a25 ?l25 ?c25 ?k25 ?a26 ?l26 ?c26 ?k26 ?a27 ?l27 ?c27 ?k27 ?a28 ?l28 ?c28 ?k28 ?a29 ?l29 ?c29 ?k29 ?a30 ?l30 ?c30 ?k30 ?a31 ?l31 ?c31 ?k31 ?a32 ?l32 ?c32 ?k32 ?a33 ?l33 ?c33 ?k33 ?a34 ?l34 ?c34 ?k34 ?a35 ?l35 ?c35 ?k35 ?a36 ?l36 ?c36 ?k36 ?a37 ?l37 ?c37 ?k37 ?a38 ?l38 ?c38 ?k38 ?a39 ?l39 ?c39 ?k39 ?a40 ?l40 ?c40 ?k40 ?a41 ?l41 ?c41 ?k41 ?a42 ?l42 ?c42 ?k42 ?aC_Bearing ?pg_Bearing ?hd_Bearing ?po_Bearing ?sa_Bearing ?mk_Bearing ?kc_Bearing ?nf_Bearing_line ?nf_Bearing_lost ?nf_Bearing_most ?nf_Bearing_numbers ?nf_Bearing_scale ?z_abs ?z_enumerate ?z_int ?z_len ?z_list ?z_max ?z_min ?z_range ?z_sorted ?z_sum ?z_tuple ?z_zip ?g_NONE_LOST ?g_NOUGHT ?o_NOUGHT
    (case aC_Bearing => k_is); (case a0 => k_is); (case l0 => k_is); (case c0 => k_is); (case k0 => k_is); (case a1 => k_is); (case l1 => k_is); (case c1 => k_is); (case k1 => k_is); (case a2 => k_is); (case l2 => k_is); (case c2 => k_is); (case k2 => k_is); (case a3 => k_is); (case l3 => k_is); (case c3 => k_is); (case k3 => k_is); (case a4 => k_is); (case i4 => k_is); (case l4 => k_is); (case c4 => k_is); (case k4 => k_is); (case a5 => k_is); (case l5 => k_is); (case c5 => k_is); (case k5 => k_is); (case a6 => k_is); (case l6 => k_is); (case c6 => k_is); (case k6 => k_is); (case a7 => k_is); (case l7 => k_is); (case c7 => k_is); (case k7 => k_is); (case a8 => k_is); (case l8 => k_is); (case c8 => k_is); (case k8 => k_is); (case a9 => k_is); (case l9 => k_is); (case c9 => k_is); (case k9 => k_is); (case a10 => k_is); (case l10 => k_is); (case c10 => k_is); (case k10 => k_is); (case a11 => k_is); (case l11 => k_is); (case c11 => k_is); (case k11 => k_is); (case a12 => k_is); (case l12 => k_is); (case c12 => k_is); (case k12 => k_is); (case a13 => k_is); (case l13 => k_is); (case c13 => k_is); (case k13 => k_is); (case a14 => k_is); (case l14 => k_is); (case c14 => k_is); (case k14 => k_is); (case a15 => k_is); (case l15 => k_is); (case c15 => k_is); (case k15 => k_is); (case a16 => k_is); (case l16 => k_is); (case c16 => k_is); (case k16 => k_is); (case a17 => k_is); (case l17 => k_is); (case c17 => k_is); (case k17 => k_is); (case a18 => k_is); (case l18 => k_is); (case c18 => k_is); (case k18 => k_is); (case a19 => k_is); (case l19 => k_is); (case c19 => k_is); (case k19 => k_is); (case a20 => k_is); (case l20 => k_is); (case c20 => k_is); (case k20 => k_is); (case a21 => k_is); (case l21 => k_is); (case c21 => k_is); (case k21 => k_is); (case a22 => k_is); (case l22 => k_is); (case c22 => k_is); (case k22 => k_is); (case a23 => k_is); (case l23 => k_is); (case c23 => k_is); (case k23 => k_is); (case a24 => k_is); (case l24 => k_is); (case c24 => k_is); (case k24 => k_is); (case a25 => k_is); (case l25 => k_is); (case c25 => k_is); (case k25 => k_is); (case a26 => k_is); (case l26 => k_is); (case c26 => k_is); (case k26 => k_is); (case a27 => k_is); (case l27 => k_is); (case c27 => k_is); (case k27 => k_is); (case a28 => k_is); (case l28 => k_is); (case c28 => k_is); (case k28 => k_is); (case a29 => k_is); (case l29 => k_is); (case c29 => k_is); (case k29 => k_is); (case a30 => k_is); (case l30 => k_is); (case c30 => k_is); (case k30 => k_is); (case a31 => k_is); (case l31 => k_is); (case c31 => k_is); (case k31 => k_is); (case a32 => k_is); (case l32 => k_is); (case c32 => k_is); (case k32 => k_is); (case a33 => k_is); (case l33 => k_is); (case c33 => k_is); (case k33 => k_is); (case a34 => k_is); (case l34 => k_is); (case c34 => k_is); (case k34 => k_is); (case a35 => k_is); (case l35 => k_is); (case c35 => k_is); (case k35 => k_is); (case a36 => k_is); (case l36 => k_is); (case c36 => k_is); (case k36 => k_is); (case a37 => k_is); (case l37 => k_is); (case c37 => k_is); (case k37 => k_is); (case a38 => k_is); (case l38 => k_is); (case c38 => k_is); (case k38 => k_is); (case a39 => k_is); (case l39 => k_is); (case c39 => k_is); (case k39 => k_is); (case a40 => k_is); (case l40 => k_is); (case c40 => k_is); (case k40 => k_is); (case a41 => k_is); (case l41 => k_is); (case c41 => k_is); (case k41 => k_is); (case a42 => k_is); (case l42 => k_is); (case c42 => k_is); (case k42 => k_is); (case pg_Bearing => k_is); (case hd_Bearing => k_is); (case po_Bearing => k_is); (case sa_Bearing => k_is); (case mk_Bearing => k_is); (case kc_Bearing => k_is); (case nf_Bearing_line => k_is); (case nf_Bearing_lost => k_is); (case nf_Bearing_most => k_is); (case nf_Bearing_numbers => k_is); (case nf_Bearing_scale => k_is); (case z_abs => k_is); (case z_enumerate => k_is); (case z_int => k_is); (case z_len => k_is); (case z_list => k_is); (case z_max => k_is); (case z_min => k_is); (case z_range => k_is); (case z_sorted => k_is); (case z_sum => k_is); (case z_tuple => k_is); (case z_zip => k_is); (case g_NONE_LOST => k_is); (case g_NOUGHT => k_is); (case o_NOUGHT => k_is)
