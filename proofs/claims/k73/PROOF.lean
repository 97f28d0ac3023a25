import PyProof.Rows.All
import Wide.All
import OpenK.AllK
import Wide.FinOn
import HandS.ForMost
import HandS.ForExc
import HandS.Wide
import HandS.IsInst
import HandS.Walk
import PySem.Challenge.RW_mainskeep_k73_fractions_written
set_option Elab.async false
set_option linter.all false
set_option maxRecDepth 100000
set_option maxHeartbeats 4000000
/-! The layer of plain values: tuples and frozen lists by value, a small heap of what may still change. -/
namespace WL
open PySem PySem.Spec PyProof.Rows L2
inductive W where
  | non | bl (b : Bool) | int (i : Int) | str (x : Str)
  | tup (ws : List W) | lst (ws : List W) | scr (ws : List W) | ins (C : Addr) (fs : List (Str × W)) | ref (a : Addr) | ty (n : String)
inductive GO where
  | lst (ws : List W) | ins (C : Addr) (fs : List (Str × W))
abbrev Gp := Addr → Option GO
abbrev Zp := Addr → Prop
def gup (G : Gp) (a : Addr) (o : GO) : Gp := fun b => if b = a then some o else G b
def gdel (G : Gp) (a : Addr) : Gp := fun b => if b = a then none else G b
theorem gup_same {G : Gp} {a : Addr} {o : GO} : gup G a o a = some o := by unfold gup; rw [if_pos rfl]
theorem gup_ne {G : Gp} {a b : Addr} {o : GO} (h : b ≠ a) : gup G a o b = G b := by unfold gup; rw [if_neg h]
theorem gup_gup {G : Gp} {a : Addr} {o u : GO} : gup (gup G a o) a u = gup G a u := by funext b; unfold gup; split <;> rfl
theorem gdel_same {G : Gp} {a : Addr} : gdel G a a = none := by unfold gdel; rw [if_pos rfl]
theorem gdel_ne {G : Gp} {a b : Addr} (h : b ≠ a) : gdel G a b = G b := by unfold gdel; rw [if_neg h]
theorem gdel_gup {G : Gp} {a : Addr} {o : GO} (h : G a = none) : gdel (gup G a o) a = G := by
  funext b; unfold gdel gup
  by_cases e : b = a
  · rw [if_pos e, e, h]
  · rw [if_neg e, if_neg e]
theorem gup_self {G : Gp} {a : Addr} {o : GO} (h : G a = some o) : gup G a o = G := by
  funext b; unfold gup
  by_cases e : b = a
  · rw [if_pos e, e, h]
  · rw [if_neg e]
/-- a list that is not ours: the script -/
def SqF (K : PySem.W.Frag) (H : Hp) (p : Addr) (vs : List V) : Prop := (∃ o, H p = some (.frz o (.lst vs))) ∨ SqL K (fun _ => none) p vs
theorem SqF.sq {K : PySem.W.Frag} {H : Hp} {p : Addr} {vs : List V} (h : SqF K H p vs) : SqL K H p vs := by
  rcases h with h | (h | ⟨o, h⟩) | h
  · exact .inl (.inr h)
  · cases h
  · cases h
  · exact .inr h
mutual
inductive Rw (K : PySem.W.Frag) (Z : Zp) (H : Hp) : W → V → Prop
  | non : Rw K Z H .non .non
  | bl {b} : Rw K Z H (.bl b) (.bl b)
  | int {i} : Rw K Z H (.int i) (.int i)
  | str {x} : Rw K Z H (.str x) (.str x)
  | ref {a} : Rw K Z H (.ref a) (.ref a)
  | tup {p ws vs} : SqT K H p vs → RwL K Z H ws vs → Rw K Z H (.tup ws) (.ref p)
  | lst {p ws vs} : Z p → H p = some (.lst vs) → RwL K Z H ws vs → Rw K Z H (.lst ws) (.ref p)
  | scr {p ws vs} : SqF K H p vs → RwL K Z H ws vs → Rw K Z H (.scr ws) (.ref p)
  | ty {n} : Rw K Z H (.ty n) (.ty n)
  | ins {p C dx fs gs} : Z p → H p = some (.ins C dx gs) → RwF K Z H fs gs → Rw K Z H (.ins C fs) (.ref p)
inductive RwL (K : PySem.W.Frag) (Z : Zp) (H : Hp) : List W → List V → Prop
  | nil : RwL K Z H [] []
  | cons {w v ws vs} : Rw K Z H w v → RwL K Z H ws vs → RwL K Z H (w :: ws) (v :: vs)
inductive RwF (K : PySem.W.Frag) (Z : Zp) (H : Hp) : List (Str × W) → List (Str × V) → Prop
  | nil : RwF K Z H [] []
  | cons {f w v ws vs} : Rw K Z H w v → RwF K Z H ws vs → RwF K Z H ((f, w) :: ws) ((f, v) :: vs)
end
inductive Rgo (K : PySem.W.Frag) (Z : Zp) (H : Hp) : GO → HO → Prop
  | lst {ws vs} : RwL K Z H ws vs → Rgo K Z H (.lst ws) (.lst vs)
  | ins {C dx fs gs} : RwF K Z H fs gs → Rgo K Z H (.ins C fs) (.ins C dx gs)
structure HRel (K : PySem.W.Frag) (Z : Zp) (G : Gp) (H : Hp) : Prop where
  z : ∀ p, Z p → G p = none ∧ H p ≠ none
  g : ∀ p o, G p = some o → ∃ u, H p = some u ∧ Rgo K Z H o u
structure Ext (Z : Zp) (G : Gp) (H : Hp) (Z' : Zp) (G' : Gp) (H' : Hp) : Prop where
  z : ∀ p, Z p → Z' p
  f : ∀ p u, H p = some u → G p = none → H' p = some u ∧ G' p = none
theorem Ext.refl {Z : Zp} {G : Gp} {H : Hp} : Ext Z G H Z G H := ⟨fun _ h => h, fun _ _ h g => ⟨h, g⟩⟩
theorem Ext.trans {Z1 Z2 Z3 : Zp} {G1 G2 G3 : Gp} {H1 H2 H3 : Hp} (a : Ext Z1 G1 H1 Z2 G2 H2) (b : Ext Z2 G2 H2 Z3 G3 H3) : Ext Z1 G1 H1 Z3 G3 H3 :=
  ⟨fun p h => b.z p (a.z p h), fun p u h g => let ⟨x, y⟩ := a.f p u h g; b.f p u x y⟩
section
variable {K : PySem.W.Frag} {Z Z' : Zp} {G G' : Gp} {H H' : Hp}
theorem HRel.nog (h : HRel K Z G H) {p : Addr} {u : HO} (e : H p = some u) (n : ∀ o, ¬ Rgo K Z H o u) : G p = none := by
  cases q : G p with
  | none => rfl
  | some o =>
    obtain ⟨u', e', r⟩ := h.g p o q
    rw [e] at e'; cases e'
    exact absurd r (n o)
theorem HRel.fresh (h : HRel K Z G H) {p : Addr} (e : H p = none) : G p = none := by
  cases q : G p with
  | none => rfl
  | some o =>
    obtain ⟨u', e', r⟩ := h.g p o q
    rw [e] at e'; cases e'
theorem HRel.freshZ (h : HRel K Z G H) {p : Addr} (e : H p = none) : ¬ Z p := fun z => (h.z p z).2 e
theorem SqT.ext {p : Addr} {vs : List V} (h : HRel K Z G H) (x : Ext Z G H Z' G' H') (s : SqT K H p vs) : SqT K H' p vs := by
  rcases s with (s | ⟨o, s⟩) | s
  · exact .inl (.inl (x.f p _ s (h.nog s fun o r => by cases r)).1)
  · exact .inl (.inr ⟨o, (x.f p _ s (h.nog s fun o r => by cases r)).1⟩)
  · exact .inr s
theorem SqF.ext {p : Addr} {vs : List V} (h : HRel K Z G H) (x : Ext Z G H Z' G' H') (s : SqF K H p vs) : SqF K H' p vs := by
  rcases s with ⟨o, s⟩ | s
  · exact .inl ⟨o, (x.f p _ s (h.nog s fun o r => by cases r)).1⟩
  · exact .inr s
mutual
theorem Rw.ext (h : HRel K Z G H) (x : Ext Z G H Z' G' H') : ∀ {w : W} {v : V}, Rw K Z H w v → Rw K Z' H' w v
  | _, _, .non => .non
  | _, _, .bl => .bl
  | _, _, .int => .int
  | _, _, .str => .str
  | _, _, .ref => .ref
  | _, _, .tup s r => .tup (SqT.ext h x s) (RwL.ext h x r)
  | _, _, .lst z e r => .lst (x.z _ z) (x.f _ _ e (h.z _ z).1).1 (RwL.ext h x r)
  | _, _, .scr s r => .scr (SqF.ext h x s) (RwL.ext h x r)
  | _, _, .ty => .ty
  | _, _, .ins z e r => .ins (x.z _ z) (x.f _ _ e (h.z _ z).1).1 (RwF.ext h x r)
theorem RwL.ext (h : HRel K Z G H) (x : Ext Z G H Z' G' H') : ∀ {ws : List W} {vs : List V}, RwL K Z H ws vs → RwL K Z' H' ws vs
  | _, _, .nil => .nil
  | _, _, .cons r t => .cons (Rw.ext h x r) (RwL.ext h x t)
theorem RwF.ext (h : HRel K Z G H) (x : Ext Z G H Z' G' H') : ∀ {ws : List (Str × W)} {vs : List (Str × V)}, RwF K Z H ws vs → RwF K Z' H' ws vs
  | _, _, .nil => .nil
  | _, _, .cons r t => .cons (Rw.ext h x r) (RwF.ext h x t)
end
theorem Rgo.ext (h : HRel K Z G H) (x : Ext Z G H Z' G' H') {o : GO} {u : HO} (r : Rgo K Z H o u) : Rgo K Z' H' o u := by
  cases r with
  | lst r => exact .lst (r.ext h x)
  | ins r => exact .ins (r.ext h x)
theorem RwL.length : ∀ {ws : List W} {vs : List V}, RwL K Z H ws vs → ws.length = vs.length
  | _, _, .nil => rfl
  | _, _, .cons _ t => by rw [List.length_cons, List.length_cons, RwL.length t]
theorem RwL.get : ∀ {ws : List W} {vs : List V} (i : Nat) {w : W}, RwL K Z H ws vs → ws[i]? = some w → ∃ v, vs[i]? = some v ∧ Rw K Z H w v
  | _, _, _, _, .nil, e => by simp at e
  | _, _, 0, _, .cons r _, e => by simp at e; subst e; exact ⟨_, rfl, r⟩
  | _, _, i + 1, w, .cons _ t, e => by
    obtain ⟨v, h1, h2⟩ := RwL.get i (w := w) t (by simpa using e)
    exact ⟨v, by simpa using h1, h2⟩
theorem RwL.get' : ∀ {ws : List W} {vs : List V} (i : Nat) {v : V}, RwL K Z H ws vs → vs[i]? = some v → ∃ w, ws[i]? = some w ∧ Rw K Z H w v
  | _, _, _, _, .nil, e => by simp at e
  | _, _, 0, _, .cons r _, e => by simp at e; subst e; exact ⟨_, rfl, r⟩
  | _, _, i + 1, w, .cons _ t, e => by
    obtain ⟨v, h1, h2⟩ := RwL.get' i t (by simpa using e)
    exact ⟨v, by simpa using h1, h2⟩
theorem RwL.append : ∀ {ws ws' : List W} {vs vs' : List V}, RwL K Z H ws vs → RwL K Z H ws' vs' → RwL K Z H (ws ++ ws') (vs ++ vs')
  | _, _, _, _, .nil, s => s
  | _, _, _, _, .cons r t, s => .cons r (RwL.append t s)
theorem RwL.set {w : W} {v : V} (r : Rw K Z H w v) : ∀ {ws : List W} {vs : List V} (i : Nat), RwL K Z H ws vs → RwL K Z H (ws.set i w) (vs.set i v)
  | _, _, _, .nil => .nil
  | _, _, 0, .cons _ t => .cons r t
  | _, _, i + 1, .cons q t => .cons q (RwL.set r i t)
theorem RwL.take : ∀ {ws : List W} {vs : List V} (n : Nat), RwL K Z H ws vs → RwL K Z H (ws.take n) (vs.take n)
  | _, _, 0, _ => .nil
  | _, _, _ + 1, .nil => .nil
  | _, _, n + 1, .cons r t => .cons r (RwL.take n t)
theorem RwL.drop : ∀ {ws : List W} {vs : List V} (n : Nat), RwL K Z H ws vs → RwL K Z H (ws.drop n) (vs.drop n)
  | _, _, 0, r => r
  | _, _, _ + 1, .nil => .nil
  | _, _, n + 1, .cons _ t => RwL.drop n t
theorem RwL.dropLast : ∀ {ws : List W} {vs : List V}, RwL K Z H ws vs → RwL K Z H ws.dropLast vs.dropLast
  | _, _, .nil => .nil
  | _, _, .cons _ .nil => .nil
  | _, _, .cons r (.cons r2 t) => .cons r (RwL.dropLast (.cons r2 t))
theorem RwL.reverse : ∀ {ws : List W} {vs : List V}, RwL K Z H ws vs → RwL K Z H ws.reverse vs.reverse
  | _, _, .nil => .nil
  | _, _, .cons r t => by rw [List.reverse_cons, List.reverse_cons]; exact (RwL.reverse t).append (.cons r .nil)
theorem RwL.ints : ∀ (ns : List Int), RwL K Z H (ns.map W.int) (ns.map V.int)
  | [] => .nil
  | _ :: ns => .cons .int (RwL.ints ns)
theorem RwF.get : ∀ {ws : List (Str × W)} {vs : List (Str × V)} {f : Str} {w : W}, RwF K Z H ws vs → ws.lookup f = some w → ∃ v, vs.lookup f = some v ∧ Rw K Z H w v
  | _, _, _, _, .nil, e => by simp [List.lookup] at e
  | _, _, f, w, .cons (f := g) r t, e => by
    rw [List.lookup_cons] at e ⊢
    cases q : f == g with
    | true => rw [q] at e; simp only [Option.some.injEq] at e; subst e; exact ⟨_, rfl, r⟩
    | false => rw [q] at e; exact RwF.get t e
theorem RwF.none : ∀ {ws : List (Str × W)} {vs : List (Str × V)} {f : Str}, RwF K Z H ws vs → ws.lookup f = none → vs.lookup f = none
  | _, _, _, .nil, _ => rfl
  | _, _, f, .cons (f := g) r t, e => by
    rw [List.lookup_cons] at e ⊢
    cases q : f == g with
    | true => rw [q] at e; cases e
    | false => rw [q] at e; exact RwF.none t e
theorem RwF.length : ∀ {ws : List (Str × W)} {vs : List (Str × V)}, RwF K Z H ws vs → ws.length = vs.length
  | _, _, .nil => rfl
  | _, _, .cons _ t => by rw [List.length_cons, List.length_cons, RwF.length t]
end
/-! ### the names' values: none: not known -/
abbrev SW := List (Option W)
abbrev SV := L2.St
inductive RwS (K : PySem.W.Frag) (Z : Zp) (H : Hp) : SW → SV → Prop
  | nil : RwS K Z H [] []
  | skip {v ws vs} : RwS K Z H ws vs → RwS K Z H (Option.none :: ws) (v :: vs)
  | cons {w v ws vs} : Rw K Z H w v → RwS K Z H ws vs → RwS K Z H (some w :: ws) (some v :: vs)
def slot : SW → Nat → Option W
  | [], _ => none
  | a :: _, 0 => a
  | _ :: l, i + 1 => slot l i
def sset : SW → Nat → W → SW
  | [], _, _ => []
  | _ :: l, 0, w => some w :: l
  | a :: l, i + 1, w => a :: sset l i w
/-- the names of a list of places are forgotten -/
def skill : SW → List Bool → SW
  | a :: l, true :: ks => none :: skill l ks
  | a :: l, false :: ks => a :: skill l ks
  | l, _ => l
section
variable {K : PySem.W.Frag} {Z Z' : Zp} {G G' : Gp} {H H' : Hp}
theorem RwS.ext (h : HRel K Z G H) (x : Ext Z G H Z' G' H') : ∀ {ws : SW} {vs : SV}, RwS K Z H ws vs → RwS K Z' H' ws vs
  | _, _, .nil => .nil
  | _, _, .skip t => .skip (RwS.ext h x t)
  | _, _, .cons r t => .cons (r.ext h x) (RwS.ext h x t)
theorem RwS.get : ∀ {ws : SW} {vs : SV} (i : Nat) {w : W}, RwS K Z H ws vs → slot ws i = some w → ∃ v, vs[i]? = some (some v) ∧ Rw K Z H w v
  | _, _, _, _, .nil, e => by simp [slot] at e
  | _, _, 0, _, .skip _, e => by simp [slot] at e
  | _, _, 0, _, .cons r _, e => by simp [slot] at e; subst e; exact ⟨_, rfl, r⟩
  | _, _, i + 1, w, .skip t, e => by
    obtain ⟨v, h1, h2⟩ := RwS.get i (w := w) t (by simpa [slot] using e)
    exact ⟨v, by simpa using h1, h2⟩
  | _, _, i + 1, w, .cons _ t, e => by
    obtain ⟨v, h1, h2⟩ := RwS.get i (w := w) t (by simpa [slot] using e)
    exact ⟨v, by simpa using h1, h2⟩
theorem RwS.set {w : W} {v : V} (r : Rw K Z H w v) : ∀ {ws : SW} {vs : SV} (i : Nat), RwS K Z H ws vs → RwS K Z H (sset ws i w) (vs.set i (some v))
  | _, _, _, .nil => .nil
  | _, _, 0, .skip t => .cons r t
  | _, _, 0, .cons _ t => .cons r t
  | _, _, i + 1, .skip t => .skip (RwS.set r i t)
  | _, _, i + 1, .cons q t => .cons q (RwS.set r i t)
theorem RwS.kill : ∀ {ws : SW} {vs : SV} (ks : List Bool), RwS K Z H ws vs → RwS K Z H (skill ws ks) vs
  | _, _, [], .nil => .nil
  | _, _, [], .skip t => .skip t
  | _, _, [], .cons r t => .cons r t
  | _, _, true :: _, .nil => .nil
  | _, _, false :: _, .nil => .nil
  | _, _, true :: ks, .skip t => .skip (RwS.kill ks t)
  | _, _, true :: ks, .cons _ t => .skip (RwS.kill ks t)
  | _, _, false :: ks, .skip t => .skip (RwS.kill ks t)
  | _, _, false :: ks, .cons r t => .cons r (RwS.kill ks t)
end
def startW (N : List Str) (ws : List W) : SW := ws.map some ++ List.replicate (N.length - ws.length) none
section
variable {K : PySem.W.Frag} {Z : Zp} {H : Hp}
theorem RwS.repl : ∀ (n : Nat), RwS K Z H (List.replicate n none) (List.replicate n none)
  | 0 => .nil
  | n + 1 => by rw [List.replicate_succ, List.replicate_succ]; exact .skip (RwS.repl n)
theorem RwS.app : ∀ {ws : List W} {vs : List V} {s : SW} {t : SV}, RwL K Z H ws vs → RwS K Z H s t → RwS K Z H (ws.map some ++ s) (vs.map some ++ t)
  | _, _, _, _, .nil, r => r
  | _, _, _, _, .cons a b, r => .cons a (RwS.app b r)
theorem RwS.start {N : List Str} {ws : List W} {vs : List V} (r : RwL K Z H ws vs) : RwS K Z H (startW N ws) (L2.start N vs) := by
  unfold startW L2.start
  rw [r.length]
  exact RwS.app r (RwS.repl _)
end
end WL

namespace WL
open PySem PySem.Spec PyProof.Rows L2
abbrev QW := W → Gp → Prop
abbrev TEw := SW → Gp → QW → Prop
abbrev TTw := SW → Gp → (Bool → Gp → Prop) → Prop
abbrev TAw := SW → Gp → (List W → Gp → Prop) → Prop
abbrev TGw := W → SW → Gp → (SW → Gp → Prop) → Prop
abbrev TGsw := List W → SW → Gp → (SW → Gp → Prop) → Prop
structure EndsW where
  nx : SW → Gp → Prop
  rt : QW
  bk : SW → Gp → Prop := fun _ _ => False
  ct : SW → Gp → Prop := fun _ _ => False
abbrev TSw := EndsW → SW → Gp → Prop
/-- what the small heap wants behind a step is what the great one wants -/
def KE (K : PySem.W.Frag) (Z : Zp) (G : Gp) (H : Hp) (Qw : QW) (Q : VK) : Prop := ∀ Z' G' H' w v, Ext Z G H Z' G' H' → HRel K Z' G' H' → Rw K Z' H' w v → Qw w G' → Q v H'
def KS (K : PySem.W.Frag) (Z : Zp) (G : Gp) (H : Hp) (Qw : SW → Gp → Prop) (Q : SV → Hp → Prop) : Prop := ∀ Z' G' H' σ' σ, Ext Z G H Z' G' H' → HRel K Z' G' H' → RwS K Z' H' σ' σ → Qw σ' G' → Q σ H'
structure EndsR (K : PySem.W.Frag) (Z : Zp) (G : Gp) (H : Hp) (Dw : EndsW) (D : Ends) : Prop where
  nx : KS K Z G H Dw.nx D.nx
  rt : KE K Z G H Dw.rt D.rt
  bk : KS K Z G H Dw.bk D.bk
  ct : KS K Z G H Dw.ct D.ct
def liftE (K : PySem.W.Frag) (t : TEw) : TE := fun σ H Q => ∃ Z σ' G Qw, RwS K Z H σ' σ ∧ HRel K Z G H ∧ t σ' G Qw ∧ KE K Z G H Qw Q
def liftT (K : PySem.W.Frag) (t : TTw) : TT := fun σ H Q => ∃ Z σ' G Qw, RwS K Z H σ' σ ∧ HRel K Z G H ∧ t σ' G Qw ∧ ∀ Z' G' H' b, Ext Z G H Z' G' H' → HRel K Z' G' H' → Qw b G' → Q b H'
def liftA (K : PySem.W.Frag) (t : TAw) : TA := fun σ H Q => ∃ Z σ' G Qw, RwS K Z H σ' σ ∧ HRel K Z G H ∧ t σ' G Qw ∧ ∀ Z' G' H' ws vs, Ext Z G H Z' G' H' → HRel K Z' G' H' → RwL K Z' H' ws vs → Qw ws G' → Q vs H'
def liftG (K : PySem.W.Frag) (t : TGw) : TG := fun v σ H Q => ∃ Z σ' G w Qw, RwS K Z H σ' σ ∧ HRel K Z G H ∧ Rw K Z H w v ∧ t w σ' G Qw ∧ KS K Z G H Qw Q
def liftGs (K : PySem.W.Frag) (t : TGsw) : TGs := fun vs σ H Q => ∃ Z σ' G ws Qw, RwS K Z H σ' σ ∧ HRel K Z G H ∧ RwL K Z H ws vs ∧ t ws σ' G Qw ∧ KS K Z G H Qw Q
def liftS (K : PySem.W.Frag) (t : TSw) : TS := fun D σ H => ∃ Z σ' G Dw, RwS K Z H σ' σ ∧ HRel K Z G H ∧ t Dw σ' G ∧ EndsR K Z G H Dw D
def PEw (X : Cx) (e : Expr) (t : TEw) : Prop := PE X e (liftE X.K t)
def PTw (X : Cx) (e : Expr) (t : TTw) : Prop := PT X e (liftT X.K t)
def PWw (X : Cx) (e : Expr) (t : TTw) : Prop := PW X e (liftT X.K t)
def PAw (X : Cx) (es : List Expr) (t : TAw) : Prop := PA X es (liftA X.K t)
def PGw (X : Cx) (e : Expr) (t : TGw) : Prop := PG X e (liftG X.K t)
def PGsw (X : Cx) (es : List Expr) (t : TGsw) : Prop := PGs X es (liftGs X.K t)
def PSw (X : Cx) (st : Stmt) (t : TSw) : Prop := PS X st (liftS X.K t)
def PSsw (X : Cx) (st : List Stmt) (t : TSw) : Prop := PSs X st (liftS X.K t)
section
variable {X : Cx}
theorem PE.imp {e : Expr} {t t' : TE} (h : PE X e t) (i : ∀ σ H Q, t' σ H Q → t σ H Q) : PE X e t' := ⟨fun pins s σ H Q I q => h.run pins s σ H Q I (i _ _ _ q)⟩
theorem PT.imp {e : Expr} {t t' : TT} (h : PT X e t) (i : ∀ σ H Q, t' σ H Q → t σ H Q) : PT X e t' := ⟨fun pins s σ H Q I q => h.run pins s σ H Q I (i _ _ _ q)⟩
theorem PW.imp {e : Expr} {t t' : TT} (h : PW X e t) (i : ∀ σ H Q, t' σ H Q → t σ H Q) : PW X e t' := ⟨fun whole pins s σ H Q I q => h.run whole pins s σ H Q I (i _ _ _ q)⟩
theorem PA.imp {es : List Expr} {t t' : TA} (h : PA X es t) (i : ∀ σ H Q, t' σ H Q → t σ H Q) : PA X es t' := ⟨fun pos pins s σ H Q I q => h.run pos pins s σ H Q I (i _ _ _ q)⟩
theorem PS.imp {st : Stmt} {t t' : TS} (h : PS X st t) (i : ∀ D σ H, t' D σ H → t D σ H) : PS X st t' := ⟨fun pins s σ H D I q => h.run pins s σ H D I (i _ _ _ q)⟩
theorem PSs.imp {st : List Stmt} {t t' : TS} (h : PSs X st t) (i : ∀ D σ H, t' D σ H → t D σ H) : PSs X st t' := ⟨fun pins s σ H D I q => h.run pins s σ H D I (i _ _ _ q)⟩
theorem PG.imp {e : Expr} {t t' : TG} (h : PG X e t) (i : ∀ v σ H Q, t' v σ H Q → t v σ H Q) : PG X e t' := ⟨fun pins s σ H v u Q I r q => h.run pins s σ H v u Q I r (i _ _ _ _ q)⟩
theorem PGs.imp {e : List Expr} {t t' : TGs} (h : PGs X e t) (i : ∀ v σ H Q, t' v σ H Q → t v σ H Q) : PGs X e t' := ⟨fun pins s σ H v u Q I r q => h.run pins s σ H v u Q I r (i _ _ _ _ q)⟩
end
section
variable {K : PySem.W.Frag} {Z Z' : Zp} {G G' : Gp} {H H' : Hp}
theorem KE.mono {Qw : QW} {Q : VK} (k : KE K Z G H Qw Q) (x : Ext Z G H Z' G' H') : KE K Z' G' H' Qw Q := fun Z2 G2 H2 w v x2 => k Z2 G2 H2 w v (x.trans x2)
theorem KS.mono {Qw : SW → Gp → Prop} {Q : SV → Hp → Prop} (k : KS K Z G H Qw Q) (x : Ext Z G H Z' G' H') : KS K Z' G' H' Qw Q := fun Z2 G2 H2 w v x2 => k Z2 G2 H2 w v (x.trans x2)
theorem EndsR.mono {Dw : EndsW} {D : Ends} (k : EndsR K Z G H Dw D) (x : Ext Z G H Z' G' H') : EndsR K Z' G' H' Dw D := ⟨k.nx.mono x, k.rt.mono x, k.bk.mono x, k.ct.mono x⟩
theorem KE.at {Qw : QW} {Q : VK} (k : KE K Z G H Qw Q) (h : HRel K Z G H) {w : W} {v : V} (r : Rw K Z H w v) (q : Qw w G) : Q v H := k Z G H w v Ext.refl h r q
/-- something new is laid: untracked by the small heap -/
theorem Ext.laid (h : HRel K Z G H) {p : Addr} {o : HO} (n : H p = none) : Ext Z G H Z G (upd H p o) :=
  ⟨fun _ z => z, fun q u e g => ⟨by rw [upd_ne (ne_of_none e n)]; exact e, g⟩⟩
theorem HRel.laid (h : HRel K Z G H) {p : Addr} {o : HO} (n : H p = none) : HRel K Z G (upd H p o) := by
  have x : Ext Z G H Z G (upd H p o) := Ext.laid h n
  refine ⟨fun q z => ⟨(h.z q z).1, ?_⟩, fun q g e => ?_⟩
  · by_cases e : q = p
    · rw [e, upd_same]; simp
    · rw [upd_ne e]; exact (h.z q z).2
  · obtain ⟨u, e', r⟩ := h.g q g e
    exact ⟨u, by rw [upd_ne (ne_of_none e' n)]; exact e', r.ext h x⟩
/-- what is laid and tracked -/
theorem HRel.track (h : HRel K Z G H) {p : Addr} {o : GO} {u : HO} (e : H p = some u) (nz : ¬ Z p) (r : Rgo K Z H o u) : HRel K Z (gup G p o) H := by
  refine ⟨fun q z => ⟨?_, (h.z q z).2⟩, fun q g e' => ?_⟩
  · rw [gup_ne (show q ≠ p from fun c => nz (by rw [← c]; exact z))]; exact (h.z q z).1
  · by_cases c : q = p
    · rw [c, gup_same] at e'; cases e'; exact ⟨u, c ▸ e, r⟩
    · rw [gup_ne c] at e'; exact h.g q g e'
/-- frozen: read as a value from now on -/
theorem HRel.freeze (h : HRel K Z G H) {p : Addr} (e : H p ≠ none) : HRel K (fun q => Z q ∨ q = p) (gdel G p) H ∧ Ext Z G H (fun q => Z q ∨ q = p) (gdel G p) H := by
  have x : Ext Z G H (fun q => Z q ∨ q = p) (gdel G p) H := ⟨fun q z => .inl z, fun q u e g => ⟨e, by
    unfold gdel; split
    · rfl
    · exact g⟩⟩
  refine ⟨⟨fun q z => ?_, fun q g e' => ?_⟩, x⟩
  · rcases z with z | z
    · refine ⟨?_, (h.z q z).2⟩
      unfold gdel; split
      · rfl
      · exact (h.z q z).1
    · subst z; exact ⟨gdel_same, e⟩
  · have e2 : G q = some g := by
      by_cases c : q = p
      · rw [c, gdel_same] at e'; cases e'
      · rw [gdel_ne c] at e'; exact e'
    obtain ⟨u, e3, r⟩ := h.g q g e2
    exact ⟨u, e3, r.ext h x⟩
theorem HRel.freezeN (h : HRel K Z G H) {p : Addr} (e : H p ≠ none) (g : G p = none) : HRel K (fun q => Z q ∨ q = p) G H ∧ Ext Z G H (fun q => Z q ∨ q = p) G H := by
  have q := h.freeze e
  have e2 : gdel G p = G := by
    funext b; unfold gdel; split
    · rename_i c; rw [c, g]
    · rfl
  rw [e2] at q
  exact q
theorem new_tup (h : HRel K Z G H) {p : Addr} {ws : List W} {vs : List V} (n : H p = none) (r : RwL K Z H ws vs) :
    HRel K Z G (upd H p (.tup vs)) ∧ Ext Z G H Z G (upd H p (.tup vs)) ∧ Rw K Z (upd H p (.tup vs)) (.tup ws) (.ref p) :=
  ⟨h.laid n, Ext.laid h n, .tup (.inl (.inl upd_same)) (r.ext h (Ext.laid h n))⟩
theorem new_lst (h : HRel K Z G H) {p : Addr} {ws : List W} {vs : List V} (n : H p = none) (r : RwL K Z H ws vs) :
    G p = none ∧ HRel K Z (gup G p (.lst ws)) (upd H p (.lst vs)) ∧ Ext Z G H Z (gup G p (.lst ws)) (upd H p (.lst vs)) := by
  have x : Ext Z G H Z G (upd H p (.lst vs)) := Ext.laid h n
  refine ⟨h.fresh n, (h.laid n).track upd_same (h.freshZ n) (.lst (r.ext h x)), ⟨fun _ z => z, fun q u e g => ?_⟩⟩
  have c : q ≠ p := ne_of_none e n
  exact ⟨by rw [upd_ne c]; exact e, by rw [gup_ne c]; exact g⟩
theorem new_frz (h : HRel K Z G H) {p : Addr} {ws : List W} {vs : List V} (n : H p = none) (r : RwL K Z H ws vs) :
    HRel K (fun q => Z q ∨ q = p) G (upd H p (.lst vs)) ∧ Ext Z G H (fun q => Z q ∨ q = p) G (upd H p (.lst vs)) ∧ Rw K (fun q => Z q ∨ q = p) (upd H p (.lst vs)) (.lst ws) (.ref p) := by
  have x : Ext Z G H Z G (upd H p (.lst vs)) := Ext.laid h n
  have h1 := h.laid (o := .lst vs) n
  obtain ⟨h2, x2⟩ := h1.freezeN (p := p) (by rw [upd_same]; simp) (h.fresh n)
  exact ⟨h2, x.trans x2, .lst (.inr rfl) upd_same ((r.ext h x).ext h1 x2)⟩
/-- a list that stands in the small heap is changed -/
theorem chg_lst (h : HRel K Z G H) {p : Addr} {ws ws' : List W} {vs' : List V} (e : G p = some (.lst ws)) (r : RwL K Z H ws' vs') :
    HRel K Z (gup G p (.lst ws')) (upd H p (.lst vs')) ∧ Ext Z G H Z (gup G p (.lst ws')) (upd H p (.lst vs')) := by
  have x : Ext Z G H Z (gup G p (.lst ws')) (upd H p (.lst vs')) := ⟨fun _ z => z, fun q u e' g => by
    have c : q ≠ p := fun c => by rw [c, e] at g; cases g
    exact ⟨by rw [upd_ne c]; exact e', by rw [gup_ne c]; exact g⟩⟩
  refine ⟨⟨fun q z => ?_, fun q g e' => ?_⟩, x⟩
  · have c : q ≠ p := fun c => by
      have := (h.z q z).1
      rw [c, e] at this; cases this
    exact ⟨by rw [gup_ne c]; exact (h.z q z).1, by rw [upd_ne c]; exact (h.z q z).2⟩
  · by_cases c : q = p
    · rw [c, gup_same] at e'; cases e'
      exact ⟨_, by rw [c]; exact upd_same, .lst (r.ext h x)⟩
    · rw [gup_ne c] at e'
      obtain ⟨u, e2, r2⟩ := h.g q g e'
      exact ⟨u, by rw [upd_ne c]; exact e2, r2.ext h x⟩
theorem HRel.lst (h : HRel K Z G H) {p : Addr} {ws : List W} (e : G p = some (.lst ws)) : ∃ vs, H p = some (.lst vs) ∧ RwL K Z H ws vs := by
  obtain ⟨u, e', r⟩ := h.g p _ e
  cases r with
  | lst r => exact ⟨_, e', r⟩
/-- what is read as a list: frozen, or in the small heap -/
def asL (G : Gp) : W → Option (List W)
  | .lst ws => some ws
  | .scr ws => some ws
  | .ref p => match G p with
    | some (.lst ws) => some ws
    | _ => none
  | _ => none
theorem asL_sq (h : HRel K Z G H) {w : W} {v : V} {ws : List W} (r : Rw K Z H w v) (e : asL G w = some ws) : ∃ p vs, v = .ref p ∧ SqL K H p vs ∧ RwL K Z H ws vs := by
  cases r with
  | lst _ s t => simp only [asL, Option.some.injEq] at e; subst e; exact ⟨_, _, rfl, SqL.of s, t⟩
  | scr s t => simp only [asL, Option.some.injEq] at e; subst e; exact ⟨_, _, rfl, s.sq, t⟩
  | @ref a =>
    simp only [asL] at e
    cases q : G a with
    | none => rw [q] at e; cases e
    | some o =>
      rw [q] at e
      cases o with
      | lst us =>
        simp only [Option.some.injEq] at e; subst e
        obtain ⟨vs, e', t⟩ := h.lst q
        exact ⟨_, _, rfl, SqL.of e', t⟩
      | ins _ _ => cases e
  | _ => cases e
end
/-! ### two values and one -/
abbrev RW2 := W → W → Gp → QW → Prop
def Sim2 (K : PySem.W.Frag) (r : R2) (wr : RW2) : Prop := ∀ Z G H x y v u Qw Q, HRel K Z G H → Rw K Z H x v → Rw K Z H y u → wr x y G Qw → KE K Z G H Qw Q → r v u H Q
def Sim1 (K : PySem.W.Frag) (r : V → Hp → VK → Prop) (wr : W → Gp → QW → Prop) : Prop := ∀ Z G H x v Qw Q, HRel K Z G H → Rw K Z H x v → wr x G Qw → KE K Z G H Qw Q → r v H Q
def SimN (K : PySem.W.Frag) (r : List V → Hp → VK → Prop) (wr : List W → Gp → QW → Prop) : Prop := ∀ Z G H ws vs Qw Q, HRel K Z G H → RwL K Z H ws vs → wr ws G Qw → KE K Z G H Qw Q → r vs H Q
def wOp (wr : RW2) (ta tb : TEw) : TEw := fun σ G Q => ta σ G fun x G1 => tb σ G1 fun y G2 => wr x y G2 Q
def wUn (wr : W → Gp → QW → Prop) (ta : TEw) : TEw := fun σ G Q => ta σ G fun x G1 => wr x G1 Q
def wCB (wr : List W → Gp → QW → Prop) (t : TAw) : TEw := fun σ G Q => t σ G fun ws G1 => wr ws G1 Q
/-- it is there, and then -/
def isS {α : Type} (o : Option α) (P : α → Prop) : Prop := match o with
  | some w => P w
  | none => False
theorem isS_some {α : Type} {a : α} {P : α → Prop} : isS (some a) P = P a := rfl
theorem isS_ex {α : Type} {o : Option α} {P : α → Prop} (h : isS o P) : ∃ w, o = some w ∧ P w := by
  cases o with
  | none => exact h.elim
  | some w => exact ⟨w, rfl, h⟩
/-- a list of the small heap -/
def isG (o : Option GO) (P : List W → Prop) : Prop := match o with
  | some (.lst ws) => P ws
  | _ => False
theorem isG_lst {ws : List W} {P : List W → Prop} : isG (some (.lst ws)) P = P ws := rfl
theorem isG_ex {o : Option GO} {P : List W → Prop} (h : isG o P) : ∃ ws, o = some (.lst ws) ∧ P ws := by
  cases o with
  | none => exact h.elim
  | some g =>
    cases g with
    | lst ws => exact ⟨ws, rfl, h⟩
    | ins _ _ => exact h.elim
def wVar (i : Nat) : TEw := fun σ G Q => isS (slot σ i) fun w => Q w G
def wC (w : W) : TEw := fun _ G Q => Q w G
def wNil : TAw := fun _ G Q => Q [] G
def wCons (ta : TEw) (t : TAw) : TAw := fun σ G Q => ta σ G fun x G1 => t σ G1 fun xs G2 => Q (x :: xs) G2
section
variable {X : Cx} {K : PySem.W.Frag}
theorem lift2 {r : R2} {wr : RW2} (hs : Sim2 K r wr) {ta tb : TEw} {σ : SV} {H : Hp} {Q : VK} (h : liftE K (wOp wr ta tb) σ H Q) : tOp r (liftE K ta) (liftE K tb) σ H Q := by
  obtain ⟨Z, σ', G, Qw, e, hr, t, k⟩ := h
  refine ⟨Z, σ', G, _, e, hr, t, fun Z1 G1 H1 x v x1 h1 r1 t1 => ?_⟩
  refine ⟨Z1, σ', G1, _, e.ext hr x1, h1, t1, fun Z2 G2 H2 y u x2 h2 r2 t2 => ?_⟩
  exact hs Z2 G2 H2 x y v u Qw Q h2 (r1.ext h1 x2) r2 t2 (k.mono (x1.trans x2))
theorem lift1 {r : V → Hp → VK → Prop} {wr : W → Gp → QW → Prop} (hs : Sim1 K r wr) {ta : TEw} {σ : SV} {H : Hp} {Q : VK} (h : liftE K (wUn wr ta) σ H Q) : tUn r (liftE K ta) σ H Q := by
  obtain ⟨Z, σ', G, Qw, e, hr, t, k⟩ := h
  exact ⟨Z, σ', G, _, e, hr, t, fun Z1 G1 H1 x v x1 h1 r1 t1 => hs Z1 G1 H1 x v Qw Q h1 r1 t1 (k.mono x1)⟩
theorem liftN {r : List V → Hp → VK → Prop} {wr : List W → Gp → QW → Prop} (hs : SimN K r wr) {ta : TAw} {σ : SV} {H : Hp} {Q : VK} (h : liftE K (wCB wr ta) σ H Q) : tCB r (liftA K ta) σ H Q := by
  obtain ⟨Z, σ', G, Qw, e, hr, t, k⟩ := h
  exact ⟨Z, σ', G, _, e, hr, t, fun Z1 G1 H1 ws vs x1 h1 r1 t1 => hs Z1 G1 H1 ws vs Qw Q h1 r1 t1 (k.mono x1)⟩
theorem lvar {i : Nat} {σ : SV} {H : Hp} {Q : VK} (h : liftE K (wVar i) σ H Q) : tVar i σ H Q := by
  obtain ⟨Z, σ', G, Qw, e, hr, q, k⟩ := h
  obtain ⟨w, t, q⟩ := isS_ex q
  obtain ⟨v, ev, r⟩ := e.get i t
  exact ⟨v, ev, k.at hr r q⟩
theorem qv (i : Nat) {x : Str} {pos : Pos} (hN : X.N[i]? = some x := by rfl) (hv : Vis X.env.scope x := by first | exact Or.inl rfl | exact Or.inr (Or.inl rfl) | exact Or.inr (Or.inr rfl)) (hd : (x == ("__debug__" : Str)) = false := by decide)
    (hcd : (x == ("__classdict__" : Str)) = false := by decide) : PEw X (.Name x pos) (wVar i) := PE.imp (pe_var hN hv hd hcd) fun _ _ _ h => lvar h
theorem lC {w : W} {v : V} (r : ∀ Z H, Rw K Z H w v) {σ : SV} {H : Hp} {Q : VK} (h : liftE K (wC w) σ H Q) : tC v σ H Q := by
  obtain ⟨Z, σ', G, Qw, e, hr, q, k⟩ := h
  exact k.at hr (r Z H) q
theorem qint {i j pos} : PEw X (.Constant (.int i) j pos) (wC (.int i)) := PE.imp pe_int fun _ _ _ h => lC (fun _ _ => .int) h
theorem qbl {b j pos} : PEw X (.Constant (.bool b) j pos) (wC (.bl b)) := PE.imp pe_bl fun _ _ _ h => lC (fun _ _ => .bl) h
theorem qnon {j pos} : PEw X (.Constant .none j pos) (wC .non) := PE.imp pe_non fun _ _ _ h => lC (fun _ _ => .non) h
theorem qstr {x j pos} : PEw X (.Constant (.str x) j pos) (wC (.str x)) := PE.imp pe_str fun _ _ _ h => lC (fun _ _ => .str) h
theorem qop {op : Operator} {r : R2} {wr : RW2} {a b : Expr} {ta tb : TEw} {pos : Pos} (ho : OpR X (binaryOp op) r) (hs : Sim2 X.K r wr) (ha : PEw X a ta) (hb : PEw X b tb) : PEw X (.BinOp a op b pos) (wOp wr ta tb) :=
  PE.imp (pe_op ho ha hb) fun _ _ _ h => lift2 hs h
theorem qcmp {op : CmpOp} {r : R2} {wr : RW2} {a b : Expr} {ta tb : TEw} {pos : Pos} (ho : OpR X (compareOp op) r) (hs : Sim2 X.K r wr) (ha : PEw X a ta) (hb : PEw X b tb) (hm : behindInMarks op b = false) : PEw X (.Compare a [op] [b] pos) (wOp wr ta tb) :=
  PE.imp (pe_cmpR ho ha hb hm) fun _ _ _ h => lift2 hs h
/-- a test: the value is a truth -/
def wTest (t : TEw) : TTw := fun σ G Q => t σ G fun x G1 => ∃ k, x = .bl k ∧ Q k G1
theorem ltest {te : TEw} {t : TE} {σ : SV} {H : Hp} {Q : Bool → Hp → Prop} (i : ∀ σ H Q, liftE K te σ H Q → t σ H Q) (h : liftT K (wTest te) σ H Q) : tTest t σ H Q := by
  obtain ⟨Z, σ', G, Qw, e, hr, t', k⟩ := h
  refine i _ _ _ ⟨Z, σ', G, _, e, hr, t', fun Z1 G1 H1 w v x1 h1 r1 t1 => ?_⟩
  obtain ⟨b, rfl, q⟩ := t1
  cases r1
  exact ⟨b, rfl, k Z1 G1 H1 b x1 h1 q⟩
theorem qtcmp {op : CmpOp} {r : R2} {wr : RW2} {a b : Expr} {ta tb : TEw} {pos : Pos} (ho : OpR X (compareOp op) r) (hs : Sim2 X.K r wr) (ha : PEw X a ta) (hb : PEw X b tb) (hm : behindInMarks op b = false) : PTw X (.Compare a [op] [b] pos) (wTest (wOp wr ta tb)) :=
  PT.imp (pt_cmpR ho ha hb hm) fun _ _ _ h => ltest (fun _ _ _ => lift2 hs) h
theorem lA_nil {σ : SV} {H : Hp} {Q} (h : liftA K wNil σ H Q) : tNil σ H Q := by
  obtain ⟨Z, σ', G, Qw, e, hr, t, k⟩ := h
  exact k Z G H _ _ Ext.refl hr .nil t
theorem qa_nil : PAw X [] wNil := PA.imp pa_nil fun _ _ _ h => lA_nil h
theorem qa_cons {e : Expr} {es : List Expr} {te : TEw} {t : TAw} (h1 : PEw X e te) (h2 : PAw X es t)
    (hs : starEach (e :: es) X.env = (false, eval e X.env) :: starEach es X.env := by rfl) : PAw X (e :: es) (wCons te t) :=
  PA.imp (pa_cons h1 h2 hs) fun σ H Q h => by
    obtain ⟨Z, σ', G, Qw, e, hr, t', k⟩ := h
    refine ⟨Z, σ', G, _, e, hr, t', fun Z1 G1 H1 x v x1 h1 r1 t1 => ?_⟩
    refine ⟨Z1, σ', G1, _, e.ext hr x1, h1, t1, fun Z2 G2 H2 xs vs x2 h2 r2 t2 => ?_⟩
    exact k Z2 G2 H2 _ _ (x1.trans x2) h2 (.cons (r1.ext h1 x2) r2) t2
end
end WL

namespace WL
open PySem PySem.Spec PyProof.Rows L2
/-! ### operators -/
def wI2 (C : Int → Int → Prop) (g : Int → Int → W) : RW2 := fun x y G Q => match x, y with
  | .int i, .int j => C i j ∧ Q (g i j) G
  | _, _ => False
def wII (g : Int → Int → W) : RW2 := fun x y G Q => match x, y with
  | .int i, .int j => Q (g i j) G
  | _, _ => False
def wI1 (g : Int → W) : W → Gp → QW → Prop := fun x G Q => match x with
  | .int i => Q (g i) G
  | _ => False
def CDivA (_ j : Int) : Prop := j ≠ 0 ∧ j.natAbs.log2 < 9000
def wAdd : RW2 := fun x y G Q => match x, y with
  | .int i, .int j => Q (.int (i + j)) G
  | .str a, .str b => a.length + b.length ≤ sizeLine ∧ Q (.str (a ++ b)) G
  | .tup a, .tup b => a ≠ [] ∧ a.length + b.length ≤ sizeLine ∧ Q (.tup (a ++ b)) G
  | .lst a, .lst b => a.length + b.length ≤ sizeLine ∧ Q (.lst (a ++ b)) G
  | _, _ => False
abbrev wSub : RW2 := wII fun i j => .int (i - j)
abbrev wMod : RW2 := wI2 (fun _ j => j ≠ 0) fun i j => .int (i.fmod j)
abbrev wFdiv : RW2 := wI2 CDivA fun i j => .int (i.fdiv j)
abbrev wMul : RW2 := wI2 CMulW fun i j => .int (i * j)
abbrev wPow : RW2 := wI2 CPow fun i j => .int (i ^ j.toNat)
abbrev wLt : RW2 := wII fun i j => .bl (decide (i < j))
abbrev wLe : RW2 := wII fun i j => .bl (decide (i ≤ j))
abbrev wGt : RW2 := wII fun i j => .bl (decide (j < i))
abbrev wGe : RW2 := wII fun i j => .bl (decide (j ≤ i))
section
variable {X : Cx} {K : PySem.W.Frag}
theorem op_fdivA : OpR X (binaryOp .FloorDiv) (rI CDivA fun i j => .int (i.fdiv j)) := opI fun _ _ _ _ _ _ _ hc q => floordiv_int hc.1 q (.inl (PyProof.noPylong_of_log2 hc.2))
theorem sim_I {C : Int → Int → Prop} {g : Int → Int → W} {g' : Int → Int → V} (hg : ∀ i j Z H, Rw K Z H (g i j) (g' i j)) : Sim2 K (rI C g') (wI2 C g) := by
  intro Z G H x y v u Qw Q h rx ry t k
  cases rx <;> cases ry <;> first
    | exact False.elim t
    | exact ⟨_, _, rfl, rfl, t.1, k.at h (hg _ _ Z H) t.2⟩
theorem sim_II {g : Int → Int → W} {g' : Int → Int → V} (hg : ∀ i j Z H, Rw K Z H (g i j) (g' i j)) : Sim2 K (rI0 g') (wII g) := by
  intro Z G H x y v u Qw Q h rx ry t k
  cases rx <;> cases ry <;> first
    | exact False.elim t
    | exact ⟨_, _, rfl, rfl, k.at h (hg _ _ Z H) t⟩
theorem sim_U {g : Int → W} {g' : Int → V} (hg : ∀ i Z H, Rw K Z H (g i) (g' i)) : Sim1 K (rU g') (wI1 g) := by
  intro Z G H x v Qw Q h rx t k
  cases rx <;> first
    | exact False.elim t
    | exact ⟨_, rfl, k.at h (hg _ Z H) t⟩
def rAddU (K : PySem.W.Frag) : R2 := fun x y H Q => (rI0 fun i j => .int (i + j)) x y H Q ∨ (∃ i j, x = .str i ∧ y = .str j ∧ i.length + j.length ≤ sizeLine ∧ Q (.str (i ++ j)) H) ∨ rCatT K x y H Q ∨ rCat x y H Q
theorem op_addU : OpR X (binaryOp .Add) (rAddU X.K) := OpR.or op_add (OpR.or op_add_str (OpR.or op_catT op_cat))
theorem sim_add : Sim2 K (rAddU K) wAdd := by
  intro Z G H x y v u Qw Q h rx ry t k
  cases rx with
  | int =>
    cases ry <;> first
      | exact False.elim t
      | exact .inl ⟨_, _, rfl, rfl, k.at h .int t⟩
  | str =>
    cases ry <;> first
      | exact False.elim t
      | exact .inr (.inl ⟨_, _, rfl, rfl, t.1, k.at h .str t.2⟩)
  | @tup p a vs s1 r1 =>
    cases ry with
    | @tup p2 b us s2 r2 =>
      obtain ⟨t1, t2, t3⟩ := t
      refine .inr (.inr (.inl ⟨_, _, vs, us, rfl, rfl, s1, s2, fun z => ?_, ?_, fun z => ?_, fun z q n => ?_⟩))
      · subst z; cases r1; exact t1 rfl
      · rw [← r1.length, ← r2.length]; exact t2
      · subst z
        cases r2
        rw [List.append_nil] at t3
        exact k.at h (.tup s1 r1) t3
      · obtain ⟨h2, x2, r⟩ := new_tup h n (r1.append r2)
        exact k Z G _ _ _ x2 h2 r t3
    | _ => exact False.elim t
  | @lst p a vs z1 s1 r1 =>
    cases ry with
    | @lst p2 b us z2 s2 r2 =>
      obtain ⟨t2, t3⟩ := t
      refine .inr (.inr (.inr ⟨_, _, vs, us, rfl, rfl, s1, s2, ?_, fun q n => ?_⟩))
      · rw [← r1.length, ← r2.length]; exact t2
      · obtain ⟨h2, x2, r⟩ := new_frz h n (r1.append r2)
        exact k _ G _ _ _ x2 h2 r t3
    | _ => exact False.elim t
  | _ => exact False.elim t
variable {a b : Expr} {ta tb : TEw} {pos : Pos}
theorem qadd (ha : PEw X a ta) (hb : PEw X b tb) : PEw X (.BinOp a .Add b pos) (wOp wAdd ta tb) := qop op_addU sim_add ha hb
theorem qsub (ha : PEw X a ta) (hb : PEw X b tb) : PEw X (.BinOp a .Sub b pos) (wOp wSub ta tb) := qop op_sub (sim_II fun _ _ _ _ => .int) ha hb
theorem qmul (ha : PEw X a ta) (hb : PEw X b tb) : PEw X (.BinOp a .Mult b pos) (wOp wMul ta tb) := qop op_mulW (sim_I fun _ _ _ _ => .int) ha hb
theorem qmod (ha : PEw X a ta) (hb : PEw X b tb) : PEw X (.BinOp a .Mod b pos) (wOp wMod ta tb) := qop op_modN (sim_I fun _ _ _ _ => .int) ha hb
theorem qfdiv (ha : PEw X a ta) (hb : PEw X b tb) : PEw X (.BinOp a .FloorDiv b pos) (wOp wFdiv ta tb) := qop op_fdivA (sim_I fun _ _ _ _ => .int) ha hb
theorem qpow (ha : PEw X a ta) (hb : PEw X b tb) : PEw X (.BinOp a .Pow b pos) (wOp wPow ta tb) := qop op_pow (sim_I fun _ _ _ _ => .int) ha hb
abbrev wNeg (ta : TEw) : TEw := wUn (wI1 fun i => .int (-i)) ta
theorem qneg (ha : PEw X a ta) : PEw X (.UnaryOp .USub a pos) (wNeg ta) := PE.imp (pe_un un_neg ha) fun _ _ _ h => lift1 (sim_U fun _ _ _ => .int) h
/-! ### comparisons -/
theorem qlt (ha : PEw X a ta) (hb : PEw X b tb) : PEw X (.Compare a [.Lt] [b] pos) (wOp wLt ta tb) := qcmp op_lt (sim_II fun _ _ _ _ => .bl) ha hb (nomark _)
theorem qle (ha : PEw X a ta) (hb : PEw X b tb) : PEw X (.Compare a [.LtE] [b] pos) (wOp wLe ta tb) := qcmp op_le (sim_II fun _ _ _ _ => .bl) ha hb (nomark _)
theorem qgt (ha : PEw X a ta) (hb : PEw X b tb) : PEw X (.Compare a [.Gt] [b] pos) (wOp wGt ta tb) := qcmp op_gt (sim_II fun _ _ _ _ => .bl) ha hb (nomark _)
theorem qge (ha : PEw X a ta) (hb : PEw X b tb) : PEw X (.Compare a [.GtE] [b] pos) (wOp wGe ta tb) := qcmp op_ge (sim_II fun _ _ _ _ => .bl) ha hb (nomark _)
theorem qtlt (ha : PEw X a ta) (hb : PEw X b tb) : PTw X (.Compare a [.Lt] [b] pos) (wTest (wOp wLt ta tb)) := qtcmp op_lt (sim_II fun _ _ _ _ => .bl) ha hb (nomark _)
theorem qtle (ha : PEw X a ta) (hb : PEw X b tb) : PTw X (.Compare a [.LtE] [b] pos) (wTest (wOp wLe ta tb)) := qtcmp op_le (sim_II fun _ _ _ _ => .bl) ha hb (nomark _)
theorem qtgt (ha : PEw X a ta) (hb : PEw X b tb) : PTw X (.Compare a [.Gt] [b] pos) (wTest (wOp wGt ta tb)) := qtcmp op_gt (sim_II fun _ _ _ _ => .bl) ha hb (nomark _)
theorem qtge (ha : PEw X a ta) (hb : PEw X b tb) : PTw X (.Compare a [.GtE] [b] pos) (wTest (wOp wGe ta tb)) := qtcmp op_ge (sim_II fun _ _ _ _ => .bl) ha hb (nomark _)
end
/-! ### == by data -/
mutual
def wdat : W → PyData
  | .non => .none
  | .bl b => .bool b
  | .int i => .int i
  | .str x => .str x
  | .tup ws => .tuple (wdats ws)
  | .lst ws => .list (wdats ws)
  | .scr ws => .list (wdats ws)
  | _ => .none
def wdats : List W → List PyData
  | [] => []
  | w :: ws => wdat w :: wdats ws
end
mutual
/-- data all through -/
def wpure : W → Bool
  | .ins _ _ => false
  | .ref _ => false
  | .ty _ => false
  | .tup ws => wpures ws
  | .lst ws => wpures ws
  | .scr ws => wpures ws
  | _ => true
def wpures : List W → Bool
  | [] => true
  | w :: ws => wpure w && wpures ws
end
def wder (G : Gp) : W → W
  | .ref p => match G p with
    | some (.lst ws) => .lst ws
    | _ => .ref p
  | w => w
def weqb (x y : W) : Bool := PyData.eqv (wdat x) (wdat y)
def wOk (w : W) : Prop := wpure w = true ∧ SeqAt.shaped (wdat w) = true
def wEq : RW2 := fun x y G Q => match x, y with
  | .int i, .int j => Q (.bl (decide (i = j))) G
  | .str i, .str j => Q (.bl (decide (i = j))) G
  | x, y => wOk (wder G x) ∧ wOk (wder G y) ∧ Q (.bl (weqb (wder G x) (wder G y))) G
def wNe : RW2 := fun x y G Q => match x, y with
  | .int i, .int j => Q (.bl (!decide (i = j))) G
  | .str i, .str j => Q (.bl (!decide (i = j))) G
  | x, y => wOk (wder G x) ∧ wOk (wder G y) ∧ Q (.bl (!weqb (wder G x) (wder G y))) G
section
variable {X : Cx} {K : PySem.W.Frag} {Z : Zp} {G : Gp} {H : Hp}
mutual
theorem Rw.dp : ∀ {w : W} {v : V}, Rw K Z H w v → wpure w = true → Dp K H v (wdat w)
  | _, _, .non, _ => by simp only [wdat]; exact .non
  | _, _, .bl, _ => by simp only [wdat]; exact .bl _
  | _, _, .int, _ => by simp only [wdat]; exact .int _
  | _, _, .str, _ => by simp only [wdat]; exact .str _
  | _, _, .ref, p => by simp [wpure] at p
  | _, _, .ty, p => by simp [wpure] at p
  | _, _, .ins _ _ _, p => by simp [wpure] at p
  | _, _, .tup s r, p => by simp only [wdat]; exact .tup s (RwL.dp r (by simpa [wpure] using p))
  | _, _, .lst _ s r, p => by simp only [wdat]; exact .lst (SqL.of s) (RwL.dp r (by simpa [wpure] using p))
  | _, _, .scr s r, p => by simp only [wdat]; exact .lst s.sq (RwL.dp r (by simpa [wpure] using p))
theorem RwL.dp : ∀ {ws : List W} {vs : List V}, RwL K Z H ws vs → wpures ws = true → DpAll K H vs (wdats ws)
  | _, _, .nil, _ => by simp only [wdats]; exact .nil
  | _, _, .cons r t, p => by
    simp only [wpures, Bool.and_eq_true] at p
    simp only [wdats]
    exact .cons (Rw.dp r p.1) (RwL.dp t p.2)
end
theorem dp_der (h : HRel K Z G H) {w : W} {v : V} (r : Rw K Z H w v) (p : wpure (wder G w) = true) : Dp K H v (wdat (wder G w)) := by
  cases r with
  | @ref a =>
    simp only [wder] at p ⊢
    cases q : G a with
    | none => rw [q] at p; simp [wpure] at p
    | some o =>
      rw [q] at p
      cases o with
      | lst ws =>
        simp only [wpure] at p
        simp only [wdat]
        obtain ⟨vs, e, t⟩ := h.lst q
        exact .lst (SqL.of e) (RwL.dp t p)
      | ins _ _ => simp [wpure] at p
  | _ => first
    | exact Rw.dp (Z := Z) (by constructor <;> assumption) p
    | exact Rw.dp (Z := Z) (by constructor) p
def rEqU (K : PySem.W.Frag) : R2 := fun x y H Q => rEq x y H Q ∨ rEqD K x y H Q
def rNeU (K : PySem.W.Frag) : R2 := fun x y H Q => rNe x y H Q ∨ rNeD K x y H Q
theorem sim_eq : Sim2 K (rEqU K) wEq := by
  intro Z G H x y v u Qw Q h rx ry t k
  have gen : (wOk (wder G x) ∧ wOk (wder G y) ∧ Qw (.bl (weqb (wder G x) (wder G y))) G) → rEqU K v u H Q := fun t =>
    .inr ⟨_, _, dp_der h rx t.1.1, dp_der h ry t.2.1.1, t.1.2, t.2.1.2, k.at h .bl t.2.2⟩
  cases rx with
  | @int i =>
    cases ry with
    | @int j =>
      refine .inl ⟨rfl, ?_⟩
      rw [show decide (V.int i = V.int j) = decide (i = j) by simp]
      exact k.at h .bl t
    | _ => exact gen t
  | @str i =>
    cases ry with
    | @str j =>
      refine .inl ⟨rfl, ?_⟩
      rw [show decide (V.str i = V.str j) = decide (i = j) by simp]
      exact k.at h .bl t
    | _ => exact gen t
  | _ => exact gen t
theorem sim_ne : Sim2 K (rNeU K) wNe := by
  intro Z G H x y v u Qw Q h rx ry t k
  have gen : (wOk (wder G x) ∧ wOk (wder G y) ∧ Qw (.bl (!weqb (wder G x) (wder G y))) G) → rNeU K v u H Q := fun t =>
    .inr ⟨_, _, dp_der h rx t.1.1, dp_der h ry t.2.1.1, t.1.2, t.2.1.2, k.at h .bl t.2.2⟩
  cases rx with
  | @int i =>
    cases ry with
    | @int j =>
      refine .inl ⟨rfl, ?_⟩
      rw [show decide (V.int i = V.int j) = decide (i = j) by simp]
      exact k.at h .bl t
    | _ => exact gen t
  | @str i =>
    cases ry with
    | @str j =>
      refine .inl ⟨rfl, ?_⟩
      rw [show decide (V.str i = V.str j) = decide (i = j) by simp]
      exact k.at h .bl t
    | _ => exact gen t
  | _ => exact gen t
variable {a b : Expr} {ta tb : TEw} {pos : Pos}
theorem hu64 {A : Around} {k : Nat} (hr : Room k A) : A.units + 64 < cLine := by have := hr.un; omega
theorem qeq {k : Nat} (hr : Room k X.A) (ha : PEw X a ta) (hb : PEw X b tb) : PEw X (.Compare a [.Eq] [b] pos) (wOp wEq ta tb) := qcmp (OpR.or op_eq (op_eqD (hu64 hr))) sim_eq ha hb (nomark _)
theorem qne {k : Nat} (hr : Room k X.A) (ha : PEw X a ta) (hb : PEw X b tb) : PEw X (.Compare a [.NotEq] [b] pos) (wOp wNe ta tb) := qcmp (OpR.or op_ne (op_neD (hu64 hr))) sim_ne ha hb (nomark _)
theorem qteq {k : Nat} (hr : Room k X.A) (ha : PEw X a ta) (hb : PEw X b tb) : PTw X (.Compare a [.Eq] [b] pos) (wTest (wOp wEq ta tb)) := qtcmp (OpR.or op_eq (op_eqD (hu64 hr))) sim_eq ha hb (nomark _)
theorem qtne {k : Nat} (hr : Room k X.A) (ha : PEw X a ta) (hb : PEw X b tb) : PTw X (.Compare a [.NotEq] [b] pos) (wTest (wOp wNe ta tb)) := qtcmp (OpR.or op_ne (op_neD (hu64 hr))) sim_ne ha hb (nomark _)
/-! ### is None -/
def isNon : W → Bool
  | .non => true
  | _ => false
def wIsN (ta : TEw) : TEw := wUn (fun x G Q => Q (.bl (isNon x)) G) ta
def wNotN (ta : TEw) : TEw := wUn (fun x G Q => Q (.bl (!isNon x)) G) ta
theorem Rw.isNon {w : W} {v : V} (r : Rw K Z H w v) : decide (v = .non) = isNon w := by
  cases r <;> simp [WL.isNon]
theorem qisN (ha : PEw X a ta) {j p2} : PEw X (.Compare a [.Is] [.Constant .none j p2] pos) (wIsN ta) := PE.imp (pe_cmp (pc_isN ha) rfl) fun σ H Q h => by
  obtain ⟨Z, σ', G, Qw, e, hr, t, k⟩ := h
  exact ⟨Z, σ', G, _, e, hr, t, fun Z1 G1 H1 x v x1 h1 r1 t1 => by show Q (V.bl (decide (v = .non))) H1; rw [r1.isNon]; exact k Z1 G1 H1 _ _ x1 h1 .bl t1⟩
theorem qnotN (ha : PEw X a ta) {j p2} : PEw X (.Compare a [.IsNot] [.Constant .none j p2] pos) (wNotN ta) := PE.imp (pe_cmp (pc_notN ha) rfl) fun σ H Q h => by
  obtain ⟨Z, σ', G, Qw, e, hr, t, k⟩ := h
  exact ⟨Z, σ', G, _, e, hr, t, fun Z1 G1 H1 x v x1 h1 r1 t1 => by show Q (V.bl (!decide (v = .non))) H1; rw [r1.isNon]; exact k Z1 G1 H1 _ _ x1 h1 .bl t1⟩
end
/-! ### tests, truths -/
section
variable {X : Cx} {K : PySem.W.Frag} {a b c : Expr} {ta tb : TEw} {t u : TTw} {rest : List Expr} {pos : Pos}
theorem qtv (ha : PEw X a ta) (he : ∀ whole, isTrue a X.env whole = (do let v ← whole; standAt a.pos; holding [v] (truthy v)) := by intro _; rfl) : PTw X a (wTest ta) :=
  PT.imp (pt_val ha he) fun σ H Q h => by
    obtain ⟨Z, σ', G, Qw, e, hr, t', k⟩ := h
    refine ⟨Z, σ', G, _, e, hr, t', fun Z1 G1 H1 w v x1 h1 r1 t1 => ?_⟩
    obtain ⟨b, rfl, q⟩ := t1
    cases r1
    exact ⟨b, rfl, k Z1 G1 H1 b x1 h1 q⟩
def wAnd (t u : TTw) : TTw := fun σ G Q => t σ G fun c G1 => if c = true then u σ G1 Q else Q false G1
def wOr (t u : TTw) : TTw := fun σ G Q => t σ G fun c G1 => if c = true then Q true G1 else u σ G1 Q
def wNot (t : TTw) : TTw := fun σ G Q => t σ G fun c G1 => Q (!c) G1
theorem qand1 (ha : PTw X a t) : PWw X (.BoolOp .And [a] pos) t := pw_and1 ha
theorem qor1 (ha : PTw X a t) : PWw X (.BoolOp .Or [a] pos) t := pw_or1 ha
theorem qand (ha : PTw X a t) (hb : PWw X (.BoolOp .And (b :: rest) pos) u) : PWw X (.BoolOp .And (a :: b :: rest) pos) (wAnd t u) :=
  PW.imp (pw_and ha hb) fun σ H Q h => by
    obtain ⟨Z, σ', G, Qw, e, hr, t', k⟩ := h
    refine ⟨Z, σ', G, _, e, hr, t', fun Z1 G1 H1 b x1 h1 t1 => ?_⟩
    cases b with
    | true => exact ⟨Z1, σ', G1, Qw, e.ext hr x1, h1, t1, fun Z2 G2 H2 b x2 => k Z2 G2 H2 b (x1.trans x2)⟩
    | false => exact k Z1 G1 H1 _ x1 h1 t1
theorem qor (ha : PTw X a t) (hb : PWw X (.BoolOp .Or (b :: rest) pos) u) : PWw X (.BoolOp .Or (a :: b :: rest) pos) (wOr t u) :=
  PW.imp (pw_or ha hb) fun σ H Q h => by
    obtain ⟨Z, σ', G, Qw, e, hr, t', k⟩ := h
    refine ⟨Z, σ', G, _, e, hr, t', fun Z1 G1 H1 b x1 h1 t1 => ?_⟩
    cases b with
    | false => exact ⟨Z1, σ', G1, Qw, e.ext hr x1, h1, t1, fun Z2 G2 H2 b x2 => k Z2 G2 H2 b (x1.trans x2)⟩
    | true => exact k Z1 G1 H1 _ x1 h1 t1
theorem qwt (h : PWw X a t) : PTw X a t := PW.pt h
theorem qnot (ha : PTw X a t) : PTw X (.UnaryOp .Not a pos) (wNot t) :=
  PT.imp (pt_not ha) fun σ H Q h => by
    obtain ⟨Z, σ', G, Qw, e, hr, t', k⟩ := h
    exact ⟨Z, σ', G, _, e, hr, t', fun Z1 G1 H1 b x1 h1 t1 => k Z1 G1 H1 _ x1 h1 t1⟩
/-- and, or, not as values -/
def wAndV (ta tb : TEw) : TEw := fun σ G Q => ta σ G fun x G1 => ∃ c, x = .bl c ∧ if c = true then tb σ G1 Q else Q (.bl false) G1
def wOrV (ta tb : TEw) : TEw := fun σ G Q => ta σ G fun x G1 => ∃ c, x = .bl c ∧ if c = true then Q (.bl true) G1 else tb σ G1 Q
def wNotV (ta : TEw) : TEw := fun σ G Q => ta σ G fun x G1 => ∃ c, x = .bl c ∧ Q (.bl (!c)) G1
theorem qone {op} (ha : PEw X a ta) : PEw X (.BoolOp op [a] pos) ta := pe_one ha
theorem qandV (ha : PEw X a ta) (hb : PEw X (.BoolOp .And (b :: rest) pos) tb) : PEw X (.BoolOp .And (a :: b :: rest) pos) (wAndV ta tb) :=
  PE.imp (pe_and ha hb) fun σ H Q h => by
    obtain ⟨Z, σ', G, Qw, e, hr, t', k⟩ := h
    refine ⟨Z, σ', G, _, e, hr, t', fun Z1 G1 H1 x v x1 h1 r1 t1 => ?_⟩
    obtain ⟨c, rfl, t1⟩ := t1
    cases r1
    refine ⟨c, rfl, ?_⟩
    cases c with
    | true => exact ⟨Z1, σ', G1, Qw, e.ext hr x1, h1, t1, k.mono x1⟩
    | false => exact k Z1 G1 H1 _ _ x1 h1 .bl t1
theorem qorV (ha : PEw X a ta) (hb : PEw X (.BoolOp .Or (b :: rest) pos) tb) : PEw X (.BoolOp .Or (a :: b :: rest) pos) (wOrV ta tb) :=
  PE.imp (pe_or ha hb) fun σ H Q h => by
    obtain ⟨Z, σ', G, Qw, e, hr, t', k⟩ := h
    refine ⟨Z, σ', G, _, e, hr, t', fun Z1 G1 H1 x v x1 h1 r1 t1 => ?_⟩
    obtain ⟨c, rfl, t1⟩ := t1
    cases r1
    refine ⟨c, rfl, ?_⟩
    cases c with
    | false => exact ⟨Z1, σ', G1, Qw, e.ext hr x1, h1, t1, k.mono x1⟩
    | true => exact k Z1 G1 H1 _ _ x1 h1 .bl t1
theorem qnotV (ha : PEw X a ta) : PEw X (.UnaryOp .Not a pos) (wNotV ta) :=
  PE.imp (pe_not ha) fun σ H Q h => by
    obtain ⟨Z, σ', G, Qw, e, hr, t', k⟩ := h
    refine ⟨Z, σ', G, _, e, hr, t', fun Z1 G1 H1 x v x1 h1 r1 t1 => ?_⟩
    obtain ⟨c, rfl, t1⟩ := t1
    cases r1
    exact ⟨c, rfl, k Z1 G1 H1 _ _ x1 h1 .bl t1⟩
def wIf (t : TTw) (ta tb : TEw) : TEw := fun σ G Q => t σ G fun c G1 => if c = true then ta σ G1 Q else tb σ G1 Q
theorem qifExp (hc : PTw X c t) (ha : PEw X a ta) (hb : PEw X b tb) : PEw X (.IfExp c a b pos) (wIf t ta tb) :=
  PE.imp (pe_ifExp hc ha hb) fun σ H Q h => by
    obtain ⟨Z, σ', G, Qw, e, hr, t', k⟩ := h
    refine ⟨Z, σ', G, _, e, hr, t', fun Z1 G1 H1 b x1 h1 t1 => ?_⟩
    cases b with
    | true => exact ⟨Z1, σ', G1, Qw, e.ext hr x1, h1, t1, k.mono x1⟩
    | false => exact ⟨Z1, σ', G1, Qw, e.ext hr x1, h1, t1, k.mono x1⟩
/-- a < b < c -/
def wChain (r r' : RW2) (ta tb tc : TEw) : TEw := fun σ G Q => ta σ G fun x G1 => tb σ G1 fun y G2 => r x y G2 fun z G3 => ∃ k, z = .bl k ∧ (if k = true then tc σ G3 fun w G4 => r' y w G4 Q else Q (.bl false) G3)
theorem lchain {r r' : R2} {wr wr' : RW2} {tc : TEw} (hs : Sim2 K r wr) (hs' : Sim2 K r' wr') {σ : SV} {H : Hp} {Q : VK} (h : liftE K (wChain wr wr' ta tb tc) σ H Q) : tChain r r' (liftE K ta) (liftE K tb) (liftE K tc) σ H Q := by
  obtain ⟨Z, σ', G, Qw, e, hr, t, k⟩ := h
  refine ⟨Z, σ', G, _, e, hr, t, fun Z1 G1 H1 x v x1 h1 r1 t1 => ?_⟩
  refine ⟨Z1, σ', G1, _, e.ext hr x1, h1, t1, fun Z2 G2 H2 y u x2 h2 r2 t2 => ?_⟩
  refine hs Z2 G2 H2 x y v u _ _ h2 (r1.ext h1 x2) r2 t2 fun Z3 G3 H3 z zv x3 h3 r3 t3 => ?_
  obtain ⟨b, rfl, t3⟩ := t3
  cases r3
  refine ⟨b, rfl, ?_⟩
  cases b with
  | false => exact k Z3 G3 H3 _ _ ((x1.trans x2).trans x3) h3 .bl t3
  | true =>
    refine ⟨Z3, σ', G3, _, e.ext hr ((x1.trans x2).trans x3), h3, t3, fun Z4 G4 H4 w wv x4 h4 r4 t4 => ?_⟩
    exact hs' Z4 G4 H4 y w u wv Qw Q h4 (r2.ext h2 (x3.trans x4)) r4 t4 (k.mono (((x1.trans x2).trans x3).trans x4))
theorem qchain {op op' : CmpOp} {r r' : R2} {wr wr' : RW2} {tc : TEw} (ho : OpR X (compareOp op) r) (ho' : OpR X (compareOp op') r') (hs : Sim2 X.K r wr) (hs' : Sim2 X.K r' wr') (ha : PEw X a ta) (hb : PEw X b tb) (hc : PEw X c tc)
    (hm : lastMarks [op, op'] [b, c] = false := by with_unfolding_all rfl) : PEw X (.Compare a [op, op'] [b, c] pos) (wChain wr wr' ta tb tc) := PE.imp (pe_chain ho ho' ha hb hc hm) fun _ _ _ h => lchain hs hs' h
theorem qtchain {op op' : CmpOp} {r r' : R2} {wr wr' : RW2} {tc : TEw} (ho : OpR X (compareOp op) r) (ho' : OpR X (compareOp op') r') (hs : Sim2 X.K r wr) (hs' : Sim2 X.K r' wr') (ha : PEw X a ta) (hb : PEw X b tb) (hc : PEw X c tc)
    (hm : lastMarks [op, op'] [b, c] = false := by with_unfolding_all rfl) : PTw X (.Compare a [op, op'] [b, c] pos) (wTest (wChain wr wr' ta tb tc)) := PT.imp (pt_chain ho ho' ha hb hc hm) fun _ _ _ h => ltest (fun _ _ _ => lchain hs hs') h
theorem qlele {tc : TEw} (ha : PEw X a ta) (hb : PEw X b tb) (hc : PEw X c tc) (hm : lastMarks [.LtE, .LtE] [b, c] = false := by with_unfolding_all rfl) : PEw X (.Compare a [.LtE, .LtE] [b, c] pos) (wChain wLe wLe ta tb tc) :=
  qchain op_le op_le (sim_II fun _ _ _ _ => .bl) (sim_II fun _ _ _ _ => .bl) ha hb hc hm
theorem qtlele {tc : TEw} (ha : PEw X a ta) (hb : PEw X b tb) (hc : PEw X c tc) (hm : lastMarks [.LtE, .LtE] [b, c] = false := by with_unfolding_all rfl) : PTw X (.Compare a [.LtE, .LtE] [b, c] pos) (wTest (wChain wLe wLe ta tb tc)) :=
  qtchain op_le op_le (sim_II fun _ _ _ _ => .bl) (sim_II fun _ _ _ _ => .bl) ha hb hc hm
end
end WL

namespace WL
open PySem PySem.Spec PyProof.Rows L2
/-! ### tuples, lists -/
def wTup (t : TAw) : TEw := fun σ G Q => t σ G fun ws G1 => ws.length ≤ sizeLine ∧ Q (.tup ws) G1
/-- a new list, frozen at once -/
def wLst (t : TAw) : TEw := fun σ G Q => t σ G fun ws G1 => ws.length ≤ sizeLine ∧ Q (.lst ws) G1
/-- a new list that may be changed -/
def wLstM (t : TAw) : TEw := fun σ G Q => t σ G fun ws G1 => ws.length ≤ sizeLine ∧ ∀ p, G1 p = none → Q (.ref p) (gup G1 p (.lst ws))
def wIx : RW2 := fun x y G Q => match x, y with
  | .tup ws, .int i => isS (atI ws i) fun w => Q w G
  | .str z, .int i => z.length ≤ sizeLine ∧ isS (atI z.cps.toList i) fun c => Q (.str ⟨#[c]⟩) G
  | x, .int i => isS (asL G x) fun ws => isS (atI ws i) fun w => Q w G
  | _, _ => False
theorem ixN_len {n m : Nat} (e : n = m) (i : Int) : ixN n i = ixN m i := by rw [e]
section
variable {X : Cx} {K : PySem.W.Frag} {Z : Zp} {G : Gp} {H : Hp}
theorem RwL.atI {ws : List W} {vs : List V} (r : RwL K Z H ws vs) {i : Int} {w : W} (e : L2.atI ws i = some w) : ∃ v, L2.atI vs i = some v ∧ Rw K Z H w v := by
  unfold L2.atI at e ⊢
  rw [← r.length]
  cases q : ixN ws.length i with
  | none => rw [q] at e; cases e
  | some j =>
    rw [q] at e
    exact r.get j e
theorem sim_ix : Sim2 K (rIx K) wIx := by
  intro Z G H x y v u Qw Q h rx ry t k
  have gen : ∀ {i : Int}, (isS (asL G x) fun ws => isS (L2.atI ws i) fun w => Qw w G) → rIx K v (.int i) H Q := fun q => by
    obtain ⟨ws, e, q⟩ := isS_ex q
    obtain ⟨w, a, q⟩ := isS_ex q
    obtain ⟨p, vs, rfl, s, r⟩ := asL_sq h rx e
    obtain ⟨v', a', r'⟩ := r.atI a
    exact .inl ⟨p, vs, _, v', rfl, rfl, s, a', k.at h r' q⟩
  cases ry with
  | @int i =>
    cases rx with
    | @tup p ws vs s r =>
      obtain ⟨w, a, q⟩ := isS_ex t
      obtain ⟨v', a', r'⟩ := r.atI a
      exact .inr (.inl ⟨p, vs, _, v', rfl, rfl, s, a', k.at h r' q⟩)
    | str =>
      obtain ⟨l, t⟩ := t
      obtain ⟨c, a, q⟩ := isS_ex t
      exact .inr (.inr ⟨_, _, c, rfl, rfl, l, a, k.at h .str q⟩)
    | _ => exact gen t
  | _ => cases rx <;> exact False.elim t
variable {a b : Expr} {ta tb : TEw} {es : List Expr} {t : TAw} {pos : Pos}
theorem qtup {x1} (h : PAw X es t) : PEw X (.Tuple es x1 pos) (wTup t) := PE.imp (pe_tup h) fun σ H Q h => by
  obtain ⟨Z, σ', G, Qw, e, hr, t', k⟩ := h
  refine ⟨Z, σ', G, _, e, hr, t', fun Z1 G1 H1 ws vs x1 h1 r1 t1 => ⟨by rw [← r1.length]; exact t1.1, fun p n => ?_⟩⟩
  obtain ⟨h2, x2, r2⟩ := new_tup h1 n r1
  exact k Z1 G1 _ _ _ (x1.trans x2) h2 r2 t1.2
theorem qlst (h : PAw X es t) : PEw X (.List es pos) (wLst t) := PE.imp (pe_lst h) fun σ H Q h => by
  obtain ⟨Z, σ', G, Qw, e, hr, t', k⟩ := h
  refine ⟨Z, σ', G, _, e, hr, t', fun Z1 G1 H1 ws vs x1 h1 r1 t1 => ⟨by rw [← r1.length]; exact t1.1, fun p n => ?_⟩⟩
  obtain ⟨h2, x2, r2⟩ := new_frz h1 n r1
  exact k _ G1 _ _ _ (x1.trans x2) h2 r2 t1.2
theorem qlstM (h : PAw X es t) : PEw X (.List es pos) (wLstM t) := PE.imp (pe_lst h) fun σ H Q h => by
  obtain ⟨Z, σ', G, Qw, e, hr, t', k⟩ := h
  refine ⟨Z, σ', G, _, e, hr, t', fun Z1 G1 H1 ws vs x1 h1 r1 t1 => ⟨by rw [← r1.length]; exact t1.1, fun p n => ?_⟩⟩
  obtain ⟨g, h2, x2⟩ := new_lst h1 n r1
  exact k Z1 _ _ _ _ (x1.trans x2) h2 .ref (t1.2 p g)
theorem qix (ha : PEw X a ta) (hb : PEw X b tb) (hp : PlainIx b := by exact fun _ _ => rfl) : PEw X (.Subscript a b pos) (wOp wIx ta tb) := PE.imp (pe_ix ix_seq ha hb hp) fun _ _ _ h => lift2 sim_ix h
/-! ### calls of the built-in -/
def wLen : List W → Gp → QW → Prop := fun ws G Q => match ws with
  | [.tup us] => Q (.int us.length) G
  | [.str z] => z.length ≤ sizeLine ∧ Q (.int z.length) G
  | [x] => isS (asL G x) fun us => Q (.int us.length) G
  | _ => False
theorem sim_len : SimN K (fun xs H Q => ∃ x n, xs = [x] ∧ LenV K x H n ∧ Q (.int n) H) wLen := by
  intro Z G H ws vs Qw Q h r t k
  cases r with
  | nil => exact False.elim t
  | @cons w v ws vs rx rr =>
    cases rr with
    | cons _ _ => cases rx <;> exact False.elim t
    | nil =>
      have gen : (isS (asL G w) fun us => Qw (.int us.length) G) → ∃ x n, [v] = [x] ∧ LenV K x H n ∧ Q (.int n) H := fun q => by
        obtain ⟨us, e, q⟩ := isS_ex q
        obtain ⟨p, vs, rfl, s, r⟩ := asL_sq h rx e
        exact ⟨_, vs.length, rfl, .inl ⟨vs, s, rfl⟩, by rw [← r.length]; exact k.at h .int q⟩
      cases rx with
      | @tup p us vs s r => exact ⟨_, vs.length, rfl, .inr ⟨vs, s, rfl⟩, by rw [← r.length]; exact k.at h .int t⟩
      | str => exact ⟨_, _, rfl, ⟨t.1, rfl⟩, k.at h .int t.2⟩
      | _ => exact gen t
def wI1N (g : Int → W) : List W → Gp → QW → Prop := fun ws G Q => match ws with
  | [.int i] => Q (g i) G
  | _ => False
def wI2N (g : Int → Int → W) : List W → Gp → QW → Prop := fun ws G Q => match ws with
  | [.int i, .int j] => Q (g i j) G
  | _ => False
theorem sim_1N {g : Int → W} {g' : Int → V} (hg : ∀ i Z H, Rw K Z H (g i) (g' i)) : SimN K (fun xs H Q => ∃ i, xs = [.int i] ∧ Q (g' i) H) (wI1N g) := by
  intro Z G H ws vs Qw Q h r t k
  cases r with
  | nil => exact False.elim t
  | cons rx rr =>
    cases rr with
    | cons _ _ => cases rx <;> exact False.elim t
    | nil => cases rx <;> first
      | exact False.elim t
      | exact ⟨_, rfl, k.at h (hg _ _ _) t⟩
theorem sim_2N {g : Int → Int → W} {g' : Int → Int → V} (hg : ∀ i j Z H, Rw K Z H (g i j) (g' i j)) : SimN K (fun xs H Q => ∃ i j, xs = [.int i, .int j] ∧ Q (g' i j) H) (wI2N g) := by
  intro Z G H ws vs Qw Q h r t k
  cases r with
  | nil => exact False.elim t
  | cons rx rr =>
    cases rr with
    | nil => cases rx <;> exact False.elim t
    | cons ry rr =>
      cases rr with
      | cons _ _ => cases rx <;> cases ry <;> exact False.elim t
      | nil => cases rx <;> cases ry <;> first
        | exact False.elim t
        | exact ⟨_, _, rfl, k.at h (hg _ _ _ _) t⟩
variable {x : Str} {p : Pos} {e : Expr}
theorem qlen (hg : Gl X "len") (hm : X.mg "len" = none) (ha : PAw X (e :: es) t) (he : starEach (e :: es) X.env = (false, eval e X.env) :: starEach es X.env := by rfl) (hpl : (backTo pos (starEach es X.env)).any (·.1) = false := by rfl) :
    PEw X (.Call (.Name "len" p) (e :: es) [] pos) (wCB wLen t) := PE.imp (pe_callB call_len hg hm PySem.boot_len ha (by decide) (by decide) he hpl) fun _ _ _ h => liftN sim_len h
theorem qabs (hg : Gl X "abs") (hm : X.mg "abs" = none) (ha : PAw X (e :: es) t) (he : starEach (e :: es) X.env = (false, eval e X.env) :: starEach es X.env := by rfl) (hpl : (backTo pos (starEach es X.env)).any (·.1) = false := by rfl) :
    PEw X (.Call (.Name "abs" p) (e :: es) [] pos) (wCB (wI1N fun i => .int (if i < 0 then -i else i)) t) := PE.imp (pe_callB call_abs hg hm (by decide +kernel) ha (by decide) (by decide) he hpl) fun _ _ _ h => liftN (sim_1N fun _ _ _ => .int) h
theorem qmin2 (hc : X.calm = true) (hg : Gl X "min") (hm : X.mg "min" = none) (ha : PAw X (e :: es) t) (he : starEach (e :: es) X.env = (false, eval e X.env) :: starEach es X.env := by rfl) (hpl : (backTo pos (starEach es X.env)).any (·.1) = false := by rfl) :
    PEw X (.Call (.Name "min" p) (e :: es) [] pos) (wCB (wI2N fun i j => .int (if j < i then j else i)) t) := PE.imp (pe_callB (call_min2 hc) hg hm (by decide +kernel) ha (by decide) (by decide) he hpl) fun _ _ _ h => liftN (sim_2N fun _ _ _ _ => .int) h
theorem qmax2 (hc : X.calm = true) (hg : Gl X "max") (hm : X.mg "max" = none) (ha : PAw X (e :: es) t) (he : starEach (e :: es) X.env = (false, eval e X.env) :: starEach es X.env := by rfl) (hpl : (backTo pos (starEach es X.env)).any (·.1) = false := by rfl) :
    PEw X (.Call (.Name "max" p) (e :: es) [] pos) (wCB (wI2N fun i j => .int (if j > i then j else i)) t) := PE.imp (pe_callB (call_max2 hc) hg hm (by decide +kernel) ha (by decide) (by decide) he hpl) fun _ _ _ h => liftN (sim_2N fun _ _ _ _ => .int) h
def wInt : List W → Gp → QW → Prop := fun ws G Q => match ws with
  | [.int i] => Q (.int i) G
  | [.bl b] => Q (.int (if b then 1 else 0)) G
  | _ => False
theorem sim_int : SimN K (fun xs H Q => (∃ i, xs = [.int i] ∧ Q (.int i) H) ∨ ∃ k, xs = [.bl k] ∧ Q (.int (if k then 1 else 0)) H) wInt := by
  intro Z G H ws vs Qw Q h r t k
  cases r with
  | nil => exact False.elim t
  | cons rx rr =>
    cases rr with
    | cons _ _ => cases rx <;> exact False.elim t
    | nil => cases rx <;> first
      | exact False.elim t
      | exact .inl ⟨_, rfl, k.at h .int t⟩
      | exact .inr ⟨_, rfl, k.at h .int t⟩
theorem qint1 (hg : Gl X "int") (hm : X.mg "int" = none) (ha : PAw X (e :: es) t) (he : starEach (e :: es) X.env = (false, eval e X.env) :: starEach es X.env := by rfl) (hpl : (backTo pos (starEach es X.env)).any (·.1) = false := by rfl) :
    PEw X (.Call (.Name "int" p) (e :: es) [] pos) (wCB wInt t) := PE.imp (pe_callTy call_int1 hg hm (by decide +kernel) ha (by decide) (by decide) he hpl) fun _ _ _ h => liftN sim_int h
def wStrI : List W → Gp → QW → Prop := fun ws G Q => match ws with
  | [.int i] => i.natAbs.log2 < 1920 ∧ Q (.str (Str.ofString (toString i))) G
  | _ => False
theorem sim_strI : SimN K (fun xs H Q => ∃ i, xs = [V.int i] ∧ i.natAbs.log2 < 1920 ∧ Q (V.str (Str.ofString (toString i))) H) wStrI := by
  intro Z G H ws vs Qw Q h r t k
  cases r with
  | nil => exact False.elim t
  | cons rx rr =>
    cases rr with
    | cons _ _ => cases rx <;> exact False.elim t
    | nil => cases rx <;> first
      | exact False.elim t
      | exact ⟨_, rfl, t.1, k.at h .str t.2⟩
theorem qstrI (hg : Gl X "str") (hm : X.mg "str" = none) (ha : PAw X (e :: es) t) (he : starEach (e :: es) X.env = (false, eval e X.env) :: starEach es X.env := by rfl) (hpl : (backTo pos (starEach es X.env)).any (·.1) = false := by rfl) :
    PEw X (.Call (.Name "str" p) (e :: es) [] pos) (wCB wStrI t) := PE.imp (pe_callTy call_str_int hg hm (by decide +kernel) ha (by decide) (by decide) he hpl) fun _ _ _ h => liftN sim_strI h
end
/-! ### statements -/
def wNext : TSw := fun D σ G => D.nx σ G
def wSeq (t u : TSw) : TSw := fun D σ G => t { D with nx := u D } σ G
def wBreak : TSw := fun D σ G => D.bk σ G
def wCont : TSw := fun D σ G => D.ct σ G
def wDrop (te : TEw) : TSw := fun D σ G => te σ G fun _ G1 => D.nx σ G1
def wRet (te : TEw) : TSw := fun D σ G => te σ G D.rt
def wRetN : TSw := fun D _ G => D.rt .non G
def wIfS (c : TTw) (t u : TSw) : TSw := fun D σ G => c σ G fun b G1 => if b = true then t D σ G1 else u D σ G1
def wNever : TSw := fun _ _ _ => False
def gN (i : Nat) : TGw := fun w σ G Q => Q (sset σ i w) G
def gsN : TGsw := fun ws σ G Q => match ws with
  | [] => Q σ G
  | _ => False
def gsC (t : TGw) (u : TGsw) : TGsw := fun ws σ G Q => match ws with
  | w :: r => t w σ G fun σ1 G1 => u r σ1 G1 Q
  | [] => False
def gT (n : Nat) (t : TGsw) : TGw := fun w σ G Q => match w with
  | .tup ws => ws.length = n ∧ t ws σ G Q
  | _ => False
def setIx (o i w : W) (G : Gp) (Q : Gp → Prop) : Prop := match o, i with
  | .ref p, .int k => isG (G p) fun ws => isS (ixN ws.length k) fun j => Q (gup G p (.lst (ws.set j w)))
  | _, _ => False
theorem setIx_ex {o i w : W} {G : Gp} {Q : Gp → Prop} (h : setIx o i w G Q) : ∃ p k ws j, o = .ref p ∧ i = .int k ∧ G p = some (.lst ws) ∧ ixN ws.length k = some j ∧ Q (gup G p (.lst (ws.set j w))) := by
  unfold setIx at h
  split at h
  · obtain ⟨ws, g, h⟩ := isG_ex h
    obtain ⟨j, e, h⟩ := isS_ex h
    exact ⟨_, _, ws, j, rfl, rfl, g, e, h⟩
  · exact h.elim
def gIx (to ti : TEw) : TGw := fun w σ G Q => to σ G fun o G1 => ti σ G1 fun i G2 => setIx o i w G2 (Q σ)
def wAsg (te : TEw) (g : TGw) : TSw := fun D σ G => te σ G fun w G1 => g w σ G1 D.nx
def wPar (i j : Nat) (t : TAw) : TSw := fun D σ G => t σ G fun ws G1 => match ws with
  | [a, b] => D.nx (sset (sset σ i a) j b) G1
  | _ => False
def wAug (i : Nat) (te : TEw) (r : RW2) : TSw := fun D σ G => isS (slot σ i) fun x => te σ G fun y G1 => r x y G1 fun z G2 => D.nx (sset σ i z) G2
section
variable {X : Cx} {K : PySem.W.Frag} {st : Stmt} {rest : List Stmt} {t u : TSw} {e : Expr} {te : TEw} {pos : Pos}
theorem qs_nil : PSsw X [] wNext := PSs.imp pss_nil fun D σ H h => by
  obtain ⟨Z, σ', G, Dw, e, hr, t, k⟩ := h
  exact k.nx Z G H σ' σ Ext.refl hr e t
theorem qs_cons (h1 : PSw X st t) (h2 : PSsw X rest u) : PSsw X (st :: rest) (wSeq t u) := PSs.imp (pss_cons h1 h2) fun D σ H h => by
  obtain ⟨Z, σ', G, Dw, e, hr, t, k⟩ := h
  exact ⟨Z, σ', G, _, e, hr, t, ⟨fun Z1 G1 H1 s1 s2 x1 h1 r1 q => ⟨Z1, s1, G1, Dw, r1, h1, q, k.mono x1⟩, k.rt, k.bk, k.ct⟩⟩
theorem qs_one (h1 : PSw X st t) : PSsw X [st] t := pss_one h1
theorem qpass : PSw X (.Pass pos) wNext := PS.imp ps_pass fun D σ H h => by
  obtain ⟨Z, σ', G, Dw, e, hr, t, k⟩ := h
  exact k.nx Z G H σ' σ Ext.refl hr e t
theorem qdoc {x j pos pos'} : PSw X (.Expr (.Constant (.str x) j pos) pos') wNext := PS.imp ps_doc fun D σ H h => by
  obtain ⟨Z, σ', G, Dw, e, hr, t, k⟩ := h
  exact k.nx Z G H σ' σ Ext.refl hr e t
theorem qbreak : PSw X (.Break pos) wBreak := PS.imp ps_break fun D σ H h => by
  obtain ⟨Z, σ', G, Dw, e, hr, t, k⟩ := h
  exact k.bk Z G H σ' σ Ext.refl hr e t
theorem qcont : PSw X (.Continue pos) wCont := PS.imp ps_continue fun D σ H h => by
  obtain ⟨Z, σ', G, Dw, e, hr, t, k⟩ := h
  exact k.ct Z G H σ' σ Ext.refl hr e t
theorem qexpr (he : PEw X e te) (hs : swapsWith e none pos.line X.env = pure false := by rfl) : PSw X (.Expr e pos) (wDrop te) := PS.imp (ps_expr he hs) fun D σ H h => by
  obtain ⟨Z, σ', G, Dw, e, hr, t, k⟩ := h
  exact ⟨Z, σ', G, _, e, hr, t, fun Z1 G1 H1 w v x1 h1 r1 q => k.nx Z1 G1 H1 σ' σ x1 h1 (e.ext hr x1) q⟩
theorem qret (he : PEw X e te) : PSw X (.Return (some e) pos) (wRet te) := PS.imp (ps_ret he) fun D σ H h => by
  obtain ⟨Z, σ', G, Dw, e, hr, t, k⟩ := h
  exact ⟨Z, σ', G, _, e, hr, t, k.rt⟩
theorem qretN : PSw X (.Return none pos) wRetN := PS.imp ps_retN fun D σ H h => by
  obtain ⟨Z, σ', G, Dw, e, hr, t, k⟩ := h
  exact k.rt.at hr .non t
theorem qif {c : Expr} {a b : List Stmt} {tc : TTw} (hc : PTw X c tc) (ha : PSsw X a t) (hb : PSsw X b u) : PSw X (.If c a b pos) (wIfS tc t u) := PS.imp (ps_if hc ha hb) fun D σ H h => by
  obtain ⟨Z, σ', G, Dw, e, hr, t, k⟩ := h
  refine ⟨Z, σ', G, _, e, hr, t, fun Z1 G1 H1 b x1 h1 q => ?_⟩
  cases b with
  | true => exact ⟨Z1, σ', G1, Dw, e.ext hr x1, h1, q, k.mono x1⟩
  | false => exact ⟨Z1, σ', G1, Dw, e.ext hr x1, h1, q, k.mono x1⟩
theorem qnever : PSw X st wNever := PS.imp ps_never fun D σ H h => by
  obtain ⟨Z, σ', G, Dw, e, hr, t, k⟩ := h
  exact t
theorem qs_never {sts : List Stmt} : PSsw X sts wNever := PSs.imp pss_never fun D σ H h => by
  obtain ⟨Z, σ', G, Dw, e, hr, t, k⟩ := h
  exact t
theorem lgN {i : Nat} {v : V} {σ : SV} {H : Hp} {Q : SV → Hp → Prop} (h : liftG K (gN i) v σ H Q) : gName i v σ H Q := by
  obtain ⟨Z, σ', G, w, Qw, e, hr, r, t, k⟩ := h
  exact k Z G H _ _ Ext.refl hr (e.set r i) t
theorem qgN {i : Nat} {x : Str} (hN : X.N.Nodup) (hi : X.N[i]? = some x) (hx : Loc X.env.scope x := by first | exact Or.inl rfl | exact Or.inr rfl) (hf : X.fn x = true ∨ X.env.scope.names.lookup x = some .local := by first | exact .inl rfl | exact .inr rfl | assumption) : PGw X (.Name x pos) (gN i) :=
  PG.imp (pg_name hN hi hx hf) fun _ _ _ _ h => lgN h
theorem qgs_nil : PGsw X [] gsN := PGs.imp pgs_nil fun vs σ H Q h => by
  obtain ⟨Z, σ', G, ws, Qw, e, hr, r, t, k⟩ := h
  cases r with
  | nil => exact ⟨rfl, k Z G H _ _ Ext.refl hr e t⟩
  | cons _ _ => exact False.elim t
theorem qgs_cons {e : Expr} {es : List Expr} {t : TGw} {u : TGsw} (h1 : PGw X e t) (h2 : PGsw X es u)
    (hs : (assignEach (e :: es) X.env).map (·.2) = assign e X.env :: (assignEach es X.env).map (·.2) := by rfl) : PGsw X (e :: es) (gsC t u) := PGs.imp (pgs_cons h1 h2 hs) fun vs σ H Q h => by
  obtain ⟨Z, σ', G, ws, Qw, e, hr, r, t, k⟩ := h
  cases r with
  | nil => exact False.elim t
  | @cons w v us vs r rr =>
    refine ⟨_, _, rfl, Z, σ', G, w, _, e, hr, r, t, fun Z1 G1 H1 s1 s2 x1 h1 r1 q1 => ?_⟩
    exact ⟨Z1, s1, G1, us, Qw, r1, h1, rr.ext hr x1, q1, k.mono x1⟩
theorem qgT {es : List Expr} {k : Nat} {t : TGsw} {n : Nat} (hc : X.calm = true) (h : PGsw X es t)
    (hn : (assignEach es X.env).length = n := by rfl) (hst : (assignEach es X.env).findIdx? (·.1) = none := by rfl) : PGw X (.Tuple es k pos) (gT n t) := PG.imp (pg_tup hc h hn hst) fun v σ H Q h => by
  obtain ⟨Z, σ', G, w, Qw, e, hr, r, t, k⟩ := h
  cases r with
  | tup s r => exact ⟨_, _, rfl, s, by rw [← r.length]; exact t.1, Z, σ', G, _, Qw, e, hr, r, t.2, k⟩
  | _ => exact False.elim t
theorem qgIx {o i : Expr} {to ti : TEw} (ho : PEw X o to) (hi : PEw X i ti)
    (ha : ∀ v, assign (.Subscript o i pos) X.env v = (do
      let ov ← holding [v] (eval o X.env)
      let iv ← holding [v, ov] (eval i X.env)
      standAt pos
      holding [v, ov, iv] (setItem ov iv v)
      release [v, ov, iv] []) := by intro _; rfl) : PGw X (.Subscript o i pos) (gIx to ti) := PG.imp (pg_sub ho hi set_list ha) fun v σ H Q h => by
  obtain ⟨Z, σ', G, w, Qw, e, hr, r, t, k⟩ := h
  refine ⟨Z, σ', G, _, e, hr, t, fun Z1 G1 H1 ow ov x1 h1 r1 t1 => ⟨Z1, σ', G1, _, e.ext hr x1, h1, t1, fun Z2 G2 H2 iw iv x2 h2 r2 t2 => ?_⟩⟩
  obtain ⟨p, kk, ws, j, rfl, rfl, g, l, q⟩ := setIx_ex t2
  cases r1
  cases r2
  obtain ⟨vs, e2, rr⟩ := h2.lst g
  obtain ⟨h3, x3⟩ := chg_lst h2 g (((r.ext hr (x1.trans x2)) : Rw _ _ _ w v) |> fun r => RwL.set r j rr)
  refine ⟨p, vs, kk, j, rfl, rfl, e2, by rw [← rr.length]; exact l, ?_⟩
  exact k Z2 _ _ _ _ ((x1.trans x2).trans x3) h3 ((e.ext hr (x1.trans x2)).ext h2 x3) q
theorem qasg {tg : Expr} {g : TGw} (he : PEw X e te) (hg : PGw X tg g) (hs : swapsWithSole [tg] e pos.line X.env = pure false := by rfl) (hw : swappedStores [tg] e X.env = pure none := by rfl)
    (h1 : (assignEach [tg] X.env).map (·.2) = [assign tg X.env] := by rfl) : PSw X (.Assign [tg] e pos) (wAsg te g) := PS.imp (ps_asg he hg hs hw h1) fun D σ H h => by
  obtain ⟨Z, σ', G, Dw, e, hr, t, k⟩ := h
  exact ⟨Z, σ', G, _, e, hr, t, fun Z1 G1 H1 w v x1 h1 r1 q => ⟨Z1, σ', G1, w, _, e.ext hr x1, h1, r1, q, k.nx.mono x1⟩⟩
theorem qset {i : Nat} {x : Str} {pos' : Pos} (hN : X.N.Nodup) (hi : X.N[i]? = some x) (hx : Loc X.env.scope x := by first | exact Or.inl rfl | exact Or.inr rfl) (he : PEw X e te) (hs : swapsWith e (some (.Name x pos')) pos.line X.env = pure false := by rfl) (hf : X.fn x = true ∨ X.env.scope.names.lookup x = some .local := by first | exact .inl rfl | exact .inr rfl | assumption) :
    PSw X (.Assign [.Name x pos'] e pos) (wAsg te (gN i)) := PS.imp (ps_set hN hi hx he hs hf) fun D σ H h => by
  obtain ⟨Z, σ', G, Dw, e, hr, t, k⟩ := h
  exact ⟨Z, σ', G, _, e, hr, t, fun Z1 G1 H1 w v x1 h1 r1 q => lgN ⟨Z1, σ', G1, w, _, e.ext hr x1, h1, r1, q, k.nx.mono x1⟩⟩
theorem qpar {i j : Nat} {x y : Str} {a b : Expr} {ta : TAw} {px py pt : Pos} {kt k2 pt2} (hc : X.calm = true) (hN : X.N.Nodup) (hi : X.N[i]? = some x) (hj : X.N[j]? = some y) (hij : i ≠ j)
    (hx : X.env.scope.names.lookup x = some .local) (hy : X.env.scope.names.lookup y = some .local) (ha : PAw X [a, b] ta)
    (hw : swappedStores [.Tuple [.Name x px, .Name y py] kt pt] (.Tuple [a, b] k2 pt2) X.env = pure (some [x, y]))
    (hs : swapsWithSole [.Tuple [.Name x px, .Name y py] kt pt] (.Tuple [a, b] k2 pt2) pos.line X.env = pure false := by rfl) :
    PSw X (.Assign [.Tuple [.Name x px, .Name y py] kt pt] (.Tuple [a, b] k2 pt2) pos) (wPar i j ta) := PS.imp (ps_par hc hN hi hj hij hx hy ha hw hs) fun D σ H h => by
  obtain ⟨Z, σ', G, Dw, e, hr, t, k⟩ := h
  refine ⟨Z, σ', G, _, e, hr, t, fun Z1 G1 H1 ws vs x1 h1 r1 q => ?_⟩
  cases r1 with
  | nil => exact False.elim q
  | cons ra r1 =>
    cases r1 with
    | nil => exact False.elim q
    | cons rb r1 =>
      cases r1 with
      | cons _ _ => exact False.elim q
      | nil =>
      exact ⟨_, _, rfl, k.nx Z1 G1 H1 _ _ x1 h1 (((e.ext hr x1).set ra i).set rb j) q⟩
/-- name op= e -/
theorem qaug {i : Nat} {x : Str} {op : Operator} {ti : TIp} {wr : RW2} {pos' : Pos} (hN : X.N.Nodup) (hi : X.N[i]? = some x) (hx : Loc X.env.scope x := by first | exact Or.inl rfl | exact Or.inr rfl) (he : PEw X e te) (ho : PIp X op ti) (hs : Sim2 X.K ti wr) (hf : X.fn x = true ∨ X.env.scope.names.lookup x = some .local := by first | exact .inl rfl | exact .inr rfl | assumption) :
    PSw X (.AugAssign (.Name x pos') op e pos) (wAug i te wr) := PS.imp (ps_aug hN hi hx he ho hf) fun D σ H h => by
  obtain ⟨Z, σ', G, Dw, e, hr, t, k⟩ := h
  obtain ⟨xw, es, t⟩ := isS_ex t
  obtain ⟨xv, ev, rx⟩ := e.get i es
  refine ⟨xv, ev, Z, σ', G, _, e, hr, t, fun Z1 G1 H1 w v x1 h1 r1 q => ?_⟩
  exact hs Z1 G1 H1 xw w xv v _ _ h1 (rx.ext hr x1) r1 q fun Z2 G2 H2 z zv x2 h2 r2 q2 => k.nx Z2 G2 H2 _ _ (x1.trans x2) h2 ((e.ext hr (x1.trans x2)).set r2 i) q2
abbrev wAddI : RW2 := wII fun i j => .int (i + j)
theorem sim_ip {g : Int → Int → Int} : Sim2 K (ipI g) (wII fun i j => .int (g i j)) := by
  intro Z G H x y v u Qw Q h rx ry t k
  cases rx <;> cases ry <;> first
    | exact False.elim t
    | exact ⟨_, _, rfl, rfl, k.at h .int t⟩
theorem qaugA {i : Nat} {x : Str} {pos' : Pos} (hN : X.N.Nodup) (hi : X.N[i]? = some x) (hx : Loc X.env.scope x := by first | exact Or.inl rfl | exact Or.inr rfl) (he : PEw X e te) (hf : X.fn x = true ∨ X.env.scope.names.lookup x = some .local := by first | exact .inl rfl | exact .inr rfl | assumption) : PSw X (.AugAssign (.Name x pos') .Add e pos) (wAug i te wAddI) := qaug hN hi hx he ip_add sim_ip hf
theorem qaugS {i : Nat} {x : Str} {pos' : Pos} (hN : X.N.Nodup) (hi : X.N[i]? = some x) (hx : Loc X.env.scope x := by first | exact Or.inl rfl | exact Or.inr rfl) (he : PEw X e te) (hf : X.fn x = true ∨ X.env.scope.names.lookup x = some .local := by first | exact .inl rfl | exact .inr rfl | assumption) : PSw X (.AugAssign (.Name x pos') .Sub e pos) (wAug i te wSub) := qaug hN hi hx he ip_sub sim_ip hf
end
end WL

namespace WL
open PySem PySem.Spec PyProof.Rows L2
/-! ### while -/
def wWhile (ks : List Bool) (c : TTw) (tb : TSw) : TSw := fun D σ G => ∃ P : Nat → SW → Gp → Prop, (∃ m, P m (skill σ ks) G) ∧ ∀ m σ G, P m σ G →
  c σ G fun b G1 => if b = true then tb { nx := fun σ' G' => ∃ m', m' < m ∧ P m' (skill σ' ks) G', ct := fun σ' G' => ∃ m', m' < m ∧ P m' (skill σ' ks) G', bk := D.nx, rt := D.rt } σ G1 else D.nx σ G1
section
variable {X : Cx} {K : PySem.W.Frag} {pos : Pos}
theorem lwhile {ks : List Bool} {c : TTw} {tb : TSw} {D : Ends} {σ : SV} {H : Hp} (h : liftS K (wWhile ks c tb) D σ H) : tWhile (liftT K c) (liftS K tb) D σ H := by
  obtain ⟨Z, σ', G, Dw, e, hr, ⟨P, ⟨m0, p0⟩, step⟩, k⟩ := h
  refine ⟨fun m σ1 H1 => ∃ Z1 σ1' G1, Ext Z G H Z1 G1 H1 ∧ HRel K Z1 G1 H1 ∧ RwS K Z1 H1 σ1' σ1 ∧ P m σ1' G1, ⟨m0, Z, _, G, Ext.refl, hr, e.kill ks, p0⟩, ?_⟩
  rintro m σ1 H1 ⟨Z1, σ1', G1, x1, h1, e1, p1⟩
  refine ⟨Z1, σ1', G1, _, e1, h1, step m σ1' G1 p1, fun Z2 G2 H2 b x2 h2 q => ?_⟩
  cases b with
  | false => exact k.nx Z2 G2 H2 _ _ (x1.trans x2) h2 (e1.ext h1 x2) q
  | true =>
    refine iteT ⟨fun σ' H' => ∃ m', m' < m ∧ ∃ Z1 σ1' G1, Ext Z G H Z1 G1 H' ∧ HRel K Z1 G1 H' ∧ RwS K Z1 H' σ1' σ' ∧ P m' σ1' G1, fun σ' H' n => n, ?_⟩
    refine ⟨Z2, σ1', G2, _, e1.ext h1 x2, h2, q, ⟨fun Z3 G3 H3 s3 t3 x3 h3 e3 q3 => ?_, k.rt.mono (x1.trans x2), k.nx.mono (x1.trans x2), fun Z3 G3 H3 s3 t3 x3 h3 e3 q3 => ?_⟩⟩
    · obtain ⟨m', hm, p3⟩ := q3
      exact ⟨m', hm, Z3, _, G3, (x1.trans x2).trans x3, h3, e3.kill ks, p3⟩
    · obtain ⟨m', hm, p3⟩ := q3
      exact ⟨m', hm, Z3, _, G3, (x1.trans x2).trans x3, h3, e3.kill ks, p3⟩
theorem qwhile {ks : List Bool} {c : Expr} {body : List Stmt} {tc : TTw} {tb : TSw} (hp : PassesOwn (model X.prog X.w) X.A X.env X.xe) (hc : PTw X c tc) (hb : PSsw X body tb) : PSw X (.While c body [] pos) (wWhile ks tc tb) :=
  PS.imp (ps_while hp hc hb) fun _ _ _ h => lwhile h
end
/-! ### for -/
/-- the turns bring these values, whatever the loop does to what is tracked -/
def WalkW (K : PySem.W.Frag) (J : It) (Z : Zp) (G : Gp) (H : Hp) (ws : List W) : Prop := ∃ (Gd : Hp → Prop) (Y : Nat → Hp → V → Hp → Prop), Walk J ws.length Gd Y ∧
  ∀ Z' G' H', Ext Z G H Z' G' H' → HRel K Z' G' H' → Gd H' ∧ ∀ i v H'', i < ws.length → Y i H' v H'' → ∃ w, ws[i]? = some w ∧ Rw K Z' H'' w v ∧ Ext Z' G' H' Z' G' H'' ∧ HRel K Z' G' H''
abbrev TIw := SW → Gp → (List W → Gp → Prop) → Prop
def liftI (K : PySem.W.Frag) (t : TIw) : TI := fun σ H R => ∃ Z σ' G Rw', RwS K Z H σ' σ ∧ HRel K Z G H ∧ t σ' G Rw' ∧ ∀ Z' G' H' ws J, Ext Z G H Z' G' H' → HRel K Z' G' H' → WalkW K J Z' G' H' ws → Rw' ws G' → R J H'
def PIw (X : Cx) (tg iter : Expr) (t : TIw) : Prop := PI X tg iter (liftI X.K t)
def forW (ks : List Bool) (g : TGw) (tb : TSw) : List W → TSw
  | [], D, σ, G => D.nx σ G
  | w :: ws, D, σ, G => g w σ G fun σ1 G1 => tb { nx := fun σ2 G2 => forW ks g tb ws D (skill σ2 ks) G2, ct := fun σ2 G2 => forW ks g tb ws D (skill σ2 ks) G2, bk := D.nx, rt := D.rt } σ1 G1
def wFor (ks : List Bool) (ti : TIw) (g : TGw) (tb : TSw) : TSw := fun D σ G => ti σ G fun ws G1 => forW ks g tb ws D (skill σ ks) G1
section
variable {X : Cx} {K : PySem.W.Frag} {pos : Pos}
theorem PI.imp {tg iter : Expr} {t t' : TI} (h : PI X tg iter t) (i : ∀ σ H R, t' σ H R → t σ H R) : PI X tg iter t' := ⟨fun pins s σ H R I q => h.run pins s σ H R I (i _ _ _ q)⟩
theorem lfor {ks : List Bool} {ti : TIw} {g : TGw} {tb : TSw} {D : Ends} {σ : SV} {H : Hp} (h : liftS K (wFor ks ti g tb) D σ H) : tFor (liftI K ti) (liftG K g) (liftS K tb) D σ H := by
  obtain ⟨Z, σ', G, Dw, e, hr, t, k⟩ := h
  refine ⟨Z, σ', G, _, e, hr, t, fun Z1 G1 H1 ws J x1 h1 ⟨Gd, Y, wk, hY⟩ t1 => ?_⟩
  refine for_it wk (fun i σ2 H2 => ∃ Z2 σ2' G2, Ext Z1 G1 H1 Z2 G2 H2 ∧ HRel K Z2 G2 H2 ∧ RwS K Z2 H2 σ2' σ2 ∧ forW ks g tb (ws.drop i) Dw σ2' G2) ?_ ?_ ?_ ?_
  · exact ⟨Z1, _, G1, Ext.refl, h1, (e.ext hr x1).kill ks, t1⟩
  · rintro i σ2 H2 _ ⟨Z2, σ2', G2, x2, h2, _, _⟩
    exact (hY Z2 G2 H2 x2 h2).1
  · rintro i v σ2 H2 H3 hi ⟨Z2, σ2', G2, x2, h2, e2, t2⟩ y
    obtain ⟨w, ew, rw', x3, h3⟩ := (hY Z2 G2 H2 x2 h2).2 i v H3 hi y
    have ed : ws.drop i = w :: ws.drop (i + 1) := by
      obtain ⟨hl, e⟩ := List.getElem?_eq_some_iff.mp ew
      rw [← e]; exact List.drop_eq_getElem_cons hl
    rw [ed] at t2
    refine ⟨Z2, σ2', G2, w, _, e2.ext h2 x3, h3, rw', t2, fun Z4 G4 H4 s4 t4 x4 h4 e4 q4 => ?_⟩
    have x24 := (x2.trans x3).trans x4
    have xx := x1.trans x24
    exact ⟨Z4, s4, G4, _, e4, h4, q4, ⟨fun Z5 G5 H5 s5 t5 x5 h5 e5 q5 => ⟨Z5, _, G5, x24.trans x5, h5, e5.kill ks, q5⟩, k.rt.mono xx, k.nx.mono xx, fun Z5 G5 H5 s5 t5 x5 h5 e5 q5 => ⟨Z5, _, G5, x24.trans x5, h5, e5.kill ks, q5⟩⟩⟩
  · rintro σ2 H2 ⟨Z2, σ2', G2, x2, h2, e2, t2⟩
    rw [List.drop_length] at t2
    exact k.nx Z2 G2 H2 _ _ (x1.trans x2) h2 e2 t2
theorem qfor {ks : List Bool} {tg iter : Expr} {body : List Stmt} {ti : TIw} {g : TGw} {tb : TSw} (hp : PassesOwn (model X.prog X.w) X.A X.env X.xe) (hc : X.calm = true) (hi : PIw X tg iter ti) (hg : PGw X tg g) (hb : PSsw X body tb)
    (hs : ∀ x, foldedSetIterable iter X.env x = pure x := by intro _; rfl) : PSw X (.For tg iter body [] pos) (wFor ks ti g tb) := PS.imp (ps_for hp hc hi hg hb hs) fun _ _ _ h => lfor h
/-! what is walked -/
variable {tg : Expr} {te : TEw} {ta : TAw}
/-- a tuple or a list that stays as it is (a list of the small heap is frozen) -/
def iSeqW (te : TEw) : TIw := fun σ G R => te σ G fun w G1 => match w with
  | .tup ws => R ws G1
  | .lst ws => R ws G1
  | .scr ws => R ws G1
  | .ref p => isG (G1 p) fun ws => R ws (gdel G1 p)
  | _ => False
def iSeq (K : PySem.W.Frag) (tl : TE) : TI := fun σ H R => tl σ H fun x H1 => (∃ a, x = .ref a ∧ (∃ xs, SqL K H1 a xs) ∧ R (Itl K a) H1) ∨ (∃ a, x = .ref a ∧ (∃ xs, SqT K H1 a xs) ∧ R (Itt K a) H1)
theorem pi_seq {l : Expr} {tl : TE} (hl : PE X l tl) : PI X tg l (iSeq X.K tl) := by
  refine ⟨fun pins s σ H R I h => ?_⟩
  have two : ∀ v s1, EP X pins σ (fun x H1 => (∃ a, x = .ref a ∧ (∃ xs, SqL X.K H1 a xs) ∧ R (Itl X.K a) H1) ∨ (∃ a, x = .ref a ∧ (∃ xs, SqT X.K H1 a xs) ∧ R (Itt X.K a) H1)) v s1 →
      EP X pins σ (fun x H1 => ∃ a, x = .ref a ∧ (∃ xs, SqL X.K H1 a xs) ∧ R (Itl X.K a) H1) v s1 ∨ EP X pins σ (fun x H1 => ∃ a, x = .ref a ∧ (∃ xs, SqT X.K H1 a xs) ∧ R (Itt X.K a) H1) v s1 := fun v s1 ⟨x, H1, I1, r1, q⟩ => by
    rcases q with q | q
    · exact .inl ⟨x, H1, I1, r1, q⟩
    · exact .inr ⟨x, H1, I1, r1, q⟩
  -- the two rules of the layer, each over an expression that is already evaluated
  refine thn (hl.run pins s σ H _ I h) fun v s1 q => ?_
  rcases two v s1 q with ⟨x, H1, I1, r1, a, rfl, ⟨xs, hq⟩, q1⟩ | ⟨x, H1, I1, r1, a, rfl, ⟨xs, hq⟩, q1⟩
  · cases r1
    obtain ⟨its, _, pl, _⟩ := I1.list hq
    refine wpAny_pyIter_list pl.isList ⟨_, [s1.heap.objs.size], _, _, H1, rfl, I1.kept (t' := s1.toks) (fun b o e => Heap.get?_push_of_some _ e), turn_list a _, ⟨_, Heap.get?_push_size _ rfl, rfl, rfl⟩, ?_, q1⟩
    intro b hb
    rw [List.mem_singleton.mp hb]
    exact I1.fpOk (Nat.le_refl _) (I1.hok.fresh (Nat.le_refl _))
  · cases r1
    obtain ⟨its, _, pl, _⟩ := I1.tuple hq
    refine wpAny_pyIter_tuple (show s1.heap.IsTuple a its.toArray from pl) ⟨_, [s1.heap.objs.size], _, _, H1, rfl, I1.kept (t' := s1.toks) (fun b o e => Heap.get?_push_of_some _ e), turn_tuple a _, ⟨_, Heap.get?_push_size _ rfl, rfl, rfl⟩, ?_, q1⟩
    intro b hb
    rw [List.mem_singleton.mp hb]
    exact I1.fpOk (Nat.le_refl _) (I1.hok.fresh (Nat.le_refl _))
theorem walkT {Z : Zp} {G : Gp} {H : Hp} {a : Addr} {ws : List W} {vs : List V} (h : HRel K Z G H) (s : SqT K H a vs) (r : RwL K Z H ws vs) : WalkW K (Itt K a) Z G H ws := by
  refine ⟨_, _, by rw [r.length]; exact walk_tup (K := K) (a := a) (xs := vs), fun Z' G' H' x h' => ⟨SqT.ext h x s, fun i v H'' hi y => ?_⟩⟩
  obtain ⟨rfl, ev⟩ := y
  obtain ⟨w, ew, rw'⟩ := (r.ext h x).get' i ev
  exact ⟨w, ew, rw', Ext.refl, h'⟩
theorem walkL {Z : Zp} {G : Gp} {H : Hp} {a : Addr} {ws : List W} {vs : List V} (h : HRel K Z G H) (z : Z a) (s : H a = some (.lst vs)) (r : RwL K Z H ws vs) : WalkW K (Itl K a) Z G H ws := by
  refine ⟨_, _, by rw [r.length]; exact walk_list (K := K) (a := a) (xs := vs), fun Z' G' H' x h' => ⟨SqL.of (x.f a _ s (h.z a z).1).1, fun i v H'' hi y => ?_⟩⟩
  obtain ⟨rfl, ev⟩ := y
  obtain ⟨w, ew, rw'⟩ := (r.ext h x).get' i ev
  exact ⟨w, ew, rw', Ext.refl, h'⟩
theorem walkS {Z : Zp} {G : Gp} {H : Hp} {a : Addr} {ws : List W} {vs : List V} (h : HRel K Z G H) (s : SqF K H a vs) (r : RwL K Z H ws vs) : WalkW K (Itl K a) Z G H ws := by
  refine ⟨_, _, by rw [r.length]; exact walk_list (K := K) (a := a) (xs := vs), fun Z' G' H' x h' => ⟨(s.ext h x).sq, fun i v H'' hi y => ?_⟩⟩
  obtain ⟨rfl, ev⟩ := y
  obtain ⟨w, ew, rw'⟩ := (r.ext h x).get' i ev
  exact ⟨w, ew, rw', Ext.refl, h'⟩
theorem qiseq {l : Expr} (hl : PEw X l te) : PIw X tg l (iSeqW te) := PI.imp (pi_seq hl) fun σ H R h => by
  obtain ⟨Z, σ', G, Qw, e, hr, t, k⟩ := h
  refine ⟨Z, σ', G, _, e, hr, t, fun Z1 G1 H1 w v x1 h1 r1 t1 => ?_⟩
  cases r1 with
  | tup s r => exact .inr ⟨_, rfl, ⟨_, s⟩, k Z1 G1 H1 _ _ x1 h1 (walkT h1 s r) t1⟩
  | lst z s r => exact .inl ⟨_, rfl, ⟨_, SqL.of s⟩, k Z1 G1 H1 _ _ x1 h1 (walkL h1 z s r) t1⟩
  | scr s r => exact .inl ⟨_, rfl, ⟨_, s.sq⟩, k Z1 G1 H1 _ _ x1 h1 (walkS h1 s r) t1⟩
  | @ref p =>
    obtain ⟨ws, g, q⟩ := isG_ex t1
    obtain ⟨vs, s, r⟩ := h1.lst g
    obtain ⟨h2, x2⟩ := h1.freeze (p := p) (by rw [s]; simp)
    exact .inl ⟨_, rfl, ⟨_, SqL.of s⟩, k _ _ H1 _ _ (x1.trans x2) h2 (walkL h2 (.inr rfl) s (r.ext h1 x2)) q⟩
  | _ => exact False.elim t1
def rangeW (lo : Int) (n : Nat) : List W := (List.range n).map fun i => W.int (lo + (i : Nat))
theorem walkR {Z : Zp} {G : Gp} {H : Hp} {lo : Int} {n : Nat} : WalkW K (Itr lo n) Z G H (rangeW lo n) := by
  refine ⟨_, _, by unfold rangeW; rw [List.length_map, List.length_range]; exact walk_range, fun Z' G' H' x h' => ⟨trivial, fun i v H'' hi y => ?_⟩⟩
  obtain ⟨rfl, rfl⟩ := y
  unfold rangeW at hi ⊢
  rw [List.length_map, List.length_range] at hi
  exact ⟨.int (lo + i), by rw [List.getElem?_map, List.getElem?_range hi]; rfl, .int, Ext.refl, h'⟩
def rng1 (ws : List W) (G : Gp) (R : List W → Gp → Prop) : Prop := match ws with
  | [.int j] => j < 4611686018427387904 ∧ -4611686018427387904 ≤ j ∧ R (rangeW 0 j.toNat) G
  | _ => False
def rng2 (ws : List W) (G : Gp) (R : List W → Gp → Prop) : Prop := match ws with
  | [.int i, .int j] => (-4611686018427387904 ≤ i ∧ i < 4611686018427387904 ∧ -4611686018427387904 ≤ j ∧ j < 4611686018427387904) ∧ R (rangeW i (j - i).toNat) G
  | _ => False
theorem rng1_int {j : Int} {G : Gp} {R : List W → Gp → Prop} : rng1 [.int j] G R = (j < 4611686018427387904 ∧ -4611686018427387904 ≤ j ∧ R (rangeW 0 j.toNat) G) := rfl
theorem rng2_int {i j : Int} {G : Gp} {R : List W → Gp → Prop} : rng2 [.int i, .int j] G R = ((-4611686018427387904 ≤ i ∧ i < 4611686018427387904 ∧ -4611686018427387904 ≤ j ∧ j < 4611686018427387904) ∧ R (rangeW i (j - i).toNat) G) := rfl
def iR1 (ta : TAw) : TIw := fun σ G R => ta σ G fun ws G1 => rng1 ws G1 R
def iR2 (ta : TAw) : TIw := fun σ G R => ta σ G fun ws G1 => rng2 ws G1 R
theorem qrange1 {a : Expr} {p pos : Pos} (hg : Gl X "range") (hm : X.mg "range" = none) (ha : PAw X [a] ta) (hs : starEach [a] X.env = [(false, eval a X.env)] := by rfl) : PIw X tg (.Call (.Name "range" p) [a] [] pos) (iR1 ta) :=
  PI.imp (pi_range1 hg hm ha hs) fun σ H R h => by
    obtain ⟨Z, σ', G, Qw, e, hr, t, k⟩ := h
    refine ⟨Z, σ', G, _, e, hr, t, fun Z1 G1 H1 ws vs x1 h1 r1 t1 => ?_⟩
    cases r1 with
    | nil => exact False.elim t1
    | cons ra rr =>
      cases rr with
      | cons _ _ => cases ra <;> exact False.elim t1
      | nil => cases ra <;> first
        | exact False.elim t1
        | exact ⟨_, rfl, t1.2.1, t1.1, k Z1 G1 H1 _ _ x1 h1 walkR t1.2.2⟩
theorem qrange2 {a b : Expr} {p pos : Pos} (hg : Gl X "range") (hm : X.mg "range" = none) (ha : PAw X [a, b] ta) (hs : starEach [a, b] X.env = [(false, eval a X.env), (false, eval b X.env)] := by rfl) (hs2 : starEach [b] X.env = [(false, eval b X.env)] := by rfl) :
    PIw X tg (.Call (.Name "range" p) [a, b] [] pos) (iR2 ta) :=
  PI.imp (pi_range2 hg hm ha hs hs2) fun σ H R h => by
    obtain ⟨Z, σ', G, Qw, e, hr, t, k⟩ := h
    refine ⟨Z, σ', G, _, e, hr, t, fun Z1 G1 H1 ws vs x1 h1 r1 t1 => ?_⟩
    cases r1 with
    | nil => exact False.elim t1
    | cons ra rr =>
      cases rr with
      | nil => cases ra <;> exact False.elim t1
      | cons rb rr =>
        cases rr with
        | cons _ _ => cases ra <;> cases rb <;> exact False.elim t1
        | nil => cases ra <;> cases rb <;> first
          | exact False.elim t1
          | exact ⟨_, _, rfl, t1.1, k Z1 G1 H1 _ _ x1 h1 walkR t1.2⟩
end
/-! ### what a def promises -/
/-- the arguments, the small heap, the wanted end, the wanted exception: its class, its own attributes -/
abbrev Spw := List W → Gp → QW → (Addr → List (Str × W) → Gp → Prop) → Prop
def liftSp (K : PySem.W.Frag) (sp : Spw) : Sp := fun vs H Q E => ∃ Z ws G Qw Ew, RwL K Z H ws vs ∧ HRel K Z G H ∧ sp ws G Qw Ew ∧ KE K Z G H Qw Q ∧
  ∀ Z' G' H' C fs d, Ext Z G H Z' G' H' → HRel K Z' G' H' → (fs = [] ∧ d = none ∨ ∃ a gs, d = some a ∧ H' a = some (.xd gs) ∧ RwF K Z' H' fs gs) → Ew C fs G' → E (.ref C) d H'
/-- what a body's end may do besides: forget, and freeze what is told -/
def Cl (Q : QW) : QW := fun w G => Q w G ∨ ∃ p ws, w = .ref p ∧ G p = some (.lst ws) ∧ Q (.lst ws) (gdel G p)
theorem KE.cl {K : PySem.W.Frag} {Z : Zp} {G : Gp} {H : Hp} {Qw : QW} {Q : VK} (k : KE K Z G H Qw Q) : KE K Z G H (Cl Qw) Q := by
  intro Z1 G1 H1 w v x1 h1 r1 q
  rcases q with q | ⟨p, ws, rfl, g, q⟩
  · exact k Z1 G1 H1 w v x1 h1 r1 q
  · cases r1
    obtain ⟨vs, s, r⟩ := h1.lst g
    obtain ⟨h2, x2⟩ := h1.freeze (p := p) (by rw [s]; simp)
    exact k _ _ H1 (.lst ws) _ (x1.trans x2) h2 (.lst (.inr rfl) s (r.ext h1 x2)) q
/-- a list told by a def: the caller's own, or frozen -/
def tellL (ws : List W) (Q : QW) (G : Gp) : Prop := Q (.lst ws) G ∨ ∀ p, G p = none → Q (.ref p) (gup G p (.lst ws))
theorem tellL.cl {ws : List W} {Q : QW} {G : Gp} (h : tellL ws Q G) {p : Addr} (n : G p = none) : Cl Q (.ref p) (gup G p (.lst ws)) := by
  rcases h with h | h
  · exact .inr ⟨p, ws, rfl, gup_same, by rw [gdel_gup n]; exact h⟩
  · exact .inl (h p n)
/-- a def called by its name in the module -/
structure Cal (P : Program) (w : World) (K : PySem.W.Frag) (mg : Str → Option Value) (base : Heap) (CX : CXT) (k : Nat) (x : Str) (sp : Spw) : Prop where
  ex : ∃ f fd ps, FnOk P w K mg base CX k f fd ps (liftSp K sp) ∧ mg x = some (.ref f) ∧ PySem.W.keepIn K (.ref f) = true ∧ Binds K fd ps []
def E0w : Addr → List (Str × W) → Gp → Prop := fun _ _ _ => False
def wCall (sp : Spw) (t : TAw) : TEw := fun σ G Q => t σ G fun ws G1 => sp ws G1 Q E0w
section
variable {X : Cx} {K : PySem.W.Frag} {x : Str} {p pos : Pos} {e : Expr} {es : List Expr} {t : TAw} {sp : Spw} {k : Nat}
theorem lcall {σ : SV} {H : Hp} {Q : VK} (h : liftE K (wCall sp t) σ H Q) : tCall (liftSp K sp) [] E0 (liftA K t) σ H Q := by
  obtain ⟨Z, σ', G, Qw, e, hr, t, k⟩ := h
  refine ⟨Z, σ', G, _, e, hr, t, fun Z1 G1 H1 ws vs x1 h1 r1 t1 => ?_⟩
  show liftSp K sp (vs ++ []) H1 Q E0
  rw [List.append_nil]
  exact ⟨Z1, ws, G1, Qw, E0w, r1, h1, t1, k.mono x1, fun _ _ _ _ _ _ _ _ _ z => z.elim⟩
theorem qcall (c : Cal X.prog X.w X.K X.mg X.base CX0 k x sp) (hr : Room k X.A) (hg : Gl X x) (ha : PAw X (e :: es) t) (hdb : (x == ("__debug__" : Str)) = false := by decide)
    (he : starEach (e :: es) X.env = (false, eval e X.env) :: starEach es X.env := by rfl) (hpl : (backTo pos (starEach es X.env)).any (·.1) = false := by rfl) : PEw X (.Call (.Name x p) (e :: es) [] pos) (wCall sp t) := by
  obtain ⟨f, fd, ps, F, m, kp, b⟩ := c.ex
  exact PE.imp (pe_call F hr hg m kp b .nil pass0 ha hdb he hpl) fun _ _ _ h => lcall h
theorem qcall0 (c : Cal X.prog X.w X.K X.mg X.base CX0 k x sp) (hr : Room k X.A) (hg : Gl X x) (hdb : (x == ("__debug__" : Str)) = false := by decide) : PEw X (.Call (.Name x p) [] [] pos) (wCall sp wNil) := by
  obtain ⟨f, fd, ps, F, m, kp, b⟩ := c.ex
  refine PE.imp (pe_call0 F hr hg m kp b .nil pass0 hdb) fun σ H Q h => ?_
  obtain ⟨Z, σ', G, Qw, e, hr, t, k⟩ := h
  exact ⟨Z, [], G, Qw, E0w, .nil, hr, t, k, fun _ _ _ _ _ _ _ _ _ z => z.elim⟩
end
section
variable {P : Program} {w : World} {K : PySem.W.Frag} {mg : Str → Option Value} {base : Heap}
/-- THE RULE for a def that raises nothing -/
theorem okW {x qual : Str} {st : Stmt} {f : Addr} {fd : FuncData} {N ps : List Str} {k : Nat} {sp : Spw} (F : Fun K x qual st f fd) (S : FnScope N ps (defScope st)) (len : ∀ ws G Q E, sp ws G Q E → ws.length = ps.length)
    (hbody : ∀ (cdv : Value) (A : Around) (outer : List Env) (s : Shared) (H : Hp) (E : XK), Room k (A.deeper (envOfC qual (defScope st) s.heap.objs.size f cdv)) →
      ∃ t, PSsw (cxOf CX0 P w K mg base N qual (defScope st) f cdv A outer s H E).nox (defBody st) t ∧ ∀ ws G Q E, sp ws G Q E → t { nx := fun _ G' => Q .non G', rt := Cl Q } (startW N ws) G) :
    FnOk P w K mg base CX0 (k + 1) f fd ps (liftSp K sp) := by
  refine F.ok S (fun vs H Q E h => ?_) fun cdv A outer s H vs Q E hr h => ?_
  · obtain ⟨Z, ws, G, Qw, Ew, r, _, s, _⟩ := h
    rw [← r.length]
    exact len _ _ _ _ s
  · obtain ⟨Z, ws, G, Qw, Ew, r, hh, s1, kq, ke⟩ := h
    obtain ⟨t, ht, q⟩ := hbody cdv A outer s H E hr
    exact ⟨_, ht, Z, _, G, _, RwS.start r, hh, q ws G Qw Ew s1, ⟨fun Z1 G1 H1 _ _ x1 h1 _ q1 => kq Z1 G1 H1 _ _ x1 h1 .non q1, kq.cl, fun _ _ _ _ _ _ _ _ z => z.elim, fun _ _ _ _ _ _ _ _ z => z.elim⟩⟩
end
/-! ### methods of lists -/
abbrev RWM := W → List W → Gp → QW → Prop
def SimM (K : PySem.W.Frag) (r : V → List V → Hp → VK → Prop) (wr : RWM) : Prop := ∀ Z G H x v ws vs Qw Q, HRel K Z G H → Rw K Z H x v → RwL K Z H ws vs → wr x ws G Qw → KE K Z G H Qw Q → r v vs H Q
def wBM (wr : RWM) (to : TEw) (t : TAw) : TEw := fun σ G Q => to σ G fun o G1 => (asL G1 o).isSome = true ∧ t σ G1 fun ws G2 => wr o ws G2 Q
def wBM0 (wr : RWM) (to : TEw) : TEw := fun σ G Q => to σ G fun o G1 => (asL G1 o).isSome = true ∧ wr o [] G1 Q
section
variable {X : Cx} {K : PySem.W.Frag} {o e : Expr} {es : List Expr} {to : TEw} {t : TAw} {cpos apos : Pos}
theorem lbm {r : V → List V → Hp → VK → Prop} {wr : RWM} (hs : SimM K r wr) {σ : SV} {H : Hp} {Q : VK} (h : liftE K (wBM wr to t) σ H Q) : tBM K "list" r (liftE K to) (liftA K t) σ H Q := by
  obtain ⟨Z, σ', G, Qw, ev, hr, t, k⟩ := h
  refine ⟨Z, σ', G, _, ev, hr, t, fun Z1 G1 H1 w v x1 h1 r1 t1 => ?_⟩
  obtain ⟨eu, t1⟩ := t1
  obtain ⟨us, eu⟩ := Option.isSome_iff_exists.mp eu
  obtain ⟨p, vs, rfl, s, _⟩ := asL_sq h1 r1 eu
  refine ⟨.inl ⟨rfl, vs, s⟩, Z1, σ', G1, _, ev.ext hr x1, h1, t1, fun Z2 G2 H2 ws us x2 h2 r2 t2 => ?_⟩
  exact hs Z2 G2 H2 w _ ws us Qw Q h2 (r1.ext h1 x2) r2 t2 (k.mono (x1.trans x2))
theorem lbm0 {r : V → List V → Hp → VK → Prop} {wr : RWM} (hs : SimM K r wr) {σ : SV} {H : Hp} {Q : VK} (h : liftE K (wBM0 wr to) σ H Q) : tBM0 K "list" r (liftE K to) σ H Q := by
  obtain ⟨Z, σ', G, Qw, ev, hr, t, k⟩ := h
  refine ⟨Z, σ', G, _, ev, hr, t, fun Z1 G1 H1 w v x1 h1 r1 t1 => ?_⟩
  obtain ⟨eu, t1⟩ := t1
  obtain ⟨us, eu⟩ := Option.isSome_iff_exists.mp eu
  obtain ⟨p, vs, rfl, s, _⟩ := asL_sq h1 r1 eu
  exact ⟨.inl ⟨rfl, vs, s⟩, hs Z1 G1 H1 w _ [] [] Qw Q h1 r1 .nil t1 (k.mono x1)⟩
def wAppend : RWM := fun o ws G Q => match o, ws with
  | .ref p, [w] => isG (G p) fun us => us.length < sizeLine ∧ Q .non (gup G p (.lst (us ++ [w])))
  | _, _ => False
theorem sim_append : SimM K rAppend wAppend := by
  intro Z G H x v ws vs Qw Q h rx rs t k
  cases rx with
  | @ref p =>
    cases rs with
    | nil => exact False.elim t
    | cons r1 rs =>
      cases rs with
      | cons _ _ => exact False.elim t
      | nil =>
        obtain ⟨us, g, l, q⟩ := isG_ex t
        obtain ⟨xs, s, r⟩ := h.lst g
        obtain ⟨h2, x2⟩ := chg_lst h g (r.append (.cons r1 .nil))
        exact ⟨p, xs, _, rfl, rfl, s, by rw [← r.length]; exact l, k _ _ _ _ _ x2 h2 .non q⟩
  | _ => exact False.elim t
def wPop : RWM := fun o ws G Q => match o, ws with
  | .ref p, [] => isG (G p) fun us => isS us[us.length - 1]? fun w => Q w (gup G p (.lst us.dropLast))
  | _, _ => False
theorem sim_pop : SimM K rPop wPop := by
  intro Z G H x v ws vs Qw Q h rx rs t k
  cases rx with
  | @ref p =>
    cases rs with
    | cons _ _ => exact False.elim t
    | nil =>
      obtain ⟨us, g, t⟩ := isG_ex t
      obtain ⟨w, l, q⟩ := isS_ex t
      obtain ⟨xs, s, r⟩ := h.lst g
      obtain ⟨y, ey, ry⟩ := r.get _ l
      obtain ⟨h2, x2⟩ := chg_lst h g r.dropLast
      exact ⟨p, xs, y, rfl, rfl, s, by rw [← r.length]; exact ey, k _ _ _ _ _ x2 h2 (ry.ext h x2) q⟩
  | _ => exact False.elim t
def wExtend : RWM := fun o ws G Q => match o, ws with
  | .ref p, [.lst zs] => isG (G p) fun us => us.length + zs.length ≤ sizeLine ∧ Q .non (gup G p (.lst (us ++ zs)))
  | _, _ => False
theorem sim_extend : SimM K rExtend wExtend := by
  intro Z G H x v ws vs Qw Q h rx rs t k
  cases rx with
  | @ref p =>
    cases rs with
    | nil => exact False.elim t
    | cons r1 rs =>
      cases rs with
      | cons _ _ => cases r1 <;> exact False.elim t
      | nil =>
        cases r1 with
        | lst z s1 r1 =>
          obtain ⟨us, g, l, q⟩ := isG_ex t
          obtain ⟨xs, s, r⟩ := h.lst g
          obtain ⟨h2, x2⟩ := chg_lst h g (r.append r1)
          exact ⟨p, _, xs, _, rfl, rfl, s, s1, by rw [← r.length, ← r1.length]; exact l, k _ _ _ _ _ x2 h2 .non q⟩
        | _ => exact False.elim t
  | _ => exact False.elim t
theorem qbm {nm : Str} {id : String} {r : V → List V → Hp → VK → Prop} {wr : RWM} (slot : Slot "list" nm id) (hty : typeOf (.builtin id) = pure (.type "method_descriptor")) (hm : MtR X id r) (hs : SimM X.K r wr) (ho : PEw X o to) (ha : PAw X (e :: es) t)
    (hbase : attributeBase o nm X.env (eval o X.env) = eval o X.env := by rfl)
    (hfew : ((backTo cpos (starEach (e :: es) X.env)).all (fun x => !x.1) && (backToKw cpos (keywordEach [] X.env)).all (fun x => x.1.isSome)
      && decide ((e :: es).length + ([] : List Keyword).length + (if ([] : List Keyword).isEmpty then 0 else 1) < 30)) = true := by rfl)
    (hline : (apos.endLine == cpos.line) = true := by rfl) (h1 : starEach (e :: es) X.env = (false, eval e X.env) :: starEach es X.env := by rfl) (h2 : (backTo cpos (starEach es X.env)).any (·.1) = false := by rfl) :
    PEw X (.Call (.Attribute o nm apos) (e :: es) [] cpos) (wBM wr to t) := PE.imp (pe_bm PySem.F.plainAttrs_list slot hty hm ho ha hbase hfew hline h1 h2) fun _ _ _ h => lbm hs h
end
end WL

namespace WL
open PySem PySem.Spec PyProof.Rows L2
section
variable {α : Type} {a b c d e f g h : α} {l : List α} {n : Nat}
theorem at0 : atI (a :: l) 0 = some a := atI_nat (j := 0) rfl
theorem at1 : atI (a :: b :: l) 1 = some b := atI_nat (j := 1) rfl
theorem at2 : atI (a :: b :: c :: l) 2 = some c := atI_nat (j := 2) rfl
theorem at3 : atI (a :: b :: c :: d :: l) 3 = some d := atI_nat (j := 3) rfl
theorem at4 : atI (a :: b :: c :: d :: e :: l) 4 = some e := atI_nat (j := 4) rfl
theorem at5 : atI (a :: b :: c :: d :: e :: f :: l) 5 = some f := atI_nat (j := 5) rfl
theorem at6 : atI (a :: b :: c :: d :: e :: f :: g :: l) 6 = some g := atI_nat (j := 6) rfl
theorem at7 : atI (a :: b :: c :: d :: e :: f :: g :: h :: l) 7 = some h := atI_nat (j := 7) rfl
theorem ixK {k : Nat} (h : k < n) : ixN n (k : Int) = some k := by
  unfold ixN
  rw [if_pos (by omega), if_pos (by omega)]
  rfl
theorem ix0 : ixN (n + 1) 0 = some 0 := ixK (k := 0) (by omega)
theorem ix1 : ixN (n + 1 + 1) 1 = some 1 := ixK (k := 1) (by omega)
theorem ix2 : ixN (n + 1 + 1 + 1) 2 = some 2 := ixK (k := 2) (by omega)
theorem ix3 : ixN (n + 1 + 1 + 1 + 1) 3 = some 3 := ixK (k := 3) (by omega)
theorem ix4 : ixN (n + 1 + 1 + 1 + 1 + 1) 4 = some 4 := ixK (k := 4) (by omega)
theorem ix5 : ixN (n + 1 + 1 + 1 + 1 + 1 + 1) 5 = some 5 := ixK (k := 5) (by omega)
theorem at_nat {k : Nat} {v : α} (h : l[k]? = some v) : atI l (k : Int) = some v := atI_nat h
/-- a drawn place of a written list -/
theorem at_in {i : Int} (h0 : 0 ≤ i) (h1 : i < l.length) : ∃ v, atI l i = some v ∧ v ∈ l := by
  obtain ⟨k, rfl⟩ : ∃ k : Nat, i = (k : Int) := ⟨i.toNat, by omega⟩
  have hk : k < l.length := by omega
  exact ⟨l[k], atI_nat (List.getElem?_eq_getElem hk), List.getElem_mem hk⟩
end
/-! ### the readings of values, where their kinds are known -/
section
variable {G : Gp} {Q : QW} {i j : Int} {ws us : List W} {x y : Str} {p : Addr} {a b w : W}
theorem asL_lst : asL G (.lst ws) = some ws := rfl
theorem asL_scr : asL G (.scr ws) = some ws := rfl
theorem asL_ref (h : G p = some (.lst ws)) : asL G (.ref p) = some ws := by simp only [asL, h]
theorem asL_gup : asL (gup G p (.lst ws)) (.ref p) = some ws := asL_ref gup_same
theorem wIx_tup : wIx (.tup ws) (.int i) G Q = isS (atI ws i) fun w => Q w G := rfl
theorem wIx_lst : wIx (.lst ws) (.int i) G Q = isS (atI ws i) fun w => Q w G := rfl
theorem wIx_scr : wIx (.scr ws) (.int i) G Q = isS (atI ws i) fun w => Q w G := rfl
theorem wIx_ref : wIx (.ref p) (.int i) G Q = isS (asL G (.ref p)) fun ws => isS (atI ws i) fun w => Q w G := rfl
theorem wIx_str : wIx (.str x) (.int i) G Q = (x.length ≤ sizeLine ∧ isS (atI x.cps.toList i) fun c => Q (.str ⟨#[c]⟩) G) := rfl
theorem wAdd_int : wAdd (.int i) (.int j) G Q = Q (.int (i + j)) G := rfl
theorem wAdd_str : wAdd (.str x) (.str y) G Q = (x.length + y.length ≤ sizeLine ∧ Q (.str (x ++ y)) G) := rfl
theorem wAdd_tup : wAdd (.tup ws) (.tup us) G Q = (ws ≠ [] ∧ ws.length + us.length ≤ sizeLine ∧ Q (.tup (ws ++ us)) G) := rfl
theorem wAdd_lst : wAdd (.lst ws) (.lst us) G Q = (ws.length + us.length ≤ sizeLine ∧ Q (.lst (ws ++ us)) G) := rfl
theorem wII_int {g : Int → Int → W} : wII g (.int i) (.int j) G Q = Q (g i j) G := rfl
theorem wI2_int {C : Int → Int → Prop} {g : Int → Int → W} : wI2 C g (.int i) (.int j) G Q = (C i j ∧ Q (g i j) G) := rfl
theorem wI1_int {g : Int → W} : wI1 g (.int i) G Q = Q (g i) G := rfl
theorem wI1N_int {g : Int → W} : wI1N g [.int i] G Q = Q (g i) G := rfl
theorem wI2N_int {g : Int → Int → W} : wI2N g [.int i, .int j] G Q = Q (g i j) G := rfl
theorem wLen_tup : wLen [.tup us] G Q = Q (.int us.length) G := rfl
theorem wLen_lst : wLen [.lst us] G Q = Q (.int us.length) G := rfl
theorem wLen_scr : wLen [.scr us] G Q = Q (.int us.length) G := rfl
theorem wLen_ref : wLen [.ref p] G Q = isS (asL G (.ref p)) fun us => Q (.int us.length) G := rfl
theorem wLen_str : wLen [.str x] G Q = (x.length ≤ sizeLine ∧ Q (.int x.length) G) := rfl
theorem wInt_int : wInt [.int i] G Q = Q (.int i) G := rfl
theorem wInt_bl {c : Bool} : wInt [.bl c] G Q = Q (.int (if c then 1 else 0)) G := rfl
theorem wStrI_int : wStrI [.int i] G Q = (i.natAbs.log2 < 1920 ∧ Q (.str (Str.ofString (toString i))) G) := rfl
theorem wEq_int : wEq (.int i) (.int j) G Q = Q (.bl (decide (i = j))) G := rfl
theorem wEq_str : wEq (.str x) (.str y) G Q = Q (.bl (decide (x = y))) G := rfl
theorem wNe_int : wNe (.int i) (.int j) G Q = Q (.bl (!decide (i = j))) G := rfl
theorem wNe_str : wNe (.str x) (.str y) G Q = Q (.bl (!decide (x = y))) G := rfl
theorem wEq_tup : wEq (.tup ws) (.tup us) G Q = (wOk (.tup ws) ∧ wOk (.tup us) ∧ Q (.bl (weqb (.tup ws) (.tup us))) G) := rfl
theorem wNe_tup : wNe (.tup ws) (.tup us) G Q = (wOk (.tup ws) ∧ wOk (.tup us) ∧ Q (.bl (!weqb (.tup ws) (.tup us))) G) := rfl
theorem wEq_lst : wEq (.lst ws) (.lst us) G Q = (wOk (.lst ws) ∧ wOk (.lst us) ∧ Q (.bl (weqb (.lst ws) (.lst us))) G) := rfl
theorem wNe_lst : wNe (.lst ws) (.lst us) G Q = (wOk (.lst ws) ∧ wOk (.lst us) ∧ Q (.bl (!weqb (.lst ws) (.lst us))) G) := rfl
theorem setIx_ref {P : Gp → Prop} : setIx (.ref p) (.int i) w G P = isG (G p) fun ws => isS (ixN ws.length i) fun j => P (gup G p (.lst (ws.set j w))) := rfl
theorem gT_tup {n : Nat} {t : TGsw} {σ : SW} {P : SW → Gp → Prop} : gT n t (.tup ws) σ G P = (ws.length = n ∧ t ws σ G P) := rfl
theorem gsC_cons {t : TGw} {u : TGsw} {σ : SW} {P : SW → Gp → Prop} : gsC t u (w :: ws) σ G P = t w σ G fun σ1 G1 => u ws σ1 G1 P := rfl
theorem gsN_nil {σ : SW} {P : SW → Gp → Prop} : gsN [] σ G P = P σ G := rfl
theorem wAppend_ref : wAppend (.ref p) [w] G Q = isG (G p) fun us => us.length < sizeLine ∧ Q .non (gup G p (.lst (us ++ [w]))) := rfl
theorem wPop_ref : wPop (.ref p) [] G Q = isG (G p) fun us => isS us[us.length - 1]? fun w => Q w (gup G p (.lst us.dropLast)) := rfl
theorem wExtend_ref : wExtend (.ref p) [.lst ws] G Q = isG (G p) fun us => us.length + ws.length ≤ sizeLine ∧ Q .non (gup G p (.lst (us ++ ws))) := rfl
theorem seq_tup {R : List W → Gp → Prop} {σ : SW} : iSeqW (wC (.tup ws)) σ G R = R ws G := rfl
end
/-- what is walked, by its kind -/
def seqOf (w : W) (G : Gp) (R : List W → Gp → Prop) : Prop := match w with
  | .tup ws => R ws G
  | .lst ws => R ws G
  | .scr ws => R ws G
  | .ref p => isG (G p) fun ws => R ws (gdel G p)
  | _ => False
theorem iSeqW_eq {te : TEw} {σ : SW} {G : Gp} {R : List W → Gp → Prop} : iSeqW te σ G R = te σ G fun w G1 => seqOf w G1 R := rfl
section
variable {G : Gp} {ws : List W} {p : Addr} {R : List W → Gp → Prop}
theorem seqOf_tup : seqOf (.tup ws) G R = R ws G := rfl
theorem seqOf_lst : seqOf (.lst ws) G R = R ws G := rfl
theorem seqOf_scr : seqOf (.scr ws) G R = R ws G := rfl
theorem seqOf_ref : seqOf (.ref p) G R = isG (G p) fun ws => R ws (gdel G p) := rfl
end
theorem cm64 {i j : Int} (h1 : -18446744073709551616 < i ∧ i < 18446744073709551616) (h2 : -18446744073709551616 < j ∧ j < 18446744073709551616) : CMulW i j :=
  wide_mul (a := 64) (b := 64) (by omega) (by omega) (by decide) (by decide) (by decide)
theorem cp64 {i j : Int} (h1 : -18446744073709551616 < i ∧ i < 18446744073709551616) (h2 : 0 ≤ j ∧ j ≤ 1000000) : CPow i j := ⟨h2.1, h2.2, by omega⟩
theorem cdL {i j : Int} (h : j ≠ 0 := by decide) (h2 : j.natAbs.log2 < 9000 := by decide +kernel) : CDivA i j := ⟨h, h2⟩
theorem fmodP {i j : Int} (h : 0 ≤ j := by decide) : i.fmod j = i % j := Int.fmod_eq_emod_of_nonneg i h
theorem fdivP {i j : Int} (h : 0 ≤ j := by decide) : i.fdiv j = i / j := Int.fdiv_eq_ediv_of_nonneg i h
theorem log2_lt_pow {m : Nat} {b : Nat} (h : m < 2 ^ b) (h0 : 0 < b) : m.log2 < b := PySem.Flt.log2_lt_of h0 h
/-! ### loops -/
/-- a loop that carries nothing but what stands in P -/
theorem forW_inv {ks : List Bool} {g : TGw} {tb : TSw} {D : EndsW} (P : SW → Gp → Prop) : ∀ (items : List W) (σ : SW) (G : Gp), P σ G →
    (∀ w ∈ items, ∀ σ G (N : SW → Gp → Prop), P σ G → (∀ σ' G', P (skill σ' ks) G' → N σ' G') → g w σ G fun σ1 G1 => tb { nx := N, ct := N, bk := D.nx, rt := D.rt } σ1 G1) →
    (∀ σ G, P σ G → D.nx σ G) → forW ks g tb items D σ G
  | [], σ, G, p, _, hd => hd σ G p
  | w :: ws, σ, G, p, hs, hd => hs w (.head _) σ G _ p fun σ' G' p' => forW_inv P ws _ G' p' (fun w' hw => hs w' (.tail _ hw)) hd
/-- a loop that carries a state a: step by step -/
theorem forW_fold {α : Type} {ks : List Bool} {g : TGw} {tb : TSw} {D : EndsW} (P : α → SW → Gp → Prop) (step : α → W → α) : ∀ (items : List W) (a : α) (σ : SW) (G : Gp), P a σ G →
    (∀ w ∈ items, ∀ a σ G (N : SW → Gp → Prop), P a σ G → (∀ σ' G', P (step a w) (skill σ' ks) G' → N σ' G') → g w σ G fun σ1 G1 => tb { nx := N, ct := N, bk := D.nx, rt := D.rt } σ1 G1) →
    (∀ σ G, P (items.foldl step a) σ G → D.nx σ G) → forW ks g tb items D σ G
  | [], a, σ, G, p, _, hd => hd σ G p
  | w :: ws, a, σ, G, p, hs, hd => hs w (.head _) a σ G _ p fun σ' G' p' => forW_fold P step ws _ _ G' p' (fun w' hw => hs w' (.tail _ hw)) hd
theorem rangeW_mem {lo : Int} {n : Nat} {w : W} (h : w ∈ rangeW lo n) : ∃ i : Nat, i < n ∧ w = .int (lo + i) := by
  unfold rangeW at h
  obtain ⟨i, hi, e⟩ := List.mem_map.mp h
  exact ⟨i, List.mem_range.mp hi, e.symm⟩
/-! ### the law's bag: a list of a cell and a mixed number -/
abbrev bagO (c x : Int) : GO := .lst [.int c, .int x]
def sp__law_take : Spw := fun ws G Q _ => ∃ p m c x, ws = [.ref p, .int m] ∧ G p = some (bagO c x) ∧ 0 ≤ c ∧ 0 ≤ x ∧ x < 2147483648 ∧ 0 < m ∧ m.natAbs.log2 < 9000 ∧
  ∀ d c' x', 0 ≤ d → d < m → 0 ≤ c' → 0 ≤ x' → x' < 2147483648 → Q (.int d) (gup G p (bagO c' x'))
def sp__law_bag : Spw := fun ws G Q _ => ∃ (ns : List Int) (k : Int), ws = [.scr (ns.map W.int), .int k] ∧ ns.length ≤ 63 ∧ 0 ≤ k ∧ k < 1000 ∧
  ∀ p c x, G p = none → 0 ≤ c → 0 ≤ x → x < 2147483648 → Q (.ref p) (gup G p (bagO c x))
/-! ### the law's own head -/
def sp_law : Spw := fun ws _ Q _ => ∃ ns : List Int, ws = [.scr (ns.map W.int)] ∧ ns.length ≤ 63 ∧ ∀ G', Q (.bl true) G'
theorem law_sp {K : PySem.W.Frag} {H : Hp} {a : Addr} {ns : List Int} (hl : ns.length ≤ 63) (hO : Only H) (hS : SqL K H a (ns.map V.int)) : liftSp K sp_law [.ref a] H (fun v _ => v = .bl true) fun _ _ _ => False := by
  have hF : SqF K H a (ns.map V.int) := by
    rcases hS with (hS | ⟨o, hS⟩) | hS
    · rcases hO a with z | ⟨o, xs, z⟩
      · rw [z] at hS; cases hS
      · rw [z] at hS; cases hS
    · exact .inl ⟨o, hS⟩
    · exact .inr (.inr hS)
  refine ⟨fun _ => False, [.scr (ns.map W.int)], fun _ => none, fun w _ => w = .bl true, E0w, .cons (.scr hF (RwL.ints ns)) .nil, ⟨fun _ z => z.elim, fun _ _ z => (by cases z)⟩, ⟨ns, rfl, hl, fun _ => rfl⟩, fun Z' G' H' w v _ _ r e => ?_, fun _ _ _ _ _ _ _ _ _ z => z.elim⟩
  subst e
  cases r
  rfl
end WL

namespace WL
open PySem PySem.Spec PyProof.Rows L2
local macro_rules | `(tactic| walk_at "w") => `(tactic| simp only [wSeq, wAsg, wC, gN, wVar, wOp, wIfS, wTest, wRet, wCB, wCons, wNil, wLstM, wLst, wTup, wNext, wDrop, wPar, gIx, wCall, wOr, wAnd, wNot, wUn, wNeg, wFor, iR1, iR2, iSeqW_eq, wBreak, wCont, wAug, wIf, wNotV, wChain, wBM, wBM0, wIsN, wNotN, isNon, slot, sset, skill, isS_some, isG_lst, asL_lst, asL_scr, asL_gup, wIx_tup, wIx_lst, wIx_scr, wIx_ref, wIx_str, wAdd_int, wAdd_str, wAdd_tup, wAdd_lst, wII_int, wI2_int, wI1_int, wI1N_int, wI2N_int, wLen_tup, wLen_lst, wLen_scr, wLen_ref, wLen_str, wInt_int, wInt_bl, wStrI_int, wEq_int, wEq_str, wNe_int, wNe_str, wEq_tup, wNe_tup, wEq_lst, wNe_lst, setIx_ref, gT_tup, gsC_cons, gsN_nil, wAppend_ref, wPop_ref, wExtend_ref, seqOf_tup, seqOf_lst, seqOf_scr, seqOf_ref, rng1_int, rng2_int, gup_same, gup_gup, at0, at1, at2, at3, at4, at5, at6, at7, ix0, ix1, ix2, ix3, ix4, ix5, W.bl.injEq, exists_eq_left', List.length_cons, List.length_nil, List.length_map, Nat.zero_add, Nat.reduceAdd, List.set, List.map_cons, List.map_nil, Option.isSome_some, true_and, decide_true, decide_false, Bool.not_true, Bool.not_false, Bool.not_not, Bool.false_eq_true, if_true, if_false, ite_self])

/-- slots: _law_bag_here 0, _law_many 1, _law_digit 2 -/
def t__law_take : TSw := (wSeq (wIfS (wTest (wOp wGt (wOp wIx (wVar 0) (wC (.int 0))) (wC (.int 0)))) (wSeq (wAsg (wOp wMod (wOp wIx (wVar 0) (wC (.int 0))) (wVar 1)) (gN 2))
    (wSeq (wAsg (wOp wFdiv (wOp wIx (wVar 0) (wC (.int 0))) (wVar 1)) (gIx (wVar 0) (wC (.int 0))))
    (wRet (wVar 2)))) wNext)
    (wSeq (wAsg (wOp wMod (wOp wAdd (wOp wMul (wOp wIx (wVar 0) (wC (.int 1))) (wC (.int 48271))) (wC (.int 7919))) (wC (.int 2147483647))) (gIx (wVar 0) (wC (.int 1))))
    (wRet (wOp wMod (wOp wMod (wOp wMul (wOp wFdiv (wOp wMod (wOp wPow (wOp wIx (wVar 0) (wC (.int 1))) (wC (.int 3))) (wC (.int 2147483587))) (wC (.int 7))) (wC (.int 69621))) (wC (.int 1073741789))) (wVar 1)))))

theorem rd__law_take (ws : List W) (G : Gp) (Q : QW) (E) (h : sp__law_take ws G Q E) : t__law_take { nx := fun _ G' => Q .non G', rt := Cl Q } (startW ["_law_bag_here", "_law_many", "_law_digit"] ws) G := by
  obtain ⟨p, m, c, x, rfl, g, hc, hx, hx2, hm, hl, q⟩ := h
  show t__law_take _ [some (.ref p), some (.int m), none] G
  rw [show G = gup G p (bagO c x) from (gup_self g).symm]
  unfold t__law_take
  walk_at "w"
  split
  · rename_i hp
    rw [fmodP (by omega), fdivP (by omega)]
    exact ⟨by omega, ⟨by omega, hl⟩, .inl (q _ _ _ (Int.emod_nonneg _ (by omega)) (Int.emod_lt_of_pos _ hm) (Int.ediv_nonneg hc (by omega)) hx hx2)⟩
  · rw [fmodP (j := 2147483647), fmodP (j := 2147483587), fmodP (j := 1073741789), fmodP (by omega), fdivP]
    have b1 := Int.emod_nonneg (x * 48271 + 7919) (show (2147483647 : Int) ≠ 0 by decide)
    have b2 := Int.emod_lt_of_pos (x * 48271 + 7919) (show (0 : Int) < 2147483647 by decide)
    generalize (x * 48271 + 7919) % 2147483647 = y at b1 b2 ⊢
    have b3 := Int.emod_nonneg (y ^ (3 : Int).toNat) (show (2147483587 : Int) ≠ 0 by decide)
    have b4 := Int.emod_lt_of_pos (y ^ (3 : Int).toNat) (show (0 : Int) < 2147483587 by decide)
    generalize (y ^ (3 : Int).toNat) % 2147483587 = z at b3 b4 ⊢
    refine ⟨cm64 (by omega) (by omega), by decide, cp64 (by omega) (by omega), by decide, cdL, cm64 (by omega) (by omega), by decide, by omega, .inl (q _ _ _ (Int.emod_nonneg _ (by omega)) (Int.emod_lt_of_pos _ hm) hc b1 (by omega))⟩
/-- slots: _law_script 0, _law_at 1, _law_cell 2, _law_mix 3, _law_k 4 -/
def t__law_bag_b1 : TSw := (wAsg (wOp wMod (wOp wAdd (wOp wAdd (wOp wMul (wVar 3) (wC (.int 48271))) (wOp wMul (wOp wMod (wOp wIx (wVar 0) (wVar 4)) (wC (.int 2147483587))) (wOp wAdd (wVar 4) (wC (.int 3))))) (wVar 4)) (wC (.int 2147483629))) (gN 3))
def t__law_bag_r1 : TSw := (wRet (wLstM (wCons (wVar 2) (wCons (wVar 3) wNil))))
def t__law_bag_r2 : TSw := (wSeq (wIfS (wTest (wOp wLt (wVar 2) (wOp wPow (wC (.int 10)) (wC (.int 18))))) (wAsg (wC (.int 0)) (gN 2)) wNext)
    t__law_bag_r1)
def t__law_bag_r3 : TSw := (wSeq (wAsg (wOp wMod (wOp wPow (wOp wAdd (wOp wAdd (wOp wMod (wVar 2) (wC (.int 2147483629))) (wOp wMul (wC (.int 104729)) (wVar 1))) (wC (.int 17))) (wC (.int 5))) (wC (.int 2147483647))) (gN 3))
    (wSeq (wFor [false, true, false, false, true] (iR1 (wCons (wCB (wI2N fun i j => .int (if j < i then j else i)) (wCons (wCB wLen (wCons (wVar 0) wNil)) (wCons (wC (.int 60)) wNil))) wNil)) (gN 4) t__law_bag_b1)
    t__law_bag_r2))
def t__law_bag : TSw := (wSeq (wAsg (wC (.int 0)) (gN 2))
    (wSeq (wIfS (wTest (wOp wLt (wVar 1) (wCB wLen (wCons (wVar 0) wNil)))) (wAsg (wCB (wI1N fun i => .int (if i < 0 then -i else i)) (wCons (wOp wIx (wVar 0) (wVar 1)) wNil)) (gN 2)) wNext)
    t__law_bag_r3))

theorem rd__law_bag (ws : List W) (G : Gp) (Q : QW) (E) (h : sp__law_bag ws G Q E) : t__law_bag { nx := fun _ G' => Q .non G', rt := Cl Q } (startW ["_law_script", "_law_at", "_law_cell", "_law_mix", "_law_k"] ws) G := by
  obtain ⟨ns, k, rfl, hl, hk0, hk1, q⟩ := h
  show t__law_bag _ [some (.scr (ns.map W.int)), some (.int k), none, none, none] G
  have ll : ((ns.map W.int).length : Int) = ns.length := by rw [List.length_map]
  have rest2 : ∀ c x, 0 ≤ c → 0 ≤ x → x < 2147483648 → t__law_bag_r2 { nx := fun _ G' => Q .non G', rt := Cl Q } [some (.scr (ns.map W.int)), none, some (.int c), some (.int x), none] G := by
    intro c x hc hx hx2
    unfold t__law_bag_r2 t__law_bag_r1
    walk_at "w"
    refine ⟨cp64 (by omega) (by omega), ?_⟩
    split
    · exact ⟨by decide, fun p hp => .inl (q p _ _ hp (Int.le_refl 0) hx hx2)⟩
    · exact ⟨by decide, fun p hp => .inl (q p _ _ hp hc hx hx2)⟩
  have rest3 : ∀ c, 0 ≤ c → t__law_bag_r3 { nx := fun _ G' => Q .non G', rt := Cl Q } [some (.scr (ns.map W.int)), some (.int k), some (.int c), none, none] G := by
    intro c hc
    unfold t__law_bag_r3
    walk_at "w"
    rw [fmodP (j := 2147483629), fmodP (j := 2147483647)]
    have b1 := Int.emod_nonneg c (show (2147483629 : Int) ≠ 0 by decide)
    have b2 := Int.emod_lt_of_pos c (show (0 : Int) < 2147483629 by decide)
    refine ⟨by decide, cm64 (by omega) (by omega), cp64 (by omega) (by omega), by decide, ?_, ?_, ?_⟩
    · split <;> omega
    · split <;> omega
    generalize (c % 2147483629 + 104729 * k + 17) ^ (5 : Int).toNat = y
    have b3 := Int.emod_nonneg y (show (2147483647 : Int) ≠ 0 by decide)
    have b4 := Int.emod_lt_of_pos y (show (0 : Int) < 2147483647 by decide)
    refine forW_inv (fun σ G1 => G1 = G ∧ ∃ x, 0 ≤ x ∧ x < 2147483648 ∧ σ = [some (.scr (ns.map W.int)), none, some (.int c), some (.int x), none]) _ _ _ ⟨rfl, _, b3, by omega, rfl⟩ ?_ ?_
    · rintro w hw σ G1 N ⟨rfl, x, hx, hx2, rfl⟩ hN
      obtain ⟨i, hi, rfl⟩ := rangeW_mem hw
      have hi2 : i < ns.length ∧ i < 60 := by
        by_cases h6 : (60 : Int) < ns.length
        · rw [if_pos h6] at hi; omega
        · rw [if_neg h6] at hi; omega
      have ea : atI (ns.map W.int) (0 + (i : Int)) = some (.int ns[i]) := by
        rw [Int.zero_add]
        exact at_nat (by rw [List.getElem?_map, List.getElem?_eq_getElem hi2.1]; rfl)
      unfold t__law_bag_b1
      walk_at "w"
      rw [ea]
      walk_at "w"
      rw [fmodP (j := 2147483587), fmodP (j := 2147483629)]
      have c1 := Int.emod_nonneg ns[i] (show (2147483587 : Int) ≠ 0 by decide)
      have c2 := Int.emod_lt_of_pos ns[i] (show (0 : Int) < 2147483587 by decide)
      generalize ns[i] % 2147483587 = z at c1 c2 ⊢
      refine ⟨cm64 (by omega) (by omega), by decide, cm64 (by omega) (by omega), by decide, hN _ _ ⟨rfl, _, Int.emod_nonneg _ (by decide), Int.lt_trans (Int.emod_lt_of_pos _ (by decide)) (by decide), rfl⟩⟩
    · rintro σ G1 ⟨rfl, x, hx, hx2, rfl⟩
      exact rest2 c x hc hx hx2
  unfold t__law_bag
  walk_at "w"
  split
  · rename_i hlt
    have hlt := of_decide_eq_true hlt
    obtain ⟨v, ev, mv⟩ := at_in (l := ns.map W.int) hk0 (by rw [ll]; exact hlt)
    obtain ⟨i, _, rfl⟩ := List.mem_map.mp mv
    rw [ev]
    walk_at "w"
    exact rest3 _ (by split <;> omega)
  · exact rest3 0 (Int.le_refl 0)
end WL

namespace WL
open PySem PySem.Spec PyProof.Rows L2
local macro_rules | `(tactic| walk_at "w") => `(tactic| simp only [wSeq, wAsg, wC, gN, wVar, wOp, wIfS, wTest, wRet, wCB, wCons, wNil, wLstM, wLst, wTup, wNext, wDrop, wPar, gIx, wCall, wOr, wAnd, wNot, wUn, wNeg, wFor, iR1, iR2, iSeqW_eq, wBreak, wCont, wAug, wIf, wNotV, wChain, wBM, wBM0, wIsN, wNotN, isNon, slot, sset, skill, isS_some, isG_lst, asL_lst, asL_scr, asL_gup, wIx_tup, wIx_lst, wIx_scr, wIx_ref, wIx_str, wAdd_int, wAdd_str, wAdd_tup, wAdd_lst, wII_int, wI2_int, wI1_int, wI1N_int, wI2N_int, wLen_tup, wLen_lst, wLen_scr, wLen_ref, wLen_str, wInt_int, wInt_bl, wStrI_int, wEq_int, wEq_str, wNe_int, wNe_str, wEq_tup, wNe_tup, wEq_lst, wNe_lst, setIx_ref, gT_tup, gsC_cons, gsN_nil, wAppend_ref, wPop_ref, wExtend_ref, seqOf_tup, seqOf_lst, seqOf_scr, seqOf_ref, rng1_int, rng2_int, gup_same, gup_gup, at0, at1, at2, at3, at4, at5, at6, at7, ix0, ix1, ix2, ix3, ix4, ix5, W.bl.injEq, exists_eq_left', List.length_cons, List.length_nil, List.length_map, Nat.zero_add, Nat.reduceAdd, List.set, List.map_cons, List.map_nil, Option.isSome_some, true_and, decide_true, decide_false, Bool.not_true, Bool.not_false, Bool.not_not, Bool.false_eq_true, if_true, if_false, ite_self])

theorem str_len_app (a b : Str) : (a ++ b).length = a.length + b.length := by
  show (a ++ b).cps.size = a.cps.size + b.cps.size
  exact Array.size_append
abbrev sI (i : Int) : Str := Str.ofString (toString i)
def sp_show_fraction : Spw := fun ws G Q _ => ∃ t b, ws = [.tup [.int t, .int b]] ∧ t.natAbs.log2 < 1920 ∧ b.natAbs.log2 < 1920 ∧ Q (.str (if b = 1 then sI t else sI t ++ "/" ++ sI b)) G
/-- slots: u 0 -/
def t_show_fraction : TSw := (wSeq (wIfS (wTest (wOp wEq (wOp wIx (wVar 0) (wC (.int 1))) (wC (.int 1)))) (wRet (wCB wStrI (wCons (wOp wIx (wVar 0) (wC (.int 0))) wNil))) wNext)
    (wRet (wOp wAdd (wOp wAdd (wCB wStrI (wCons (wOp wIx (wVar 0) (wC (.int 0))) wNil)) (wC (.str "/"))) (wCB wStrI (wCons (wOp wIx (wVar 0) (wC (.int 1))) wNil)))))

theorem rd_show_fraction (ws : List W) (G : Gp) (Q : QW) (E) (h : sp_show_fraction ws G Q E) : t_show_fraction { nx := fun _ G' => Q .non G', rt := Cl Q } (startW ["u"] ws) G := by
  obtain ⟨t, b, rfl, ht, hb, q⟩ := h
  show t_show_fraction _ [some (.tup [.int t, .int b])] G
  unfold t_show_fraction
  walk_at "w"
  have l1 := int_text_len_1921 ht
  have l2 := int_text_len_1921 hb
  by_cases e : b = 1
  · rw [if_pos (decide_eq_true e)]
    rw [if_pos e] at q
    exact ⟨ht, .inl q⟩
  · rw [if_neg (by simpa using e)]
    rw [if_neg e] at q
    have ls : ("/" : Str).length = 1 := rfl
    have hs : sizeLine = 16777216 := by decide
    refine ⟨ht, ?_, hb, ?_, .inl q⟩
    · rw [hs, ls]; omega
    · rw [str_len_app, hs, ls]; omega
/-- a fraction of up to forty figures -/
def sp__law_drawn : Spw := fun ws G Q _ => ∃ p c x, ws = [.ref p] ∧ G p = some (bagO c x) ∧ 0 ≤ c ∧ 0 ≤ x ∧ x < 2147483648 ∧
  ∀ t b c' x', t.natAbs ≤ 10 ^ 40 → b.natAbs ≤ 10 ^ 40 → 0 ≤ c' → 0 ≤ x' → x' < 2147483648 → Q (.tup [.int t, .int b]) (gup G p (bagO c' x'))
theorem div_le {i j : Int} {m : Nat} (hj : 0 < j) (h : i.natAbs ≤ m) : (i / j).natAbs ≤ m := by
  have := Int.natAbs_ediv_le_natAbs i j
  omega
theorem log40 {n : Nat} (h : n ≤ 10 ^ 40) : n.log2 < 1920 := log2_lt_pow (Nat.lt_of_le_of_lt h (by decide)) (by decide)
theorem log40b {n : Nat} (h : n ≤ 10 ^ 40) : n.log2 < 9000 := Nat.lt_trans (log40 h) (by decide)
/-- slots: _law_bag_here 0, _law_top 1, _law_bottom 2, _law_one 3, _law_other 4 -/
def t__law_drawn_b1 : TSw := (wPar 3 4 (wCons (wVar 4) (wCons (wOp wMod (wVar 3) (wVar 4)) wNil)))
def t__law_drawn_r1 : TSw := (wRet (wTup (wCons (wOp wFdiv (wOp wIx (wLst (wCons (wVar 1) (wCons (wOp wSub (wC (.int 0)) (wVar 1)) wNil))) (wCall sp__law_take (wCons (wVar 0) (wCons (wC (.int 2)) wNil)))) (wVar 3)) (wCons (wOp wFdiv (wVar 2) (wVar 3)) wNil))))
def t__law_drawn : TSw := (wSeq (wAsg (wCall sp__law_take (wCons (wVar 0) (wCons (wOp wIx (wLst (wCons (wC (.int 10)) (wCons (wC (.int 1000)) (wCons (wOp wPow (wC (.int 10)) (wC (.int 20))) (wCons (wOp wPow (wC (.int 10)) (wC (.int 40))) wNil))))) (wCall sp__law_take (wCons (wVar 0) (wCons (wC (.int 4)) wNil)))) wNil))) (gN 1))
    (wSeq (wAsg (wOp wAdd (wC (.int 1)) (wCall sp__law_take (wCons (wVar 0) (wCons (wOp wIx (wLst (wCons (wC (.int 1)) (wCons (wC (.int 12)) (wCons (wOp wPow (wC (.int 10)) (wC (.int 9))) (wCons (wOp wSub (wOp wPow (wC (.int 10)) (wC (.int 40))) (wC (.int 1))) wNil))))) (wCall sp__law_take (wCons (wVar 0) (wCons (wC (.int 4)) wNil)))) wNil)))) (gN 2))
    (wSeq (wPar 3 4 (wCons (wVar 1) (wCons (wVar 2) wNil)))
    (wSeq (wWhile [false, false, false, false, false] (wTest (wOp wNe (wVar 4) (wC (.int 0)))) t__law_drawn_b1)
    t__law_drawn_r1))))

theorem rd__law_drawn (ws : List W) (G : Gp) (Q : QW) (E) (h : sp__law_drawn ws G Q E) : t__law_drawn { nx := fun _ G' => Q .non G', rt := Cl Q } (startW ["_law_bag_here", "_law_top", "_law_bottom", "_law_one", "_law_other"] ws) G := by
  obtain ⟨p, c, x, rfl, g, hc, hx, hx2, q⟩ := h
  show t__law_drawn _ [some (.ref p), none, none, none, none] G
  have tail : ∀ t b c x, 0 ≤ t → t ≤ 10 ^ 40 → 0 < b → b ≤ 10 ^ 40 → 0 ≤ c → 0 ≤ x → x < 2147483648 →
      (wSeq (wPar 3 4 (wCons (wVar 1) (wCons (wVar 2) wNil)))
      (wSeq (wWhile [false, false, false, false, false] (wTest (wOp wNe (wVar 4) (wC (.int 0)))) t__law_drawn_b1)
      t__law_drawn_r1)) { nx := fun _ G' => Q .non G', rt := Cl Q } [some (.ref p), some (.int t), some (.int b), none, none] (gup G p (bagO c x)) := by
    intro t b c x ht ht2 hb hb2 hc hx hx2
    walk_at "w"
    refine ⟨fun m σ G1 => G1 = gup G p (bagO c x) ∧ ∃ u v, 0 ≤ u ∧ 0 ≤ v ∧ (0 < u ∨ 0 < v) ∧ u ≤ 10 ^ 40 ∧ v ≤ 10 ^ 40 ∧ m = v.toNat ∧ σ = [some (.ref p), some (.int t), some (.int b), some (.int u), some (.int v)],
      ⟨_, rfl, t, b, ht, by omega, .inr hb, ht2, hb2, rfl, rfl⟩, ?_⟩
    rintro m σ G1 ⟨rfl, u, v, hu, hv, huv, hu2, hv2, rfl, rfl⟩
    unfold t__law_drawn_b1
    walk_at "w"
    by_cases hv0 : v = 0
    · subst hv0
      rw [if_neg (by simp)]
      have hu0 : 0 < u := by omega
      unfold t__law_drawn_r1
      walk_at "w"
      refine ⟨by decide, p, 2, c, x, rfl, gup_same, hc, hx, hx2, by decide, by decide +kernel, fun d c' x' d0 d1 hc' hx' hx2' => ?_⟩
      obtain ⟨w, ew, mw⟩ := at_in (l := [W.int t, W.int (0 - t)]) d0 (by simpa using d1)
      walk_at "w"
      rw [ew]
      have fin : ∀ t', t'.natAbs ≤ 10 ^ 40 → CDivA t' u ∧ CDivA b u ∧ 2 ≤ sizeLine ∧ Cl Q (.tup [.int (t'.fdiv u), .int (b.fdiv u)]) (gup G p (bagO c' x')) := by
        intro t' ht'
        have hl : u.natAbs.log2 < 9000 := log40b (by omega)
        refine ⟨⟨by omega, hl⟩, ⟨by omega, hl⟩, by decide, .inl ?_⟩
        rw [fdivP (by omega), fdivP (by omega)]
        exact q _ _ _ _ (div_le hu0 ht') (div_le hu0 (by omega)) hc' hx' hx2'
      simp only [List.mem_cons, List.not_mem_nil, or_false] at mw
      rcases mw with rfl | rfl
      · walk_at "w"
        exact fin _ (by omega)
      · walk_at "w"
        exact fin _ (by omega)
    · rw [if_pos (by simpa using hv0)]
      rw [fmodP (by omega)]
      have h1 := Int.emod_nonneg u hv0
      have h2 := Int.emod_lt_of_pos u (show 0 < v by omega)
      exact ⟨hv0, (u % v).toNat, by omega, v, u % v, hv, h1, .inl (by omega), hv2, by omega, rfl, rfl⟩
  unfold t__law_drawn
  walk_at "w"
  refine ⟨cp64 (by omega) (by omega), cp64 (by omega) (by omega), by decide, p, 4, c, x, rfl, g, hc, hx, hx2, by decide, by decide +kernel, fun d c1 x1 d0 d1 hc1 hx1 hx21 => ?_⟩
  walk_at "w"
  obtain ⟨w, ew, mw⟩ := at_in (l := [W.int 10, W.int 1000, W.int (10 ^ Int.toNat 20), W.int (10 ^ Int.toNat 40)]) d0 (by simpa using d1)
  rw [ew]
  walk_at "w"
  obtain ⟨m, rfl, m0, m1⟩ : ∃ m : Int, w = .int m ∧ 0 < m ∧ m ≤ 10 ^ 40 := by
    simp only [List.mem_cons, List.not_mem_nil, or_false] at mw
    rcases mw with rfl | rfl | rfl | rfl
    · exact ⟨_, rfl, by decide, by decide⟩
    · exact ⟨_, rfl, by decide, by decide⟩
    · exact ⟨_, rfl, by decide, by decide⟩
    · exact ⟨_, rfl, by decide, by decide⟩
  refine ⟨p, m, c1, x1, rfl, gup_same, hc1, hx1, hx21, m0, log40b (by omega), fun t c2 x2 t0 t1 hc2 hx2 hx22 => ?_⟩
  refine ⟨cp64 (by omega) (by omega), cp64 (by omega) (by omega), by decide, p, 4, c2, x2, rfl, by simp only [gup_gup, gup_same], hc2, hx2, hx22, by decide, by decide +kernel, fun d c3 x3 d0 d1 hc3 hx3 hx23 => ?_⟩
  walk_at "w"
  obtain ⟨w, ew, mw⟩ := at_in (l := [W.int 1, W.int 12, W.int (10 ^ Int.toNat 9), W.int (10 ^ Int.toNat 40 - 1)]) d0 (by simpa using d1)
  rw [ew]
  walk_at "w"
  obtain ⟨n, rfl, n0, n1⟩ : ∃ m : Int, w = .int m ∧ 0 < m ∧ m < 10 ^ 40 := by
    simp only [List.mem_cons, List.not_mem_nil, or_false] at mw
    rcases mw with rfl | rfl | rfl | rfl
    · exact ⟨_, rfl, by decide, by decide⟩
    · exact ⟨_, rfl, by decide, by decide⟩
    · exact ⟨_, rfl, by decide, by decide⟩
    · exact ⟨_, rfl, by decide, by decide⟩
  refine ⟨p, n, c3, x3, rfl, gup_same, hc3, hx3, hx23, n0, log40b (by omega), fun b c4 x4 b0 b1 hc4 hx4 hx24 => ?_⟩
  simp only [gup_gup]
  have tl := tail t (1 + b) c4 x4 t0 (by omega) (by omega) (by omega) hc4 hx4 hx24
  revert tl
  walk_at "w"
  exact id
/-- slots: _law_script 0, _law_k 1, _law_bag_here 2, _law_turn 3, _law_top 4, _law_bottom 5, _law_due 6 -/
def t_law_b1 : TSw := (wSeq (wAsg (wCall sp__law_drawn (wCons (wVar 2) wNil)) (gT 2 (gsC (gN 4) (gsC (gN 5) gsN))))
    (wSeq (wAsg (wOp wIx (wLst (wCons (wOp wAdd (wOp wAdd (wCB wStrI (wCons (wVar 4) wNil)) (wC (.str "/"))) (wCB wStrI (wCons (wVar 5) wNil))) (wCons (wCB wStrI (wCons (wVar 4) wNil)) wNil))) (wCB wInt (wCons (wOp wEq (wVar 5) (wC (.int 1))) wNil))) (gN 6))
    (wIfS (wOr (wTest (wOp wNe (wCall sp_show_fraction (wCons (wTup (wCons (wVar 4) (wCons (wVar 5) wNil))) wNil)) (wVar 6))) (wTest (wOp wNe (wCall sp_show_fraction (wCons (wTup (wCons (wVar 4) (wCons (wVar 5) wNil))) wNil)) (wVar 6)))) (wRet (wC (.bl false))) wNext)))
def t_law_b2 : TSw := (wSeq (wAsg (wCall sp__law_bag (wCons (wVar 0) (wCons (wVar 1) wNil))) (gN 2))
    (wFor [false, true, false, true, true, true, true] (iR1 (wCons (wC (.int 6)) wNil)) (gN 3) t_law_b1))
def t_law : TSw := (wSeq (wFor [false, true, true, true, true, true, true] (iR1 (wCons (wCB (wI2N fun i j => .int (if j > i then j else i)) (wCons (wC (.int 1)) (wCons (wCB (wI2N fun i j => .int (if j < i then j else i)) (wCons (wC (.int 4)) (wCons (wCB wLen (wCons (wVar 0) wNil)) wNil))) wNil))) wNil)) (gN 1) t_law_b2)
    (wRet (wC (.bl true))))

theorem rd_law (ws : List W) (G : Gp) (Q : QW) (E) (h : sp_law ws G Q E) : t_law { nx := fun _ G' => Q .non G', rt := Cl Q } (startW ["_law_script", "_law_k", "_law_bag_here", "_law_turn", "_law_top", "_law_bottom", "_law_due"] ws) G := by
  obtain ⟨ns, rfl, hl, q⟩ := h
  show t_law _ [some (.scr (ns.map W.int)), none, none, none, none, none, none] G
  unfold t_law
  walk_at "w"
  refine ⟨by split <;> split <;> omega, by split <;> split <;> omega, ?_⟩
  refine forW_inv (fun σ G1 => σ = [some (.scr (ns.map W.int)), none, none, none, none, none, none]) _ _ _ rfl ?_ ?_
  · rintro w hw σ G1 N rfl hN
    obtain ⟨i, hi, rfl⟩ := rangeW_mem hw
    have hi2 : i < 4 := by
      revert hi
      split <;> split <;> omega
    unfold t_law_b2
    walk_at "w"
    refine ⟨ns, _, rfl, hl, by omega, by omega, fun p c x hp hc hx hx2 => ?_⟩
    refine ⟨by decide, by decide, ?_⟩
    refine forW_inv (fun σ G2 => (∃ c x, 0 ≤ c ∧ 0 ≤ x ∧ x < 2147483648 ∧ G2 = gup G1 p (bagO c x)) ∧ σ = [some (.scr (ns.map W.int)), none, some (.ref p), none, none, none, none]) _ _ _ ⟨⟨c, x, hc, hx, hx2, rfl⟩, rfl⟩ ?_ ?_
    · rintro w hw σ G2 M ⟨⟨c, x, hc, hx, hx2, rfl⟩, rfl⟩ hM
      unfold t_law_b1
      walk_at "w"
      refine ⟨p, c, x, rfl, gup_same, hc, hx, hx2, fun t b c x ht hb hc hx hx2 => ?_⟩
      walk_at "w"
      have l1 := int_text_len_1921 (log40 ht)
      have l2 := int_text_len_1921 (log40 hb)
      have ls : ("/" : Str).length = 1 := rfl
      have hs : sizeLine = 16777216 := by decide
      refine ⟨log40 ht, by rw [hs, ls]; omega, log40 hb, by rw [str_len_app, hs, ls]; omega, log40 ht, by rw [hs]; decide, ?_⟩
      have due : atI [W.str (sI t ++ "/" ++ sI b), W.str (sI t)] (if decide (b = 1) = true then 1 else 0) = some (.str (if b = 1 then sI t else sI t ++ "/" ++ sI b)) := by
        by_cases e : b = 1
        · rw [if_pos e, if_pos (decide_eq_true e)]; exact at1
        · rw [if_neg e, if_neg (by simpa using e)]; exact at0
      rw [due]
      walk_at "w"
      have two : 2 ≤ sizeLine := by decide
      refine ⟨two, t, b, rfl, log40 ht, log40 hb, ?_⟩
      walk_at "w"
      refine ⟨two, t, b, rfl, log40 ht, log40 hb, ?_⟩
      walk_at "w"
      exact hM _ _ ⟨⟨c, x, hc, hx, hx2, rfl⟩, rfl⟩
    · rintro σ G2 ⟨_, rfl⟩
      exact hN _ _ rfl
  · rintro σ G1 rfl
    walk_at "w"
    exact .inl (q _)
theorem len__law_take (ws G Q E) (h : sp__law_take ws G Q E) : ws.length = 2 := by obtain ⟨_, _, _, _, rfl, _⟩ := h; rfl
theorem len__law_bag (ws G Q E) (h : sp__law_bag ws G Q E) : ws.length = 2 := by obtain ⟨_, _, rfl, _⟩ := h; rfl
theorem len_show_fraction (ws G Q E) (h : sp_show_fraction ws G Q E) : ws.length = 1 := by obtain ⟨_, _, rfl, _⟩ := h; rfl
theorem len__law_drawn (ws G Q E) (h : sp__law_drawn ws G Q E) : ws.length = 1 := by obtain ⟨_, _, _, rfl, _⟩ := h; rfl
theorem len_law (ws G Q E) (h : sp_law ws G Q E) : ws.length = 1 := by obtain ⟨_, rfl, _⟩ := h; rfl
end WL

namespace WL
open PySem PySem.Spec PyProof.Rows L2
/-! ## the text -/
def topS (i : Nat) : Stmt := PySem.Challenge.pw_mainskeep_k73_fractions_written.main.body.getD i (.Pass ⟨0, 0, 0, 0⟩)
section
variable {P : Program} {w : World} {K : PySem.W.Frag} {mg : Str → Option Value} {base : Heap}
abbrev sD_show_fraction : Stmt := topS 1
theorem sc_show_fraction : FnScope ["u"] ["u"] (defScope sD_show_fraction) := ⟨rfl, rfl, rfl, by decide +kernel, rfl, by decide +kernel, by decide +kernel⟩
theorem ok_show_fraction {f : Addr} {fd : FuncData} (F : Fun K "show_fraction" "show_fraction" sD_show_fraction f fd) (m_str : mg "str" = none) : FnOk P w K mg base CX0 (0 + 1) f fd ["u"] (liftSp K sp_show_fraction) := by
  refine okW F sc_show_fraction (fun ws G Q E h => ?_) (fun cdv A outer s H E hr => ⟨t_show_fraction, ?_, rd_show_fraction⟩)
  · exact len_show_fraction ws G Q E h
  · exact (qs_cons (qif (qteq hr (qix (qv 0) qint) qint) (qs_one (qret (qstrI rfl m_str (qa_cons (qix (qv 0) qint) qa_nil)))) qs_nil)
    (qs_one (qret (qadd (qadd (qstrI rfl m_str (qa_cons (qix (qv 0) qint) qa_nil)) qstr) (qstrI rfl m_str (qa_cons (qix (qv 0) qint) qa_nil))))))
abbrev sD__law_bag : Stmt := topS 3
theorem sc__law_bag : FnScope ["_law_script", "_law_at", "_law_cell", "_law_mix", "_law_k"] ["_law_script", "_law_at"] (defScope sD__law_bag) := ⟨rfl, rfl, rfl, by decide +kernel, rfl, by decide +kernel, by decide +kernel⟩
theorem ok__law_bag {f : Addr} {fd : FuncData} (F : Fun K "_law_bag" "_law_bag" sD__law_bag f fd) (m_len : mg "len" = none) (m_abs : mg "abs" = none) (m_range : mg "range" = none) (m_min : mg "min" = none) : FnOk P w K mg base CX0 (0 + 1) f fd ["_law_script", "_law_at"] (liftSp K sp__law_bag) := by
  refine okW F sc__law_bag (fun ws G Q E h => ?_) (fun cdv A outer s H E hr => ⟨t__law_bag, ?_, rd__law_bag⟩)
  · exact len__law_bag ws G Q E h
  · exact (qs_cons (qset (i := 2) sc__law_bag.nd rfl (he := qint))
    (qs_cons (qif (qtlt (qv 1) (qlen rfl m_len (qa_cons (qv 0) qa_nil))) (qs_one (qset (i := 2) sc__law_bag.nd rfl (he := (qabs rfl m_abs (qa_cons (qix (qv 0) (qv 1)) qa_nil))))) qs_nil)
    (qs_cons (qset (i := 3) sc__law_bag.nd rfl (he := (qmod (qpow (qadd (qadd (qmod (qv 2) qint) (qmul qint (qv 1))) qint) qint) qint)))
    (qs_cons (qfor (ks := [false, true, false, false, true]) PassesOwn.never rfl (qrange1 rfl m_range (qa_cons (qmin2 rfl rfl m_min (qa_cons (qlen rfl m_len (qa_cons (qv 0) qa_nil)) (qa_cons qint qa_nil))) qa_nil)) (qgN (i := 4) sc__law_bag.nd rfl) (qs_one (qset (i := 3) sc__law_bag.nd rfl (he := (qmod (qadd (qadd (qmul (qv 3) qint) (qmul (qmod (qix (qv 0) (qv 4)) qint) (qadd (qv 4) qint))) (qv 4)) qint)))))
    (qs_cons (qif (qtlt (qv 2) (qpow qint qint)) (qs_one (qset (i := 2) sc__law_bag.nd rfl (he := qint))) qs_nil)
    (qs_one (qret (qlstM (qa_cons (qv 2) (qa_cons (qv 3) qa_nil))))))))))
abbrev sD__law_take : Stmt := topS 4
theorem sc__law_take : FnScope ["_law_bag_here", "_law_many", "_law_digit"] ["_law_bag_here", "_law_many"] (defScope sD__law_take) := ⟨rfl, rfl, rfl, by decide +kernel, rfl, by decide +kernel, by decide +kernel⟩
theorem ok__law_take {f : Addr} {fd : FuncData} (F : Fun K "_law_take" "_law_take" sD__law_take f fd) : FnOk P w K mg base CX0 (0 + 1) f fd ["_law_bag_here", "_law_many"] (liftSp K sp__law_take) := by
  refine okW F sc__law_take (fun ws G Q E h => ?_) (fun cdv A outer s H E hr => ⟨t__law_take, ?_, rd__law_take⟩)
  · exact len__law_take ws G Q E h
  · exact (qs_cons (qif (qtgt (qix (qv 0) qint) qint) (qs_cons (qset (i := 2) sc__law_take.nd rfl (he := (qmod (qix (qv 0) qint) (qv 1))))
    (qs_cons (qasg (qfdiv (qix (qv 0) qint) (qv 1)) (qgIx (qv 0) qint))
    (qs_one (qret (qv 2))))) qs_nil)
    (qs_cons (qasg (qmod (qadd (qmul (qix (qv 0) qint) qint) qint) qint) (qgIx (qv 0) qint))
    (qs_one (qret (qmod (qmod (qmul (qfdiv (qmod (qpow (qix (qv 0) qint) qint) qint) qint) qint) qint) (qv 1))))))
abbrev sD__law_drawn : Stmt := topS 5
theorem sc__law_drawn : FnScope ["_law_bag_here", "_law_top", "_law_bottom", "_law_one", "_law_other"] ["_law_bag_here"] (defScope sD__law_drawn) := ⟨rfl, rfl, rfl, by decide +kernel, rfl, by decide +kernel, by decide +kernel⟩
theorem ok__law_drawn {f : Addr} {fd : FuncData} (F : Fun K "_law_drawn" "_law_drawn" sD__law_drawn f fd) (c__law_take : Cal P w K mg base CX0 1 "_law_take" sp__law_take) : FnOk P w K mg base CX0 (1 + 1) f fd ["_law_bag_here"] (liftSp K sp__law_drawn) := by
  refine okW F sc__law_drawn (fun ws G Q E h => ?_) (fun cdv A outer s H E hr => ⟨t__law_drawn, ?_, rd__law_drawn⟩)
  · exact len__law_drawn ws G Q E h
  · exact (qs_cons (qset (i := 1) sc__law_drawn.nd rfl (he := (qcall c__law_take (hr.mono (by decide)) rfl (qa_cons (qv 0) (qa_cons (qix (qlst (qa_cons qint (qa_cons qint (qa_cons (qpow qint qint) (qa_cons (qpow qint qint) qa_nil))))) (qcall c__law_take (hr.mono (by decide)) rfl (qa_cons (qv 0) (qa_cons qint qa_nil)))) qa_nil)))))
    (qs_cons (qset (i := 2) sc__law_drawn.nd rfl (he := (qadd qint (qcall c__law_take (hr.mono (by decide)) rfl (qa_cons (qv 0) (qa_cons (qix (qlst (qa_cons qint (qa_cons qint (qa_cons (qpow qint qint) (qa_cons (qsub (qpow qint qint) qint) qa_nil))))) (qcall c__law_take (hr.mono (by decide)) rfl (qa_cons (qv 0) (qa_cons qint qa_nil)))) qa_nil))))))
    (qs_cons (qpar (i := 3) (j := 4) rfl sc__law_drawn.nd rfl rfl (by decide) rfl rfl (qa_cons (qv 1) (qa_cons (qv 2) qa_nil)) (by rfl))
    (qs_cons (qwhile (ks := [false, false, false, false, false]) PassesOwn.never (qtne hr (qv 4) qint) (qs_one (qpar (i := 3) (j := 4) rfl sc__law_drawn.nd rfl rfl (by decide) rfl rfl (qa_cons (qv 4) (qa_cons (qmod (qv 3) (qv 4)) qa_nil)) (by rfl))))
    (qs_one (qret (qtup (qa_cons (qfdiv (qix (qlst (qa_cons (qv 1) (qa_cons (qsub qint (qv 1)) qa_nil))) (qcall c__law_take (hr.mono (by decide)) rfl (qa_cons (qv 0) (qa_cons qint qa_nil)))) (qv 3)) (qa_cons (qfdiv (qv 2) (qv 3)) qa_nil)))))))))
abbrev sD_law : Stmt := topS 6
theorem sc_law : FnScope ["_law_script", "_law_k", "_law_bag_here", "_law_turn", "_law_top", "_law_bottom", "_law_due"] ["_law_script"] (defScope sD_law) := ⟨rfl, rfl, rfl, by decide +kernel, rfl, by decide +kernel, by decide +kernel⟩
theorem ok_law {f : Addr} {fd : FuncData} (F : Fun K "law" "law" sD_law f fd) (c__law_bag : Cal P w K mg base CX0 1 "_law_bag" sp__law_bag) (c__law_drawn : Cal P w K mg base CX0 2 "_law_drawn" sp__law_drawn) (c_show_fraction : Cal P w K mg base CX0 1 "show_fraction" sp_show_fraction) (m_range : mg "range" = none) (m_max : mg "max" = none) (m_min : mg "min" = none) (m_len : mg "len" = none) (m_str : mg "str" = none) (m_int : mg "int" = none) : FnOk P w K mg base CX0 (2 + 1) f fd ["_law_script"] (liftSp K sp_law) := by
  refine okW F sc_law (fun ws G Q E h => ?_) (fun cdv A outer s H E hr => ⟨t_law, ?_, rd_law⟩)
  · exact len_law ws G Q E h
  · exact (qs_cons (qfor (ks := [false, true, true, true, true, true, true]) PassesOwn.never rfl (qrange1 rfl m_range (qa_cons (qmax2 rfl rfl m_max (qa_cons qint (qa_cons (qmin2 rfl rfl m_min (qa_cons qint (qa_cons (qlen rfl m_len (qa_cons (qv 0) qa_nil)) qa_nil))) qa_nil))) qa_nil)) (qgN (i := 1) sc_law.nd rfl) (qs_cons (qset (i := 2) sc_law.nd rfl (he := (qcall c__law_bag (hr.mono (by decide)) rfl (qa_cons (qv 0) (qa_cons (qv 1) qa_nil)))))
    (qs_one (qfor (ks := [false, true, false, true, true, true, true]) PassesOwn.never rfl (qrange1 rfl m_range (qa_cons qint qa_nil)) (qgN (i := 3) sc_law.nd rfl) (qs_cons (qasg (qcall c__law_drawn (hr.mono (by decide)) rfl (qa_cons (qv 2) qa_nil)) (qgT rfl (qgs_cons (qgN (i := 4) sc_law.nd rfl) (qgs_cons (qgN (i := 5) sc_law.nd rfl) qgs_nil))))
    (qs_cons (qset (i := 6) sc_law.nd rfl (he := (qix (qlst (qa_cons (qadd (qadd (qstrI rfl m_str (qa_cons (qv 4) qa_nil)) qstr) (qstrI rfl m_str (qa_cons (qv 5) qa_nil))) (qa_cons (qstrI rfl m_str (qa_cons (qv 4) qa_nil)) qa_nil))) (qint1 rfl m_int (qa_cons (qeq hr (qv 5) qint) qa_nil)))))
    (qs_one (qif (qwt (qor (qtne hr (qcall c_show_fraction (hr.mono (by decide)) rfl (qa_cons (qtup (qa_cons (qv 4) (qa_cons (qv 5) qa_nil))) qa_nil)) (qv 6)) (qor1 (qtne hr (qcall c_show_fraction (hr.mono (by decide)) rfl (qa_cons (qtup (qa_cons (qv 4) (qa_cons (qv 5) qa_nil))) qa_nil)) (qv 6))))) (qs_one (qret qbl)) qs_nil))))))))
    (qs_one (qret qbl)))
end
theorem all_mk {l : PySem.W.OpenLaw} {w : World} {K : PySem.W.Frag} {h : Heap} {mg : Str → Option Value} {fa f0 f1 f2 f3 f4 : Addr} (X : K.In h) (G : h.Ns mainGlobals mg) (hfa : mg "law" = some (.ref fa))
    {od0 an0 od1 an1 od2 an2 od3 an3 od4 an4 : Option Addr} {sl0 sl1 sl2 sl3 sl4 : Array (Option Value)} {oc0 kV0 dc0 pm0 cd0 ct0 oc1 kV1 dc1 pm1 cd1 ct1 oc2 kV2 dc2 pm2 cd2 ct2 oc3 kV3 dc3 pm3 cd3 ct3 oc4 kV4 dc4 pm4 cd4 ct4 : Value}
    (a0 : PySem.W.nsIn K mainGlobals "show_fraction" = some (some (.ref f0))) (l0 : K.lookup f0 = some ⟨oc0, od0, .func (PySem.W.fnOf "show_fraction" "show_fraction" (defArgs sD_show_fraction) (defBody sD_show_fraction) (defScope sD_show_fraction) .none kV0 dc0 pm0 an0 cd0 ct0), sl0⟩) (c0 : PySem.W.codeIn K cd0 "show_fraction" = true) (k0 : PySem.W.keepIn K (.ref f0) = true)
    (a1 : PySem.W.nsIn K mainGlobals "_law_bag" = some (some (.ref f1))) (l1 : K.lookup f1 = some ⟨oc1, od1, .func (PySem.W.fnOf "_law_bag" "_law_bag" (defArgs sD__law_bag) (defBody sD__law_bag) (defScope sD__law_bag) .none kV1 dc1 pm1 an1 cd1 ct1), sl1⟩) (c1 : PySem.W.codeIn K cd1 "_law_bag" = true) (k1 : PySem.W.keepIn K (.ref f1) = true)
    (a2 : PySem.W.nsIn K mainGlobals "_law_take" = some (some (.ref f2))) (l2 : K.lookup f2 = some ⟨oc2, od2, .func (PySem.W.fnOf "_law_take" "_law_take" (defArgs sD__law_take) (defBody sD__law_take) (defScope sD__law_take) .none kV2 dc2 pm2 an2 cd2 ct2), sl2⟩) (c2 : PySem.W.codeIn K cd2 "_law_take" = true) (k2 : PySem.W.keepIn K (.ref f2) = true)
    (a3 : PySem.W.nsIn K mainGlobals "_law_drawn" = some (some (.ref f3))) (l3 : K.lookup f3 = some ⟨oc3, od3, .func (PySem.W.fnOf "_law_drawn" "_law_drawn" (defArgs sD__law_drawn) (defBody sD__law_drawn) (defScope sD__law_drawn) .none kV3 dc3 pm3 an3 cd3 ct3), sl3⟩) (c3 : PySem.W.codeIn K cd3 "_law_drawn" = true) (k3 : PySem.W.keepIn K (.ref f3) = true)
    (a4 : PySem.W.nsIn K mainGlobals "law" = some (some (.ref f4))) (l4 : K.lookup f4 = some ⟨oc4, od4, .func (PySem.W.fnOf "law" "law" (defArgs sD_law) (defBody sD_law) (defScope sD_law) .none kV4 dc4 pm4 an4 cd4 ct4), sl4⟩) (c4 : PySem.W.codeIn K cd4 "law" = true) (k4 : PySem.W.keepIn K (.ref f4) = true)
    (z_abs : PySem.W.nsIn K mainGlobals "abs" = some none)
    (z_int : PySem.W.nsIn K mainGlobals "int" = some none)
    (z_len : PySem.W.nsIn K mainGlobals "len" = some none)
    (z_max : PySem.W.nsIn K mainGlobals "max" = some none)
    (z_min : PySem.W.nsIn K mainGlobals "min" = some none)
    (z_range : PySem.W.nsIn K mainGlobals "range" = some none)
    (z_str : PySem.W.nsIn K mainGlobals "str" = some none)
    : ∃ fd : FuncData, (∀ (s : Shared) (v : Value), BindsTo s fd ⟨[v], []⟩ [("_law_script", v)]) ∧ ∀ base : Heap, K.In base → base.Ns mainGlobals mg → FnOk l.prog w K mg base CX0 3 fa fd ["_law_script"] (liftSp K sp_law) := by
  have e := hfa.symm.trans (PySem.W.mg_of X G a4)
  cases e
  have m_abs : mg "abs" = none := PySem.W.mg_none_of X G z_abs
  have m_int : mg "int" = none := PySem.W.mg_none_of X G z_int
  have m_len : mg "len" = none := PySem.W.mg_none_of X G z_len
  have m_max : mg "max" = none := PySem.W.mg_none_of X G z_max
  have m_min : mg "min" = none := PySem.W.mg_none_of X G z_min
  have m_range : mg "range" = none := PySem.W.mg_none_of X G z_range
  have m_str : mg "str" = none := PySem.W.mg_none_of X G z_str
  have F0 := fun_mk (st := sD_show_fraction) l0 c0 k0
  have F1 := fun_mk (st := sD__law_bag) l1 c1 k1
  have F2 := fun_mk (st := sD__law_take) l2 c2 k2
  have F3 := fun_mk (st := sD__law_drawn) l3 c3 k3
  have F4 := fun_mk (st := sD_law) l4 c4 k4
  exact ⟨_, fun s v => .of_eq rfl, fun base _ _ => by
    have c_show_fraction : Cal l.prog w K mg base CX0 1 "show_fraction" sp_show_fraction := ⟨_, _, _, ok_show_fraction F0 m_str, PySem.W.mg_of X G a0, k0, F0.binds (ps := ["u"]) fun _ _ _ _ _ _ us hl => match us, hl with | [_], _ => rfl⟩
    have c__law_bag : Cal l.prog w K mg base CX0 1 "_law_bag" sp__law_bag := ⟨_, _, _, ok__law_bag F1 m_len m_abs m_range m_min, PySem.W.mg_of X G a1, k1, F1.binds (ps := ["_law_script", "_law_at"]) fun _ _ _ _ _ _ us hl => match us, hl with | [_, _], _ => rfl⟩
    have c__law_take : Cal l.prog w K mg base CX0 1 "_law_take" sp__law_take := ⟨_, _, _, ok__law_take F2, PySem.W.mg_of X G a2, k2, F2.binds (ps := ["_law_bag_here", "_law_many"]) fun _ _ _ _ _ _ us hl => match us, hl with | [_, _], _ => rfl⟩
    have c__law_drawn : Cal l.prog w K mg base CX0 2 "_law_drawn" sp__law_drawn := ⟨_, _, _, ok__law_drawn F3 c__law_take, PySem.W.mg_of X G a3, k3, F3.binds (ps := ["_law_bag_here"]) fun _ _ _ _ _ _ us hl => match us, hl with | [_], _ => rfl⟩
    exact ok_law F4 c__law_bag c__law_drawn c_show_fraction m_range m_max m_min m_len m_str m_int⟩
end WL
open PySem PySem.W PyProof.Rows
set_option maxHeartbeats 0 in
theorem PySem.Challenge.cw_mainskeep_k73_fractions_written_holds : PySem.Challenge.rw_mainskeep_k73_fractions_written.Holds := by
  w_on; o_law; k_head; (case hw => w_witness2)
  k_fill
  refine L2.walk_of (l := PySem.Challenge.rw_mainskeep_k73_fractions_written) (n := 63) (k := 3) (x := "_law_script") (CX := fun _ => L2.CX0) (sp := fun w => WL.liftSp _ WL.sp_law) rfl (by decide) rfl ⟨rfl, by decide, by decide⟩ (fun w h Y => PySem.W.kIn_of Y) ?F (fun _ _ _ _ hl hO hS => WL.law_sp hl hO hS) (fun _ _ _ _ _ h => h)
  case F =>
    intro w mg fa h KX G hmg
    refine' WL.all_mk KX G hmg ?a0 ?l0 ?c0 ?k0 ?a1 ?l1 ?c1 ?k1 ?a2 ?l2 ?c2 ?k2 ?a3 ?l3 ?c3 ?k3 ?a4 ?l4 ?c4 ?k4 ?z_abs ?z_int ?z_len ?z_max ?z_min ?z_range ?z_str
    (case a0 => k_is); (case l0 => k_is); (case c0 => k_is); (case k0 => k_is); (case a1 => k_is); (case l1 => k_is); (case c1 => k_is); (case k1 => k_is); (case a2 => k_is); (case l2 => k_is); (case c2 => k_is); (case k2 => k_is); (case a3 => k_is); (case l3 => k_is); (case c3 => k_is); (case k3 => k_is); (case a4 => k_is); (case l4 => k_is); (case c4 => k_is); (case k4 => k_is); (case z_abs => k_is); (case z_int => k_is); (case z_len => k_is); (case z_max => k_is); (case z_min => k_is); (case z_range => k_is); (case z_str => k_is)
