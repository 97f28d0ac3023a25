import PyProof.Rows.All
import Wide.All
import OpenK.AllK
import Wide.FinOn
import HandS.ForMost
import HandS.ForExc
import HandS.Wide
import HandS.IsInst
import HandS.Walk
import KE.KeyNested
import KE.KDictKeyed
import KE.KDictWalk
import KE.KDictDisplayH
import HandS.ExcCtx
import HandS.HotCalls
import HandS.ExcIs
import KE.KExcIs
import HandS.ExcField
import HandS.TupAny
import HandS.Zip
import HandS.Iter
import HandS.More
import HandS.Conv
import HandS.Style
import KE.GoesEnum
import KE.SortCalls
import KE.DataCmp
import HandS.CallLocal
import HandS.Deep
import HandS.TupMul
import HandS.ExcInit
import HandS.TupSets
import KE.KDictList
import KE.KDictCopyH
import HandS.Text
import HandS.Codes
import PySem.Challenge.RW_mainskeep_k70_houses_written
set_option Elab.async false
set_option linter.all false
set_option maxRecDepth 100000
set_option maxHeartbeats 4000000
/-! The layer of plain values: tuples and frozen lists by value, a small heap of what may still change. -/
namespace WL
open PySem PySem.Spec PyProof.Rows L2
inductive W where
  | non | bl (b : Bool) | int (i : Int) | str (x : Str)
  | tup (ws : List W) | lst (ws : List W) | scr (ws : List W) | ins (C : Str) (fs : List (Str × W)) | ref (a : Addr) | ty (n : String) | dic (kvs : List (NestedKey × W)) | exc (a : Addr) (d : Option Addr) (nm : Str) (fs : List (Str × W)) | dcn (kvs : List (W × W))
inductive GO where
  | lst (ws : List W) | ins (C : Str) (fs : List (Str × W)) | dic (kvs : List (NestedKey × W)) | dcn (p : Addr) (kvs : List (W × W))
abbrev Gp := Addr → Option GO
abbrev Zp := Addr → Prop
def gup (G : Gp) (a : Addr) (o : GO) : Gp := fun b => if b = a then some o else G b
def gdel (G : Gp) (a : Addr) : Gp := fun b => if b = a then none else G b
theorem gup_same {G : Gp} {a : Addr} {o : GO} : gup G a o a = some o := by unfold gup; rw [if_pos rfl]
theorem gup_ne {G : Gp} {a b : Addr} {o : GO} (h : b ≠ a) : gup G a o b = G b := by unfold gup; rw [if_neg h]
theorem gup_gup {G : Gp} {a : Addr} {o u : GO} : gup (gup G a o) a u = gup G a u := by funext b; unfold gup; split <;> rfl
theorem gdel_same {G : Gp} {a : Addr} : gdel G a a = none := by unfold gdel; rw [if_pos rfl]
theorem gdel_ne {G : Gp} {a b : Addr} (h : b ≠ a) : gdel G a b = G b := by unfold gdel; rw [if_neg h]
theorem gdel_gup {G : Gp} {a : Addr} {o : GO} (h : G a = none) : gdel (gup G a o) a = G := by
  funext b; unfold gdel gup
  by_cases e : b = a
  · rw [if_pos e, e, h]
  · rw [if_neg e, if_neg e]
theorem gup_self {G : Gp} {a : Addr} {o : GO} (h : G a = some o) : gup G a o = G := by
  funext b; unfold gup
  by_cases e : b = a
  · rw [if_pos e, e, h]
  · rw [if_neg e]
/-- a list that is not ours: the script -/
def SqF (K : PySem.W.Frag) (H : Hp) (p : Addr) (vs : List V) : Prop := (∃ o, H p = some (.frz o (.lst vs))) ∨ SqL K (fun _ => none) p vs
theorem SqF.sq {K : PySem.W.Frag} {H : Hp} {p : Addr} {vs : List V} (h : SqF K H p vs) : SqL K H p vs := by
  rcases h with h | (h | ⟨o, h⟩) | h
  · exact .inl (.inr h)
  · cases h
  · cases h
  · exact .inr h
/-- a plain key as one of any depth -/
def nk : Key → NestedKey
  | .inl n => .num n
  | .inr s => .text s
theorem nk_inj {a b : Key} (h : nk a = nk b) : a = b := by
  cases a <;> cases b <;> simp only [nk, NestedKey.num.injEq, NestedKey.text.injEq, reduceCtorEq] at h <;> rw [h]
/-- the class of a name of the module -/
def ClsA (K : PySem.W.Frag) (nm : Str) (C : Addr) : Prop := PySem.W.nsIn K mainGlobals nm = some (some (.ref C))
theorem ClsA.one {K : PySem.W.Frag} {nm : Str} {C D : Addr} (h : ClsA K nm C) (h' : ClsA K nm D) : C = D := by
  unfold ClsA at h h'
  rw [h] at h'
  simpa using h'
/-! ### dicts whose keys are tuples -/
mutual
def keyN0 : W → Option NestedKey
  | .non => some .none
  | .bl b => some (.num (if b = true then 1 else 0))
  | .int i => some (.num i)
  | .tup ws => (keysN0 ws).map .tup
  | _ => none
def keysN0 : List W → Option (List NestedKey)
  | [] => some []
  | w :: ws => match keyN0 w, keysN0 ws with
    | some k, some ks => some (k :: ks)
    | _, _ => none
end
/-- a tuple as a key: no texts within, not too deep -/
def keyN (w : W) : Option NestedKey := match w with
  | .tup ws => match keyN0 (.tup ws) with
    | some k => if k.depth ≤ 8 then some k else none
    | none => none
  | _ => none
mutual
def txtless : NestedKey → Bool
  | .none => true
  | .num _ => true
  | .text _ => false
  | .tup ks => txtlesss ks
def txtlesss : List NestedKey → Bool
  | [] => true
  | k :: ks => txtless k && txtlesss ks
end
mutual
theorem hash_any (v w : World) : ∀ k : NestedKey, txtless k = true → k.hash v = k.hash w
  | .none, _ => by simp only [NestedKey.hash]
  | .num _, _ => by simp only [NestedKey.hash]
  | .text _, h => by simp [txtless] at h
  | .tup ks, h => by
    simp only [NestedKey.hash]
    rw [hashes_any v w ks (by simpa [txtless] using h)]
theorem hashes_any (v w : World) : ∀ ks : List NestedKey, txtlesss ks = true → NestedKey.hashes v ks = NestedKey.hashes w ks
  | [], _ => by simp only [NestedKey.hashes]
  | k :: ks, h => by
    simp only [txtlesss, Bool.and_eq_true] at h
    simp only [NestedKey.hashes]
    rw [hash_any v w k h.1, hashes_any v w ks h.2]
end
/-- a key's hash, whatever the world is -/
noncomputable def hashN (k : NestedKey) : Int := @dite Int (Nonempty World) (Classical.propDecidable _) (fun h => k.hash (Classical.choice h)) fun _ => 0
theorem hashN_eq (w : World) {k : NestedKey} (h : txtless k = true) : k.hash w = hashN k := by
  unfold hashN
  rw [dif_pos ⟨w⟩]
  exact hash_any _ _ k h
noncomputable def entN (x : NestedKey × Addr × Value) : DictEntry := ⟨hashN x.1, .ref x.2.1, x.2.2⟩
/-- at d stands a dict with these entries -/
def dknF (d : Addr) (xs : List (NestedKey × Addr × Value)) : Heap → Prop := fun h => ∃ o es ep, h.get? d = some o ∧ o.ExactDict ∧ o.data = .dict es ep ∧ es.toList = xs.map entN
mutual
inductive Rw (K : PySem.W.Frag) (Z : Zp) (H : Hp) : W → V → Prop
  | non : Rw K Z H .non .non
  | bl {b} : Rw K Z H (.bl b) (.bl b)
  | int {i} : Rw K Z H (.int i) (.int i)
  | str {x} : Rw K Z H (.str x) (.str x)
  | ref {a} : Rw K Z H (.ref a) (.ref a)
  | tup {p ws vs} : SqT K H p vs → RwL K Z H ws vs → Rw K Z H (.tup ws) (.ref p)
  | lst {p ws vs} : Z p → H p = some (.lst vs) → RwL K Z H ws vs → Rw K Z H (.lst ws) (.ref p)
  | scr {p ws vs} : SqF K H p vs → RwL K Z H ws vs → Rw K Z H (.scr ws) (.ref p)
  | ty {n} : Rw K Z H (.ty n) (.ty n)
  | ins {p nm C dx fs gs} : ClsA K nm C → Z p → H p = some (.ins C dx gs) → RwF K Z H fs gs → Rw K Z H (.ins nm fs) (.ref p)
  | dic {p kvs us} : Z p → H p = some (.dK us) → RwD K Z H kvs us → Rw K Z H (.dic kvs) (.ref p)
  | exc0 {a nm} : Rw K Z H (.exc a none nm []) (.ref a)
  | dcn {p xs φ kvs} : Z p → H p = some (.ext φ) → φ = dknF p xs → (p == sysModules) = false → xs.length ≤ sizeLine → (xs.map (·.1)).Nodup → RwN K Z H xs kvs → Rw K Z H (.dcn kvs) (.ref p)
  | excF {a dd nm fs gs} : Z dd → H dd = some (.xd gs) → RwF K Z H fs gs → Rw K Z H (.exc a (some dd) nm fs) (.ref a)
inductive RwL (K : PySem.W.Frag) (Z : Zp) (H : Hp) : List W → List V → Prop
  | nil : RwL K Z H [] []
  | cons {w v ws vs} : Rw K Z H w v → RwL K Z H ws vs → RwL K Z H (w :: ws) (v :: vs)
inductive RwF (K : PySem.W.Frag) (Z : Zp) (H : Hp) : List (Str × W) → List (Str × V) → Prop
  | nil : RwF K Z H [] []
  | cons {f w v ws vs} : Rw K Z H w v → RwF K Z H ws vs → RwF K Z H ((f, w) :: ws) ((f, v) :: vs)
inductive RwD (K : PySem.W.Frag) (Z : Zp) (H : Hp) : List (NestedKey × W) → List (Key × V) → Prop
  | nil : RwD K Z H [] []
  | cons {k w v ws vs} : Rw K Z H w v → RwD K Z H ws vs → RwD K Z H ((nk k, w) :: ws) ((k, v) :: vs)
inductive RwN (K : PySem.W.Frag) (Z : Zp) (H : Hp) : List (NestedKey × Addr × Value) → List (W × W) → Prop
  | nil : RwN K Z H [] []
  | cons {k b u kw vw v xs kvs} : keyN kw = some k → Rw K Z H kw (.ref b) → Rw K Z H vw v → RelV v u → RwN K Z H xs kvs → RwN K Z H ((k, b, u) :: xs) ((kw, vw) :: kvs)
end
inductive Rgo (K : PySem.W.Frag) (Z : Zp) (H : Hp) : GO → HO → Prop
  | lst {ws vs} : RwL K Z H ws vs → Rgo K Z H (.lst ws) (.lst vs)
  | ins {nm C dx fs gs} : ClsA K nm C → RwF K Z H fs gs → Rgo K Z H (.ins nm fs) (.ins C dx gs)
  | dic {kvs us} : RwD K Z H kvs us → Rgo K Z H (.dic kvs) (.dK us)
  | dcn {p xs φ kvs} : φ = dknF p xs → (p == sysModules) = false → xs.length ≤ sizeLine → (xs.map (·.1)).Nodup → RwN K Z H xs kvs → Rgo K Z H (.dcn p kvs) (.ext φ)
structure HRel (K : PySem.W.Frag) (Z : Zp) (G : Gp) (H : Hp) : Prop where
  z : ∀ p, Z p → G p = none ∧ H p ≠ none
  g : ∀ p o, G p = some o → ∃ u, H p = some u ∧ Rgo K Z H o u
structure Ext (Z : Zp) (G : Gp) (H : Hp) (Z' : Zp) (G' : Gp) (H' : Hp) : Prop where
  z : ∀ p, Z p → Z' p
  f : ∀ p u, H p = some u → G p = none → H' p = some u ∧ G' p = none
  n : ∀ p, H p ≠ none → G p = none → Z' p → Z p
theorem Ext.refl {Z : Zp} {G : Gp} {H : Hp} : Ext Z G H Z G H := ⟨fun _ h => h, fun _ _ h g => ⟨h, g⟩, fun _ _ _ z => z⟩
theorem Ext.trans {Z1 Z2 Z3 : Zp} {G1 G2 G3 : Gp} {H1 H2 H3 : Hp} (a : Ext Z1 G1 H1 Z2 G2 H2) (b : Ext Z2 G2 H2 Z3 G3 H3) : Ext Z1 G1 H1 Z3 G3 H3 :=
  ⟨fun p h => b.z p (a.z p h), fun p u h g => let ⟨x, y⟩ := a.f p u h g; b.f p u x y, fun p h g z => by
    obtain ⟨u, e⟩ := Option.ne_none_iff_exists'.mp h
    obtain ⟨x, y⟩ := a.f p u e g
    exact a.n p h g (b.n p (by rw [x]; simp) y z)⟩
/-- what values lean on is kept -/
structure Keep (Z : Zp) (H : Hp) (Z' : Zp) (H' : Hp) : Prop where
  z : ∀ p, Z p → Z' p
  k : ∀ p u, H p = some u → Z p → H' p = some u
  t : ∀ p vs, H p = some (.tup vs) → H' p = some (.tup vs)
  o : ∀ p ob u, H p = some (.frz ob u) → H' p = some (.frz ob u)
section
variable {K : PySem.W.Frag} {Z Z' : Zp} {G G' : Gp} {H H' : Hp}
theorem HRel.nog (h : HRel K Z G H) {p : Addr} {u : HO} (e : H p = some u) (n : ∀ o, ¬ Rgo K Z H o u) : G p = none := by
  cases q : G p with
  | none => rfl
  | some o =>
    obtain ⟨u', e', r⟩ := h.g p o q
    rw [e] at e'; cases e'
    exact absurd r (n o)
theorem HRel.fresh (h : HRel K Z G H) {p : Addr} (e : H p = none) : G p = none := by
  cases q : G p with
  | none => rfl
  | some o =>
    obtain ⟨u', e', r⟩ := h.g p o q
    rw [e] at e'; cases e'
theorem HRel.freshZ (h : HRel K Z G H) {p : Addr} (e : H p = none) : ¬ Z p := fun z => (h.z p z).2 e
theorem Ext.keep (h : HRel K Z G H) (x : Ext Z G H Z' G' H') : Keep Z H Z' H' :=
  ⟨x.z, fun p u e z => (x.f p u e (h.z p z).1).1, fun p vs e => (x.f p _ e (h.nog e fun o r => by cases r)).1, fun p ob u e => (x.f p _ e (h.nog e fun o r => by cases r)).1⟩
/-- a list that is hidden changes -/
theorem Keep.hid {D : Addr} {xs : List V} {o : HO} (e : H D = some (.lst xs)) (z : ¬ Z D) : Keep Z H Z (upd H D o) :=
  ⟨fun _ z => z, fun p u e' zp => by rw [upd_ne (fun c => z (by rw [← c]; exact zp))]; exact e', fun p vs e' => by rw [upd_ne (fun c => by rw [c, e] at e'; cases e')]; exact e', fun p ob u e' => by rw [upd_ne (fun c => by rw [c, e] at e'; cases e')]; exact e'⟩
theorem SqT.keep {p : Addr} {vs : List V} (x : Keep Z H Z' H') (s : SqT K H p vs) : SqT K H' p vs := by
  rcases s with (s | ⟨o, s⟩) | s
  · exact .inl (.inl (x.t p _ s))
  · exact .inl (.inr ⟨o, x.o p _ _ s⟩)
  · exact .inr s
theorem SqF.keep {p : Addr} {vs : List V} (x : Keep Z H Z' H') (s : SqF K H p vs) : SqF K H' p vs := by
  rcases s with ⟨o, s⟩ | s
  · exact .inl ⟨o, x.o p _ _ s⟩
  · exact .inr s
mutual
theorem Rw.keep (x : Keep Z H Z' H') : ∀ {w : W} {v : V}, Rw K Z H w v → Rw K Z' H' w v
  | _, _, .non => .non
  | _, _, .bl => .bl
  | _, _, .int => .int
  | _, _, .str => .str
  | _, _, .ref => .ref
  | _, _, .tup s r => .tup (SqT.keep x s) (RwL.keep x r)
  | _, _, .lst z e r => .lst (x.z _ z) (x.k _ _ e z) (RwL.keep x r)
  | _, _, .scr s r => .scr (SqF.keep x s) (RwL.keep x r)
  | _, _, .ty => .ty
  | _, _, .ins c z e r => .ins c (x.z _ z) (x.k _ _ e z) (RwF.keep x r)
  | _, _, .dic z e r => .dic (x.z _ z) (x.k _ _ e z) (RwD.keep x r)
  | _, _, .exc0 => .exc0
  | _, _, .dcn z e f n l d r => .dcn (x.z _ z) (x.k _ _ e z) f n l d (RwN.keep x r)
  | _, _, .excF z e r => .excF (x.z _ z) (x.k _ _ e z) (RwF.keep x r)
theorem RwL.keep (x : Keep Z H Z' H') : ∀ {ws : List W} {vs : List V}, RwL K Z H ws vs → RwL K Z' H' ws vs
  | _, _, .nil => .nil
  | _, _, .cons r t => .cons (Rw.keep x r) (RwL.keep x t)
theorem RwF.keep (x : Keep Z H Z' H') : ∀ {ws : List (Str × W)} {vs : List (Str × V)}, RwF K Z H ws vs → RwF K Z' H' ws vs
  | _, _, .nil => .nil
  | _, _, .cons r t => .cons (Rw.keep x r) (RwF.keep x t)
theorem RwD.keep (x : Keep Z H Z' H') : ∀ {ws : List (NestedKey × W)} {vs : List (Key × V)}, RwD K Z H ws vs → RwD K Z' H' ws vs
  | _, _, .nil => .nil
  | _, _, .cons r t => .cons (Rw.keep x r) (RwD.keep x t)
theorem RwN.keep (x : Keep Z H Z' H') : ∀ {xs : List (NestedKey × Addr × Value)} {kvs : List (W × W)}, RwN K Z H xs kvs → RwN K Z' H' xs kvs
  | _, _, .nil => .nil
  | _, _, .cons k a b u t => .cons k (Rw.keep x a) (Rw.keep x b) u (RwN.keep x t)
end
theorem SqT.ext {p : Addr} {vs : List V} (h : HRel K Z G H) (x : Ext Z G H Z' G' H') (s : SqT K H p vs) : SqT K H' p vs := SqT.keep (x.keep h) s
theorem SqF.ext {p : Addr} {vs : List V} (h : HRel K Z G H) (x : Ext Z G H Z' G' H') (s : SqF K H p vs) : SqF K H' p vs := SqF.keep (x.keep h) s
theorem Rw.ext (h : HRel K Z G H) (x : Ext Z G H Z' G' H') {w : W} {v : V} (r : Rw K Z H w v) : Rw K Z' H' w v := r.keep (x.keep h)
theorem RwL.ext (h : HRel K Z G H) (x : Ext Z G H Z' G' H') {w : List W} {v : List V} (r : RwL K Z H w v) : RwL K Z' H' w v := r.keep (x.keep h)
theorem RwF.ext (h : HRel K Z G H) (x : Ext Z G H Z' G' H') {w : List (Str × W)} {v : List (Str × V)} (r : RwF K Z H w v) : RwF K Z' H' w v := r.keep (x.keep h)
theorem Rgo.keep (x : Keep Z H Z' H') {o : GO} {u : HO} (r : Rgo K Z H o u) : Rgo K Z' H' o u := by
  cases r with
  | lst r => exact .lst (r.keep x)
  | ins c r => exact .ins c (r.keep x)
  | dic r => exact .dic (r.keep x)
  | dcn f n l d r => exact .dcn f n l d (r.keep x)
theorem Rgo.ext (h : HRel K Z G H) (x : Ext Z G H Z' G' H') {o : GO} {u : HO} (r : Rgo K Z H o u) : Rgo K Z' H' o u := by
  cases r with
  | lst r => exact .lst (r.ext h x)
  | ins c r => exact .ins c (r.ext h x)
  | dic r => exact .dic (r.keep (x.keep h))
  | dcn f n l d r => exact .dcn f n l d (r.keep (x.keep h))
theorem RwL.length : ∀ {ws : List W} {vs : List V}, RwL K Z H ws vs → ws.length = vs.length
  | _, _, .nil => rfl
  | _, _, .cons _ t => by rw [List.length_cons, List.length_cons, RwL.length t]
theorem RwL.get : ∀ {ws : List W} {vs : List V} (i : Nat) {w : W}, RwL K Z H ws vs → ws[i]? = some w → ∃ v, vs[i]? = some v ∧ Rw K Z H w v
  | _, _, _, _, .nil, e => by simp at e
  | _, _, 0, _, .cons r _, e => by simp at e; subst e; exact ⟨_, rfl, r⟩
  | _, _, i + 1, w, .cons _ t, e => by
    obtain ⟨v, h1, h2⟩ := RwL.get i (w := w) t (by simpa using e)
    exact ⟨v, by simpa using h1, h2⟩
theorem RwL.get' : ∀ {ws : List W} {vs : List V} (i : Nat) {v : V}, RwL K Z H ws vs → vs[i]? = some v → ∃ w, ws[i]? = some w ∧ Rw K Z H w v
  | _, _, _, _, .nil, e => by simp at e
  | _, _, 0, _, .cons r _, e => by simp at e; subst e; exact ⟨_, rfl, r⟩
  | _, _, i + 1, w, .cons _ t, e => by
    obtain ⟨v, h1, h2⟩ := RwL.get' i t (by simpa using e)
    exact ⟨v, by simpa using h1, h2⟩
theorem RwL.append : ∀ {ws ws' : List W} {vs vs' : List V}, RwL K Z H ws vs → RwL K Z H ws' vs' → RwL K Z H (ws ++ ws') (vs ++ vs')
  | _, _, _, _, .nil, s => s
  | _, _, _, _, .cons r t, s => .cons r (RwL.append t s)
theorem RwL.set {w : W} {v : V} (r : Rw K Z H w v) : ∀ {ws : List W} {vs : List V} (i : Nat), RwL K Z H ws vs → RwL K Z H (ws.set i w) (vs.set i v)
  | _, _, _, .nil => .nil
  | _, _, 0, .cons _ t => .cons r t
  | _, _, i + 1, .cons q t => .cons q (RwL.set r i t)
theorem RwL.take : ∀ {ws : List W} {vs : List V} (n : Nat), RwL K Z H ws vs → RwL K Z H (ws.take n) (vs.take n)
  | _, _, 0, _ => .nil
  | _, _, _ + 1, .nil => .nil
  | _, _, n + 1, .cons r t => .cons r (RwL.take n t)
theorem RwL.drop : ∀ {ws : List W} {vs : List V} (n : Nat), RwL K Z H ws vs → RwL K Z H (ws.drop n) (vs.drop n)
  | _, _, 0, r => r
  | _, _, _ + 1, .nil => .nil
  | _, _, n + 1, .cons _ t => RwL.drop n t
theorem RwL.dropLast : ∀ {ws : List W} {vs : List V}, RwL K Z H ws vs → RwL K Z H ws.dropLast vs.dropLast
  | _, _, .nil => .nil
  | _, _, .cons _ .nil => .nil
  | _, _, .cons r (.cons r2 t) => .cons r (RwL.dropLast (.cons r2 t))
theorem RwL.reverse : ∀ {ws : List W} {vs : List V}, RwL K Z H ws vs → RwL K Z H ws.reverse vs.reverse
  | _, _, .nil => .nil
  | _, _, .cons r t => by rw [List.reverse_cons, List.reverse_cons]; exact (RwL.reverse t).append (.cons r .nil)
theorem RwL.ints : ∀ (ns : List Int), RwL K Z H (ns.map W.int) (ns.map V.int)
  | [] => .nil
  | _ :: ns => .cons .int (RwL.ints ns)
theorem RwF.get : ∀ {ws : List (Str × W)} {vs : List (Str × V)} {f : Str} {w : W}, RwF K Z H ws vs → ws.lookup f = some w → ∃ v, vs.lookup f = some v ∧ Rw K Z H w v
  | _, _, _, _, .nil, e => by simp [List.lookup] at e
  | _, _, f, w, .cons (f := g) r t, e => by
    rw [List.lookup_cons] at e ⊢
    cases q : f == g with
    | true => rw [q] at e; simp only [Option.some.injEq] at e; subst e; exact ⟨_, rfl, r⟩
    | false => rw [q] at e; exact RwF.get t e
theorem RwF.none : ∀ {ws : List (Str × W)} {vs : List (Str × V)} {f : Str}, RwF K Z H ws vs → ws.lookup f = none → vs.lookup f = none
  | _, _, _, .nil, _ => rfl
  | _, _, f, .cons (f := g) r t, e => by
    rw [List.lookup_cons] at e ⊢
    cases q : f == g with
    | true => rw [q] at e; cases e
    | false => rw [q] at e; exact RwF.none t e
theorem RwF.length : ∀ {ws : List (Str × W)} {vs : List (Str × V)}, RwF K Z H ws vs → ws.length = vs.length
  | _, _, .nil => rfl
  | _, _, .cons _ t => by rw [List.length_cons, List.length_cons, RwF.length t]
end
/-! ### the names' values: none: not known -/
abbrev SW := List (Option W)
abbrev SV := L2.St
inductive RwS (K : PySem.W.Frag) (Z : Zp) (H : Hp) : SW → SV → Prop
  | nil : RwS K Z H [] []
  | skip {v ws vs} : RwS K Z H ws vs → RwS K Z H (Option.none :: ws) (v :: vs)
  | cons {w v ws vs} : Rw K Z H w v → RwS K Z H ws vs → RwS K Z H (some w :: ws) (some v :: vs)
def slot : SW → Nat → Option W
  | [], _ => none
  | a :: _, 0 => a
  | _ :: l, i + 1 => slot l i
def sset : SW → Nat → W → SW
  | [], _, _ => []
  | _ :: l, 0, w => some w :: l
  | a :: l, i + 1, w => a :: sset l i w
/-- the names of a list of places are forgotten -/
def skill : SW → List Bool → SW
  | a :: l, true :: ks => none :: skill l ks
  | a :: l, false :: ks => a :: skill l ks
  | l, _ => l
section
variable {K : PySem.W.Frag} {Z Z' : Zp} {G G' : Gp} {H H' : Hp}
theorem RwS.ext (h : HRel K Z G H) (x : Ext Z G H Z' G' H') : ∀ {ws : SW} {vs : SV}, RwS K Z H ws vs → RwS K Z' H' ws vs
  | _, _, .nil => .nil
  | _, _, .skip t => .skip (RwS.ext h x t)
  | _, _, .cons r t => .cons (r.ext h x) (RwS.ext h x t)
theorem RwS.get : ∀ {ws : SW} {vs : SV} (i : Nat) {w : W}, RwS K Z H ws vs → slot ws i = some w → ∃ v, vs[i]? = some (some v) ∧ Rw K Z H w v
  | _, _, _, _, .nil, e => by simp [slot] at e
  | _, _, 0, _, .skip _, e => by simp [slot] at e
  | _, _, 0, _, .cons r _, e => by simp [slot] at e; subst e; exact ⟨_, rfl, r⟩
  | _, _, i + 1, w, .skip t, e => by
    obtain ⟨v, h1, h2⟩ := RwS.get i (w := w) t (by simpa [slot] using e)
    exact ⟨v, by simpa using h1, h2⟩
  | _, _, i + 1, w, .cons _ t, e => by
    obtain ⟨v, h1, h2⟩ := RwS.get i (w := w) t (by simpa [slot] using e)
    exact ⟨v, by simpa using h1, h2⟩
theorem RwS.set {w : W} {v : V} (r : Rw K Z H w v) : ∀ {ws : SW} {vs : SV} (i : Nat), RwS K Z H ws vs → RwS K Z H (sset ws i w) (vs.set i (some v))
  | _, _, _, .nil => .nil
  | _, _, 0, .skip t => .cons r t
  | _, _, 0, .cons _ t => .cons r t
  | _, _, i + 1, .skip t => .skip (RwS.set r i t)
  | _, _, i + 1, .cons q t => .cons q (RwS.set r i t)
theorem RwS.kill : ∀ {ws : SW} {vs : SV} (ks : List Bool), RwS K Z H ws vs → RwS K Z H (skill ws ks) vs
  | _, _, [], .nil => .nil
  | _, _, [], .skip t => .skip t
  | _, _, [], .cons r t => .cons r t
  | _, _, true :: _, .nil => .nil
  | _, _, false :: _, .nil => .nil
  | _, _, true :: ks, .skip t => .skip (RwS.kill ks t)
  | _, _, true :: ks, .cons _ t => .skip (RwS.kill ks t)
  | _, _, false :: ks, .skip t => .skip (RwS.kill ks t)
  | _, _, false :: ks, .cons r t => .cons r (RwS.kill ks t)
end
def startW (N : List Str) (ws : List W) : SW := ws.map some ++ List.replicate (N.length - ws.length) none
section
variable {K : PySem.W.Frag} {Z : Zp} {H : Hp}
theorem RwS.repl : ∀ (n : Nat), RwS K Z H (List.replicate n none) (List.replicate n none)
  | 0 => .nil
  | n + 1 => by rw [List.replicate_succ, List.replicate_succ]; exact .skip (RwS.repl n)
theorem RwS.app : ∀ {ws : List W} {vs : List V} {s : SW} {t : SV}, RwL K Z H ws vs → RwS K Z H s t → RwS K Z H (ws.map some ++ s) (vs.map some ++ t)
  | _, _, _, _, .nil, r => r
  | _, _, _, _, .cons a b, r => .cons a (RwS.app b r)
theorem RwS.start {N : List Str} {ws : List W} {vs : List V} (r : RwL K Z H ws vs) : RwS K Z H (startW N ws) (L2.start N vs) := by
  unfold startW L2.start
  rw [r.length]
  exact RwS.app r (RwS.repl _)
end
end WL
namespace WL
open PySem PySem.Spec PyProof.Rows L2
abbrev QW := W → Gp → Prop
abbrev TEw := SW → Gp → QW → Prop
abbrev TTw := SW → Gp → (Bool → Gp → Prop) → Prop
abbrev TAw := SW → Gp → (List W → Gp → Prop) → Prop
abbrev TGw := W → SW → Gp → (SW → Gp → Prop) → Prop
abbrev TGsw := List W → SW → Gp → (SW → Gp → Prop) → Prop
structure EndsW where
  nx : SW → Gp → Prop
  rt : QW
  bk : SW → Gp → Prop := fun _ _ => False
  ct : SW → Gp → Prop := fun _ _ => False
  ex : Str → List (Str × W) → SW → Gp → Prop := fun _ _ _ _ => False
abbrev TSw := EndsW → SW → Gp → Prop
/-- what the small heap wants behind a step is what the great one wants -/
def KE (K : PySem.W.Frag) (Z : Zp) (G : Gp) (H : Hp) (Qw : QW) (Q : VK) : Prop := ∀ Z' G' H' w v, Ext Z G H Z' G' H' → HRel K Z' G' H' → Rw K Z' H' w v → Qw w G' → Q v H'
def KS (K : PySem.W.Frag) (Z : Zp) (G : Gp) (H : Hp) (Qw : SW → Gp → Prop) (Q : SV → Hp → Prop) : Prop := ∀ Z' G' H' σ' σ, Ext Z G H Z' G' H' → HRel K Z' G' H' → RwS K Z' H' σ' σ → Qw σ' G' → Q σ H'
/-- the weakest wish of an exception that X takes -/
def wishOf (X : Cx) : WX := fun cls d σ H => ∀ (a : Addr) (B : Heap) (sI : Shared) (pins : List (Addr × Obj)) (s' : Shared), Inv X pins σ H sI → (∀ b o, sI.heap.get? b = some o → b ∉ frs X.stack → B.get? b = some o) → sI.heap.UpToSlots s'.heap →
  Sky B X.stack a (L2N.Zn cls d) X.env.locals s'.heap → H a = none → s'.os = sI.os → AllBare s'.gens → X.xe (.ref a) s'
theorem takes_wish {X : Cx} : L2N.Takes X (wishOf X) := fun _ s' ⟨a, B, sI, pins, σ, H, cls, d, e, I, nb, up, sky, na, os, ag, w⟩ => by
  subst e
  exact w a B sI pins s' I nb up sky na os ag
theorem wish_of {X : Cx} {V : WX} (t : L2N.Takes X V) {cls : Value} {d : Option Addr} {σ : SV} {H : Hp} (h : V cls d σ H) : wishOf X cls d σ H := fun a B sI pins s' I nb up sky na os ag =>
  t _ s' ⟨a, B, sI, pins, σ, H, cls, d, rfl, I, nb, up, sky, na, os, ag, h⟩
/-- an exception's own attributes -/
def ExF (K : PySem.W.Frag) (Z : Zp) (H : Hp) (fs : List (Str × W)) (d : Option Addr) : Prop := fs = [] ∧ d = none ∨ ∃ a gs, d = some a ∧ Z a ∧ H a = some (.xd gs) ∧ RwF K Z H fs gs
def KX (X : Cx) (Z : Zp) (G : Gp) (H : Hp) (Ew : Str → List (Str × W) → SW → Gp → Prop) : Prop := ∀ Z' G' H' σ' σ nm C fs d, Ext Z G H Z' G' H' → HRel X.K Z' G' H' → RwS X.K Z' H' σ' σ → ClsA X.K nm C → ExF X.K Z' H' fs d → Ew nm fs σ' G' → wishOf X (.ref C) d σ H'
structure EndsR (X : Cx) (Z : Zp) (G : Gp) (H : Hp) (Dw : EndsW) (D : Ends) : Prop where
  nx : KS X.K Z G H Dw.nx D.nx
  rt : KE X.K Z G H Dw.rt D.rt
  bk : KS X.K Z G H Dw.bk D.bk
  ct : KS X.K Z G H Dw.ct D.ct
  ex : KX X Z G H Dw.ex
def liftE (K : PySem.W.Frag) (t : TEw) : TE := fun σ H Q => ∃ Z σ' G Qw, RwS K Z H σ' σ ∧ HRel K Z G H ∧ t σ' G Qw ∧ KE K Z G H Qw Q
def liftT (K : PySem.W.Frag) (t : TTw) : TT := fun σ H Q => ∃ Z σ' G Qw, RwS K Z H σ' σ ∧ HRel K Z G H ∧ t σ' G Qw ∧ ∀ Z' G' H' b, Ext Z G H Z' G' H' → HRel K Z' G' H' → Qw b G' → Q b H'
def liftA (K : PySem.W.Frag) (t : TAw) : TA := fun σ H Q => ∃ Z σ' G Qw, RwS K Z H σ' σ ∧ HRel K Z G H ∧ t σ' G Qw ∧ ∀ Z' G' H' ws vs, Ext Z G H Z' G' H' → HRel K Z' G' H' → RwL K Z' H' ws vs → Qw ws G' → Q vs H'
def liftG (K : PySem.W.Frag) (t : TGw) : TG := fun v σ H Q => ∃ Z σ' G w Qw, RwS K Z H σ' σ ∧ HRel K Z G H ∧ Rw K Z H w v ∧ t w σ' G Qw ∧ KS K Z G H Qw Q
def liftGs (K : PySem.W.Frag) (t : TGsw) : TGs := fun vs σ H Q => ∃ Z σ' G ws Qw, RwS K Z H σ' σ ∧ HRel K Z G H ∧ RwL K Z H ws vs ∧ t ws σ' G Qw ∧ KS K Z G H Qw Q
def liftS (X : Cx) (t : TSw) : TS := fun D σ H => ∃ Z σ' G Dw, RwS X.K Z H σ' σ ∧ HRel X.K Z G H ∧ t Dw σ' G ∧ EndsR X Z G H Dw D
def PEw (X : Cx) (e : Expr) (t : TEw) : Prop := PE X e (liftE X.K t)
def PTw (X : Cx) (e : Expr) (t : TTw) : Prop := PT X e (liftT X.K t)
def PWw (X : Cx) (e : Expr) (t : TTw) : Prop := PW X e (liftT X.K t)
def PAw (X : Cx) (es : List Expr) (t : TAw) : Prop := PA X es (liftA X.K t)
def PGw (X : Cx) (e : Expr) (t : TGw) : Prop := PG X e (liftG X.K t)
def PGsw (X : Cx) (es : List Expr) (t : TGsw) : Prop := PGs X es (liftGs X.K t)
def PSw (X : Cx) (st : Stmt) (t : TSw) : Prop := PS X st (liftS X t)
def PSsw (X : Cx) (st : List Stmt) (t : TSw) : Prop := PSs X st (liftS X t)
section
variable {X : Cx}
theorem PE.imp {e : Expr} {t t' : TE} (h : PE X e t) (i : ∀ σ H Q, t' σ H Q → t σ H Q) : PE X e t' := ⟨fun pins s σ H Q I q => h.run pins s σ H Q I (i _ _ _ q)⟩
theorem PT.imp {e : Expr} {t t' : TT} (h : PT X e t) (i : ∀ σ H Q, t' σ H Q → t σ H Q) : PT X e t' := ⟨fun pins s σ H Q I q => h.run pins s σ H Q I (i _ _ _ q)⟩
theorem PW.imp {e : Expr} {t t' : TT} (h : PW X e t) (i : ∀ σ H Q, t' σ H Q → t σ H Q) : PW X e t' := ⟨fun whole pins s σ H Q I q => h.run whole pins s σ H Q I (i _ _ _ q)⟩
theorem PA.imp {es : List Expr} {t t' : TA} (h : PA X es t) (i : ∀ σ H Q, t' σ H Q → t σ H Q) : PA X es t' := ⟨fun pos pins s σ H Q I q => h.run pos pins s σ H Q I (i _ _ _ q)⟩
theorem PS.imp {st : Stmt} {t t' : TS} (h : PS X st t) (i : ∀ D σ H, t' D σ H → t D σ H) : PS X st t' := ⟨fun pins s σ H D I q => h.run pins s σ H D I (i _ _ _ q)⟩
theorem PSs.imp {st : List Stmt} {t t' : TS} (h : PSs X st t) (i : ∀ D σ H, t' D σ H → t D σ H) : PSs X st t' := ⟨fun pins s σ H D I q => h.run pins s σ H D I (i _ _ _ q)⟩
theorem PG.imp {e : Expr} {t t' : TG} (h : PG X e t) (i : ∀ v σ H Q, t' v σ H Q → t v σ H Q) : PG X e t' := ⟨fun pins s σ H v u Q I r q => h.run pins s σ H v u Q I r (i _ _ _ _ q)⟩
theorem PGs.imp {e : List Expr} {t t' : TGs} (h : PGs X e t) (i : ∀ v σ H Q, t' v σ H Q → t v σ H Q) : PGs X e t' := ⟨fun pins s σ H v u Q I r q => h.run pins s σ H v u Q I r (i _ _ _ _ q)⟩
end
section
variable {K : PySem.W.Frag} {Z Z' : Zp} {G G' : Gp} {H H' : Hp}
theorem KE.mono {Qw : QW} {Q : VK} (k : KE K Z G H Qw Q) (x : Ext Z G H Z' G' H') : KE K Z' G' H' Qw Q := fun Z2 G2 H2 w v x2 => k Z2 G2 H2 w v (x.trans x2)
theorem KS.mono {Qw : SW → Gp → Prop} {Q : SV → Hp → Prop} (k : KS K Z G H Qw Q) (x : Ext Z G H Z' G' H') : KS K Z' G' H' Qw Q := fun Z2 G2 H2 w v x2 => k Z2 G2 H2 w v (x.trans x2)
theorem KX.mono {X : Cx} {Ew : Str → List (Str × W) → SW → Gp → Prop} (k : KX X Z G H Ew) (x : Ext Z G H Z' G' H') : KX X Z' G' H' Ew := fun Z2 G2 H2 a b c d e f x2 => k Z2 G2 H2 a b c d e f (x.trans x2)
theorem EndsR.mono {X : Cx} {Dw : EndsW} {D : Ends} (k : EndsR X Z G H Dw D) (x : Ext Z G H Z' G' H') : EndsR X Z' G' H' Dw D := ⟨k.nx.mono x, k.rt.mono x, k.bk.mono x, k.ct.mono x, k.ex.mono x⟩
theorem KE.at {Qw : QW} {Q : VK} (k : KE K Z G H Qw Q) (h : HRel K Z G H) {w : W} {v : V} (r : Rw K Z H w v) (q : Qw w G) : Q v H := k Z G H w v Ext.refl h r q
/-- something new is laid: untracked by the small heap -/
theorem Ext.laid (h : HRel K Z G H) {p : Addr} {o : HO} (n : H p = none) : Ext Z G H Z G (upd H p o) :=
  ⟨fun _ z => z, fun q u e g => ⟨by rw [upd_ne (ne_of_none e n)]; exact e, g⟩, fun _ _ _ z => z⟩
theorem HRel.laid (h : HRel K Z G H) {p : Addr} {o : HO} (n : H p = none) : HRel K Z G (upd H p o) := by
  have x : Ext Z G H Z G (upd H p o) := Ext.laid h n
  refine ⟨fun q z => ⟨(h.z q z).1, ?_⟩, fun q g e => ?_⟩
  · by_cases e : q = p
    · rw [e, upd_same]; simp
    · rw [upd_ne e]; exact (h.z q z).2
  · obtain ⟨u, e', r⟩ := h.g q g e
    exact ⟨u, by rw [upd_ne (ne_of_none e' n)]; exact e', r.ext h x⟩
/-- what is laid and tracked -/
theorem HRel.track (h : HRel K Z G H) {p : Addr} {o : GO} {u : HO} (e : H p = some u) (nz : ¬ Z p) (r : Rgo K Z H o u) : HRel K Z (gup G p o) H := by
  refine ⟨fun q z => ⟨?_, (h.z q z).2⟩, fun q g e' => ?_⟩
  · rw [gup_ne (show q ≠ p from fun c => nz (by rw [← c]; exact z))]; exact (h.z q z).1
  · by_cases c : q = p
    · rw [c, gup_same] at e'; cases e'; exact ⟨u, c ▸ e, r⟩
    · rw [gup_ne c] at e'; exact h.g q g e'
/-- frozen: read as a value from now on -/
theorem HRel.frz (h : HRel K Z G H) {p : Addr} (e : H p ≠ none) : HRel K (fun q => Z q ∨ q = p) (gdel G p) H ∧ Keep Z H (fun q => Z q ∨ q = p) H := by
  have x : Keep Z H (fun q => Z q ∨ q = p) H := ⟨fun q z => .inl z, fun _ _ e _ => e, fun _ _ e => e, fun _ _ _ e => e⟩
  refine ⟨⟨fun q z => ?_, fun q g e' => ?_⟩, x⟩
  · rcases z with z | z
    · refine ⟨?_, (h.z q z).2⟩
      unfold gdel; split
      · rfl
      · exact (h.z q z).1
    · subst z; exact ⟨gdel_same, e⟩
  · have e2 : G q = some g := by
      by_cases c : q = p
      · rw [c, gdel_same] at e'; cases e'
      · rw [gdel_ne c] at e'; exact e'
    obtain ⟨u, e3, r⟩ := h.g q g e2
    exact ⟨u, e3, Rgo.keep x r⟩
theorem HRel.freeze (h : HRel K Z G H) {p : Addr} (g : G p ≠ none) : HRel K (fun q => Z q ∨ q = p) (gdel G p) H ∧ Ext Z G H (fun q => Z q ∨ q = p) (gdel G p) H := by
  have e : H p ≠ none := by
    obtain ⟨o, go⟩ := Option.ne_none_iff_exists'.mp g
    obtain ⟨u, e, _⟩ := h.g p o go
    rw [e]; simp
  refine ⟨(h.frz e).1, fun q z => .inl z, fun q u e g => ⟨e, ?_⟩, fun q _ gq z => ?_⟩
  · unfold gdel; split
    · rfl
    · exact g
  · rcases z with z | z
    · exact z
    · rw [z] at gq; exact absurd gq g
theorem new_tup (h : HRel K Z G H) {p : Addr} {ws : List W} {vs : List V} (n : H p = none) (r : RwL K Z H ws vs) :
    HRel K Z G (upd H p (.tup vs)) ∧ Ext Z G H Z G (upd H p (.tup vs)) ∧ Rw K Z (upd H p (.tup vs)) (.tup ws) (.ref p) :=
  ⟨h.laid n, Ext.laid h n, .tup (.inl (.inl upd_same)) (r.ext h (Ext.laid h n))⟩
theorem new_lst (h : HRel K Z G H) {p : Addr} {ws : List W} {vs : List V} (n : H p = none) (r : RwL K Z H ws vs) :
    G p = none ∧ HRel K Z (gup G p (.lst ws)) (upd H p (.lst vs)) ∧ Ext Z G H Z (gup G p (.lst ws)) (upd H p (.lst vs)) := by
  have x : Ext Z G H Z G (upd H p (.lst vs)) := Ext.laid h n
  refine ⟨h.fresh n, (h.laid n).track upd_same (h.freshZ n) (.lst (r.ext h x)), ⟨fun _ z => z, fun q u e g => ?_, fun _ _ _ z => z⟩⟩
  have c : q ≠ p := ne_of_none e n
  exact ⟨by rw [upd_ne c]; exact e, by rw [gup_ne c]; exact g⟩
theorem new_frz (h : HRel K Z G H) {p : Addr} {ws : List W} {vs : List V} (n : H p = none) (r : RwL K Z H ws vs) :
    HRel K (fun q => Z q ∨ q = p) G (upd H p (.lst vs)) ∧ Ext Z G H (fun q => Z q ∨ q = p) G (upd H p (.lst vs)) ∧ Rw K (fun q => Z q ∨ q = p) (upd H p (.lst vs)) (.lst ws) (.ref p) := by
  have x : Ext Z G H Z G (upd H p (.lst vs)) := Ext.laid h n
  have h1 := h.laid (o := .lst vs) n
  obtain ⟨h2, x2⟩ := h1.frz (p := p) (by rw [upd_same]; simp)
  have e2 : gdel G p = G := by
    funext b; unfold gdel; split
    · rename_i c; rw [c, h.fresh n]
    · rfl
  rw [e2] at h2
  refine ⟨h2, ⟨fun q z => .inl z, x.f, fun q e _ z => ?_⟩, .lst (.inr rfl) upd_same ((r.ext h x).keep x2)⟩
  rcases z with z | z
  · exact z
  · rw [z] at e; exact absurd n e
/-- a list that stands in the small heap is changed -/
theorem chg_lst (h : HRel K Z G H) {p : Addr} {ws ws' : List W} {vs' : List V} (e : G p = some (.lst ws)) (r : RwL K Z H ws' vs') :
    HRel K Z (gup G p (.lst ws')) (upd H p (.lst vs')) ∧ Ext Z G H Z (gup G p (.lst ws')) (upd H p (.lst vs')) := by
  have x : Ext Z G H Z (gup G p (.lst ws')) (upd H p (.lst vs')) := ⟨fun _ z => z, fun q u e' g => by
    have c : q ≠ p := fun c => by rw [c, e] at g; cases g
    exact ⟨by rw [upd_ne c]; exact e', by rw [gup_ne c]; exact g⟩, fun _ _ _ z => z⟩
  refine ⟨⟨fun q z => ?_, fun q g e' => ?_⟩, x⟩
  · have c : q ≠ p := fun c => by
      have := (h.z q z).1
      rw [c, e] at this; cases this
    exact ⟨by rw [gup_ne c]; exact (h.z q z).1, by rw [upd_ne c]; exact (h.z q z).2⟩
  · by_cases c : q = p
    · rw [c, gup_same] at e'; cases e'
      exact ⟨_, by rw [c]; exact upd_same, .lst (r.ext h x)⟩
    · rw [gup_ne c] at e'
      obtain ⟨u, e2, r2⟩ := h.g q g e'
      exact ⟨u, by rw [upd_ne c]; exact e2, r2.ext h x⟩
theorem HRel.lst (h : HRel K Z G H) {p : Addr} {ws : List W} (e : G p = some (.lst ws)) : ∃ vs, H p = some (.lst vs) ∧ RwL K Z H ws vs := by
  obtain ⟨u, e', r⟩ := h.g p _ e
  cases r with
  | lst r => exact ⟨_, e', r⟩
/-- what is read as a list: frozen, or in the small heap -/
def asL (G : Gp) : W → Option (List W)
  | .lst ws => some ws
  | .scr ws => some ws
  | .ref p => match G p with
    | some (.lst ws) => some ws
    | _ => none
  | _ => none
theorem asL_sq (h : HRel K Z G H) {w : W} {v : V} {ws : List W} (r : Rw K Z H w v) (e : asL G w = some ws) : ∃ p vs, v = .ref p ∧ SqL K H p vs ∧ RwL K Z H ws vs := by
  cases r with
  | lst _ s t => simp only [asL, Option.some.injEq] at e; subst e; exact ⟨_, _, rfl, SqL.of s, t⟩
  | scr s t => simp only [asL, Option.some.injEq] at e; subst e; exact ⟨_, _, rfl, s.sq, t⟩
  | @ref a =>
    simp only [asL] at e
    cases q : G a with
    | none => rw [q] at e; cases e
    | some o =>
      rw [q] at e
      cases o with
      | lst us =>
        simp only [Option.some.injEq] at e; subst e
        obtain ⟨vs, e', t⟩ := h.lst q
        exact ⟨_, _, rfl, SqL.of e', t⟩
      | _ => cases e
  | _ => cases e
end
/-! ### two values and one -/
abbrev RW2 := W → W → Gp → QW → Prop
def Sim2 (K : PySem.W.Frag) (r : R2) (wr : RW2) : Prop := ∀ Z G H x y v u Qw Q, HRel K Z G H → Rw K Z H x v → Rw K Z H y u → wr x y G Qw → KE K Z G H Qw Q → r v u H Q
def Sim1 (K : PySem.W.Frag) (r : V → Hp → VK → Prop) (wr : W → Gp → QW → Prop) : Prop := ∀ Z G H x v Qw Q, HRel K Z G H → Rw K Z H x v → wr x G Qw → KE K Z G H Qw Q → r v H Q
def SimN (K : PySem.W.Frag) (r : List V → Hp → VK → Prop) (wr : List W → Gp → QW → Prop) : Prop := ∀ Z G H ws vs Qw Q, HRel K Z G H → RwL K Z H ws vs → wr ws G Qw → KE K Z G H Qw Q → r vs H Q
def wOp (wr : RW2) (ta tb : TEw) : TEw := fun σ G Q => ta σ G fun x G1 => tb σ G1 fun y G2 => wr x y G2 Q
def wUn (wr : W → Gp → QW → Prop) (ta : TEw) : TEw := fun σ G Q => ta σ G fun x G1 => wr x G1 Q
def wCB (wr : List W → Gp → QW → Prop) (t : TAw) : TEw := fun σ G Q => t σ G fun ws G1 => wr ws G1 Q
/-- it is there, and then -/
def isS {α : Type} (o : Option α) (P : α → Prop) : Prop := match o with
  | some w => P w
  | none => False
theorem isS_some {α : Type} {a : α} {P : α → Prop} : isS (some a) P = P a := rfl
theorem isS_ex {α : Type} {o : Option α} {P : α → Prop} (h : isS o P) : ∃ w, o = some w ∧ P w := by
  cases o with
  | none => exact h.elim
  | some w => exact ⟨w, rfl, h⟩
/-- a list of the small heap -/
def isG (o : Option GO) (P : List W → Prop) : Prop := match o with
  | some (.lst ws) => P ws
  | _ => False
theorem isG_lst {ws : List W} {P : List W → Prop} : isG (some (.lst ws)) P = P ws := rfl
theorem isG_ex {o : Option GO} {P : List W → Prop} (h : isG o P) : ∃ ws, o = some (.lst ws) ∧ P ws := by
  cases o with
  | none => exact h.elim
  | some g =>
    cases g with
    | lst ws => exact ⟨ws, rfl, h⟩
    | _ => exact h.elim
def wVar (i : Nat) : TEw := fun σ G Q => isS (slot σ i) fun w => Q w G
def wC (w : W) : TEw := fun _ G Q => Q w G
def wNil : TAw := fun _ G Q => Q [] G
def wCons (ta : TEw) (t : TAw) : TAw := fun σ G Q => ta σ G fun x G1 => t σ G1 fun xs G2 => Q (x :: xs) G2
section
variable {X : Cx} {K : PySem.W.Frag}
theorem lift2 {r : R2} {wr : RW2} (hs : Sim2 K r wr) {ta tb : TEw} {σ : SV} {H : Hp} {Q : VK} (h : liftE K (wOp wr ta tb) σ H Q) : tOp r (liftE K ta) (liftE K tb) σ H Q := by
  obtain ⟨Z, σ', G, Qw, e, hr, t, k⟩ := h
  refine ⟨Z, σ', G, _, e, hr, t, fun Z1 G1 H1 x v x1 h1 r1 t1 => ?_⟩
  refine ⟨Z1, σ', G1, _, e.ext hr x1, h1, t1, fun Z2 G2 H2 y u x2 h2 r2 t2 => ?_⟩
  exact hs Z2 G2 H2 x y v u Qw Q h2 (r1.ext h1 x2) r2 t2 (k.mono (x1.trans x2))
theorem lift1 {r : V → Hp → VK → Prop} {wr : W → Gp → QW → Prop} (hs : Sim1 K r wr) {ta : TEw} {σ : SV} {H : Hp} {Q : VK} (h : liftE K (wUn wr ta) σ H Q) : tUn r (liftE K ta) σ H Q := by
  obtain ⟨Z, σ', G, Qw, e, hr, t, k⟩ := h
  exact ⟨Z, σ', G, _, e, hr, t, fun Z1 G1 H1 x v x1 h1 r1 t1 => hs Z1 G1 H1 x v Qw Q h1 r1 t1 (k.mono x1)⟩
theorem liftN {r : List V → Hp → VK → Prop} {wr : List W → Gp → QW → Prop} (hs : SimN K r wr) {ta : TAw} {σ : SV} {H : Hp} {Q : VK} (h : liftE K (wCB wr ta) σ H Q) : tCB r (liftA K ta) σ H Q := by
  obtain ⟨Z, σ', G, Qw, e, hr, t, k⟩ := h
  exact ⟨Z, σ', G, _, e, hr, t, fun Z1 G1 H1 ws vs x1 h1 r1 t1 => hs Z1 G1 H1 ws vs Qw Q h1 r1 t1 (k.mono x1)⟩
theorem lvar {i : Nat} {σ : SV} {H : Hp} {Q : VK} (h : liftE K (wVar i) σ H Q) : tVar i σ H Q := by
  obtain ⟨Z, σ', G, Qw, e, hr, q, k⟩ := h
  obtain ⟨w, t, q⟩ := isS_ex q
  obtain ⟨v, ev, r⟩ := e.get i t
  exact ⟨v, ev, k.at hr r q⟩
theorem qv (i : Nat) {x : Str} {pos : Pos} (hN : X.N[i]? = some x := by rfl) (hv : Vis X.env.scope x := by first | exact Or.inl rfl | exact Or.inr (Or.inl rfl) | exact Or.inr (Or.inr rfl)) (hd : (x == ("__debug__" : Str)) = false := by decide)
    (hcd : (x == ("__classdict__" : Str)) = false := by decide) : PEw X (.Name x pos) (wVar i) := PE.imp (pe_var hN hv hd hcd) fun _ _ _ h => lvar h
theorem lC {w : W} {v : V} (r : ∀ Z H, Rw K Z H w v) {σ : SV} {H : Hp} {Q : VK} (h : liftE K (wC w) σ H Q) : tC v σ H Q := by
  obtain ⟨Z, σ', G, Qw, e, hr, q, k⟩ := h
  exact k.at hr (r Z H) q
theorem qint {i j pos} : PEw X (.Constant (.int i) j pos) (wC (.int i)) := PE.imp pe_int fun _ _ _ h => lC (fun _ _ => .int) h
theorem qbl {b j pos} : PEw X (.Constant (.bool b) j pos) (wC (.bl b)) := PE.imp pe_bl fun _ _ _ h => lC (fun _ _ => .bl) h
theorem qnon {j pos} : PEw X (.Constant .none j pos) (wC .non) := PE.imp pe_non fun _ _ _ h => lC (fun _ _ => .non) h
theorem qstr {x j pos} : PEw X (.Constant (.str x) j pos) (wC (.str x)) := PE.imp pe_str fun _ _ _ h => lC (fun _ _ => .str) h
theorem qop {op : Operator} {r : R2} {wr : RW2} {a b : Expr} {ta tb : TEw} {pos : Pos} (ho : OpR X (binaryOp op) r) (hs : Sim2 X.K r wr) (ha : PEw X a ta) (hb : PEw X b tb) : PEw X (.BinOp a op b pos) (wOp wr ta tb) :=
  PE.imp (pe_op ho ha hb) fun _ _ _ h => lift2 hs h
theorem qcmp {op : CmpOp} {r : R2} {wr : RW2} {a b : Expr} {ta tb : TEw} {pos : Pos} (ho : OpR X (compareOp op) r) (hs : Sim2 X.K r wr) (ha : PEw X a ta) (hb : PEw X b tb) (hm : behindInMarks op b = false) : PEw X (.Compare a [op] [b] pos) (wOp wr ta tb) :=
  PE.imp (pe_cmpR ho ha hb hm) fun _ _ _ h => lift2 hs h
/-- a test: the value is a truth -/
def wTest (t : TEw) : TTw := fun σ G Q => t σ G fun x G1 => ∃ k, x = .bl k ∧ Q k G1
theorem ltest {te : TEw} {t : TE} {σ : SV} {H : Hp} {Q : Bool → Hp → Prop} (i : ∀ σ H Q, liftE K te σ H Q → t σ H Q) (h : liftT K (wTest te) σ H Q) : tTest t σ H Q := by
  obtain ⟨Z, σ', G, Qw, e, hr, t', k⟩ := h
  refine i _ _ _ ⟨Z, σ', G, _, e, hr, t', fun Z1 G1 H1 w v x1 h1 r1 t1 => ?_⟩
  obtain ⟨b, rfl, q⟩ := t1
  cases r1
  exact ⟨b, rfl, k Z1 G1 H1 b x1 h1 q⟩
theorem qtcmp {op : CmpOp} {r : R2} {wr : RW2} {a b : Expr} {ta tb : TEw} {pos : Pos} (ho : OpR X (compareOp op) r) (hs : Sim2 X.K r wr) (ha : PEw X a ta) (hb : PEw X b tb) (hm : behindInMarks op b = false) : PTw X (.Compare a [op] [b] pos) (wTest (wOp wr ta tb)) :=
  PT.imp (pt_cmpR ho ha hb hm) fun _ _ _ h => ltest (fun _ _ _ => lift2 hs) h
theorem lA_nil {σ : SV} {H : Hp} {Q} (h : liftA K wNil σ H Q) : tNil σ H Q := by
  obtain ⟨Z, σ', G, Qw, e, hr, t, k⟩ := h
  exact k Z G H _ _ Ext.refl hr .nil t
theorem qa_nil : PAw X [] wNil := PA.imp pa_nil fun _ _ _ h => lA_nil h
theorem qa_cons {e : Expr} {es : List Expr} {te : TEw} {t : TAw} (h1 : PEw X e te) (h2 : PAw X es t)
    (hs : starEach (e :: es) X.env = (false, eval e X.env) :: starEach es X.env := by rfl) : PAw X (e :: es) (wCons te t) :=
  PA.imp (pa_cons h1 h2 hs) fun σ H Q h => by
    obtain ⟨Z, σ', G, Qw, e, hr, t', k⟩ := h
    refine ⟨Z, σ', G, _, e, hr, t', fun Z1 G1 H1 x v x1 h1 r1 t1 => ?_⟩
    refine ⟨Z1, σ', G1, _, e.ext hr x1, h1, t1, fun Z2 G2 H2 xs vs x2 h2 r2 t2 => ?_⟩
    exact k Z2 G2 H2 _ _ (x1.trans x2) h2 (.cons (r1.ext h1 x2) r2) t2
end
end WL
namespace WL
open PySem PySem.Spec PyProof.Rows L2
/-! ### operators -/
def wI2 (C : Int → Int → Prop) (g : Int → Int → W) : RW2 := fun x y G Q => match x, y with
  | .int i, .int j => C i j ∧ Q (g i j) G
  | _, _ => False
def wII (g : Int → Int → W) : RW2 := fun x y G Q => match x, y with
  | .int i, .int j => Q (g i j) G
  | _, _ => False
def wI1 (g : Int → W) : W → Gp → QW → Prop := fun x G Q => match x with
  | .int i => Q (g i) G
  | _ => False
/-- the place where a body runs lets great divisions be -/
structure Deep (X : Cx) : Prop where
  seer : X.base.NoSeer
  tree : X.prog.given.tree = none
  room : X.A.depth + Builtin.pylongFrames < recursionLimit
  frame : ∃ env l, X.stack = env :: l ∧ env.scope.isGenerator = false ∧ env.scope.isCoroutine = false ∧ env.builtins = builtinsNs ∧ env.globals = mainGlobals
/-- the sizes of a product -/
def CMulX (i j : Int) : Prop := i.natAbs.log2 + j.natAbs.log2 < 134217000
def wAdd : RW2 := fun x y G Q => match x, y with
  | .int i, .int j => Q (.int (i + j)) G
  | .str a, .str b => a.length + b.length ≤ sizeLine ∧ Q (.str (a ++ b)) G
  | .tup a, .tup b => a.length + b.length ≤ sizeLine ∧ Q (.tup (a ++ b)) G
  | .lst a, .lst b => a.length + b.length ≤ sizeLine ∧ Q (.lst (a ++ b)) G
  | _, _ => False
abbrev wSub : RW2 := wII fun i j => .int (i - j)
abbrev wMod : RW2 := wI2 (fun _ j => j ≠ 0) fun i j => .int (i.fmod j)
abbrev wFdiv : RW2 := wI2 (fun _ j => j ≠ 0) fun i j => .int (i.fdiv j)
abbrev wMul : RW2 := wI2 CMulX fun i j => .int (i * j)
abbrev wPow : RW2 := wI2 CPow fun i j => .int (i ^ j.toNat)
abbrev wLt : RW2 := wII fun i j => .bl (decide (i < j))
abbrev wLe : RW2 := wII fun i j => .bl (decide (i ≤ j))
abbrev wGt : RW2 := wII fun i j => .bl (decide (j < i))
abbrev wGe : RW2 := wII fun i j => .bl (decide (j ≤ i))
section
variable {X : Cx} {K : PySem.W.Frag}
theorem op_fdivX (hd : Deep X) : OpR X (binaryOp .FloorDiv) (rI (fun _ j => j ≠ 0) fun i j => .int (i.fdiv j)) := by
  intro pins s σ H x y v u Q I rx ry h
  obtain ⟨i, j, rfl, rfl, c, q⟩ := h
  obtain ⟨t, rfl⟩ := rx
  obtain ⟨t', rfl⟩ := ry
  obtain ⟨env, l, e1, e2, e3, e4, e5⟩ := hd.frame
  exact floordiv_int c ⟨.int _, H, I.tok _, ⟨_, rfl⟩, q⟩ (.inr (PylongRoom.of I.nolimit hd.room (SeerAt.of (hd.seer.keeps I.bk) hd.tree (I.ok.frames.trans (by rw [e1])) e2 e3 e4 e5)))
theorem CMulX.ok {i j : Int} (h : CMulX i j) : IntMulOk i j := by
  have b : ∀ x : Int, Builtin.Int.intBits x ≤ x.natAbs.log2 + 1 := fun x => by
    show (if (x == 0) = true then 0 else x.natAbs.log2 + 1) ≤ _
    split <;> omega
  have h1 := b i
  have h2 := b j
  have hz : i.natAbs.log2 + j.natAbs.log2 < 134217000 := h
  have hb : bitsLine = 134217728 := by decide
  intro z
  simp only [Builtin.Int.intTooBig, Bool.and_eq_true, decide_eq_true_eq, hb] at z
  omega
theorem op_mulX : OpR X (binaryOp .Mult) (rI CMulX fun i j => .int (i * j)) := opI fun _ _ _ _ _ _ _ hc q => mul_int q hc.ok
theorem sim_I {C : Int → Int → Prop} {g : Int → Int → W} {g' : Int → Int → V} (hg : ∀ i j Z H, Rw K Z H (g i j) (g' i j)) : Sim2 K (rI C g') (wI2 C g) := by
  intro Z G H x y v u Qw Q h rx ry t k
  cases rx <;> cases ry <;> first
    | exact False.elim t
    | exact ⟨_, _, rfl, rfl, t.1, k.at h (hg _ _ Z H) t.2⟩
theorem sim_II {g : Int → Int → W} {g' : Int → Int → V} (hg : ∀ i j Z H, Rw K Z H (g i j) (g' i j)) : Sim2 K (rI0 g') (wII g) := by
  intro Z G H x y v u Qw Q h rx ry t k
  cases rx <;> cases ry <;> first
    | exact False.elim t
    | exact ⟨_, _, rfl, rfl, k.at h (hg _ _ Z H) t⟩
theorem sim_U {g : Int → W} {g' : Int → V} (hg : ∀ i Z H, Rw K Z H (g i) (g' i)) : Sim1 K (rU g') (wI1 g) := by
  intro Z G H x v Qw Q h rx t k
  cases rx <;> first
    | exact False.elim t
    | exact ⟨_, rfl, k.at h (hg _ Z H) t⟩
def rAddU (K : PySem.W.Frag) : R2 := fun x y H Q => (rI0 fun i j => .int (i + j)) x y H Q ∨ (∃ i j, x = .str i ∧ y = .str j ∧ i.length + j.length ≤ sizeLine ∧ Q (.str (i ++ j)) H) ∨ rCatA K x y H Q ∨ rCat x y H Q
theorem op_addU : OpR X (binaryOp .Add) (rAddU X.K) := OpR.or op_add (OpR.or op_add_str (OpR.or op_catA op_cat))
theorem sim_add : Sim2 K (rAddU K) wAdd := by
  intro Z G H x y v u Qw Q h rx ry t k
  cases rx with
  | int =>
    cases ry <;> first
      | exact False.elim t
      | exact .inl ⟨_, _, rfl, rfl, k.at h .int t⟩
  | str =>
    cases ry <;> first
      | exact False.elim t
      | exact .inr (.inl ⟨_, _, rfl, rfl, t.1, k.at h .str t.2⟩)
  | @tup p a vs s1 r1 =>
    cases ry with
    | @tup p2 b us s2 r2 =>
      obtain ⟨t2, t3⟩ := t
      refine .inr (.inr (.inl ⟨_, _, vs, us, rfl, rfl, s1, s2, ?_, fun z => ?_, fun _ z => ?_, fun _ z q n => ?_⟩))
      · rw [← r1.length, ← r2.length]; exact t2
      · subst z
        cases r1
        exact k.at h (.tup s2 r2) t3
      · subst z
        cases r2
        rw [List.append_nil] at t3
        exact k.at h (.tup s1 r1) t3
      · obtain ⟨h2, x2, r⟩ := new_tup h n (r1.append r2)
        exact k Z G _ _ _ x2 h2 r t3
    | _ => exact False.elim t
  | @lst p a vs z1 s1 r1 =>
    cases ry with
    | @lst p2 b us z2 s2 r2 =>
      obtain ⟨t2, t3⟩ := t
      refine .inr (.inr (.inr ⟨_, _, vs, us, rfl, rfl, s1, s2, ?_, fun q n => ?_⟩))
      · rw [← r1.length, ← r2.length]; exact t2
      · obtain ⟨h2, x2, r⟩ := new_frz h n (r1.append r2)
        exact k _ G _ _ _ x2 h2 r t3
    | _ => exact False.elim t
  | _ => exact False.elim t
variable {a b : Expr} {ta tb : TEw} {pos : Pos}
theorem qadd (ha : PEw X a ta) (hb : PEw X b tb) : PEw X (.BinOp a .Add b pos) (wOp wAdd ta tb) := qop op_addU sim_add ha hb
theorem qsub (ha : PEw X a ta) (hb : PEw X b tb) : PEw X (.BinOp a .Sub b pos) (wOp wSub ta tb) := qop op_sub (sim_II fun _ _ _ _ => .int) ha hb
theorem qmul (ha : PEw X a ta) (hb : PEw X b tb) : PEw X (.BinOp a .Mult b pos) (wOp wMul ta tb) := qop op_mulX (sim_I fun _ _ _ _ => .int) ha hb
theorem qmod (ha : PEw X a ta) (hb : PEw X b tb) : PEw X (.BinOp a .Mod b pos) (wOp wMod ta tb) := qop op_modN (sim_I fun _ _ _ _ => .int) ha hb
theorem qfdiv (hd : Deep X) (ha : PEw X a ta) (hb : PEw X b tb) : PEw X (.BinOp a .FloorDiv b pos) (wOp wFdiv ta tb) := qop (op_fdivX hd) (sim_I fun _ _ _ _ => .int) ha hb
theorem qpow (ha : PEw X a ta) (hb : PEw X b tb) : PEw X (.BinOp a .Pow b pos) (wOp wPow ta tb) := qop op_pow (sim_I fun _ _ _ _ => .int) ha hb
abbrev wNeg (ta : TEw) : TEw := wUn (wI1 fun i => .int (-i)) ta
theorem qneg (ha : PEw X a ta) : PEw X (.UnaryOp .USub a pos) (wNeg ta) := PE.imp (pe_un un_neg ha) fun _ _ _ h => lift1 (sim_U fun _ _ _ => .int) h
/-! ### comparisons -/
theorem qlt (ha : PEw X a ta) (hb : PEw X b tb) : PEw X (.Compare a [.Lt] [b] pos) (wOp wLt ta tb) := qcmp op_lt (sim_II fun _ _ _ _ => .bl) ha hb (nomark _)
theorem qle (ha : PEw X a ta) (hb : PEw X b tb) : PEw X (.Compare a [.LtE] [b] pos) (wOp wLe ta tb) := qcmp op_le (sim_II fun _ _ _ _ => .bl) ha hb (nomark _)
theorem qgt (ha : PEw X a ta) (hb : PEw X b tb) : PEw X (.Compare a [.Gt] [b] pos) (wOp wGt ta tb) := qcmp op_gt (sim_II fun _ _ _ _ => .bl) ha hb (nomark _)
theorem qge (ha : PEw X a ta) (hb : PEw X b tb) : PEw X (.Compare a [.GtE] [b] pos) (wOp wGe ta tb) := qcmp op_ge (sim_II fun _ _ _ _ => .bl) ha hb (nomark _)
theorem qtlt (ha : PEw X a ta) (hb : PEw X b tb) : PTw X (.Compare a [.Lt] [b] pos) (wTest (wOp wLt ta tb)) := qtcmp op_lt (sim_II fun _ _ _ _ => .bl) ha hb (nomark _)
theorem qtle (ha : PEw X a ta) (hb : PEw X b tb) : PTw X (.Compare a [.LtE] [b] pos) (wTest (wOp wLe ta tb)) := qtcmp op_le (sim_II fun _ _ _ _ => .bl) ha hb (nomark _)
theorem qtgt (ha : PEw X a ta) (hb : PEw X b tb) : PTw X (.Compare a [.Gt] [b] pos) (wTest (wOp wGt ta tb)) := qtcmp op_gt (sim_II fun _ _ _ _ => .bl) ha hb (nomark _)
theorem qtge (ha : PEw X a ta) (hb : PEw X b tb) : PTw X (.Compare a [.GtE] [b] pos) (wTest (wOp wGe ta tb)) := qtcmp op_ge (sim_II fun _ _ _ _ => .bl) ha hb (nomark _)
end
/-! ### == by data -/
mutual
def wdat : W → PyData
  | .non => .none
  | .bl b => .bool b
  | .int i => .int i
  | .str x => .str x
  | .tup ws => .tuple (wdats ws)
  | .lst ws => .list (wdats ws)
  | .scr ws => .list (wdats ws)
  | _ => .none
def wdats : List W → List PyData
  | [] => []
  | w :: ws => wdat w :: wdats ws
end
mutual
/-- data all through -/
def wpure : W → Bool
  | .ins _ _ => false
  | .dic _ => false
  | .exc _ _ _ _ => false
  | .dcn _ => false
  | .ref _ => false
  | .ty _ => false
  | .tup ws => wpures ws
  | .lst ws => wpures ws
  | .scr ws => wpures ws
  | _ => true
def wpures : List W → Bool
  | [] => true
  | w :: ws => wpure w && wpures ws
end
def wder (G : Gp) : W → W
  | .ref p => match G p with
    | some (.lst ws) => .lst ws
    | _ => .ref p
  | w => w
def weqb (x y : W) : Bool := PyData.eqv (wdat x) (wdat y)
def wOk (w : W) : Prop := wpure w = true ∧ SeqAt.shaped (wdat w) = true
def wEq : RW2 := fun x y G Q => match x, y with
  | .int i, .int j => Q (.bl (decide (i = j))) G
  | .str i, .str j => Q (.bl (decide (i = j))) G
  | x, y => wOk (wder G x) ∧ wOk (wder G y) ∧ Q (.bl (weqb (wder G x) (wder G y))) G
def wNe : RW2 := fun x y G Q => match x, y with
  | .int i, .int j => Q (.bl (!decide (i = j))) G
  | .str i, .str j => Q (.bl (!decide (i = j))) G
  | x, y => wOk (wder G x) ∧ wOk (wder G y) ∧ Q (.bl (!weqb (wder G x) (wder G y))) G
section
variable {X : Cx} {K : PySem.W.Frag} {Z : Zp} {G : Gp} {H : Hp}
mutual
theorem Rw.dp : ∀ {w : W} {v : V}, Rw K Z H w v → wpure w = true → Dp K H v (wdat w)
  | _, _, .non, _ => by simp only [wdat]; exact .non
  | _, _, .bl, _ => by simp only [wdat]; exact .bl _
  | _, _, .int, _ => by simp only [wdat]; exact .int _
  | _, _, .str, _ => by simp only [wdat]; exact .str _
  | _, _, .ref, p => by simp [wpure] at p
  | _, _, .ty, p => by simp [wpure] at p
  | _, _, .ins _ _ _ _, p => by simp [wpure] at p
  | _, _, .dic _ _ _, p => by simp [wpure] at p
  | _, _, .exc0, p => by simp [wpure] at p
  | _, _, .dcn _ _ _ _ _ _ _, p => by simp [wpure] at p
  | _, _, .excF _ _ _, p => by simp [wpure] at p
  | _, _, .tup s r, p => by simp only [wdat]; exact .tup s (RwL.dp r (by simpa [wpure] using p))
  | _, _, .lst _ s r, p => by simp only [wdat]; exact .lst (SqL.of s) (RwL.dp r (by simpa [wpure] using p))
  | _, _, .scr s r, p => by simp only [wdat]; exact .lst s.sq (RwL.dp r (by simpa [wpure] using p))
theorem RwL.dp : ∀ {ws : List W} {vs : List V}, RwL K Z H ws vs → wpures ws = true → DpAll K H vs (wdats ws)
  | _, _, .nil, _ => by simp only [wdats]; exact .nil
  | _, _, .cons r t, p => by
    simp only [wpures, Bool.and_eq_true] at p
    simp only [wdats]
    exact .cons (Rw.dp r p.1) (RwL.dp t p.2)
end
theorem dp_der (h : HRel K Z G H) {w : W} {v : V} (r : Rw K Z H w v) (p : wpure (wder G w) = true) : Dp K H v (wdat (wder G w)) := by
  cases r with
  | @ref a =>
    simp only [wder] at p ⊢
    cases q : G a with
    | none => rw [q] at p; simp [wpure] at p
    | some o =>
      rw [q] at p
      cases o with
      | lst ws =>
        simp only [wpure] at p
        simp only [wdat]
        obtain ⟨vs, e, t⟩ := h.lst q
        exact .lst (SqL.of e) (RwL.dp t p)
      | ins _ _ => simp [wpure] at p
      | dic _ => simp [wpure] at p
      | dcn _ _ => simp [wpure] at p
  | _ => first
    | exact Rw.dp (Z := Z) (by constructor <;> assumption) p
    | exact Rw.dp (Z := Z) (by constructor) p
def rEqU (K : PySem.W.Frag) : R2 := fun x y H Q => rEq x y H Q ∨ rEqD K x y H Q
def rNeU (K : PySem.W.Frag) : R2 := fun x y H Q => rNe x y H Q ∨ rNeD K x y H Q
theorem sim_eq : Sim2 K (rEqU K) wEq := by
  intro Z G H x y v u Qw Q h rx ry t k
  have gen : (wOk (wder G x) ∧ wOk (wder G y) ∧ Qw (.bl (weqb (wder G x) (wder G y))) G) → rEqU K v u H Q := fun t =>
    .inr ⟨_, _, dp_der h rx t.1.1, dp_der h ry t.2.1.1, t.1.2, t.2.1.2, k.at h .bl t.2.2⟩
  cases rx with
  | @int i =>
    cases ry with
    | @int j =>
      refine .inl ⟨rfl, ?_⟩
      rw [show decide (V.int i = V.int j) = decide (i = j) by simp]
      exact k.at h .bl t
    | _ => exact gen t
  | @str i =>
    cases ry with
    | @str j =>
      refine .inl ⟨rfl, ?_⟩
      rw [show decide (V.str i = V.str j) = decide (i = j) by simp]
      exact k.at h .bl t
    | _ => exact gen t
  | _ => exact gen t
theorem sim_ne : Sim2 K (rNeU K) wNe := by
  intro Z G H x y v u Qw Q h rx ry t k
  have gen : (wOk (wder G x) ∧ wOk (wder G y) ∧ Qw (.bl (!weqb (wder G x) (wder G y))) G) → rNeU K v u H Q := fun t =>
    .inr ⟨_, _, dp_der h rx t.1.1, dp_der h ry t.2.1.1, t.1.2, t.2.1.2, k.at h .bl t.2.2⟩
  cases rx with
  | @int i =>
    cases ry with
    | @int j =>
      refine .inl ⟨rfl, ?_⟩
      rw [show decide (V.int i = V.int j) = decide (i = j) by simp]
      exact k.at h .bl t
    | _ => exact gen t
  | @str i =>
    cases ry with
    | @str j =>
      refine .inl ⟨rfl, ?_⟩
      rw [show decide (V.str i = V.str j) = decide (i = j) by simp]
      exact k.at h .bl t
    | _ => exact gen t
  | _ => exact gen t
variable {a b : Expr} {ta tb : TEw} {pos : Pos}
theorem hu64 {A : Around} {k : Nat} (hr : Room k A) : A.units + 64 < cLine := by have := hr.un; omega
theorem qeq {k : Nat} (hr : Room k X.A) (ha : PEw X a ta) (hb : PEw X b tb) : PEw X (.Compare a [.Eq] [b] pos) (wOp wEq ta tb) := qcmp (OpR.or op_eq (op_eqD (hu64 hr))) sim_eq ha hb (nomark _)
theorem qne {k : Nat} (hr : Room k X.A) (ha : PEw X a ta) (hb : PEw X b tb) : PEw X (.Compare a [.NotEq] [b] pos) (wOp wNe ta tb) := qcmp (OpR.or op_ne (op_neD (hu64 hr))) sim_ne ha hb (nomark _)
theorem qteq {k : Nat} (hr : Room k X.A) (ha : PEw X a ta) (hb : PEw X b tb) : PTw X (.Compare a [.Eq] [b] pos) (wTest (wOp wEq ta tb)) := qtcmp (OpR.or op_eq (op_eqD (hu64 hr))) sim_eq ha hb (nomark _)
theorem qtne {k : Nat} (hr : Room k X.A) (ha : PEw X a ta) (hb : PEw X b tb) : PTw X (.Compare a [.NotEq] [b] pos) (wTest (wOp wNe ta tb)) := qtcmp (OpR.or op_ne (op_neD (hu64 hr))) sim_ne ha hb (nomark _)
/-! ### is None -/
def isNon : W → Bool
  | .non => true
  | _ => false
def wIsN (ta : TEw) : TEw := wUn (fun x G Q => Q (.bl (isNon x)) G) ta
def wNotN (ta : TEw) : TEw := wUn (fun x G Q => Q (.bl (!isNon x)) G) ta
theorem Rw.isNon {w : W} {v : V} (r : Rw K Z H w v) : decide (v = .non) = isNon w := by
  cases r <;> simp [WL.isNon]
theorem qisN {j p2} (ha : PEw X a ta) : PEw X (.Compare a [.Is] [.Constant .none j p2] pos) (wIsN ta) := PE.imp (pe_cmp (pc_isN ha) rfl) fun σ H Q h => by
  obtain ⟨Z, σ', G, Qw, e, hr, t, k⟩ := h
  exact ⟨Z, σ', G, _, e, hr, t, fun Z1 G1 H1 x v x1 h1 r1 t1 => by show Q (V.bl (decide (v = .non))) H1; rw [r1.isNon]; exact k Z1 G1 H1 _ _ x1 h1 .bl t1⟩
theorem qnotN {j p2} (ha : PEw X a ta) : PEw X (.Compare a [.IsNot] [.Constant .none j p2] pos) (wNotN ta) := PE.imp (pe_cmp (pc_notN ha) rfl) fun σ H Q h => by
  obtain ⟨Z, σ', G, Qw, e, hr, t, k⟩ := h
  exact ⟨Z, σ', G, _, e, hr, t, fun Z1 G1 H1 x v x1 h1 r1 t1 => by show Q (V.bl (!decide (v = .non))) H1; rw [r1.isNon]; exact k Z1 G1 H1 _ _ x1 h1 .bl t1⟩
end
/-! ### tests, truths -/
section
variable {X : Cx} {K : PySem.W.Frag} {a b c : Expr} {ta tb : TEw} {t u : TTw} {rest : List Expr} {pos : Pos}
theorem qtv (ha : PEw X a ta) (he : ∀ whole, isTrue a X.env whole = (do let v ← whole; standAt a.pos; holding [v] (truthy v)) := by intro _; rfl) : PTw X a (wTest ta) :=
  PT.imp (pt_val ha he) fun σ H Q h => by
    obtain ⟨Z, σ', G, Qw, e, hr, t', k⟩ := h
    refine ⟨Z, σ', G, _, e, hr, t', fun Z1 G1 H1 w v x1 h1 r1 t1 => ?_⟩
    obtain ⟨b, rfl, q⟩ := t1
    cases r1
    exact ⟨b, rfl, k Z1 G1 H1 b x1 h1 q⟩
def wAnd (t u : TTw) : TTw := fun σ G Q => t σ G fun c G1 => if c = true then u σ G1 Q else Q false G1
def wOr (t u : TTw) : TTw := fun σ G Q => t σ G fun c G1 => if c = true then Q true G1 else u σ G1 Q
def wNot (t : TTw) : TTw := fun σ G Q => t σ G fun c G1 => Q (!c) G1
theorem qand1 (ha : PTw X a t) : PWw X (.BoolOp .And [a] pos) t := pw_and1 ha
theorem qor1 (ha : PTw X a t) : PWw X (.BoolOp .Or [a] pos) t := pw_or1 ha
theorem qand (ha : PTw X a t) (hb : PWw X (.BoolOp .And (b :: rest) pos) u) : PWw X (.BoolOp .And (a :: b :: rest) pos) (wAnd t u) :=
  PW.imp (pw_and ha hb) fun σ H Q h => by
    obtain ⟨Z, σ', G, Qw, e, hr, t', k⟩ := h
    refine ⟨Z, σ', G, _, e, hr, t', fun Z1 G1 H1 b x1 h1 t1 => ?_⟩
    cases b with
    | true => exact ⟨Z1, σ', G1, Qw, e.ext hr x1, h1, t1, fun Z2 G2 H2 b x2 => k Z2 G2 H2 b (x1.trans x2)⟩
    | false => exact k Z1 G1 H1 _ x1 h1 t1
theorem qor (ha : PTw X a t) (hb : PWw X (.BoolOp .Or (b :: rest) pos) u) : PWw X (.BoolOp .Or (a :: b :: rest) pos) (wOr t u) :=
  PW.imp (pw_or ha hb) fun σ H Q h => by
    obtain ⟨Z, σ', G, Qw, e, hr, t', k⟩ := h
    refine ⟨Z, σ', G, _, e, hr, t', fun Z1 G1 H1 b x1 h1 t1 => ?_⟩
    cases b with
    | false => exact ⟨Z1, σ', G1, Qw, e.ext hr x1, h1, t1, fun Z2 G2 H2 b x2 => k Z2 G2 H2 b (x1.trans x2)⟩
    | true => exact k Z1 G1 H1 _ x1 h1 t1
theorem qwt (h : PWw X a t) : PTw X a t := PW.pt h
theorem qnot (ha : PTw X a t) : PTw X (.UnaryOp .Not a pos) (wNot t) :=
  PT.imp (pt_not ha) fun σ H Q h => by
    obtain ⟨Z, σ', G, Qw, e, hr, t', k⟩ := h
    exact ⟨Z, σ', G, _, e, hr, t', fun Z1 G1 H1 b x1 h1 t1 => k Z1 G1 H1 _ x1 h1 t1⟩
/-- and, or, not as values -/
def wAndV (ta tb : TEw) : TEw := fun σ G Q => ta σ G fun x G1 => ∃ c, x = .bl c ∧ if c = true then tb σ G1 Q else Q (.bl false) G1
def wOrV (ta tb : TEw) : TEw := fun σ G Q => ta σ G fun x G1 => ∃ c, x = .bl c ∧ if c = true then Q (.bl true) G1 else tb σ G1 Q
def wNotV (ta : TEw) : TEw := fun σ G Q => ta σ G fun x G1 => ∃ c, x = .bl c ∧ Q (.bl (!c)) G1
theorem qone {op} (ha : PEw X a ta) : PEw X (.BoolOp op [a] pos) ta := pe_one ha
theorem qandV (ha : PEw X a ta) (hb : PEw X (.BoolOp .And (b :: rest) pos) tb) : PEw X (.BoolOp .And (a :: b :: rest) pos) (wAndV ta tb) :=
  PE.imp (pe_and ha hb) fun σ H Q h => by
    obtain ⟨Z, σ', G, Qw, e, hr, t', k⟩ := h
    refine ⟨Z, σ', G, _, e, hr, t', fun Z1 G1 H1 x v x1 h1 r1 t1 => ?_⟩
    obtain ⟨c, rfl, t1⟩ := t1
    cases r1
    refine ⟨c, rfl, ?_⟩
    cases c with
    | true => exact ⟨Z1, σ', G1, Qw, e.ext hr x1, h1, t1, k.mono x1⟩
    | false => exact k Z1 G1 H1 _ _ x1 h1 .bl t1
theorem qorV (ha : PEw X a ta) (hb : PEw X (.BoolOp .Or (b :: rest) pos) tb) : PEw X (.BoolOp .Or (a :: b :: rest) pos) (wOrV ta tb) :=
  PE.imp (pe_or ha hb) fun σ H Q h => by
    obtain ⟨Z, σ', G, Qw, e, hr, t', k⟩ := h
    refine ⟨Z, σ', G, _, e, hr, t', fun Z1 G1 H1 x v x1 h1 r1 t1 => ?_⟩
    obtain ⟨c, rfl, t1⟩ := t1
    cases r1
    refine ⟨c, rfl, ?_⟩
    cases c with
    | false => exact ⟨Z1, σ', G1, Qw, e.ext hr x1, h1, t1, k.mono x1⟩
    | true => exact k Z1 G1 H1 _ _ x1 h1 .bl t1
theorem qnotV (ha : PEw X a ta) : PEw X (.UnaryOp .Not a pos) (wNotV ta) :=
  PE.imp (pe_not ha) fun σ H Q h => by
    obtain ⟨Z, σ', G, Qw, e, hr, t', k⟩ := h
    refine ⟨Z, σ', G, _, e, hr, t', fun Z1 G1 H1 x v x1 h1 r1 t1 => ?_⟩
    obtain ⟨c, rfl, t1⟩ := t1
    cases r1
    exact ⟨c, rfl, k Z1 G1 H1 _ _ x1 h1 .bl t1⟩
def wIf (t : TTw) (ta tb : TEw) : TEw := fun σ G Q => t σ G fun c G1 => if c = true then ta σ G1 Q else tb σ G1 Q
theorem qifExp (hc : PTw X c t) (ha : PEw X a ta) (hb : PEw X b tb) : PEw X (.IfExp c a b pos) (wIf t ta tb) :=
  PE.imp (pe_ifExp hc ha hb) fun σ H Q h => by
    obtain ⟨Z, σ', G, Qw, e, hr, t', k⟩ := h
    refine ⟨Z, σ', G, _, e, hr, t', fun Z1 G1 H1 b x1 h1 t1 => ?_⟩
    cases b with
    | true => exact ⟨Z1, σ', G1, Qw, e.ext hr x1, h1, t1, k.mono x1⟩
    | false => exact ⟨Z1, σ', G1, Qw, e.ext hr x1, h1, t1, k.mono x1⟩
/-- a < b < c -/
def wChain (r r' : RW2) (ta tb tc : TEw) : TEw := fun σ G Q => ta σ G fun x G1 => tb σ G1 fun y G2 => r x y G2 fun z G3 => ∃ k, z = .bl k ∧ (if k = true then tc σ G3 fun w G4 => r' y w G4 Q else Q (.bl false) G3)
theorem lchain {r r' : R2} {wr wr' : RW2} {tc : TEw} (hs : Sim2 K r wr) (hs' : Sim2 K r' wr') {σ : SV} {H : Hp} {Q : VK} (h : liftE K (wChain wr wr' ta tb tc) σ H Q) : tChain r r' (liftE K ta) (liftE K tb) (liftE K tc) σ H Q := by
  obtain ⟨Z, σ', G, Qw, e, hr, t, k⟩ := h
  refine ⟨Z, σ', G, _, e, hr, t, fun Z1 G1 H1 x v x1 h1 r1 t1 => ?_⟩
  refine ⟨Z1, σ', G1, _, e.ext hr x1, h1, t1, fun Z2 G2 H2 y u x2 h2 r2 t2 => ?_⟩
  refine hs Z2 G2 H2 x y v u _ _ h2 (r1.ext h1 x2) r2 t2 fun Z3 G3 H3 z zv x3 h3 r3 t3 => ?_
  obtain ⟨b, rfl, t3⟩ := t3
  cases r3
  refine ⟨b, rfl, ?_⟩
  cases b with
  | false => exact k Z3 G3 H3 _ _ ((x1.trans x2).trans x3) h3 .bl t3
  | true =>
    refine ⟨Z3, σ', G3, _, e.ext hr ((x1.trans x2).trans x3), h3, t3, fun Z4 G4 H4 w wv x4 h4 r4 t4 => ?_⟩
    exact hs' Z4 G4 H4 y w u wv Qw Q h4 (r2.ext h2 (x3.trans x4)) r4 t4 (k.mono (((x1.trans x2).trans x3).trans x4))
theorem qchain {op op' : CmpOp} {r r' : R2} {wr wr' : RW2} {tc : TEw} (ho : OpR X (compareOp op) r) (ho' : OpR X (compareOp op') r') (hs : Sim2 X.K r wr) (hs' : Sim2 X.K r' wr') (ha : PEw X a ta) (hb : PEw X b tb) (hc : PEw X c tc)
    (hm : lastMarks [op, op'] [b, c] = false := by with_unfolding_all rfl) : PEw X (.Compare a [op, op'] [b, c] pos) (wChain wr wr' ta tb tc) := PE.imp (pe_chain ho ho' ha hb hc hm) fun _ _ _ h => lchain hs hs' h
theorem qtchain {op op' : CmpOp} {r r' : R2} {wr wr' : RW2} {tc : TEw} (ho : OpR X (compareOp op) r) (ho' : OpR X (compareOp op') r') (hs : Sim2 X.K r wr) (hs' : Sim2 X.K r' wr') (ha : PEw X a ta) (hb : PEw X b tb) (hc : PEw X c tc)
    (hm : lastMarks [op, op'] [b, c] = false := by with_unfolding_all rfl) : PTw X (.Compare a [op, op'] [b, c] pos) (wTest (wChain wr wr' ta tb tc)) := PT.imp (pt_chain ho ho' ha hb hc hm) fun _ _ _ h => ltest (fun _ _ _ => lchain hs hs') h
theorem qlele {tc : TEw} (ha : PEw X a ta) (hb : PEw X b tb) (hc : PEw X c tc) (hm : lastMarks [.LtE, .LtE] [b, c] = false := by with_unfolding_all rfl) : PEw X (.Compare a [.LtE, .LtE] [b, c] pos) (wChain wLe wLe ta tb tc) :=
  qchain op_le op_le (sim_II fun _ _ _ _ => .bl) (sim_II fun _ _ _ _ => .bl) ha hb hc hm
theorem qtlele {tc : TEw} (ha : PEw X a ta) (hb : PEw X b tb) (hc : PEw X c tc) (hm : lastMarks [.LtE, .LtE] [b, c] = false := by with_unfolding_all rfl) : PTw X (.Compare a [.LtE, .LtE] [b, c] pos) (wTest (wChain wLe wLe ta tb tc)) :=
  qtchain op_le op_le (sim_II fun _ _ _ _ => .bl) (sim_II fun _ _ _ _ => .bl) ha hb hc hm
end
end WL
namespace WL
open PySem PySem.Spec PyProof.Rows L2
/-! ### tuples, lists -/
def wTup (t : TAw) : TEw := fun σ G Q => t σ G fun ws G1 => ws.length ≤ sizeLine ∧ Q (.tup ws) G1
/-- a new list, frozen at once -/
def wLst (t : TAw) : TEw := fun σ G Q => t σ G fun ws G1 => ws.length ≤ sizeLine ∧ Q (.lst ws) G1
/-- a new list that may be changed -/
def wLstM (t : TAw) : TEw := fun σ G Q => t σ G fun ws G1 => ws.length ≤ sizeLine ∧ ∀ p, G1 p = none → Q (.ref p) (gup G1 p (.lst ws))
def wIx : RW2 := fun x y G Q => match x, y with
  | .tup ws, .int i => isS (atI ws i) fun w => Q w G
  | .str z, .int i => z.length ≤ sizeLine ∧ isS (atI z.cps.toList i) fun c => Q (.str ⟨#[c]⟩) G
  | x, .int i => isS (asL G x) fun ws => isS (atI ws i) fun w => Q w G
  | _, _ => False
theorem ixN_len {n m : Nat} (e : n = m) (i : Int) : ixN n i = ixN m i := by rw [e]
section
variable {X : Cx} {K : PySem.W.Frag} {Z : Zp} {G : Gp} {H : Hp}
theorem RwL.atI {ws : List W} {vs : List V} (r : RwL K Z H ws vs) {i : Int} {w : W} (e : L2.atI ws i = some w) : ∃ v, L2.atI vs i = some v ∧ Rw K Z H w v := by
  unfold L2.atI at e ⊢
  rw [← r.length]
  cases q : ixN ws.length i with
  | none => rw [q] at e; cases e
  | some j =>
    rw [q] at e
    exact r.get j e
theorem sim_ix : Sim2 K (rIx K) wIx := by
  intro Z G H x y v u Qw Q h rx ry t k
  have gen : ∀ {i : Int}, (isS (asL G x) fun ws => isS (L2.atI ws i) fun w => Qw w G) → rIx K v (.int i) H Q := fun q => by
    obtain ⟨ws, e, q⟩ := isS_ex q
    obtain ⟨w, a, q⟩ := isS_ex q
    obtain ⟨p, vs, rfl, s, r⟩ := asL_sq h rx e
    obtain ⟨v', a', r'⟩ := r.atI a
    exact .inl ⟨p, vs, _, v', rfl, rfl, s, a', k.at h r' q⟩
  cases ry with
  | @int i =>
    cases rx with
    | @tup p ws vs s r =>
      obtain ⟨w, a, q⟩ := isS_ex t
      obtain ⟨v', a', r'⟩ := r.atI a
      exact .inr (.inl ⟨p, vs, _, v', rfl, rfl, s, a', k.at h r' q⟩)
    | str =>
      obtain ⟨l, t⟩ := t
      obtain ⟨c, a, q⟩ := isS_ex t
      exact .inr (.inr ⟨_, _, c, rfl, rfl, l, a, k.at h .str q⟩)
    | _ => exact gen t
  | _ => cases rx <;> exact False.elim t
variable {a b : Expr} {ta tb : TEw} {es : List Expr} {t : TAw} {pos : Pos}
theorem qtup {x1} (h : PAw X es t) : PEw X (.Tuple es x1 pos) (wTup t) := PE.imp (pe_tup h) fun σ H Q h => by
  obtain ⟨Z, σ', G, Qw, e, hr, t', k⟩ := h
  refine ⟨Z, σ', G, _, e, hr, t', fun Z1 G1 H1 ws vs x1 h1 r1 t1 => ⟨by rw [← r1.length]; exact t1.1, fun p n => ?_⟩⟩
  obtain ⟨h2, x2, r2⟩ := new_tup h1 n r1
  exact k Z1 G1 _ _ _ (x1.trans x2) h2 r2 t1.2
theorem qlst (h : PAw X es t) : PEw X (.List es pos) (wLst t) := PE.imp (pe_lst h) fun σ H Q h => by
  obtain ⟨Z, σ', G, Qw, e, hr, t', k⟩ := h
  refine ⟨Z, σ', G, _, e, hr, t', fun Z1 G1 H1 ws vs x1 h1 r1 t1 => ⟨by rw [← r1.length]; exact t1.1, fun p n => ?_⟩⟩
  obtain ⟨h2, x2, r2⟩ := new_frz h1 n r1
  exact k _ G1 _ _ _ (x1.trans x2) h2 r2 t1.2
theorem qlstM (h : PAw X es t) : PEw X (.List es pos) (wLstM t) := PE.imp (pe_lst h) fun σ H Q h => by
  obtain ⟨Z, σ', G, Qw, e, hr, t', k⟩ := h
  refine ⟨Z, σ', G, _, e, hr, t', fun Z1 G1 H1 ws vs x1 h1 r1 t1 => ⟨by rw [← r1.length]; exact t1.1, fun p n => ?_⟩⟩
  obtain ⟨g, h2, x2⟩ := new_lst h1 n r1
  exact k Z1 _ _ _ _ (x1.trans x2) h2 .ref (t1.2 p g)
theorem qix (ha : PEw X a ta) (hb : PEw X b tb) (hp : PlainIx b := by exact fun _ _ => rfl) : PEw X (.Subscript a b pos) (wOp wIx ta tb) := PE.imp (pe_ix ix_seq ha hb hp) fun _ _ _ h => lift2 sim_ix h
/-! ### calls of the built-in -/
def wLen : List W → Gp → QW → Prop := fun ws G Q => match ws with
  | [.tup us] => Q (.int us.length) G
  | [.str z] => z.length ≤ sizeLine ∧ Q (.int z.length) G
  | [x] => isS (asL G x) fun us => Q (.int us.length) G
  | _ => False
theorem sim_len : SimN K (fun xs H Q => ∃ x n, xs = [x] ∧ LenV K x H n ∧ Q (.int n) H) wLen := by
  intro Z G H ws vs Qw Q h r t k
  cases r with
  | nil => exact False.elim t
  | @cons w v ws vs rx rr =>
    cases rr with
    | cons _ _ => cases rx <;> exact False.elim t
    | nil =>
      have gen : (isS (asL G w) fun us => Qw (.int us.length) G) → ∃ x n, [v] = [x] ∧ LenV K x H n ∧ Q (.int n) H := fun q => by
        obtain ⟨us, e, q⟩ := isS_ex q
        obtain ⟨p, vs, rfl, s, r⟩ := asL_sq h rx e
        exact ⟨_, vs.length, rfl, .inl ⟨vs, s, rfl⟩, by rw [← r.length]; exact k.at h .int q⟩
      cases rx with
      | @tup p us vs s r => exact ⟨_, vs.length, rfl, .inr ⟨vs, s, rfl⟩, by rw [← r.length]; exact k.at h .int t⟩
      | str => exact ⟨_, _, rfl, ⟨t.1, rfl⟩, k.at h .int t.2⟩
      | _ => exact gen t
def wI1N (g : Int → W) : List W → Gp → QW → Prop := fun ws G Q => match ws with
  | [.int i] => Q (g i) G
  | _ => False
def wI2N (g : Int → Int → W) : List W → Gp → QW → Prop := fun ws G Q => match ws with
  | [.int i, .int j] => Q (g i j) G
  | _ => False
theorem sim_1N {g : Int → W} {g' : Int → V} (hg : ∀ i Z H, Rw K Z H (g i) (g' i)) : SimN K (fun xs H Q => ∃ i, xs = [.int i] ∧ Q (g' i) H) (wI1N g) := by
  intro Z G H ws vs Qw Q h r t k
  cases r with
  | nil => exact False.elim t
  | cons rx rr =>
    cases rr with
    | cons _ _ => cases rx <;> exact False.elim t
    | nil => cases rx <;> first
      | exact False.elim t
      | exact ⟨_, rfl, k.at h (hg _ _ _) t⟩
theorem sim_2N {g : Int → Int → W} {g' : Int → Int → V} (hg : ∀ i j Z H, Rw K Z H (g i j) (g' i j)) : SimN K (fun xs H Q => ∃ i j, xs = [.int i, .int j] ∧ Q (g' i j) H) (wI2N g) := by
  intro Z G H ws vs Qw Q h r t k
  cases r with
  | nil => exact False.elim t
  | cons rx rr =>
    cases rr with
    | nil => cases rx <;> exact False.elim t
    | cons ry rr =>
      cases rr with
      | cons _ _ => cases rx <;> cases ry <;> exact False.elim t
      | nil => cases rx <;> cases ry <;> first
        | exact False.elim t
        | exact ⟨_, _, rfl, k.at h (hg _ _ _ _) t⟩
variable {x : Str} {p : Pos} {e : Expr}
theorem qlen (hg : Gl X "len") (hm : X.mg "len" = none) (ha : PAw X (e :: es) t) (he : starEach (e :: es) X.env = (false, eval e X.env) :: starEach es X.env := by rfl) (hpl : (backTo pos (starEach es X.env)).any (·.1) = false := by rfl) :
    PEw X (.Call (.Name "len" p) (e :: es) [] pos) (wCB wLen t) := PE.imp (pe_callB call_len hg hm PySem.boot_len ha (by decide) (by decide) he hpl) fun _ _ _ h => liftN sim_len h
theorem qabs (hg : Gl X "abs") (hm : X.mg "abs" = none) (ha : PAw X (e :: es) t) (he : starEach (e :: es) X.env = (false, eval e X.env) :: starEach es X.env := by rfl) (hpl : (backTo pos (starEach es X.env)).any (·.1) = false := by rfl) :
    PEw X (.Call (.Name "abs" p) (e :: es) [] pos) (wCB (wI1N fun i => .int (if i < 0 then -i else i)) t) := PE.imp (pe_callB call_abs hg hm (by decide +kernel) ha (by decide) (by decide) he hpl) fun _ _ _ h => liftN (sim_1N fun _ _ _ => .int) h
theorem qmin2 (hc : X.calm = true) (hg : Gl X "min") (hm : X.mg "min" = none) (ha : PAw X (e :: es) t) (he : starEach (e :: es) X.env = (false, eval e X.env) :: starEach es X.env := by rfl) (hpl : (backTo pos (starEach es X.env)).any (·.1) = false := by rfl) :
    PEw X (.Call (.Name "min" p) (e :: es) [] pos) (wCB (wI2N fun i j => .int (if j < i then j else i)) t) := PE.imp (pe_callB (call_min2 hc) hg hm (by decide +kernel) ha (by decide) (by decide) he hpl) fun _ _ _ h => liftN (sim_2N fun _ _ _ _ => .int) h
theorem qmax2 (hc : X.calm = true) (hg : Gl X "max") (hm : X.mg "max" = none) (ha : PAw X (e :: es) t) (he : starEach (e :: es) X.env = (false, eval e X.env) :: starEach es X.env := by rfl) (hpl : (backTo pos (starEach es X.env)).any (·.1) = false := by rfl) :
    PEw X (.Call (.Name "max" p) (e :: es) [] pos) (wCB (wI2N fun i j => .int (if j > i then j else i)) t) := PE.imp (pe_callB (call_max2 hc) hg hm (by decide +kernel) ha (by decide) (by decide) he hpl) fun _ _ _ h => liftN (sim_2N fun _ _ _ _ => .int) h
def wInt : List W → Gp → QW → Prop := fun ws G Q => match ws with
  | [.int i] => Q (.int i) G
  | [.bl b] => Q (.int (if b then 1 else 0)) G
  | _ => False
theorem sim_int : SimN K (fun xs H Q => (∃ i, xs = [.int i] ∧ Q (.int i) H) ∨ ∃ k, xs = [.bl k] ∧ Q (.int (if k then 1 else 0)) H) wInt := by
  intro Z G H ws vs Qw Q h r t k
  cases r with
  | nil => exact False.elim t
  | cons rx rr =>
    cases rr with
    | cons _ _ => cases rx <;> exact False.elim t
    | nil => cases rx <;> first
      | exact False.elim t
      | exact .inl ⟨_, rfl, k.at h .int t⟩
      | exact .inr ⟨_, rfl, k.at h .int t⟩
theorem qint1 (hg : Gl X "int") (hm : X.mg "int" = none) (ha : PAw X (e :: es) t) (he : starEach (e :: es) X.env = (false, eval e X.env) :: starEach es X.env := by rfl) (hpl : (backTo pos (starEach es X.env)).any (·.1) = false := by rfl) :
    PEw X (.Call (.Name "int" p) (e :: es) [] pos) (wCB wInt t) := PE.imp (pe_callTy call_int1 hg hm (by decide +kernel) ha (by decide) (by decide) he hpl) fun _ _ _ h => liftN sim_int h
def wStrI : List W → Gp → QW → Prop := fun ws G Q => match ws with
  | [.int i] => i.natAbs.log2 < 1920 ∧ Q (.str (Str.ofString (toString i))) G
  | _ => False
theorem sim_strI : SimN K (fun xs H Q => ∃ i, xs = [V.int i] ∧ i.natAbs.log2 < 1920 ∧ Q (V.str (Str.ofString (toString i))) H) wStrI := by
  intro Z G H ws vs Qw Q h r t k
  cases r with
  | nil => exact False.elim t
  | cons rx rr =>
    cases rr with
    | cons _ _ => cases rx <;> exact False.elim t
    | nil => cases rx <;> first
      | exact False.elim t
      | exact ⟨_, rfl, t.1, k.at h .str t.2⟩
theorem qstrI (hg : Gl X "str") (hm : X.mg "str" = none) (ha : PAw X (e :: es) t) (he : starEach (e :: es) X.env = (false, eval e X.env) :: starEach es X.env := by rfl) (hpl : (backTo pos (starEach es X.env)).any (·.1) = false := by rfl) :
    PEw X (.Call (.Name "str" p) (e :: es) [] pos) (wCB wStrI t) := PE.imp (pe_callTy call_str_int hg hm (by decide +kernel) ha (by decide) (by decide) he hpl) fun _ _ _ h => liftN sim_strI h
end
/-! ### statements -/
def wNext : TSw := fun D σ G => D.nx σ G
def wSeq (t u : TSw) : TSw := fun D σ G => t { D with nx := u D } σ G
def wBreak : TSw := fun D σ G => D.bk σ G
def wCont : TSw := fun D σ G => D.ct σ G
def wDrop (te : TEw) : TSw := fun D σ G => te σ G fun _ G1 => D.nx σ G1
def wRet (te : TEw) : TSw := fun D σ G => te σ G D.rt
def wRetN : TSw := fun D _ G => D.rt .non G
def wIfS (c : TTw) (t u : TSw) : TSw := fun D σ G => c σ G fun b G1 => if b = true then t D σ G1 else u D σ G1
def wNever : TSw := fun _ _ _ => False
def gN (i : Nat) : TGw := fun w σ G Q => Q (sset σ i w) G
def gsN : TGsw := fun ws σ G Q => match ws with
  | [] => Q σ G
  | _ => False
def gsC (t : TGw) (u : TGsw) : TGsw := fun ws σ G Q => match ws with
  | w :: r => t w σ G fun σ1 G1 => u r σ1 G1 Q
  | [] => False
def gT (n : Nat) (t : TGsw) : TGw := fun w σ G Q => match w with
  | .tup ws => ws.length = n ∧ t ws σ G Q
  | .lst ws => ws.length = n ∧ t ws σ G Q
  | .ref p => isG (G p) fun ws => ws.length = n ∧ t ws σ G Q
  | _ => False
def setIx (o i w : W) (G : Gp) (Q : Gp → Prop) : Prop := match o, i with
  | .ref p, .int k => isG (G p) fun ws => isS (ixN ws.length k) fun j => Q (gup G p (.lst (ws.set j w)))
  | _, _ => False
theorem setIx_ex {o i w : W} {G : Gp} {Q : Gp → Prop} (h : setIx o i w G Q) : ∃ p k ws j, o = .ref p ∧ i = .int k ∧ G p = some (.lst ws) ∧ ixN ws.length k = some j ∧ Q (gup G p (.lst (ws.set j w))) := by
  unfold setIx at h
  split at h
  · obtain ⟨ws, g, h⟩ := isG_ex h
    obtain ⟨j, e, h⟩ := isS_ex h
    exact ⟨_, _, ws, j, rfl, rfl, g, e, h⟩
  · exact h.elim
def gIx (to ti : TEw) : TGw := fun w σ G Q => to σ G fun o G1 => ti σ G1 fun i G2 => setIx o i w G2 (Q σ)
def wAsg (te : TEw) (g : TGw) : TSw := fun D σ G => te σ G fun w G1 => g w σ G1 D.nx
def wPar (i j : Nat) (t : TAw) : TSw := fun D σ G => t σ G fun ws G1 => match ws with
  | [a, b] => D.nx (sset (sset σ i a) j b) G1
  | _ => False
def wAug (i : Nat) (te : TEw) (r : RW2) : TSw := fun D σ G => isS (slot σ i) fun x => te σ G fun y G1 => r x y G1 fun z G2 => D.nx (sset σ i z) G2
section
variable {X : Cx} {K : PySem.W.Frag} {st : Stmt} {rest : List Stmt} {t u : TSw} {e : Expr} {te : TEw} {pos : Pos}
theorem qs_nil : PSsw X [] wNext := PSs.imp pss_nil fun D σ H h => by
  obtain ⟨Z, σ', G, Dw, e, hr, t, k⟩ := h
  exact k.nx Z G H σ' σ Ext.refl hr e t
theorem qs_cons (h1 : PSw X st t) (h2 : PSsw X rest u) : PSsw X (st :: rest) (wSeq t u) := PSs.imp (pss_cons h1 h2) fun D σ H h => by
  obtain ⟨Z, σ', G, Dw, e, hr, t, k⟩ := h
  exact ⟨Z, σ', G, _, e, hr, t, ⟨fun Z1 G1 H1 s1 s2 x1 h1 r1 q => ⟨Z1, s1, G1, Dw, r1, h1, q, k.mono x1⟩, k.rt, k.bk, k.ct, k.ex⟩⟩
theorem qs_one (h1 : PSw X st t) : PSsw X [st] t := pss_one h1
theorem qpass : PSw X (.Pass pos) wNext := PS.imp ps_pass fun D σ H h => by
  obtain ⟨Z, σ', G, Dw, e, hr, t, k⟩ := h
  exact k.nx Z G H σ' σ Ext.refl hr e t
theorem qdoc {x j pos pos'} : PSw X (.Expr (.Constant (.str x) j pos) pos') wNext := PS.imp ps_doc fun D σ H h => by
  obtain ⟨Z, σ', G, Dw, e, hr, t, k⟩ := h
  exact k.nx Z G H σ' σ Ext.refl hr e t
theorem qbreak : PSw X (.Break pos) wBreak := PS.imp ps_break fun D σ H h => by
  obtain ⟨Z, σ', G, Dw, e, hr, t, k⟩ := h
  exact k.bk Z G H σ' σ Ext.refl hr e t
theorem qcont : PSw X (.Continue pos) wCont := PS.imp ps_continue fun D σ H h => by
  obtain ⟨Z, σ', G, Dw, e, hr, t, k⟩ := h
  exact k.ct Z G H σ' σ Ext.refl hr e t
theorem qexpr (he : PEw X e te) (hs : swapsWith e none pos.line X.env = pure false := by rfl) : PSw X (.Expr e pos) (wDrop te) := PS.imp (ps_expr he hs) fun D σ H h => by
  obtain ⟨Z, σ', G, Dw, e, hr, t, k⟩ := h
  exact ⟨Z, σ', G, _, e, hr, t, fun Z1 G1 H1 w v x1 h1 r1 q => k.nx Z1 G1 H1 σ' σ x1 h1 (e.ext hr x1) q⟩
theorem qret (he : PEw X e te) : PSw X (.Return (some e) pos) (wRet te) := PS.imp (ps_ret he) fun D σ H h => by
  obtain ⟨Z, σ', G, Dw, e, hr, t, k⟩ := h
  exact ⟨Z, σ', G, _, e, hr, t, k.rt⟩
theorem qretN : PSw X (.Return none pos) wRetN := PS.imp ps_retN fun D σ H h => by
  obtain ⟨Z, σ', G, Dw, e, hr, t, k⟩ := h
  exact k.rt.at hr .non t
theorem qif {c : Expr} {a b : List Stmt} {tc : TTw} (hc : PTw X c tc) (ha : PSsw X a t) (hb : PSsw X b u) : PSw X (.If c a b pos) (wIfS tc t u) := PS.imp (ps_if hc ha hb) fun D σ H h => by
  obtain ⟨Z, σ', G, Dw, e, hr, t, k⟩ := h
  refine ⟨Z, σ', G, _, e, hr, t, fun Z1 G1 H1 b x1 h1 q => ?_⟩
  cases b with
  | true => exact ⟨Z1, σ', G1, Dw, e.ext hr x1, h1, q, k.mono x1⟩
  | false => exact ⟨Z1, σ', G1, Dw, e.ext hr x1, h1, q, k.mono x1⟩
theorem qnever : PSw X st wNever := PS.imp ps_never fun D σ H h => by
  obtain ⟨Z, σ', G, Dw, e, hr, t, k⟩ := h
  exact t
theorem qs_never {sts : List Stmt} : PSsw X sts wNever := PSs.imp pss_never fun D σ H h => by
  obtain ⟨Z, σ', G, Dw, e, hr, t, k⟩ := h
  exact t
theorem lgN {i : Nat} {v : V} {σ : SV} {H : Hp} {Q : SV → Hp → Prop} (h : liftG K (gN i) v σ H Q) : gName i v σ H Q := by
  obtain ⟨Z, σ', G, w, Qw, e, hr, r, t, k⟩ := h
  exact k Z G H _ _ Ext.refl hr (e.set r i) t
theorem qgN {i : Nat} {x : Str} (hN : X.N.Nodup) (hi : X.N[i]? = some x) (hx : Loc X.env.scope x := by first | exact Or.inl rfl | exact Or.inr rfl) (hf : X.fn x = true ∨ X.env.scope.names.lookup x = some .local := by first | exact .inl rfl | exact .inr rfl | assumption) : PGw X (.Name x pos) (gN i) :=
  PG.imp (pg_name hN hi hx hf) fun _ _ _ _ h => lgN h
theorem qgs_nil : PGsw X [] gsN := PGs.imp pgs_nil fun vs σ H Q h => by
  obtain ⟨Z, σ', G, ws, Qw, e, hr, r, t, k⟩ := h
  cases r with
  | nil => exact ⟨rfl, k Z G H _ _ Ext.refl hr e t⟩
  | cons _ _ => exact False.elim t
theorem qgs_cons {e : Expr} {es : List Expr} {t : TGw} {u : TGsw} (h1 : PGw X e t) (h2 : PGsw X es u)
    (hs : (assignEach (e :: es) X.env).map (·.2) = assign e X.env :: (assignEach es X.env).map (·.2) := by rfl) : PGsw X (e :: es) (gsC t u) := PGs.imp (pgs_cons h1 h2 hs) fun vs σ H Q h => by
  obtain ⟨Z, σ', G, ws, Qw, e, hr, r, t, k⟩ := h
  cases r with
  | nil => exact False.elim t
  | @cons w v us vs r rr =>
    refine ⟨_, _, rfl, Z, σ', G, w, _, e, hr, r, t, fun Z1 G1 H1 s1 s2 x1 h1 r1 q1 => ?_⟩
    exact ⟨Z1, s1, G1, us, Qw, r1, h1, rr.ext hr x1, q1, k.mono x1⟩
theorem PG.or {e : Expr} {t u : TG} (h1 : PG X e t) (h2 : PG X e u) : PG X e (fun v σ H Q => t v σ H Q ∨ u v σ H Q) := ⟨fun pins s σ H v x Q I r q => q.elim (fun q => h1.run pins s σ H v x Q I r q) (fun q => h2.run pins s σ H v x Q I r q)⟩
theorem qgT {es : List Expr} {k : Nat} {t : TGsw} {n : Nat} (hc : X.calm = true) (h : PGsw X es t)
    (hn : (assignEach es X.env).length = n := by rfl) (hst : (assignEach es X.env).findIdx? (·.1) = none := by rfl) : PGw X (.Tuple es k pos) (gT n t) := PG.imp (PG.or (pg_tup hc h hn hst) (pg_lst hc h hn hst)) fun v σ H Q h => by
  obtain ⟨Z, σ', G, w, Qw, e, hr, r, t, k⟩ := h
  cases r with
  | tup s r => exact .inl ⟨_, _, rfl, s, by rw [← r.length]; exact t.1, Z, σ', G, _, Qw, e, hr, r, t.2, k⟩
  | lst z s r => exact .inr ⟨_, _, rfl, SqL.of s, by rw [← r.length]; exact t.1, Z, σ', G, _, Qw, e, hr, r, t.2, k⟩
  | @ref p =>
    obtain ⟨ws, g, t1, t2⟩ := isG_ex t
    obtain ⟨vs, s, r⟩ := hr.lst g
    exact .inr ⟨_, _, rfl, SqL.of s, by rw [← r.length]; exact t1, Z, σ', G, _, Qw, e, hr, r, t2, k⟩
  | _ => exact False.elim t
theorem qgIx {o i : Expr} {to ti : TEw} (ho : PEw X o to) (hi : PEw X i ti)
    (ha : ∀ v, assign (.Subscript o i pos) X.env v = (do
      let ov ← holding [v] (eval o X.env)
      let iv ← holding [v, ov] (eval i X.env)
      standAt pos
      holding [v, ov, iv] (setItem ov iv v)
      release [v, ov, iv] []) := by intro _; rfl) : PGw X (.Subscript o i pos) (gIx to ti) := PG.imp (pg_sub ho hi set_list ha) fun v σ H Q h => by
  obtain ⟨Z, σ', G, w, Qw, e, hr, r, t, k⟩ := h
  refine ⟨Z, σ', G, _, e, hr, t, fun Z1 G1 H1 ow ov x1 h1 r1 t1 => ⟨Z1, σ', G1, _, e.ext hr x1, h1, t1, fun Z2 G2 H2 iw iv x2 h2 r2 t2 => ?_⟩⟩
  obtain ⟨p, kk, ws, j, rfl, rfl, g, l, q⟩ := setIx_ex t2
  cases r1
  cases r2
  obtain ⟨vs, e2, rr⟩ := h2.lst g
  obtain ⟨h3, x3⟩ := chg_lst h2 g (((r.ext hr (x1.trans x2)) : Rw _ _ _ w v) |> fun r => RwL.set r j rr)
  refine ⟨p, vs, kk, j, rfl, rfl, e2, by rw [← rr.length]; exact l, ?_⟩
  exact k Z2 _ _ _ _ ((x1.trans x2).trans x3) h3 ((e.ext hr (x1.trans x2)).ext h2 x3) q
theorem qasg {tg : Expr} {g : TGw} (he : PEw X e te) (hg : PGw X tg g) (hs : swapsWithSole [tg] e pos.line X.env = pure false := by rfl) (hw : swappedStores [tg] e X.env = pure none := by rfl)
    (h1 : (assignEach [tg] X.env).map (·.2) = [assign tg X.env] := by rfl) : PSw X (.Assign [tg] e pos) (wAsg te g) := PS.imp (ps_asg he hg hs hw h1) fun D σ H h => by
  obtain ⟨Z, σ', G, Dw, e, hr, t, k⟩ := h
  exact ⟨Z, σ', G, _, e, hr, t, fun Z1 G1 H1 w v x1 h1 r1 q => ⟨Z1, σ', G1, w, _, e.ext hr x1, h1, r1, q, k.nx.mono x1⟩⟩
theorem qset {i : Nat} {x : Str} {pos' : Pos} (hN : X.N.Nodup) (hi : X.N[i]? = some x) (hx : Loc X.env.scope x := by first | exact Or.inl rfl | exact Or.inr rfl) (he : PEw X e te) (hs : swapsWith e (some (.Name x pos')) pos.line X.env = pure false := by rfl) (hf : X.fn x = true ∨ X.env.scope.names.lookup x = some .local := by first | exact .inl rfl | exact .inr rfl | assumption) :
    PSw X (.Assign [.Name x pos'] e pos) (wAsg te (gN i)) := PS.imp (ps_set hN hi hx he hs hf) fun D σ H h => by
  obtain ⟨Z, σ', G, Dw, e, hr, t, k⟩ := h
  exact ⟨Z, σ', G, _, e, hr, t, fun Z1 G1 H1 w v x1 h1 r1 q => lgN ⟨Z1, σ', G1, w, _, e.ext hr x1, h1, r1, q, k.nx.mono x1⟩⟩
theorem qpar {i j : Nat} {x y : Str} {a b : Expr} {ta : TAw} {px py pt : Pos} {kt k2 pt2} (hc : X.calm = true) (hN : X.N.Nodup) (hi : X.N[i]? = some x) (hj : X.N[j]? = some y) (hij : i ≠ j)
    (hx : X.env.scope.names.lookup x = some .local) (hy : X.env.scope.names.lookup y = some .local) (ha : PAw X [a, b] ta)
    (hw : swappedStores [.Tuple [.Name x px, .Name y py] kt pt] (.Tuple [a, b] k2 pt2) X.env = pure (some [x, y]))
    (hs : swapsWithSole [.Tuple [.Name x px, .Name y py] kt pt] (.Tuple [a, b] k2 pt2) pos.line X.env = pure false := by rfl) :
    PSw X (.Assign [.Tuple [.Name x px, .Name y py] kt pt] (.Tuple [a, b] k2 pt2) pos) (wPar i j ta) := PS.imp (ps_par hc hN hi hj hij hx hy ha hw hs) fun D σ H h => by
  obtain ⟨Z, σ', G, Dw, e, hr, t, k⟩ := h
  refine ⟨Z, σ', G, _, e, hr, t, fun Z1 G1 H1 ws vs x1 h1 r1 q => ?_⟩
  cases r1 with
  | nil => exact False.elim q
  | cons ra r1 =>
    cases r1 with
    | nil => exact False.elim q
    | cons rb r1 =>
      cases r1 with
      | cons _ _ => exact False.elim q
      | nil =>
      exact ⟨_, _, rfl, k.nx Z1 G1 H1 _ _ x1 h1 (((e.ext hr x1).set ra i).set rb j) q⟩
/-- name op= e -/
theorem qaug {i : Nat} {x : Str} {op : Operator} {ti : TIp} {wr : RW2} {pos' : Pos} (hN : X.N.Nodup) (hi : X.N[i]? = some x) (hx : Loc X.env.scope x := by first | exact Or.inl rfl | exact Or.inr rfl) (he : PEw X e te) (ho : PIp X op ti) (hs : Sim2 X.K ti wr) (hf : X.fn x = true ∨ X.env.scope.names.lookup x = some .local := by first | exact .inl rfl | exact .inr rfl | assumption) :
    PSw X (.AugAssign (.Name x pos') op e pos) (wAug i te wr) := PS.imp (ps_aug hN hi hx he ho hf) fun D σ H h => by
  obtain ⟨Z, σ', G, Dw, e, hr, t, k⟩ := h
  obtain ⟨xw, es, t⟩ := isS_ex t
  obtain ⟨xv, ev, rx⟩ := e.get i es
  refine ⟨xv, ev, Z, σ', G, _, e, hr, t, fun Z1 G1 H1 w v x1 h1 r1 q => ?_⟩
  exact hs Z1 G1 H1 xw w xv v _ _ h1 (rx.ext hr x1) r1 q fun Z2 G2 H2 z zv x2 h2 r2 q2 => k.nx Z2 G2 H2 _ _ (x1.trans x2) h2 ((e.ext hr (x1.trans x2)).set r2 i) q2
abbrev wAddI : RW2 := wII fun i j => .int (i + j)
theorem sim_ip {g : Int → Int → Int} : Sim2 K (ipI g) (wII fun i j => .int (g i j)) := by
  intro Z G H x y v u Qw Q h rx ry t k
  cases rx <;> cases ry <;> first
    | exact False.elim t
    | exact ⟨_, _, rfl, rfl, k.at h .int t⟩
theorem qaugA {i : Nat} {x : Str} {pos' : Pos} (hN : X.N.Nodup) (hi : X.N[i]? = some x) (hx : Loc X.env.scope x := by first | exact Or.inl rfl | exact Or.inr rfl) (he : PEw X e te) (hf : X.fn x = true ∨ X.env.scope.names.lookup x = some .local := by first | exact .inl rfl | exact .inr rfl | assumption) : PSw X (.AugAssign (.Name x pos') .Add e pos) (wAug i te wAddI) := qaug hN hi hx he ip_add sim_ip hf
theorem qaugS {i : Nat} {x : Str} {pos' : Pos} (hN : X.N.Nodup) (hi : X.N[i]? = some x) (hx : Loc X.env.scope x := by first | exact Or.inl rfl | exact Or.inr rfl) (he : PEw X e te) (hf : X.fn x = true ∨ X.env.scope.names.lookup x = some .local := by first | exact .inl rfl | exact .inr rfl | assumption) : PSw X (.AugAssign (.Name x pos') .Sub e pos) (wAug i te wSub) := qaug hN hi hx he ip_sub sim_ip hf
end
end WL
namespace WL
open PySem PySem.Spec PyProof.Rows L2
/-! ### while -/
def wWhile (ks : List Bool) (c : TTw) (tb : TSw) : TSw := fun D σ G => ∃ P : Nat → SW → Gp → Prop, (∃ m, P m (skill σ ks) G) ∧ ∀ m σ G, P m σ G →
  c σ G fun b G1 => if b = true then tb { nx := fun σ' G' => ∃ m', m' < m ∧ P m' (skill σ' ks) G', ct := fun σ' G' => ∃ m', m' < m ∧ P m' (skill σ' ks) G', bk := D.nx, rt := D.rt, ex := D.ex } σ G1 else D.nx σ G1
section
variable {X : Cx} {K : PySem.W.Frag} {pos : Pos}
theorem lwhile {ks : List Bool} {c : TTw} {tb : TSw} {D : Ends} {σ : SV} {H : Hp} (h : liftS X (wWhile ks c tb) D σ H) : tWhile (liftT X.K c) (liftS X tb) D σ H := by
  obtain ⟨Z, σ', G, Dw, e, hr, ⟨P, ⟨m0, p0⟩, step⟩, k⟩ := h
  refine ⟨fun m σ1 H1 => ∃ Z1 σ1' G1, Ext Z G H Z1 G1 H1 ∧ HRel X.K Z1 G1 H1 ∧ RwS X.K Z1 H1 σ1' σ1 ∧ P m σ1' G1, ⟨m0, Z, _, G, Ext.refl, hr, e.kill ks, p0⟩, ?_⟩
  rintro m σ1 H1 ⟨Z1, σ1', G1, x1, h1, e1, p1⟩
  refine ⟨Z1, σ1', G1, _, e1, h1, step m σ1' G1 p1, fun Z2 G2 H2 b x2 h2 q => ?_⟩
  cases b with
  | false => exact k.nx Z2 G2 H2 _ _ (x1.trans x2) h2 (e1.ext h1 x2) q
  | true =>
    refine iteT ⟨fun σ' H' => ∃ m', m' < m ∧ ∃ Z1 σ1' G1, Ext Z G H Z1 G1 H' ∧ HRel X.K Z1 G1 H' ∧ RwS X.K Z1 H' σ1' σ' ∧ P m' σ1' G1, fun σ' H' n => n, ?_⟩
    refine ⟨Z2, σ1', G2, _, e1.ext h1 x2, h2, q, ⟨fun Z3 G3 H3 s3 t3 x3 h3 e3 q3 => ?_, k.rt.mono (x1.trans x2), k.nx.mono (x1.trans x2), fun Z3 G3 H3 s3 t3 x3 h3 e3 q3 => ?_, k.ex.mono (x1.trans x2)⟩⟩
    · obtain ⟨m', hm, p3⟩ := q3
      exact ⟨m', hm, Z3, _, G3, (x1.trans x2).trans x3, h3, e3.kill ks, p3⟩
    · obtain ⟨m', hm, p3⟩ := q3
      exact ⟨m', hm, Z3, _, G3, (x1.trans x2).trans x3, h3, e3.kill ks, p3⟩
theorem qwhile {ks : List Bool} {c : Expr} {body : List Stmt} {tc : TTw} {tb : TSw} (hp : PassesOwn (model X.prog X.w) X.A X.env X.xe) (hc : PTw X c tc) (hb : PSsw X body tb) : PSw X (.While c body [] pos) (wWhile ks tc tb) :=
  PS.imp (ps_while hp hc hb) fun _ _ _ h => lwhile h
end
/-! ### for -/
/-- the turns bring these values, whatever the loop does to what is tracked -/
def WalkW (K : PySem.W.Frag) (J : It) (Z : Zp) (G : Gp) (H : Hp) (ws : List W) : Prop := ∃ (Gd : Hp → Prop) (Y : Nat → Hp → V → Hp → Prop), Walk J ws.length Gd Y ∧
  ∀ Z' G' H', Ext Z G H Z' G' H' → HRel K Z' G' H' → Gd H' ∧ ∀ i v H'', i < ws.length → Y i H' v H'' → ∃ w, ws[i]? = some w ∧ Rw K Z' H'' w v ∧ Ext Z' G' H' Z' G' H'' ∧ HRel K Z' G' H''
abbrev TIw := SW → Gp → (List W → Gp → Prop) → Prop
def liftI (K : PySem.W.Frag) (t : TIw) : TI := fun σ H R => ∃ Z σ' G Rw', RwS K Z H σ' σ ∧ HRel K Z G H ∧ t σ' G Rw' ∧ ∀ Z' G' H' ws J, Ext Z G H Z' G' H' → HRel K Z' G' H' → WalkW K J Z' G' H' ws → Rw' ws G' → R J H'
def PIw (X : Cx) (tg iter : Expr) (t : TIw) : Prop := PI X tg iter (liftI X.K t)
def forW (ks : List Bool) (g : TGw) (tb : TSw) : List W → TSw
  | [], D, σ, G => D.nx σ G
  | w :: ws, D, σ, G => g w σ G fun σ1 G1 => tb { nx := fun σ2 G2 => forW ks g tb ws D (skill σ2 ks) G2, ct := fun σ2 G2 => forW ks g tb ws D (skill σ2 ks) G2, bk := D.nx, rt := D.rt, ex := D.ex } σ1 G1
def wFor (ks : List Bool) (ti : TIw) (g : TGw) (tb : TSw) : TSw := fun D σ G => ti σ G fun ws G1 => forW ks g tb ws D (skill σ ks) G1
section
variable {X : Cx} {K : PySem.W.Frag} {pos : Pos}
theorem PI.imp {tg iter : Expr} {t t' : TI} (h : PI X tg iter t) (i : ∀ σ H R, t' σ H R → t σ H R) : PI X tg iter t' := ⟨fun pins s σ H R I q => h.run pins s σ H R I (i _ _ _ q)⟩
theorem lfor {ks : List Bool} {ti : TIw} {g : TGw} {tb : TSw} {D : Ends} {σ : SV} {H : Hp} (h : liftS X (wFor ks ti g tb) D σ H) : tFor (liftI X.K ti) (liftG X.K g) (liftS X tb) D σ H := by
  obtain ⟨Z, σ', G, Dw, e, hr, t, k⟩ := h
  refine ⟨Z, σ', G, _, e, hr, t, fun Z1 G1 H1 ws J x1 h1 ⟨Gd, Y, wk, hY⟩ t1 => ?_⟩
  refine for_it wk (fun i σ2 H2 => ∃ Z2 σ2' G2, Ext Z1 G1 H1 Z2 G2 H2 ∧ HRel X.K Z2 G2 H2 ∧ RwS X.K Z2 H2 σ2' σ2 ∧ forW ks g tb (ws.drop i) Dw σ2' G2) ?_ ?_ ?_ ?_
  · exact ⟨Z1, _, G1, Ext.refl, h1, (e.ext hr x1).kill ks, t1⟩
  · rintro i σ2 H2 _ ⟨Z2, σ2', G2, x2, h2, _, _⟩
    exact (hY Z2 G2 H2 x2 h2).1
  · rintro i v σ2 H2 H3 hi ⟨Z2, σ2', G2, x2, h2, e2, t2⟩ y
    obtain ⟨w, ew, rw', x3, h3⟩ := (hY Z2 G2 H2 x2 h2).2 i v H3 hi y
    have ed : ws.drop i = w :: ws.drop (i + 1) := by
      obtain ⟨hl, e⟩ := List.getElem?_eq_some_iff.mp ew
      rw [← e]; exact List.drop_eq_getElem_cons hl
    rw [ed] at t2
    refine ⟨Z2, σ2', G2, w, _, e2.ext h2 x3, h3, rw', t2, fun Z4 G4 H4 s4 t4 x4 h4 e4 q4 => ?_⟩
    have x24 := (x2.trans x3).trans x4
    have xx := x1.trans x24
    exact ⟨Z4, s4, G4, _, e4, h4, q4, ⟨fun Z5 G5 H5 s5 t5 x5 h5 e5 q5 => ⟨Z5, _, G5, x24.trans x5, h5, e5.kill ks, q5⟩, k.rt.mono xx, k.nx.mono xx, fun Z5 G5 H5 s5 t5 x5 h5 e5 q5 => ⟨Z5, _, G5, x24.trans x5, h5, e5.kill ks, q5⟩, k.ex.mono xx⟩⟩
  · rintro σ2 H2 ⟨Z2, σ2', G2, x2, h2, e2, t2⟩
    rw [List.drop_length] at t2
    exact k.nx Z2 G2 H2 _ _ (x1.trans x2) h2 e2 t2
theorem qfor {ks : List Bool} {tg iter : Expr} {body : List Stmt} {ti : TIw} {g : TGw} {tb : TSw} (hp : PassesOwn (model X.prog X.w) X.A X.env X.xe) (hc : X.calm = true) (hi : PIw X tg iter ti) (hg : PGw X tg g) (hb : PSsw X body tb)
    (hs : ∀ x, foldedSetIterable iter X.env x = pure x := by intro _; rfl) : PSw X (.For tg iter body [] pos) (wFor ks ti g tb) := PS.imp (ps_for hp hc hi hg hb hs) fun _ _ _ h => lfor h
/-! what is walked -/
variable {tg : Expr} {te : TEw} {ta : TAw}
/-- a tuple or a list that stays as it is (a list of the small heap is frozen) -/
def iSeqW (te : TEw) : TIw := fun σ G R => te σ G fun w G1 => match w with
  | .tup ws => R ws G1
  | .lst ws => R ws G1
  | .scr ws => R ws G1
  | .ref p => isG (G1 p) fun ws => R ws (gdel G1 p)
  | _ => False
def iSeq (K : PySem.W.Frag) (tl : TE) : TI := fun σ H R => tl σ H fun x H1 => (∃ a, x = .ref a ∧ (∃ xs, SqL K H1 a xs) ∧ R (Itl K a) H1) ∨ (∃ a, x = .ref a ∧ (∃ xs, SqT K H1 a xs) ∧ R (Itt K a) H1)
theorem pi_seq {l : Expr} {tl : TE} (hl : PE X l tl) : PI X tg l (iSeq X.K tl) := by
  refine ⟨fun pins s σ H R I h => ?_⟩
  have two : ∀ v s1, EP X pins σ (fun x H1 => (∃ a, x = .ref a ∧ (∃ xs, SqL X.K H1 a xs) ∧ R (Itl X.K a) H1) ∨ (∃ a, x = .ref a ∧ (∃ xs, SqT X.K H1 a xs) ∧ R (Itt X.K a) H1)) v s1 →
      EP X pins σ (fun x H1 => ∃ a, x = .ref a ∧ (∃ xs, SqL X.K H1 a xs) ∧ R (Itl X.K a) H1) v s1 ∨ EP X pins σ (fun x H1 => ∃ a, x = .ref a ∧ (∃ xs, SqT X.K H1 a xs) ∧ R (Itt X.K a) H1) v s1 := fun v s1 ⟨x, H1, I1, r1, q⟩ => by
    rcases q with q | q
    · exact .inl ⟨x, H1, I1, r1, q⟩
    · exact .inr ⟨x, H1, I1, r1, q⟩
  -- the two rules of the layer, each over an expression that is already evaluated
  refine thn (hl.run pins s σ H _ I h) fun v s1 q => ?_
  rcases two v s1 q with ⟨x, H1, I1, r1, a, rfl, ⟨xs, hq⟩, q1⟩ | ⟨x, H1, I1, r1, a, rfl, ⟨xs, hq⟩, q1⟩
  · cases r1
    obtain ⟨its, _, pl, _⟩ := I1.list hq
    refine wpAny_pyIter_list pl.isList ⟨_, [s1.heap.objs.size], _, _, H1, rfl, I1.kept (t' := s1.toks) (fun b o e => Heap.get?_push_of_some _ e), turn_list a _, ⟨_, Heap.get?_push_size _ rfl, rfl, rfl⟩, ?_, q1⟩
    intro b hb
    rw [List.mem_singleton.mp hb]
    exact I1.fpOk (Nat.le_refl _) (I1.hok.fresh (Nat.le_refl _))
  · cases r1
    obtain ⟨its, _, pl, _⟩ := I1.tuple hq
    refine wpAny_pyIter_tuple (show s1.heap.IsTuple a its.toArray from pl) ⟨_, [s1.heap.objs.size], _, _, H1, rfl, I1.kept (t' := s1.toks) (fun b o e => Heap.get?_push_of_some _ e), turn_tuple a _, ⟨_, Heap.get?_push_size _ rfl, rfl, rfl⟩, ?_, q1⟩
    intro b hb
    rw [List.mem_singleton.mp hb]
    exact I1.fpOk (Nat.le_refl _) (I1.hok.fresh (Nat.le_refl _))
theorem walkT {Z : Zp} {G : Gp} {H : Hp} {a : Addr} {ws : List W} {vs : List V} (h : HRel K Z G H) (s : SqT K H a vs) (r : RwL K Z H ws vs) : WalkW K (Itt K a) Z G H ws := by
  refine ⟨_, _, by rw [r.length]; exact walk_tup (K := K) (a := a) (xs := vs), fun Z' G' H' x h' => ⟨SqT.ext h x s, fun i v H'' hi y => ?_⟩⟩
  obtain ⟨rfl, ev⟩ := y
  obtain ⟨w, ew, rw'⟩ := (r.ext h x).get' i ev
  exact ⟨w, ew, rw', Ext.refl, h'⟩
theorem walkL {Z : Zp} {G : Gp} {H : Hp} {a : Addr} {ws : List W} {vs : List V} (h : HRel K Z G H) (z : Z a) (s : H a = some (.lst vs)) (r : RwL K Z H ws vs) : WalkW K (Itl K a) Z G H ws := by
  refine ⟨_, _, by rw [r.length]; exact walk_list (K := K) (a := a) (xs := vs), fun Z' G' H' x h' => ⟨SqL.of (x.f a _ s (h.z a z).1).1, fun i v H'' hi y => ?_⟩⟩
  obtain ⟨rfl, ev⟩ := y
  obtain ⟨w, ew, rw'⟩ := (r.ext h x).get' i ev
  exact ⟨w, ew, rw', Ext.refl, h'⟩
theorem walkS {Z : Zp} {G : Gp} {H : Hp} {a : Addr} {ws : List W} {vs : List V} (h : HRel K Z G H) (s : SqF K H a vs) (r : RwL K Z H ws vs) : WalkW K (Itl K a) Z G H ws := by
  refine ⟨_, _, by rw [r.length]; exact walk_list (K := K) (a := a) (xs := vs), fun Z' G' H' x h' => ⟨(s.ext h x).sq, fun i v H'' hi y => ?_⟩⟩
  obtain ⟨rfl, ev⟩ := y
  obtain ⟨w, ew, rw'⟩ := (r.ext h x).get' i ev
  exact ⟨w, ew, rw', Ext.refl, h'⟩
theorem qiseq {l : Expr} (hl : PEw X l te) : PIw X tg l (iSeqW te) := PI.imp (pi_seq hl) fun σ H R h => by
  obtain ⟨Z, σ', G, Qw, e, hr, t, k⟩ := h
  refine ⟨Z, σ', G, _, e, hr, t, fun Z1 G1 H1 w v x1 h1 r1 t1 => ?_⟩
  cases r1 with
  | tup s r => exact .inr ⟨_, rfl, ⟨_, s⟩, k Z1 G1 H1 _ _ x1 h1 (walkT h1 s r) t1⟩
  | lst z s r => exact .inl ⟨_, rfl, ⟨_, SqL.of s⟩, k Z1 G1 H1 _ _ x1 h1 (walkL h1 z s r) t1⟩
  | scr s r => exact .inl ⟨_, rfl, ⟨_, s.sq⟩, k Z1 G1 H1 _ _ x1 h1 (walkS h1 s r) t1⟩
  | @ref p =>
    obtain ⟨ws, g, q⟩ := isG_ex t1
    obtain ⟨vs, s, r⟩ := h1.lst g
    obtain ⟨h2, x2⟩ := h1.freeze (p := p) (by rw [g]; simp)
    exact .inl ⟨_, rfl, ⟨_, SqL.of s⟩, k _ _ H1 _ _ (x1.trans x2) h2 (walkL h2 (.inr rfl) s (r.ext h1 x2)) q⟩
  | _ => exact False.elim t1
def rangeW (lo : Int) (n : Nat) : List W := (List.range n).map fun i => W.int (lo + (i : Nat))
theorem walkR {Z : Zp} {G : Gp} {H : Hp} {lo : Int} {n : Nat} : WalkW K (Itr lo n) Z G H (rangeW lo n) := by
  refine ⟨_, _, by unfold rangeW; rw [List.length_map, List.length_range]; exact walk_range, fun Z' G' H' x h' => ⟨trivial, fun i v H'' hi y => ?_⟩⟩
  obtain ⟨rfl, rfl⟩ := y
  unfold rangeW at hi ⊢
  rw [List.length_map, List.length_range] at hi
  exact ⟨.int (lo + i), by rw [List.getElem?_map, List.getElem?_range hi]; rfl, .int, Ext.refl, h'⟩
def rng1 (ws : List W) (G : Gp) (R : List W → Gp → Prop) : Prop := match ws with
  | [.int j] => j < 4611686018427387904 ∧ -4611686018427387904 ≤ j ∧ R (rangeW 0 j.toNat) G
  | _ => False
def rng2 (ws : List W) (G : Gp) (R : List W → Gp → Prop) : Prop := match ws with
  | [.int i, .int j] => (-4611686018427387904 ≤ i ∧ i < 4611686018427387904 ∧ -4611686018427387904 ≤ j ∧ j < 4611686018427387904) ∧ R (rangeW i (j - i).toNat) G
  | _ => False
theorem rng1_int {j : Int} {G : Gp} {R : List W → Gp → Prop} : rng1 [.int j] G R = (j < 4611686018427387904 ∧ -4611686018427387904 ≤ j ∧ R (rangeW 0 j.toNat) G) := rfl
theorem rng2_int {i j : Int} {G : Gp} {R : List W → Gp → Prop} : rng2 [.int i, .int j] G R = ((-4611686018427387904 ≤ i ∧ i < 4611686018427387904 ∧ -4611686018427387904 ≤ j ∧ j < 4611686018427387904) ∧ R (rangeW i (j - i).toNat) G) := rfl
def iR1 (ta : TAw) : TIw := fun σ G R => ta σ G fun ws G1 => rng1 ws G1 R
def iR2 (ta : TAw) : TIw := fun σ G R => ta σ G fun ws G1 => rng2 ws G1 R
theorem qrange1 {a : Expr} {p pos : Pos} (hg : Gl X "range") (hm : X.mg "range" = none) (ha : PAw X [a] ta) (hs : starEach [a] X.env = [(false, eval a X.env)] := by rfl) : PIw X tg (.Call (.Name "range" p) [a] [] pos) (iR1 ta) :=
  PI.imp (pi_range1 hg hm ha hs) fun σ H R h => by
    obtain ⟨Z, σ', G, Qw, e, hr, t, k⟩ := h
    refine ⟨Z, σ', G, _, e, hr, t, fun Z1 G1 H1 ws vs x1 h1 r1 t1 => ?_⟩
    cases r1 with
    | nil => exact False.elim t1
    | cons ra rr =>
      cases rr with
      | cons _ _ => cases ra <;> exact False.elim t1
      | nil => cases ra <;> first
        | exact False.elim t1
        | exact ⟨_, rfl, t1.2.1, t1.1, k Z1 G1 H1 _ _ x1 h1 walkR t1.2.2⟩
theorem qrange2 {a b : Expr} {p pos : Pos} (hg : Gl X "range") (hm : X.mg "range" = none) (ha : PAw X [a, b] ta) (hs : starEach [a, b] X.env = [(false, eval a X.env), (false, eval b X.env)] := by rfl) (hs2 : starEach [b] X.env = [(false, eval b X.env)] := by rfl) :
    PIw X tg (.Call (.Name "range" p) [a, b] [] pos) (iR2 ta) :=
  PI.imp (pi_range2 hg hm ha hs hs2) fun σ H R h => by
    obtain ⟨Z, σ', G, Qw, e, hr, t, k⟩ := h
    refine ⟨Z, σ', G, _, e, hr, t, fun Z1 G1 H1 ws vs x1 h1 r1 t1 => ?_⟩
    cases r1 with
    | nil => exact False.elim t1
    | cons ra rr =>
      cases rr with
      | nil => cases ra <;> exact False.elim t1
      | cons rb rr =>
        cases rr with
        | cons _ _ => cases ra <;> cases rb <;> exact False.elim t1
        | nil => cases ra <;> cases rb <;> first
          | exact False.elim t1
          | exact ⟨_, _, rfl, t1.1, k Z1 G1 H1 _ _ x1 h1 walkR t1.2⟩
end
/-! ### what a def promises -/
/-- the arguments, the small heap, the wanted end, the wanted exception: its class, its own attributes -/
abbrev EXw := Str → List (Str × W) → Gp → Prop
abbrev Spw := List W → Gp → QW → EXw → Prop
def KXE (K : PySem.W.Frag) (Z : Zp) (G : Gp) (H : Hp) (Ew : EXw) (E : XK) : Prop := ∀ Z' G' H' nm C fs d, Ext Z G H Z' G' H' → HRel K Z' G' H' → ClsA K nm C → ExF K Z' H' fs d → Ew nm fs G' → E (.ref C) d H'
def liftSp (K : PySem.W.Frag) (sp : Spw) : Sp := fun vs H Q E => ∃ Z ws G Qw Ew, RwL K Z H ws vs ∧ HRel K Z G H ∧ sp ws G Qw Ew ∧ KE K Z G H Qw Q ∧ KXE K Z G H Ew E
/-- what a body's end may do besides: freeze what is told, forget what is left -/
def Cl0 (Q : QW) : QW := fun w G => Q w G ∨ ∃ p ws, w = .ref p ∧ G p = some (.lst ws) ∧ Q (.lst ws) (gdel G p)
def Cl (Q : QW) : QW := fun w G => Q w G ∨ ∃ ps : List Addr, Cl0 Q w (ps.foldl gdel G)
theorem KE.cl0 {K : PySem.W.Frag} {Z : Zp} {G : Gp} {H : Hp} {Qw : QW} {Q : VK} (k : KE K Z G H Qw Q) : KE K Z G H (Cl0 Qw) Q := by
  intro Z1 G1 H1 w v x1 h1 r1 q
  rcases q with q | ⟨p, ws, rfl, g, q⟩
  · exact k Z1 G1 H1 w v x1 h1 r1 q
  · cases r1
    obtain ⟨vs, s, r⟩ := h1.lst g
    obtain ⟨h2, x2⟩ := h1.freeze (p := p) (by rw [g]; simp)
    exact k _ _ H1 (.lst ws) _ (x1.trans x2) h2 (.lst (.inr rfl) s (r.ext h1 x2)) q
theorem KE.drops {K : PySem.W.Frag} {Qw : QW} {Q : VK} : ∀ (ps : List Addr) {Z : Zp} {G : Gp} {H : Hp}, KE K Z G H Qw Q → ∀ Z1 G1 w v, Ext Z G H Z1 G1 H → HRel K Z1 G1 H → Rw K Z1 H w v → Qw w (ps.foldl gdel G1) → Q v H
  | [], Z, G, H, k, Z1, G1, w, v, x1, h1, r1, q => k Z1 G1 H w v x1 h1 r1 q
  | p :: ps, Z, G, H, k, Z1, G1, w, v, x1, h1, r1, q => by
    by_cases c : G1 p = none
    · have e : gdel G1 p = G1 := by
        funext b; unfold gdel; split
        · rename_i z; rw [z, c]
        · rfl
      rw [List.foldl_cons, e] at q
      exact KE.drops ps k Z1 G1 w v x1 h1 r1 q
    · obtain ⟨h2, x2⟩ := h1.freeze (p := p) c
      exact KE.drops ps k _ _ w v (x1.trans x2) h2 (r1.ext h1 x2) q
theorem KE.cl {K : PySem.W.Frag} {Z : Zp} {G : Gp} {H : Hp} {Qw : QW} {Q : VK} (k : KE K Z G H Qw Q) : KE K Z G H (Cl Qw) Q := by
  intro Z1 G1 H1 w v x1 h1 r1 q
  rcases q with q | ⟨ps, q⟩
  · exact k Z1 G1 H1 w v x1 h1 r1 q
  · exact KE.drops ps (k.cl0.mono x1) Z1 G1 w v Ext.refl h1 r1 q
/-- one list forgotten -/
theorem Cl.drop {Q : QW} {w : W} {G : Gp} {p : Addr} {o : GO} (n : G p = none) (q : Q w G) : Cl Q w (gup G p o) := .inr ⟨[p], .inl (by show Q w (gdel (gup G p o) p); rw [gdel_gup n]; exact q)⟩
/-- a list told by a def: the caller's own, or frozen -/
def tellL (ws : List W) (Q : QW) (G : Gp) : Prop := Q (.lst ws) G ∨ ∀ p, G p = none → Q (.ref p) (gup G p (.lst ws))
theorem tellL.cl {ws : List W} {Q : QW} {G : Gp} (h : tellL ws Q G) {p : Addr} (n : G p = none) : Cl Q (.ref p) (gup G p (.lst ws)) := by
  rcases h with h | h
  · exact .inr ⟨[], .inr ⟨p, ws, rfl, gup_same, by show Q (.lst ws) (gdel (gup G p (.lst ws)) p); rw [gdel_gup n]; exact h⟩⟩
  · exact .inl (h p n)
/-- a def called by its name in the module -/
structure Cal (P : Program) (w : World) (K : PySem.W.Frag) (mg : Str → Option Value) (base : Heap) (CX : CXT) (k : Nat) (x : Str) (sp : Spw) : Prop where
  ex : ∃ f fd ps, FnOk P w K mg base CX k f fd ps (liftSp K sp) ∧ mg x = some (.ref f) ∧ PySem.W.keepIn K (.ref f) = true ∧ Binds K fd ps []
def E0w : EXw := fun _ _ _ => False
def wCall (sp : Spw) (t : TAw) : TEw := fun σ G Q => t σ G fun ws G1 => sp ws G1 Q E0w
section
variable {X : Cx} {K : PySem.W.Frag} {x : Str} {p pos : Pos} {e : Expr} {es : List Expr} {t : TAw} {sp : Spw} {k : Nat}
theorem lcall {σ : SV} {H : Hp} {Q : VK} (h : liftE K (wCall sp t) σ H Q) : tCall (liftSp K sp) [] E0 (liftA K t) σ H Q := by
  obtain ⟨Z, σ', G, Qw, e, hr, t, k⟩ := h
  refine ⟨Z, σ', G, _, e, hr, t, fun Z1 G1 H1 ws vs x1 h1 r1 t1 => ?_⟩
  show liftSp K sp (vs ++ []) H1 Q E0
  rw [List.append_nil]
  exact ⟨Z1, ws, G1, Qw, E0w, r1, h1, t1, k.mono x1, fun _ _ _ _ _ _ _ _ _ _ _ z => z.elim⟩
theorem qcall (c : Cal X.prog X.w X.K X.mg X.base CX0 k x sp) (hr : Room k X.A) (hg : Gl X x) (ha : PAw X (e :: es) t) (hdb : (x == ("__debug__" : Str)) = false := by decide)
    (he : starEach (e :: es) X.env = (false, eval e X.env) :: starEach es X.env := by rfl) (hpl : (backTo pos (starEach es X.env)).any (·.1) = false := by rfl) : PEw X (.Call (.Name x p) (e :: es) [] pos) (wCall sp t) := by
  obtain ⟨f, fd, ps, F, m, kp, b⟩ := c.ex
  exact PE.imp (pe_call F hr hg m kp b .nil pass0 ha hdb he hpl) fun _ _ _ h => lcall h
theorem qcall0 (c : Cal X.prog X.w X.K X.mg X.base CX0 k x sp) (hr : Room k X.A) (hg : Gl X x) (hdb : (x == ("__debug__" : Str)) = false := by decide) : PEw X (.Call (.Name x p) [] [] pos) (wCall sp wNil) := by
  obtain ⟨f, fd, ps, F, m, kp, b⟩ := c.ex
  refine PE.imp (pe_call0 F hr hg m kp b .nil pass0 hdb) fun σ H Q h => ?_
  obtain ⟨Z, σ', G, Qw, e, hr, t, k⟩ := h
  exact ⟨Z, [], G, Qw, E0w, .nil, hr, t, k, fun _ _ _ _ _ _ _ _ _ _ _ z => z.elim⟩
end
section
variable {P : Program} {w : World} {K : PySem.W.Frag} {mg : Str → Option Value} {base : Heap}
/-- THE RULE for a def that raises nothing -/
theorem okW {x qual : Str} {st : Stmt} {f : Addr} {fd : FuncData} {N ps : List Str} {k : Nat} {sp : Spw} (F : Fun K x qual st f fd) (S : FnScope N ps (defScope st)) (seer : base.NoSeer) (tree : P.given.tree = none) (big : 32 ≤ k) (len : ∀ ws G Q E, sp ws G Q E → ws.length = ps.length)
    (hbody : ∀ (cdv : Value) (A : Around) (outer : List Env) (s : Shared) (H : Hp) (E : XK), Room k (A.deeper (envOfC qual (defScope st) s.heap.objs.size f cdv)) → Deep (cxOf CX0 P w K mg base N qual (defScope st) f cdv A outer s H E).nox →
      ∃ t, PSsw (cxOf CX0 P w K mg base N qual (defScope st) f cdv A outer s H E).nox (defBody st) t ∧ ∀ ws G Q E, sp ws G Q E → t { nx := fun _ G' => Q .non G', rt := Cl Q } (startW N ws) G) :
    FnOk P w K mg base CX0 (k + 1) f fd ps (liftSp K sp) := by
  refine F.ok S (fun vs H Q E h => ?_) fun cdv A outer s H vs Q E hr h => ?_
  · obtain ⟨Z, ws, G, Qw, Ew, r, _, s, _⟩ := h
    rw [← r.length]
    exact len _ _ _ _ s
  · obtain ⟨Z, ws, G, Qw, Ew, r, hh, s1, kq, ke⟩ := h
    have dp : Deep (cxOf CX0 P w K mg base N qual (defScope st) f cdv A outer s H E).nox := ⟨seer, tree, by
      have h1 := hr.dp
      have h2 : Builtin.pylongFrames = 100 := rfl
      show (A.deeper (envOfC qual (defScope st) s.heap.objs.size f cdv)).depth + _ < _
      omega, _, _, rfl, S.gen, S.co, rfl, rfl⟩
    obtain ⟨t, ht, q⟩ := hbody cdv A outer s H E hr dp
    exact ⟨_, ht, Z, _, G, _, RwS.start r, hh, q ws G Qw Ew s1, ⟨fun Z1 G1 H1 _ _ x1 h1 _ q1 => kq Z1 G1 H1 _ _ x1 h1 .non q1, kq.cl, fun _ _ _ _ _ _ _ _ z => z.elim, fun _ _ _ _ _ _ _ _ z => z.elim, fun _ _ _ _ _ _ _ _ _ _ _ _ _ _ z => z.elim⟩⟩
/-- as Fun.okX, the exceptions' context being None -/
theorem okNX {x qual : Str} {st : Stmt} {f : Addr} {fd : FuncData} {N ps : List Str} {k : Nat} {sp : Sp} (F : Fun K x qual st f fd) (S : FnScope N ps (defScope st)) (len : ∀ vs H Q E, sp vs H Q E → vs.length = ps.length)
    (hbody : ∀ (cdv : Value) (A : Around) (outer : List Env) (s : Shared) (H : Hp) (vs : List V) (Q : VK) (E : XK), Room k (A.deeper (envOfC qual (defScope st) s.heap.objs.size f cdv)) → sp vs H Q E →
      ∃ t, PSs (cxOf (L2N.CX P w) P w K mg base N qual (defScope st) f cdv A outer s H E) (defBody st) t ∧ t { nx := fun _ H' => Q .non H', rt := Q } (start N vs) H) : FnOk P w K mg base (L2N.CX P w) (k + 1) f fd ps sp := by
  obtain ⟨oc, od, kV, doc, pm, an, cdv, ct, osl, rfl, lk, hcd⟩ := F.ex
  exact fn_of lk hcd S len fun A outer s H vs Q E hr hsp => hbody cdv A outer s H vs Q E hr hsp
/-- the rule for a def that may raise -/
theorem okWX {x qual : Str} {st : Stmt} {f : Addr} {fd : FuncData} {N ps : List Str} {k : Nat} {sp : Spw} (F : Fun K x qual st f fd) (S : FnScope N ps (defScope st)) (seer : base.NoSeer) (tree : P.given.tree = none) (big : 32 ≤ k) (len : ∀ ws G Q E, sp ws G Q E → ws.length = ps.length)
    (hbody : ∀ (cdv : Value) (A : Around) (outer : List Env) (s : Shared) (H : Hp) (E : XK), Room k (A.deeper (envOfC qual (defScope st) s.heap.objs.size f cdv)) → Deep (cxOf (L2N.CX P w) P w K mg base N qual (defScope st) f cdv A outer s H E) →
      PassesOwn (model P w) (A.deeper (envOfC qual (defScope st) s.heap.objs.size f cdv)) (envOfC qual (defScope st) s.heap.objs.size f cdv) (cxOf (L2N.CX P w) P w K mg base N qual (defScope st) f cdv A outer s H E).xe →
      ∃ t, PSsw (cxOf (L2N.CX P w) P w K mg base N qual (defScope st) f cdv A outer s H E) (defBody st) t ∧ ∀ ws G Q E, sp ws G Q E → t { nx := fun _ G' => Q .non G', rt := Cl Q, ex := fun nm fs _ G' => E nm fs G' } (startW N ws) G) :
    FnOk P w K mg base (L2N.CX P w) (k + 1) f fd ps (liftSp K sp) := by
  refine okNX F S (fun vs H Q E h => ?_) fun cdv A outer s H vs Q E hr h => ?_
  · obtain ⟨Z, ws, G, Qw, Ew, r, _, s, _⟩ := h
    rw [← r.length]
    exact len _ _ _ _ s
  · obtain ⟨Z, ws, G, Qw, Ew, r, hh, s1, kq, ke⟩ := h
    have dp : Deep (cxOf (L2N.CX P w) P w K mg base N qual (defScope st) f cdv A outer s H E) := ⟨seer, tree, by
      have h1 := hr.dp
      have h2 : Builtin.pylongFrames = 100 := rfl
      show (A.deeper (envOfC qual (defScope st) s.heap.objs.size f cdv)).depth + _ < _
      omega, _, _, rfl, S.gen, S.co, rfl, rfl⟩
    obtain ⟨t, ht, q⟩ := hbody cdv A outer s H E hr dp (passes_of (X := cxOf (L2N.CX P w) P w K mg base N qual (defScope st) f cdv A outer s H E) rfl)
    refine ⟨_, ht, Z, _, G, _, RwS.start r, hh, q ws G Qw Ew s1, ⟨fun Z1 G1 H1 _ _ x1 h1 _ q1 => kq Z1 G1 H1 _ _ x1 h1 .non q1, kq.cl, fun _ _ _ _ _ _ _ _ z => z.elim, fun _ _ _ _ _ _ _ _ z => z.elim, fun Z1 G1 H1 σ' σ nm C fs d x1 h1 r1 c1 f1 q1 => ?_⟩⟩
    exact wish_of (L2N.takes_of (X := cxOf (L2N.CX P w) P w K mg base N qual (defScope st) f cdv A outer s H E) (E := E) rfl rfl rfl rfl) (ke Z1 G1 H1 nm C fs d x1 h1 c1 f1 q1)
end
/-! ### methods of lists -/
abbrev RWM := W → List W → Gp → QW → Prop
def SimM (K : PySem.W.Frag) (r : V → List V → Hp → VK → Prop) (wr : RWM) : Prop := ∀ Z G H x v ws vs Qw Q, HRel K Z G H → Rw K Z H x v → RwL K Z H ws vs → wr x ws G Qw → KE K Z G H Qw Q → r v vs H Q
def wBM (wr : RWM) (to : TEw) (t : TAw) : TEw := fun σ G Q => to σ G fun o G1 => (asL G1 o).isSome = true ∧ t σ G1 fun ws G2 => wr o ws G2 Q
def wBM0 (wr : RWM) (to : TEw) : TEw := fun σ G Q => to σ G fun o G1 => (asL G1 o).isSome = true ∧ wr o [] G1 Q
section
variable {X : Cx} {K : PySem.W.Frag} {o e : Expr} {es : List Expr} {to : TEw} {t : TAw} {cpos apos : Pos}
theorem lbm {r : V → List V → Hp → VK → Prop} {wr : RWM} (hs : SimM K r wr) {σ : SV} {H : Hp} {Q : VK} (h : liftE K (wBM wr to t) σ H Q) : tBM K "list" r (liftE K to) (liftA K t) σ H Q := by
  obtain ⟨Z, σ', G, Qw, ev, hr, t, k⟩ := h
  refine ⟨Z, σ', G, _, ev, hr, t, fun Z1 G1 H1 w v x1 h1 r1 t1 => ?_⟩
  obtain ⟨eu, t1⟩ := t1
  obtain ⟨us, eu⟩ := Option.isSome_iff_exists.mp eu
  obtain ⟨p, vs, rfl, s, _⟩ := asL_sq h1 r1 eu
  refine ⟨.inl ⟨rfl, vs, s⟩, Z1, σ', G1, _, ev.ext hr x1, h1, t1, fun Z2 G2 H2 ws us x2 h2 r2 t2 => ?_⟩
  exact hs Z2 G2 H2 w _ ws us Qw Q h2 (r1.ext h1 x2) r2 t2 (k.mono (x1.trans x2))
theorem lbm0 {r : V → List V → Hp → VK → Prop} {wr : RWM} (hs : SimM K r wr) {σ : SV} {H : Hp} {Q : VK} (h : liftE K (wBM0 wr to) σ H Q) : tBM0 K "list" r (liftE K to) σ H Q := by
  obtain ⟨Z, σ', G, Qw, ev, hr, t, k⟩ := h
  refine ⟨Z, σ', G, _, ev, hr, t, fun Z1 G1 H1 w v x1 h1 r1 t1 => ?_⟩
  obtain ⟨eu, t1⟩ := t1
  obtain ⟨us, eu⟩ := Option.isSome_iff_exists.mp eu
  obtain ⟨p, vs, rfl, s, _⟩ := asL_sq h1 r1 eu
  exact ⟨.inl ⟨rfl, vs, s⟩, hs Z1 G1 H1 w _ [] [] Qw Q h1 r1 .nil t1 (k.mono x1)⟩
def wAppend : RWM := fun o ws G Q => match o, ws with
  | .ref p, [w] => isG (G p) fun us => us.length < sizeLine ∧ Q .non (gup G p (.lst (us ++ [w])))
  | _, _ => False
theorem sim_append : SimM K rAppend wAppend := by
  intro Z G H x v ws vs Qw Q h rx rs t k
  cases rx with
  | @ref p =>
    cases rs with
    | nil => exact False.elim t
    | cons r1 rs =>
      cases rs with
      | cons _ _ => exact False.elim t
      | nil =>
        obtain ⟨us, g, l, q⟩ := isG_ex t
        obtain ⟨xs, s, r⟩ := h.lst g
        obtain ⟨h2, x2⟩ := chg_lst h g (r.append (.cons r1 .nil))
        exact ⟨p, xs, _, rfl, rfl, s, by rw [← r.length]; exact l, k _ _ _ _ _ x2 h2 .non q⟩
  | _ => exact False.elim t
def wPop : RWM := fun o ws G Q => match o, ws with
  | .ref p, [] => isG (G p) fun us => isS us[us.length - 1]? fun w => Q w (gup G p (.lst us.dropLast))
  | _, _ => False
theorem sim_pop : SimM K rPop wPop := by
  intro Z G H x v ws vs Qw Q h rx rs t k
  cases rx with
  | @ref p =>
    cases rs with
    | cons _ _ => exact False.elim t
    | nil =>
      obtain ⟨us, g, t⟩ := isG_ex t
      obtain ⟨w, l, q⟩ := isS_ex t
      obtain ⟨xs, s, r⟩ := h.lst g
      obtain ⟨y, ey, ry⟩ := r.get _ l
      obtain ⟨h2, x2⟩ := chg_lst h g r.dropLast
      exact ⟨p, xs, y, rfl, rfl, s, by rw [← r.length]; exact ey, k _ _ _ _ _ x2 h2 (ry.ext h x2) q⟩
  | _ => exact False.elim t
def wExtend : RWM := fun o ws G Q => match o, ws with
  | .ref p, [.lst zs] => isG (G p) fun us => us.length + zs.length ≤ sizeLine ∧ Q .non (gup G p (.lst (us ++ zs)))
  | _, _ => False
theorem sim_extend : SimM K rExtend wExtend := by
  intro Z G H x v ws vs Qw Q h rx rs t k
  cases rx with
  | @ref p =>
    cases rs with
    | nil => exact False.elim t
    | cons r1 rs =>
      cases rs with
      | cons _ _ => cases r1 <;> exact False.elim t
      | nil =>
        cases r1 with
        | lst z s1 r1 =>
          obtain ⟨us, g, l, q⟩ := isG_ex t
          obtain ⟨xs, s, r⟩ := h.lst g
          obtain ⟨h2, x2⟩ := chg_lst h g (r.append r1)
          exact ⟨p, _, xs, _, rfl, rfl, s, s1, by rw [← r.length, ← r1.length]; exact l, k _ _ _ _ _ x2 h2 .non q⟩
        | _ => exact False.elim t
  | _ => exact False.elim t
theorem qbm {nm : Str} {id : String} {r : V → List V → Hp → VK → Prop} {wr : RWM} (slot : Slot "list" nm id) (hty : typeOf (.builtin id) = pure (.type "method_descriptor")) (hm : MtR X id r) (hs : SimM X.K r wr) (ho : PEw X o to) (ha : PAw X (e :: es) t)
    (hbase : attributeBase o nm X.env (eval o X.env) = eval o X.env := by rfl)
    (hfew : ((backTo cpos (starEach (e :: es) X.env)).all (fun x => !x.1) && (backToKw cpos (keywordEach [] X.env)).all (fun x => x.1.isSome)
      && decide ((e :: es).length + ([] : List Keyword).length + (if ([] : List Keyword).isEmpty then 0 else 1) < 30)) = true := by rfl)
    (hline : (apos.endLine == cpos.line) = true := by rfl) (h1 : starEach (e :: es) X.env = (false, eval e X.env) :: starEach es X.env := by rfl) (h2 : (backTo cpos (starEach es X.env)).any (·.1) = false := by rfl) :
    PEw X (.Call (.Attribute o nm apos) (e :: es) [] cpos) (wBM wr to t) := PE.imp (pe_bm PySem.F.plainAttrs_list slot hty hm ho ha hbase hfew hline h1 h2) fun _ _ _ h => lbm hs h
end
end WL
namespace WL
open PySem PySem.Spec PyProof.Rows L2
section
variable {α : Type} {a b c d e f g h : α} {l : List α} {n : Nat}
theorem at0 : atI (a :: l) 0 = some a := atI_nat (j := 0) rfl
theorem at1 : atI (a :: b :: l) 1 = some b := atI_nat (j := 1) rfl
theorem at2 : atI (a :: b :: c :: l) 2 = some c := atI_nat (j := 2) rfl
theorem at3 : atI (a :: b :: c :: d :: l) 3 = some d := atI_nat (j := 3) rfl
theorem at4 : atI (a :: b :: c :: d :: e :: l) 4 = some e := atI_nat (j := 4) rfl
theorem at5 : atI (a :: b :: c :: d :: e :: f :: l) 5 = some f := atI_nat (j := 5) rfl
theorem at6 : atI (a :: b :: c :: d :: e :: f :: g :: l) 6 = some g := atI_nat (j := 6) rfl
theorem at7 : atI (a :: b :: c :: d :: e :: f :: g :: h :: l) 7 = some h := atI_nat (j := 7) rfl
theorem ixK {k : Nat} (h : k < n) : ixN n (k : Int) = some k := by
  unfold ixN
  rw [if_pos (by omega), if_pos (by omega)]
  rfl
theorem ix0 : ixN (n + 1) 0 = some 0 := ixK (k := 0) (by omega)
theorem ix1 : ixN (n + 1 + 1) 1 = some 1 := ixK (k := 1) (by omega)
theorem ix2 : ixN (n + 1 + 1 + 1) 2 = some 2 := ixK (k := 2) (by omega)
theorem ix3 : ixN (n + 1 + 1 + 1 + 1) 3 = some 3 := ixK (k := 3) (by omega)
theorem ix4 : ixN (n + 1 + 1 + 1 + 1 + 1) 4 = some 4 := ixK (k := 4) (by omega)
theorem ix5 : ixN (n + 1 + 1 + 1 + 1 + 1 + 1) 5 = some 5 := ixK (k := 5) (by omega)
theorem at_nat {k : Nat} {v : α} (h : l[k]? = some v) : atI l (k : Int) = some v := atI_nat h
/-- a drawn place of a written list -/
theorem at_in {i : Int} (h0 : 0 ≤ i) (h1 : i < l.length) : ∃ v, atI l i = some v ∧ v ∈ l := by
  obtain ⟨k, rfl⟩ : ∃ k : Nat, i = (k : Int) := ⟨i.toNat, by omega⟩
  have hk : k < l.length := by omega
  exact ⟨l[k], atI_nat (List.getElem?_eq_getElem hk), List.getElem_mem hk⟩
end
/-! ### the readings of values, where their kinds are known -/
section
variable {G : Gp} {Q : QW} {i j : Int} {ws us : List W} {x y : Str} {p : Addr} {a b w : W}
theorem asL_lst : asL G (.lst ws) = some ws := rfl
theorem asL_scr : asL G (.scr ws) = some ws := rfl
theorem asL_ref (h : G p = some (.lst ws)) : asL G (.ref p) = some ws := by simp only [asL, h]
theorem asL_gup : asL (gup G p (.lst ws)) (.ref p) = some ws := asL_ref gup_same
theorem wIx_tup : wIx (.tup ws) (.int i) G Q = isS (atI ws i) fun w => Q w G := rfl
theorem wIx_lst : wIx (.lst ws) (.int i) G Q = isS (atI ws i) fun w => Q w G := rfl
theorem wIx_scr : wIx (.scr ws) (.int i) G Q = isS (atI ws i) fun w => Q w G := rfl
theorem wIx_ref : wIx (.ref p) (.int i) G Q = isS (asL G (.ref p)) fun ws => isS (atI ws i) fun w => Q w G := rfl
theorem wIx_str : wIx (.str x) (.int i) G Q = (x.length ≤ sizeLine ∧ isS (atI x.cps.toList i) fun c => Q (.str ⟨#[c]⟩) G) := rfl
theorem wAdd_int : wAdd (.int i) (.int j) G Q = Q (.int (i + j)) G := rfl
theorem wAdd_str : wAdd (.str x) (.str y) G Q = (x.length + y.length ≤ sizeLine ∧ Q (.str (x ++ y)) G) := rfl
theorem wAdd_tup : wAdd (.tup ws) (.tup us) G Q = (ws.length + us.length ≤ sizeLine ∧ Q (.tup (ws ++ us)) G) := rfl
theorem wAdd_lst : wAdd (.lst ws) (.lst us) G Q = (ws.length + us.length ≤ sizeLine ∧ Q (.lst (ws ++ us)) G) := rfl
theorem wII_int {g : Int → Int → W} : wII g (.int i) (.int j) G Q = Q (g i j) G := rfl
theorem wI2_int {C : Int → Int → Prop} {g : Int → Int → W} : wI2 C g (.int i) (.int j) G Q = (C i j ∧ Q (g i j) G) := rfl
theorem wI1_int {g : Int → W} : wI1 g (.int i) G Q = Q (g i) G := rfl
theorem wI1N_int {g : Int → W} : wI1N g [.int i] G Q = Q (g i) G := rfl
theorem wI2N_int {g : Int → Int → W} : wI2N g [.int i, .int j] G Q = Q (g i j) G := rfl
theorem wLen_tup : wLen [.tup us] G Q = Q (.int us.length) G := rfl
theorem wLen_lst : wLen [.lst us] G Q = Q (.int us.length) G := rfl
theorem wLen_scr : wLen [.scr us] G Q = Q (.int us.length) G := rfl
theorem wLen_ref : wLen [.ref p] G Q = isS (asL G (.ref p)) fun us => Q (.int us.length) G := rfl
theorem wLen_str : wLen [.str x] G Q = (x.length ≤ sizeLine ∧ Q (.int x.length) G) := rfl
theorem wInt_int : wInt [.int i] G Q = Q (.int i) G := rfl
theorem wInt_bl {c : Bool} : wInt [.bl c] G Q = Q (.int (if c then 1 else 0)) G := rfl
theorem wStrI_int : wStrI [.int i] G Q = (i.natAbs.log2 < 1920 ∧ Q (.str (Str.ofString (toString i))) G) := rfl
theorem wEq_int : wEq (.int i) (.int j) G Q = Q (.bl (decide (i = j))) G := rfl
theorem wEq_str : wEq (.str x) (.str y) G Q = Q (.bl (decide (x = y))) G := rfl
theorem wNe_int : wNe (.int i) (.int j) G Q = Q (.bl (!decide (i = j))) G := rfl
theorem wNe_str : wNe (.str x) (.str y) G Q = Q (.bl (!decide (x = y))) G := rfl
theorem wEq_tup : wEq (.tup ws) (.tup us) G Q = (wOk (.tup ws) ∧ wOk (.tup us) ∧ Q (.bl (weqb (.tup ws) (.tup us))) G) := rfl
theorem wNe_tup : wNe (.tup ws) (.tup us) G Q = (wOk (.tup ws) ∧ wOk (.tup us) ∧ Q (.bl (!weqb (.tup ws) (.tup us))) G) := rfl
theorem wEq_lst : wEq (.lst ws) (.lst us) G Q = (wOk (.lst ws) ∧ wOk (.lst us) ∧ Q (.bl (weqb (.lst ws) (.lst us))) G) := rfl
theorem wNe_lst : wNe (.lst ws) (.lst us) G Q = (wOk (.lst ws) ∧ wOk (.lst us) ∧ Q (.bl (!weqb (.lst ws) (.lst us))) G) := rfl
theorem setIx_ref {P : Gp → Prop} : setIx (.ref p) (.int i) w G P = isG (G p) fun ws => isS (ixN ws.length i) fun j => P (gup G p (.lst (ws.set j w))) := rfl
theorem gT_tup {n : Nat} {t : TGsw} {σ : SW} {P : SW → Gp → Prop} : gT n t (.tup ws) σ G P = (ws.length = n ∧ t ws σ G P) := rfl
theorem gT_lst {n : Nat} {t : TGsw} {σ : SW} {P : SW → Gp → Prop} : gT n t (.lst ws) σ G P = (ws.length = n ∧ t ws σ G P) := rfl
theorem gT_ref {n : Nat} {t : TGsw} {σ : SW} {P : SW → Gp → Prop} : gT n t (.ref p) σ G P = isG (G p) fun ws => ws.length = n ∧ t ws σ G P := rfl
theorem gsC_cons {t : TGw} {u : TGsw} {σ : SW} {P : SW → Gp → Prop} : gsC t u (w :: ws) σ G P = t w σ G fun σ1 G1 => u ws σ1 G1 P := rfl
theorem gsN_nil {σ : SW} {P : SW → Gp → Prop} : gsN [] σ G P = P σ G := rfl
theorem wAppend_ref : wAppend (.ref p) [w] G Q = isG (G p) fun us => us.length < sizeLine ∧ Q .non (gup G p (.lst (us ++ [w]))) := rfl
theorem wPop_ref : wPop (.ref p) [] G Q = isG (G p) fun us => isS us[us.length - 1]? fun w => Q w (gup G p (.lst us.dropLast)) := rfl
theorem wExtend_ref : wExtend (.ref p) [.lst ws] G Q = isG (G p) fun us => us.length + ws.length ≤ sizeLine ∧ Q .non (gup G p (.lst (us ++ ws))) := rfl
theorem seq_tup {R : List W → Gp → Prop} {σ : SW} : iSeqW (wC (.tup ws)) σ G R = R ws G := rfl
end
/-- what is walked, by its kind -/
def seqOf (w : W) (G : Gp) (R : List W → Gp → Prop) : Prop := match w with
  | .tup ws => R ws G
  | .lst ws => R ws G
  | .scr ws => R ws G
  | .ref p => isG (G p) fun ws => R ws (gdel G p)
  | _ => False
theorem iSeqW_eq {te : TEw} {σ : SW} {G : Gp} {R : List W → Gp → Prop} : iSeqW te σ G R = te σ G fun w G1 => seqOf w G1 R := rfl
section
variable {G : Gp} {ws : List W} {p : Addr} {R : List W → Gp → Prop}
theorem seqOf_tup : seqOf (.tup ws) G R = R ws G := rfl
theorem seqOf_lst : seqOf (.lst ws) G R = R ws G := rfl
theorem seqOf_scr : seqOf (.scr ws) G R = R ws G := rfl
theorem seqOf_ref : seqOf (.ref p) G R = isG (G p) fun ws => R ws (gdel G p) := rfl
end
theorem log2_lt_pow {m : Nat} {b : Nat} (h : m < 2 ^ b) (h0 : 0 < b) : m.log2 < b := PySem.Flt.log2_lt_of h0 h
theorem cmX {i j : Int} {a b : Nat} (ha : i.natAbs < 2 ^ a) (hb : j.natAbs < 2 ^ b) (h0 : 0 < a) (h1 : 0 < b) (h : a + b ≤ 134217000) : CMulX i j := by
  have x := log2_lt_pow ha h0
  have y := log2_lt_pow hb h1
  unfold CMulX
  omega
theorem cm64 {i j : Int} (h1 : -18446744073709551616 < i ∧ i < 18446744073709551616) (h2 : -18446744073709551616 < j ∧ j < 18446744073709551616) : CMulX i j :=
  cmX (a := 64) (b := 64) (by omega) (by omega) (by decide) (by decide) (by decide)
theorem cp64 {i j : Int} (h1 : -18446744073709551616 < i ∧ i < 18446744073709551616) (h2 : 0 ≤ j ∧ j ≤ 1000000) : CPow i j := ⟨h2.1, h2.2, by omega⟩
theorem fmodP {i j : Int} (h : 0 ≤ j := by decide) : i.fmod j = i % j := Int.fmod_eq_emod_of_nonneg i h
theorem fdivP {i j : Int} (h : 0 ≤ j := by decide) : i.fdiv j = i / j := Int.fdiv_eq_ediv_of_nonneg i h
/-! ### loops -/
/-- a loop that carries nothing but what stands in P -/
theorem forW_inv {ks : List Bool} {g : TGw} {tb : TSw} {D : EndsW} (P : SW → Gp → Prop) : ∀ (items : List W) (σ : SW) (G : Gp), P σ G →
    (∀ w ∈ items, ∀ σ G (N : SW → Gp → Prop), P σ G → (∀ σ' G', P (skill σ' ks) G' → N σ' G') → g w σ G fun σ1 G1 => tb { nx := N, ct := N, bk := D.nx, rt := D.rt, ex := D.ex } σ1 G1) →
    (∀ σ G, P σ G → D.nx σ G) → forW ks g tb items D σ G
  | [], σ, G, p, _, hd => hd σ G p
  | w :: ws, σ, G, p, hs, hd => hs w (.head _) σ G _ p fun σ' G' p' => forW_inv P ws _ G' p' (fun w' hw => hs w' (.tail _ hw)) hd
/-- a loop that carries a state a: step by step -/
theorem forW_fold {α : Type} {ks : List Bool} {g : TGw} {tb : TSw} {D : EndsW} (P : α → SW → Gp → Prop) (step : α → W → α) : ∀ (items : List W) (a : α) (σ : SW) (G : Gp), P a σ G →
    (∀ w ∈ items, ∀ a σ G (N : SW → Gp → Prop), P a σ G → (∀ σ' G', P (step a w) (skill σ' ks) G' → N σ' G') → g w σ G fun σ1 G1 => tb { nx := N, ct := N, bk := D.nx, rt := D.rt, ex := D.ex } σ1 G1) →
    (∀ σ G, P (items.foldl step a) σ G → D.nx σ G) → forW ks g tb items D σ G
  | [], a, σ, G, p, _, hd => hd σ G p
  | w :: ws, a, σ, G, p, hs, hd => hs w (.head _) a σ G _ p fun σ' G' p' => forW_fold P step ws _ _ G' p' (fun w' hw => hs w' (.tail _ hw)) hd
theorem rangeW_mem {lo : Int} {n : Nat} {w : W} (h : w ∈ rangeW lo n) : ∃ i : Nat, i < n ∧ w = .int (lo + i) := by
  unfold rangeW at h
  obtain ⟨i, hi, e⟩ := List.mem_map.mp h
  exact ⟨i, List.mem_range.mp hi, e.symm⟩
/-! ### the law's bag: a list of a cell and a mixed number -/
abbrev bagO (c x : Int) : GO := .lst [.int c, .int x]
def sp__law_take : Spw := fun ws G Q _ => ∃ p m c x, ws = [.ref p, .int m] ∧ G p = some (bagO c x) ∧ 0 ≤ c ∧ 0 ≤ x ∧ x < 2147483648 ∧ 0 < m ∧
  ∀ d c' x', 0 ≤ d → d < m → 0 ≤ c' → 0 ≤ x' → x' < 2147483648 → Q (.int d) (gup G p (bagO c' x'))
def sp__law_bag : Spw := fun ws G Q _ => ∃ (ns : List Int) (k : Int), ws = [.scr (ns.map W.int), .int k] ∧ ns.length ≤ 63 ∧ 0 ≤ k ∧ k < 1000 ∧
  ∀ p c x, G p = none → 0 ≤ c → 0 ≤ x → x < 2147483648 → Q (.ref p) (gup G p (bagO c x))
/-! ### the law's own head -/
def sp_law : Spw := fun ws _ Q _ => ∃ ns : List Int, ws = [.scr (ns.map W.int)] ∧ ns.length ≤ 63 ∧ ∀ G', Q (.bl true) G'
theorem law_sp {K : PySem.W.Frag} {H : Hp} {a : Addr} {ns : List Int} (hl : ns.length ≤ 63) (hO : Only H) (hS : SqL K H a (ns.map V.int)) : liftSp K sp_law [.ref a] H (fun v _ => v = .bl true) fun _ _ _ => False := by
  have hF : SqF K H a (ns.map V.int) := by
    rcases hS with (hS | ⟨o, hS⟩) | hS
    · rcases hO a with z | ⟨o, xs, z⟩
      · rw [z] at hS; cases hS
      · rw [z] at hS; cases hS
    · exact .inl ⟨o, hS⟩
    · exact .inr (.inr hS)
  refine ⟨fun _ => False, [.scr (ns.map W.int)], fun _ => none, fun w _ => w = .bl true, E0w, .cons (.scr hF (RwL.ints ns)) .nil, ⟨fun _ z => z.elim, fun _ _ z => (by cases z)⟩, ⟨ns, rfl, hl, fun _ => rfl⟩, fun Z' G' H' w v _ _ r e => ?_, fun _ _ _ _ _ _ _ _ _ _ _ z => z.elim⟩
  subst e
  cases r
  rfl
end WL
namespace WL
open PySem PySem.Spec PyProof.Rows L2
/-! ### isinstance -/
inductive Kd where | non | bool | int | str | tuple | list
  deriving DecidableEq
def kdName : Kd → String
  | .non => "NoneType" | .bool => "bool" | .int => "int" | .str => "str" | .tuple => "tuple" | .list => "list"
def kdIs : Kd → Kd → Bool
  | .bool, .bool => true | .bool, .int => true | .int, .int => true | .str, .str => true | .tuple, .tuple => true | .list, .list => true
  | _, _ => false
theorem kd_kit : ∀ d k : Kd, k ≠ .non → kitB (kdName d) (kdName k) = some (kdIs d k) := by
  intro d k h
  cases d <;> cases k <;> first
    | exact absurd rfl h
    | decide +kernel
def wIsi (k : Kd) : W → Gp → QW → Prop := fun x G Q => match x with
  | .non => Q (.bl (kdIs .non k)) G
  | .bl _ => Q (.bl (kdIs .bool k)) G
  | .int _ => Q (.bl (kdIs .int k)) G
  | .str _ => Q (.bl (kdIs .str k)) G
  | .tup _ => Q (.bl (kdIs .tuple k)) G
  | .lst _ => Q (.bl (kdIs .list k)) G
  | .scr _ => Q (.bl (kdIs .list k)) G
  | .ref p => isG (G p) fun _ => Q (.bl (kdIs .list k)) G
  | _ => False
section
variable {k : Kd} {G : Gp} {Q : QW} {b : Bool} {i : Int} {x : Str} {ws : List W} {p : Addr}
theorem wIsi_non : wIsi k .non G Q = Q (.bl (kdIs .non k)) G := rfl
theorem wIsi_bl : wIsi k (.bl b) G Q = Q (.bl (kdIs .bool k)) G := rfl
theorem wIsi_int : wIsi k (.int i) G Q = Q (.bl (kdIs .int k)) G := rfl
theorem wIsi_str : wIsi k (.str x) G Q = Q (.bl (kdIs .str k)) G := rfl
theorem wIsi_tup : wIsi k (.tup ws) G Q = Q (.bl (kdIs .tuple k)) G := rfl
theorem wIsi_lst : wIsi k (.lst ws) G Q = Q (.bl (kdIs .list k)) G := rfl
theorem wIsi_ref : wIsi k (.ref p) G Q = isG (G p) fun _ => Q (.bl (kdIs .list k)) G := rfl
end
def wIsiN (k : Kd) : List W → Gp → QW → Prop := fun ws G Q => match ws with
  | [x, .ty n] => n = kdName k ∧ wIsi k x G Q
  | _ => False
section
variable {X : Cx} {K : PySem.W.Frag}
theorem sim_isi {k : Kd} (hk : k ≠ .non) : SimN K (rIsi K) (wIsiN k) := by
  intro Z G H ws vs Qw Q h r t kq
  cases r with
  | nil => exact False.elim t
  | @cons w v ws vs rx rr =>
    cases rr with
    | nil => cases rx <;> exact False.elim t
    | cons ry rr =>
      cases rr with
      | cons _ _ => cases ry <;> exact False.elim t
      | nil =>
        cases ry with
        | @ty n =>
          obtain ⟨rfl, t⟩ := t
          have fin : ∀ d, TyX K H v (.type (kdName d)) → Qw (.bl (kdIs d k)) G → rIsi K [v, .ty (kdName k)] H Q := fun d ty q =>
            ⟨v, _, _, _, _, rfl, .ty _, ty, kit_ty (kd_kit d k hk), kq.at h .bl q⟩
          cases rx with
          | non => exact fin .non (.base .non) t
          | bl => exact fin .bool (.base (.bl _)) t
          | int => exact fin .int (.base (.int _)) t
          | str => exact fin .str (.base (.str _)) t
          | tup s r =>
            refine fin .tuple ?_ t
            rcases s with (s | ⟨o, s⟩) | ⟨o, its, n, e, c, _⟩
            · exact .base (.tup s)
            · exact .fTuple s
            · exact .kTuple e c
          | lst z s r => exact fin .list (.base (.lst s)) t
          | scr s r =>
            refine fin .list ?_ t
            rcases s with ⟨o, s⟩ | (s | ⟨o, s⟩) | ⟨o, its, n, e, c, _⟩
            · exact .base (.frz s)
            · cases s
            · cases s
            · exact .kList e c
          | @ref p =>
            obtain ⟨us, g, q⟩ := isG_ex t
            obtain ⟨vs, s, _⟩ := h.lst g
            exact fin .list (.base (.lst s)) q
          | _ => exact False.elim t
        | _ => exact False.elim t
variable {e : Expr} {te : TEw} {p p2 pos : Pos}
theorem qisi {k : Kd} {T : Str} (hk : k ≠ .non) (hb : bootBuiltins T = some (.type (kdName k))) (hn : T ≠ "__name__") (hd : (T == ("__debug__" : Str)) = false) (hg : Gl X "isinstance") (hm : X.mg "isinstance" = none) (hg2 : Gl X T) (hm2 : X.mg T = none) (he : PEw X e te)
    (h1 : starEach [e, .Name T p2] X.env = (false, eval e X.env) :: starEach [.Name T p2] X.env := by rfl) (h2 : (backTo pos (starEach [.Name T p2] X.env)).any (·.1) = false := by rfl) (h3 : starEach [.Name T p2] X.env = (false, eval (.Name T p2) X.env) :: starEach [] X.env := by rfl) :
    PEw X (.Call (.Name "isinstance" p) [e, .Name T p2] [] pos) (wUn (wIsi k) te) := by
  have ht : PEw X (.Name T p2) (wC (.ty (kdName k))) := PE.imp (pe_bltn hg2 hm2 hb (show RelV (.ty (kdName k)) (.type (kdName k)) from rfl) hn hd) fun _ _ _ h => lC (fun _ _ => .ty) h
  refine PE.imp (pe_callB call_isi hg hm (by decide +kernel) (qa_cons he (qa_cons ht qa_nil h3) h1) (by decide) (by decide) h1 h2) fun σ H Q h => liftN (sim_isi (k := k) hk) (wr := wIsiN k) ?_
  obtain ⟨Z, σ', G, Qw, ev, hr, t, kk⟩ := h
  exact ⟨Z, σ', G, Qw, ev, hr, (show te σ' G _ from by
    have t' : te σ' G fun x G1 => wIsi k x G1 Qw := t
    simpa only [wCons, wC, wNil, wIsiN, true_and] using t'), kk⟩
end
/-! ### is None as a test -/
section
variable {X : Cx} {K : PySem.W.Frag} {a : Expr} {ta : TEw} {pos : Pos}
theorem qtisN {j p2} (ha : PEw X a ta) : PTw X (.Compare a [.Is] [.Constant .none j p2] pos) (wTest (wIsN ta)) := PT.imp (pt_cmpR op_isN ha (pe_non (j := j) (pos := p2)) (nomark _)) fun σ H Q h => by
  obtain ⟨Z, σ', G, Qw, e, hr, t, k⟩ := h
  refine ⟨Z, σ', G, _, e, hr, t, fun Z1 G1 H1 x v x1 h1 r1 t1 => ?_⟩
  obtain ⟨b, eb, q⟩ := t1
  refine ⟨rfl, b, ?_, k Z1 G1 H1 b x1 h1 q⟩
  rw [r1.isNon]
  injection eb with eb
  rw [eb]
theorem qtnotN {j p2} (ha : PEw X a ta) : PTw X (.Compare a [.IsNot] [.Constant .none j p2] pos) (wTest (wNotN ta)) := PT.imp (pt_cmpR op_notN ha (pe_non (j := j) (pos := p2)) (nomark _)) fun σ H Q h => by
  obtain ⟨Z, σ', G, Qw, e, hr, t, k⟩ := h
  refine ⟨Z, σ', G, _, e, hr, t, fun Z1 G1 H1 x v x1 h1 r1 t1 => ?_⟩
  obtain ⟨b, eb, q⟩ := t1
  refine ⟨rfl, b, ?_, k Z1 G1 H1 b x1 h1 q⟩
  rw [r1.isNon]
  injection eb with eb
  rw [eb]
end
/-! ### all, any, sum, tuple, list -/
def wAll : List W → Gp → QW → Prop := fun ws G Q => match ws with
  | [x] => isS (asL G x) fun us => ∃ bs : List Bool, us = bs.map W.bl ∧ Q (.bl (bs.all id)) G
  | _ => False
def wAny : List W → Gp → QW → Prop := fun ws G Q => match ws with
  | [x] => isS (asL G x) fun us => ∃ bs : List Bool, us = bs.map W.bl ∧ Q (.bl (bs.any id)) G
  | _ => False
def wSum : List W → Gp → QW → Prop := fun ws G Q => match ws with
  | [x] => isS (asL G x) fun us => ∃ ns : List Int, us = ns.map W.int ∧ Q (.int ns.sum) G
  | _ => False
def wTuple : List W → Gp → QW → Prop := fun ws G Q => match ws with
  | [.tup us] => Q (.tup us) G
  | [x] => isS (asL G x) fun us => Q (.tup us) G
  | _ => False
def wList : List W → Gp → QW → Prop := fun ws G Q => match ws with
  | [.tup us] => Q (.lst us) G
  | [x] => isS (asL G x) fun us => Q (.lst us) G
  | _ => False
def wListM : List W → Gp → QW → Prop := fun ws G Q => match ws with
  | [.tup us] => ∀ p, G p = none → Q (.ref p) (gup G p (.lst us))
  | [x] => isS (asL G x) fun us => ∀ p, G p = none → Q (.ref p) (gup G p (.lst us))
  | _ => False
section
variable {K : PySem.W.Frag} {Z : Zp} {H : Hp} {G : Gp} {Q : QW} {us : List W} {p : Addr}
theorem wAll_lst : wAll [.lst us] G Q = ∃ bs : List Bool, us = bs.map W.bl ∧ Q (.bl (bs.all id)) G := rfl
theorem wAny_lst : wAny [.lst us] G Q = ∃ bs : List Bool, us = bs.map W.bl ∧ Q (.bl (bs.any id)) G := rfl
theorem wSum_lst : wSum [.lst us] G Q = ∃ ns : List Int, us = ns.map W.int ∧ Q (.int ns.sum) G := rfl
theorem wTuple_tup : wTuple [.tup us] G Q = Q (.tup us) G := rfl
theorem wTuple_lst : wTuple [.lst us] G Q = Q (.tup us) G := rfl
theorem wList_tup : wList [.tup us] G Q = Q (.lst us) G := rfl
theorem wList_lst : wList [.lst us] G Q = Q (.lst us) G := rfl
theorem wList_ref : wList [.ref p] G Q = isS (asL G (.ref p)) fun us => Q (.lst us) G := rfl
theorem wListM_tup : wListM [.tup us] G Q = ∀ p, G p = none → Q (.ref p) (gup G p (.lst us)) := rfl
theorem wListM_lst : wListM [.lst us] G Q = ∀ p, G p = none → Q (.ref p) (gup G p (.lst us)) := rfl
theorem RwL.unbl : ∀ {bs : List Bool} {vs : List V}, RwL K Z H (bs.map W.bl) vs → vs = bs.map V.bl
  | [], _, r => by cases r; rfl
  | b :: bs, _, r => by
    rw [List.map_cons] at r
    cases r with
    | cons r t => cases r; rw [RwL.unbl t]; rfl
theorem RwL.unint : ∀ {ns : List Int} {vs : List V}, RwL K Z H (ns.map W.int) vs → vs = ns.map V.int
  | [], _, r => by cases r; rfl
  | n :: ns, _, r => by
    rw [List.map_cons] at r
    cases r with
    | cons r t => cases r; rw [RwL.unint t]; rfl
theorem sim_all : SimN K (rAll K) wAll := by
  intro Z G H ws vs Qw Q h r t k
  cases r with
  | nil => exact False.elim t
  | cons rx rr =>
    cases rr with
    | cons _ _ => exact False.elim t
    | nil =>
      obtain ⟨us, e, bs, rfl, q⟩ := isS_ex t
      obtain ⟨p, vs, rfl, s, r⟩ := asL_sq h rx e
      cases r.unbl
      exact ⟨p, bs, rfl, s, k.at h .bl q⟩
theorem sim_any : SimN K (rAny K) wAny := by
  intro Z G H ws vs Qw Q h r t k
  cases r with
  | nil => exact False.elim t
  | cons rx rr =>
    cases rr with
    | cons _ _ => exact False.elim t
    | nil =>
      obtain ⟨us, e, bs, rfl, q⟩ := isS_ex t
      obtain ⟨p, vs, rfl, s, r⟩ := asL_sq h rx e
      cases r.unbl
      exact ⟨p, bs, rfl, s, k.at h .bl q⟩
theorem sim_sum : SimN K (rSum K) wSum := by
  intro Z G H ws vs Qw Q h r t k
  cases r with
  | nil => exact False.elim t
  | cons rx rr =>
    cases rr with
    | cons _ _ => exact False.elim t
    | nil =>
      obtain ⟨us, e, ns, rfl, q⟩ := isS_ex t
      obtain ⟨p, vs, rfl, s, r⟩ := asL_sq h rx e
      cases r.unint
      exact ⟨p, ns, rfl, s, k.at h .int q⟩
theorem sim_tuple : SimN K (fun xs H Q => ∃ p ys, xs = [.ref p] ∧ ((SqL K H p ys ∧ ∀ l, H l = none → Q (.ref l) (upd H l (.tup ys))) ∨ (SqT K H p ys ∧ Q (.ref p) H))) wTuple := by
  intro Z G H ws vs Qw Q h r t k
  cases r with
  | nil => exact False.elim t
  | @cons w v ws vs rx rr =>
    cases rr with
    | cons _ _ => cases rx <;> exact False.elim t
    | nil =>
      have gen : (isS (asL G w) fun us => Qw (.tup us) G) → ∃ p ys, [v] = [.ref p] ∧ ((SqL K H p ys ∧ ∀ l, H l = none → Q (.ref l) (upd H l (.tup ys))) ∨ (SqT K H p ys ∧ Q (.ref p) H)) := fun t => by
        obtain ⟨us, e, q⟩ := isS_ex t
        obtain ⟨p, vs, rfl, s, r⟩ := asL_sq h rx e
        refine ⟨p, vs, rfl, .inl ⟨s, fun l n => ?_⟩⟩
        obtain ⟨h2, x2, r2⟩ := new_tup h n r
        exact k _ _ _ _ _ x2 h2 r2 q
      cases rx with
      | tup s r => exact ⟨_, _, rfl, .inr ⟨s, k.at h (.tup s r) t⟩⟩
      | _ => exact gen t
theorem sim_list : SimN K (fun xs H Q => ∃ p ys, xs = [.ref p] ∧ (SqL K H p ys ∨ SqT K H p ys) ∧ ∀ l, H l = none → Q (.ref l) (upd H l (.lst ys))) wList := by
  intro Z G H ws vs Qw Q h r t k
  cases r with
  | nil => exact False.elim t
  | @cons w v ws vs rx rr =>
    cases rr with
    | cons _ _ => cases rx <;> exact False.elim t
    | nil =>
      have gen : (isS (asL G w) fun us => Qw (.lst us) G) → ∃ p ys, [v] = [.ref p] ∧ (SqL K H p ys ∨ SqT K H p ys) ∧ ∀ l, H l = none → Q (.ref l) (upd H l (.lst ys)) := fun t => by
        obtain ⟨us, e, q⟩ := isS_ex t
        obtain ⟨p, vs, rfl, s, r⟩ := asL_sq h rx e
        refine ⟨p, vs, rfl, .inl s, fun l n => ?_⟩
        obtain ⟨h2, x2, r2⟩ := new_frz h n r
        exact k _ _ _ _ _ x2 h2 r2 q
      cases rx with
      | tup s r =>
        refine ⟨_, _, rfl, .inr s, fun l n => ?_⟩
        obtain ⟨h2, x2, r2⟩ := new_frz h n r
        exact k _ _ _ _ _ x2 h2 r2 t
      | _ => exact gen t
theorem sim_listM : SimN K (fun xs H Q => ∃ p ys, xs = [.ref p] ∧ (SqL K H p ys ∨ SqT K H p ys) ∧ ∀ l, H l = none → Q (.ref l) (upd H l (.lst ys))) wListM := by
  intro Z G H ws vs Qw Q h r t k
  cases r with
  | nil => exact False.elim t
  | @cons w v ws vs rx rr =>
    cases rr with
    | cons _ _ => cases rx <;> exact False.elim t
    | nil =>
      have gen : (isS (asL G w) fun us => ∀ p, G p = none → Qw (.ref p) (gup G p (.lst us))) → ∃ p ys, [v] = [.ref p] ∧ (SqL K H p ys ∨ SqT K H p ys) ∧ ∀ l, H l = none → Q (.ref l) (upd H l (.lst ys)) := fun t => by
        obtain ⟨us, e, q⟩ := isS_ex t
        obtain ⟨p, vs, rfl, s, r⟩ := asL_sq h rx e
        refine ⟨p, vs, rfl, .inl s, fun l n => ?_⟩
        obtain ⟨g, h2, x2⟩ := new_lst h n r
        exact k _ _ _ _ _ x2 h2 .ref (q l g)
      cases rx with
      | tup s r =>
        refine ⟨_, _, rfl, .inr s, fun l n => ?_⟩
        obtain ⟨g, h2, x2⟩ := new_lst h n r
        exact k _ _ _ _ _ x2 h2 .ref (t l g)
      | _ => exact gen t
variable {X : Cx} {e : Expr} {es : List Expr} {t : TAw} {p pos : Pos}
theorem qall (hc : X.calm = true) (hg : Gl X "all") (hm : X.mg "all" = none) (ha : PAw X (e :: es) t) (he : starEach (e :: es) X.env = (false, eval e X.env) :: starEach es X.env := by rfl) (hpl : (backTo pos (starEach es X.env)).any (·.1) = false := by rfl) :
    PEw X (.Call (.Name "all" p) (e :: es) [] pos) (wCB wAll t) := PE.imp (pe_callB (cr_all hc) hg hm (by decide +kernel) ha (by decide) (by decide) he hpl) fun _ _ _ h => liftN sim_all h
theorem qany (hc : X.calm = true) (hg : Gl X "any") (hm : X.mg "any" = none) (ha : PAw X (e :: es) t) (he : starEach (e :: es) X.env = (false, eval e X.env) :: starEach es X.env := by rfl) (hpl : (backTo pos (starEach es X.env)).any (·.1) = false := by rfl) :
    PEw X (.Call (.Name "any" p) (e :: es) [] pos) (wCB wAny t) := PE.imp (pe_callB (cr_any hc) hg hm (by decide +kernel) ha (by decide) (by decide) he hpl) fun _ _ _ h => liftN sim_any h
theorem qsum (hc : X.calm = true) (hg : Gl X "sum") (hm : X.mg "sum" = none) (ha : PAw X (e :: es) t) (he : starEach (e :: es) X.env = (false, eval e X.env) :: starEach es X.env := by rfl) (hpl : (backTo pos (starEach es X.env)).any (·.1) = false := by rfl) :
    PEw X (.Call (.Name "sum" p) (e :: es) [] pos) (wCB wSum t) := PE.imp (pe_callB (cr_sum hc) hg hm (by decide +kernel) ha (by decide) (by decide) he hpl) fun _ _ _ h => liftN sim_sum h
theorem qtuple (hg : Gl X "tuple") (hm : X.mg "tuple" = none) (ha : PAw X (e :: es) t) (he : starEach (e :: es) X.env = (false, eval e X.env) :: starEach es X.env := by rfl) (hpl : (backTo pos (starEach es X.env)).any (·.1) = false := by rfl) :
    PEw X (.Call (.Name "tuple" p) (e :: es) [] pos) (wCB wTuple t) := PE.imp (pe_callTy call_tuple_of hg hm (by decide +kernel) ha (by decide) (by decide) he hpl) fun _ _ _ h => liftN sim_tuple h
theorem qlist (hg : Gl X "list") (hm : X.mg "list" = none) (ha : PAw X (e :: es) t) (he : starEach (e :: es) X.env = (false, eval e X.env) :: starEach es X.env := by rfl) (hpl : (backTo pos (starEach es X.env)).any (·.1) = false := by rfl) :
    PEw X (.Call (.Name "list" p) (e :: es) [] pos) (wCB wList t) := PE.imp (pe_callTy call_list_of hg hm (by decide +kernel) ha (by decide) (by decide) he hpl) fun _ _ _ h => liftN sim_list h
theorem qlistM (hg : Gl X "list") (hm : X.mg "list" = none) (ha : PAw X (e :: es) t) (he : starEach (e :: es) X.env = (false, eval e X.env) :: starEach es X.env := by rfl) (hpl : (backTo pos (starEach es X.env)).any (·.1) = false := by rfl) :
    PEw X (.Call (.Name "list" p) (e :: es) [] pos) (wCB wListM t) := PE.imp (pe_callTy call_list_of hg hm (by decide +kernel) ha (by decide) (by decide) he hpl) fun _ _ _ h => liftN sim_listM h
end
end WL
namespace WL
open PySem PySem.Spec PyProof.Rows L2 RZ
/-! ### slices -/
abbrev TOw := SW → Gp → (Option Int → Gp → Prop) → Prop
def liftO (K : PySem.W.Frag) (t : TOw) : TO := fun σ H Q => ∃ Z σ' G Qw, RwS K Z H σ' σ ∧ HRel K Z G H ∧ t σ' G Qw ∧ ∀ Z' G' H' o, Ext Z G H Z' G' H' → HRel K Z' G' H' → Qw o G' → Q o H'
def POw (X : Cx) (e : Option Expr) (t : TOw) : Prop := PO X e (liftO X.K t)
def wpNone : TOw := fun _ G Q => Q none G
def wpSome (t : TEw) : TOw := fun σ G Q => t σ G fun w G1 => match w with
  | .int i => Q (some i) G1
  | _ => False
def cutW (xs : List W) (lo hi : Option Int) : List W := (xs.drop (HT.sIx xs.length 0 lo)).take (HT.sIx xs.length xs.length hi - HT.sIx xs.length 0 lo)
def wCut (x : W) (lo hi : Option Int) (G : Gp) (Q : QW) : Prop := match x with
  | .tup ws => Q (.tup (cutW ws lo hi)) G
  | .str z => z.length ≤ sizeLine ∧ Q (.str (cutS z lo hi)) G
  | x => isS (asL G x) fun ws => Q (.lst (cutW ws lo hi)) G
def wSlice (t : TEw) (lo hi : TOw) : TEw := fun σ G Q => t σ G fun x G1 => lo σ G1 fun l G2 => hi σ G2 fun h G3 => wCut x l h G3 Q
def wCutM (x : W) (lo hi : Option Int) (G : Gp) (Q : QW) : Prop := isS (asL G x) fun ws => ∀ p, G p = none → Q (.ref p) (gup G p (.lst (cutW ws lo hi)))
def wSliceM (t : TEw) (lo hi : TOw) : TEw := fun σ G Q => t σ G fun x G1 => lo σ G1 fun l G2 => hi σ G2 fun h G3 => wCutM x l h G3 Q
section
variable {K : PySem.W.Frag} {Z : Zp} {G : Gp} {H : Hp} {ws : List W} {lo hi : Option Int} {Q : QW} {p : Addr} {z : Str}
theorem wCut_tup : wCut (.tup ws) lo hi G Q = Q (.tup (cutW ws lo hi)) G := rfl
theorem wCut_lst : wCut (.lst ws) lo hi G Q = Q (.lst (cutW ws lo hi)) G := rfl
theorem wCut_ref : wCut (.ref p) lo hi G Q = isS (asL G (.ref p)) fun ws => Q (.lst (cutW ws lo hi)) G := rfl
theorem wCut_str : wCut (.str z) lo hi G Q = (z.length ≤ sizeLine ∧ Q (.str (cutS z lo hi)) G) := rfl
theorem wpSome_int {i : Int} {σ : SW} {P : Option Int → Gp → Prop} : wpSome (wC (.int i)) σ G P = P (some i) G := rfl
theorem RwL.cut {vs : List V} (r : RwL K Z H ws vs) : RwL K Z H (cutW ws lo hi) (cutV vs lo hi) := by
  unfold cutW cutV
  rw [← r.length]
  exact (r.drop _).take _
end
section
variable {X : Cx} {K : PySem.W.Frag} {e : Expr} {te : TEw} {lo hi : Option Expr} {tl th : TOw} {pos p2 : Pos}
theorem qp_none : POw X none wpNone := by
  refine ⟨fun pins s σ H Q I h => ?_⟩
  obtain ⟨Z, σ', G, Qw, ev, hr, t, k⟩ := h
  exact po_none.run pins s σ H Q I (k Z G H none Ext.refl hr t)
theorem qp_some (h : PEw X e te) : POw X (some e) (wpSome te) := by
  refine ⟨fun pins s σ H Q I h2 => (po_some h).run pins s σ H Q I ?_⟩
  obtain ⟨Z, σ', G, Qw, ev, hr, t, k⟩ := h2
  refine ⟨Z, σ', G, _, ev, hr, t, fun Z1 G1 H1 w v x1 h1 r1 t1 => ?_⟩
  cases r1 with
  | int => exact ⟨_, rfl, k Z1 G1 H1 _ x1 h1 t1⟩
  | _ => exact False.elim t1
def rSlU (K : PySem.W.Frag) : V → Option Int → Option Int → Hp → VK → Prop := fun x lo hi H Q => rSlL K x lo hi H Q ∨ rSlA K x lo hi H Q ∨ rSlS x lo hi H Q
theorem lslice {r : V → Option Int → Option Int → Hp → VK → Prop} {wr : W → Option Int → Option Int → Gp → QW → Prop} {σ : SV} {H : Hp} {Q : VK}
    (hs : ∀ Z G H x v lo hi Qw Q, HRel K Z G H → Rw K Z H x v → wr x lo hi G Qw → KE K Z G H Qw Q → r v lo hi H Q)
    (h : liftE K (fun σ G Q => te σ G fun x G1 => tl σ G1 fun l G2 => th σ G2 fun h G3 => wr x l h G3 Q) σ H Q) : tSl r (liftE K te) (liftO K tl) (liftO K th) σ H Q := by
  obtain ⟨Z, σ', G, Qw, e, hr, t, k⟩ := h
  refine ⟨Z, σ', G, _, e, hr, t, fun Z1 G1 H1 x v x1 h1 r1 t1 => ?_⟩
  refine ⟨Z1, σ', G1, _, e.ext hr x1, h1, t1, fun Z2 G2 H2 l x2 h2 t2 => ?_⟩
  refine ⟨Z2, σ', G2, _, e.ext hr (x1.trans x2), h2, t2, fun Z3 G3 H3 u x3 h3 t3 => ?_⟩
  exact hs Z3 G3 H3 x v l u Qw Q h3 (r1.ext h1 (x2.trans x3)) t3 (k.mono ((x1.trans x2).trans x3))
theorem qslice (he : PEw X e te) (hl : POw X lo tl) (hh : POw X hi th) : PEw X (.Subscript e (.Slice lo hi none p2) pos) (wSlice te tl th) :=
  PE.imp (pe_slice (SlR.or sl_list (SlR.or sl_tupA sl_str)) he hl hh) fun σ H Q h => lslice (wr := wCut) (fun Z G H x v lo hi Qw Q h rx t k => by
    have gen : (isS (asL G x) fun ws => Qw (.lst (cutW ws lo hi)) G) → rSlU X.K v lo hi H Q := fun t => by
      obtain ⟨us, e, q⟩ := isS_ex t
      obtain ⟨p, vs, rfl, s, r⟩ := asL_sq h rx e
      refine .inl ⟨p, vs, rfl, s, fun l n => ?_⟩
      obtain ⟨h2, x2, r2⟩ := new_frz h n (r.cut (lo := lo) (hi := hi))
      exact k _ _ _ _ _ x2 h2 r2 q
    cases rx with
    | @tup p ws vs s r =>
      refine .inr (.inl ⟨_, _, rfl, s, fun hw => ?_, fun _ l n => ?_⟩)
      · have e : cutW ws lo hi = ws := by
          unfold cutW
          rw [r.length, hw.1, hw.2, List.drop_zero, Nat.sub_zero, ← r.length, List.take_length]
        have t' : Qw (.tup (cutW ws lo hi)) G := t
        rw [e] at t'
        exact k.at h (.tup s r) t'
      · obtain ⟨h2, x2, r2⟩ := new_tup h n (r.cut (lo := lo) (hi := hi))
        exact k _ _ _ _ _ x2 h2 r2 t
    | str => exact .inr (.inr ⟨_, rfl, t.1, k.at h .str t.2⟩)
    | _ => exact gen t) h
theorem qsliceM (he : PEw X e te) (hl : POw X lo tl) (hh : POw X hi th) : PEw X (.Subscript e (.Slice lo hi none p2) pos) (wSliceM te tl th) :=
  PE.imp (pe_slice sl_list he hl hh) fun σ H Q h => lslice (wr := wCutM) (fun Z G H x v lo hi Qw Q h rx t k => by
      obtain ⟨us, e, q⟩ := isS_ex t
      obtain ⟨p, vs, rfl, s, r⟩ := asL_sq h rx e
      refine ⟨p, vs, rfl, s, fun l n => ?_⟩
      obtain ⟨g, h2, x2⟩ := new_lst h n (r.cut (lo := lo) (hi := hi))
      exact k _ _ _ _ _ x2 h2 .ref (q l g)) h
end
/-! ### in -/
def flatW : W → Bool
  | .non => true | .bl _ => true | .int _ => true | .str _ => true
  | _ => false
def eqW : W → W → Bool
  | .non, .non => true
  | .bl a, .bl b => a == b
  | .bl a, .int b => (if a then 1 else 0) == b
  | .int a, .bl b => a == (if b then 1 else 0)
  | .int a, .int b => a == b
  | .str a, .str b => a == b
  | _, _ => false
def inW (x : W) (xs : List W) : Bool := xs.any fun y => eqW y x
def seqs (G : Gp) : W → Option (List W)
  | .tup ws => some ws
  | w => asL G w
def wIn (neg : Bool) : RW2 := fun x y G Q => isS (seqs G y) fun ws => flatW x = true ∧ ws.all flatW = true ∧ Q (.bl (if neg then !inW x ws else inW x ws)) G
section
variable {X : Cx} {K : PySem.W.Frag} {Z : Zp} {H : Hp}
theorem Rw.flat {w : W} {v : V} (r : Rw K Z H w v) (f : flatW w = true) : flatV v = true := by cases r <;> first | rfl | cases f
theorem RwL.flat : ∀ {ws : List W} {vs : List V}, RwL K Z H ws vs → ws.all flatW = true → vs.all flatV = true
  | _, _, .nil, _ => rfl
  | _, _, .cons r t, f => by
    rw [List.all_cons, Bool.and_eq_true] at f ⊢
    exact ⟨r.flat f.1, RwL.flat t f.2⟩
theorem Rw.eqv {w w' : W} {v v' : V} (r : Rw K Z H w v) (r' : Rw K Z H w' v') (f : flatW w = true) (f' : flatW w' = true) : eqV v v' = eqW w w' := by
  cases r <;> cases r' <;> first | rfl | cases f | cases f'
theorem RwL.inv {w : W} {v : V} (r : Rw K Z H w v) (f : flatW w = true) : ∀ {ws : List W} {vs : List V}, RwL K Z H ws vs → ws.all flatW = true → inV v vs = inW w ws
  | _, _, .nil, _ => rfl
  | _, _, .cons q t, g => by
    rw [List.all_cons, Bool.and_eq_true] at g
    have ih := RwL.inv r f t g.2
    unfold inV inW at ih ⊢
    rw [List.any_cons, List.any_cons, ih, q.eqv r g.1 f]
theorem seqs_sq {G : Gp} (h : HRel K Z G H) {w : W} {v : V} {ws : List W} (r : Rw K Z H w v) (e : seqs G w = some ws) : ∃ p vs, v = .ref p ∧ (SqL K H p vs ∨ SqT K H p vs) ∧ RwL K Z H ws vs := by
  have gen : asL G w = some ws → ∃ p vs, v = .ref p ∧ (SqL K H p vs ∨ SqT K H p vs) ∧ RwL K Z H ws vs := fun e => by
    obtain ⟨p, vs, e1, s, t⟩ := asL_sq h r e
    exact ⟨p, vs, e1, .inl s, t⟩
  cases w with
  | tup us =>
    cases e
    cases r with
    | tup s r => exact ⟨_, _, rfl, .inr s, r⟩
  | _ => exact gen e
theorem sim_in {neg : Bool} : Sim2 K (rIn K neg) (wIn neg) := by
  intro Z G H x y v u Qw Q h rx ry t k
  obtain ⟨ws, e, f, g, q⟩ := isS_ex t
  obtain ⟨p, vs, e1, s, r⟩ := seqs_sq h ry e
  refine ⟨p, vs, e1, s, rx.flat f, r.flat g, ?_⟩
  rw [r.inv rx f g]
  exact k.at h .bl q
variable {a b : Expr} {ta tb : TEw} {pos : Pos}
theorem qin (ha : PEw X a ta) (hb : PEw X b tb) (hm : behindInMarks .In b = false := by rfl) : PEw X (.Compare a [.In] [b] pos) (wOp (wIn false) ta tb) := qcmp op_in_seq sim_in ha hb hm
theorem qnin (ha : PEw X a ta) (hb : PEw X b tb) (hm : behindInMarks .NotIn b = false := by rfl) : PEw X (.Compare a [.NotIn] [b] pos) (wOp (wIn true) ta tb) := qcmp op_notIn_seq sim_in ha hb hm
theorem qtin (ha : PEw X a ta) (hb : PEw X b tb) (hm : behindInMarks .In b = false := by rfl) : PTw X (.Compare a [.In] [b] pos) (wTest (wOp (wIn false) ta tb)) := qtcmp op_in_seq sim_in ha hb hm
theorem qtnin (ha : PEw X a ta) (hb : PEw X b tb) (hm : behindInMarks .NotIn b = false := by rfl) : PTw X (.Compare a [.NotIn] [b] pos) (wTest (wOp (wIn true) ta tb)) := qtcmp op_notIn_seq sim_in ha hb hm
end
/-! ### a list so many times -/
def repW (k : Int) (ws : List W) : List W := (List.replicate k.toNat ws).flatten
def CRep (n : Nat) (k : Int) : Prop := -9223372036854775808 ≤ k ∧ k < 9223372036854775808 ∧ n * k.toNat ≤ sizeLine
def wRep : RW2 := fun x y G Q => match x, y with
  | .lst ws, .int k => CRep ws.length k ∧ Q (.lst (repW k ws)) G
  | _, _ => False
def wRepM : RW2 := fun x y G Q => match x, y with
  | .lst ws, .int k => CRep ws.length k ∧ ∀ p, G p = none → Q (.ref p) (gup G p (.lst (repW k ws)))
  | _, _ => False
section
variable {X : Cx} {K : PySem.W.Frag} {Z : Zp} {H : Hp}
theorem wRep_lst {ws : List W} {k : Int} {G : Gp} {Q : QW} : wRep (.lst ws) (.int k) G Q = (CRep ws.length k ∧ Q (.lst (repW k ws)) G) := rfl
theorem wRepM_lst {ws : List W} {k : Int} {G : Gp} {Q : QW} : wRepM (.lst ws) (.int k) G Q = (CRep ws.length k ∧ ∀ p, G p = none → Q (.ref p) (gup G p (.lst (repW k ws)))) := rfl
theorem RwL.rep {ws : List W} {vs : List V} (r : RwL K Z H ws vs) : ∀ n : Nat, RwL K Z H (List.replicate n ws).flatten (List.replicate n vs).flatten
  | 0 => .nil
  | n + 1 => by
    rw [List.replicate_succ, List.replicate_succ, List.flatten_cons, List.flatten_cons]
    exact r.append (RwL.rep r n)
theorem sim_rep : Sim2 K rRep wRep := by
  intro Z G H x y v u Qw Q h rx ry t k
  cases rx with
  | @lst p a vs z1 s1 r1 =>
    cases ry with
    | int =>
      obtain ⟨c, q⟩ := t
      refine ⟨_, _, vs, rfl, rfl, s1, by have := c.1; omega, by have := c.2.1; omega, by rw [← r1.length]; exact c.2.2, fun l n => ?_⟩
      obtain ⟨h2, x2, r2⟩ := new_frz h n (r1.rep _)
      exact k _ _ _ _ _ x2 h2 r2 q
    | _ => exact False.elim t
  | _ => exact False.elim t
theorem sim_repM : Sim2 K rRep wRepM := by
  intro Z G H x y v u Qw Q h rx ry t k
  cases rx with
  | @lst p a vs z1 s1 r1 =>
    cases ry with
    | int =>
      obtain ⟨c, q⟩ := t
      refine ⟨_, _, vs, rfl, rfl, s1, by have := c.1; omega, by have := c.2.1; omega, by rw [← r1.length]; exact c.2.2, fun l n => ?_⟩
      obtain ⟨g, h2, x2⟩ := new_lst h n (r1.rep _)
      exact k _ _ _ _ _ x2 h2 .ref (q l g)
    | _ => exact False.elim t
  | _ => exact False.elim t
variable {a b : Expr} {ta tb : TEw} {pos : Pos}
theorem qrep (ha : PEw X a ta) (hb : PEw X b tb) : PEw X (.BinOp a .Mult b pos) (wOp wRep ta tb) := qop op_rep sim_rep ha hb
theorem qrepM (ha : PEw X a ta) (hb : PEw X b tb) : PEw X (.BinOp a .Mult b pos) (wOp wRepM ta tb) := qop op_rep sim_repM ha hb
end
/-! ### the module's constants -/
inductive GlobW (K : PySem.W.Frag) (mg : Str → Option Value) (x : Str) : W → Prop
  | int {i : Int} {t : Tok} : mg x = some (.int i t) → GlobW K mg x (.int i)
  | str {z : Str} {t : Tok} : mg x = some (.str z t) → GlobW K mg x (.str z)
  | tup {a : Addr} {ws : List W} {vs : List V} : mg x = some (.ref a) → SqT K (fun _ => none) a vs → RwL K (fun _ => False) (fun _ => none) ws vs → GlobW K mg x (.tup ws)
mutual
theorem Rw.none {K : PySem.W.Frag} {Z : Zp} {H : Hp} : ∀ {w : W} {v : V}, Rw K (fun _ => False) (fun _ => none) w v → Rw K Z H w v
  | _, _, .non => .non
  | _, _, .bl => .bl
  | _, _, .int => .int
  | _, _, .str => .str
  | _, _, .ref => .ref
  | _, _, .ty => .ty
  | _, _, .tup s r => .tup (by
      rcases s with (s | ⟨o, s⟩) | s
      · cases s
      · cases s
      · exact .inr s) (RwL.none r)
  | _, _, .lst z _ _ => z.elim
  | _, _, .ins _ z _ _ => z.elim
  | _, _, .dic z _ _ => z.elim
  | _, _, .exc0 => .exc0
  | _, _, .dcn z _ _ _ _ _ _ => z.elim
  | _, _, .excF z _ _ => z.elim
  | _, _, .scr s r => .scr (by
      rcases s with ⟨o, s⟩ | s
      · cases s
      · exact .inr s) (RwL.none r)
theorem RwL.none {K : PySem.W.Frag} {Z : Zp} {H : Hp} : ∀ {ws : List W} {vs : List V}, RwL K (fun _ => False) (fun _ => none) ws vs → RwL K Z H ws vs
  | _, _, .nil => .nil
  | _, _, .cons r t => .cons (Rw.none r) (RwL.none t)
end
section
variable {X : Cx} {x : Str} {w : W} {pos : Pos}
theorem qglob (hg : Gl X x) (c : GlobW X.K X.mg x w) (hd : (x == ("__debug__" : Str)) = false := by decide) : PEw X (.Name x pos) (wC w) := by
  cases c with
  | @int i t m => exact PE.imp (pe_glob (v := .int i) hg m ⟨_, rfl⟩ hd) fun _ _ _ h => lC (fun _ _ => .int) h
  | @str z t m => exact PE.imp (pe_glob (v := .str z) hg m ⟨_, rfl⟩ hd) fun _ _ _ h => lC (fun _ _ => .str) h
  | @tup a ws vs m s r =>
    refine PE.imp (pe_glob (v := .ref a) hg m rfl hd) fun _ _ _ h => lC (fun Z H => .tup ?_ r.none) h
    rcases s with (s | ⟨o, s⟩) | s
    · cases s
    · cases s
    · exact .inr s
end
/-! ### a[i] op= e -/
def wGet (o i : W) (G : Gp) (Q : QW) : Prop := match o, i with
  | .ref p, .int k => 0 ≤ k ∧ isG (G p) fun ws => ws.length ≤ sizeLine ∧ isS ws[k.toNat]? fun w => Q w G
  | _, _ => False
theorem wGet_ref {p : Addr} {k : Int} {G : Gp} {Q : QW} : wGet (.ref p) (.int k) G Q = (0 ≤ k ∧ isG (G p) fun ws => ws.length ≤ sizeLine ∧ isS ws[k.toNat]? fun w => Q w G) := rfl
def wAugIx (to ti te : TEw) (r : RW2) : TSw := fun D σ G => to σ G fun o G1 => ti σ G1 fun i G2 => wGet o i G2 fun x G3 => te σ G3 fun y G4 => r x y G4 fun z G5 => setIx o i z G5 fun G6 => D.nx σ G6
section
variable {X : Cx} {K : PySem.W.Frag} {o i e : Expr} {to ti te : TEw} {tpos pos : Pos}
def rGetL (K : PySem.W.Frag) : V → V → Hp → VK → Prop := fun o i H Q => ∃ p xs k v, o = .ref p ∧ i = .int k ∧ 0 ≤ k ∧ xs.length ≤ sizeLine ∧ SqL K H p xs ∧ xs[k.toNat]? = some v ∧ Q v H
theorem get_list : PGet X (rGetL X.K) := by
  intro pins s σ H o i ov iv Q I r1 r2 q
  obtain ⟨p, xs, k, v, rfl, rfl, k0, l, s1, e, q⟩ := q
  cases r1
  obtain ⟨t, rfl⟩ := r2
  obtain ⟨its, r, pl, _⟩ := I.list s1
  obtain ⟨w, ew, rw'⟩ := r.get e
  have hs : sizeLine = 16777216 := by decide
  have hk : k.toNat < xs.length := (List.getElem?_eq_some_iff.mp e).1
  exact wpAny_getItem_list pl.isList k0 (by omega) (by simpa using ew) ⟨v, H, I, rw', q⟩
theorem laugix {r : TIp} {wr : RW2} (hs : Sim2 X.K r wr) {D : Ends} {σ : SV} {H : Hp} (h : liftS X (wAugIx to ti te wr) D σ H) : tAugS (liftE X.K to) (liftE X.K ti) (liftE X.K te) (rGetL X.K) r rSetL D σ H := by
  obtain ⟨Z, σ', G, Dw, e, hr, t, k⟩ := h
  refine ⟨Z, σ', G, _, e, hr, t, fun Z1 G1 H1 ow ov x1 h1 r1 t1 => ?_⟩
  refine ⟨Z1, σ', G1, _, e.ext hr x1, h1, t1, fun Z2 G2 H2 iw iv x2 h2 r2 t2 => ?_⟩
  have t3 : ∃ p kk, ow = .ref p ∧ iw = .int kk ∧ 0 ≤ kk ∧ isG (G2 p) fun ws => ws.length ≤ sizeLine ∧ isS ws[kk.toNat]? fun w => te σ' G2 fun y G4 => wr w y G4 fun z G5 => setIx ow iw z G5 fun G6 => Dw.nx σ' G6 := by
    cases ow <;> cases iw <;> first
      | exact False.elim t2
      | exact ⟨_, _, rfl, rfl, t2⟩
  obtain ⟨p, kk, rfl, rfl, k0, t3⟩ := t3
  obtain ⟨ws, g, l, t3⟩ := isG_ex t3
  obtain ⟨xw, ex, t3⟩ := isS_ex t3
  cases r1
  cases r2
  obtain ⟨vs, s, r⟩ := h2.lst g
  obtain ⟨xv, exv, rx⟩ := r.get _ ex
  refine ⟨p, vs, kk, xv, rfl, rfl, k0, by rw [← r.length]; exact l, SqL.of s, exv, ?_⟩
  refine ⟨Z2, σ', G2, _, (e.ext hr x1).ext h1 x2, h2, t3, fun Z3 G3 H3 y yv x3 h3 r3 t4 => ?_⟩
  refine hs Z3 G3 H3 xw y xv yv _ _ h3 (rx.ext h2 x3) r3 t4 fun Z4 G4 H4 z zv x4 h4 r4 t5 => ?_
  obtain ⟨p', kk', us, j, e1, e2, g', l', q⟩ := setIx_ex t5
  cases e1
  cases e2
  obtain ⟨us', s', ru⟩ := h4.lst g'
  obtain ⟨h5, x5⟩ := chg_lst h4 g' (RwL.set r4 j ru)
  refine ⟨p, us', kk, j, rfl, rfl, s', by rw [← ru.length]; exact l', ?_⟩
  have xx := (((x1.trans x2).trans x3).trans x4).trans x5
  exact k.nx _ _ _ _ _ xx h5 (e.ext hr xx) q
theorem qaugAIx (ho : PEw X o to) (hi : PEw X i ti) (he : PEw X e te)
    (ha : ∀ ov iv new, augStore i ov iv new = (do holding [new, ov, iv] (setItem ov iv new); release [new, ov, iv] []; pure .next) := by intros; rfl) : PSw X (.AugAssign (.Subscript o i tpos) .Add e pos) (wAugIx to ti te wAddI) :=
  PS.imp (ps_augS ho hi get_list he ip_add set_list ha) fun _ _ _ h => laugix sim_ip h
theorem qaugSIx (ho : PEw X o to) (hi : PEw X i ti) (he : PEw X e te)
    (ha : ∀ ov iv new, augStore i ov iv new = (do holding [new, ov, iv] (setItem ov iv new); release [new, ov, iv] []; pure .next) := by intros; rfl) : PSw X (.AugAssign (.Subscript o i tpos) .Sub e pos) (wAugIx to ti te wSub) :=
  PS.imp (ps_augS ho hi get_list he ip_sub set_list ha) fun _ _ _ h => laugix sim_ip h
end
/-! ### zip, enumerate -/
def tup2 (x y : W) : W := .tup [x, y]
theorem walkP {K : PySem.W.Frag} {J : It} {Z : Zp} {G : Gp} {H : Hp} {ws us : List W} {vs ts : List V} {Gd : Hp → Prop} (n : Nat) (hn : n = (ws.zipWith tup2 us).length)
    (wk : Walk J n Gd (YPair (fun i => vs[i]?) (fun i => ts[i]?))) (hg : ∀ Z' G' H', Ext Z G H Z' G' H' → HRel K Z' G' H' → Gd H') (h : HRel K Z G H) (r : RwL K Z H ws vs) (r2 : RwL K Z H us ts) : WalkW K J Z G H (ws.zipWith tup2 us) := by
  refine ⟨Gd, YPair (fun i => vs[i]?) (fun i => ts[i]?), by rw [← hn]; exact wk, fun Z' G' H' x h' => ⟨hg Z' G' H' x h', fun i v H'' hi y => ?_⟩⟩
  obtain ⟨T, a, b, rfl, nT, rfl, e1, e2⟩ := y
  obtain ⟨w, ew, rw'⟩ := (r.ext h x).get' i e1
  obtain ⟨u, eu, ru⟩ := (r2.ext h x).get' i e2
  obtain ⟨h2, x2, r3⟩ := new_tup h' nT (.cons rw' (.cons ru .nil))
  exact ⟨tup2 w u, by rw [List.getElem?_zipWith, ew, eu], r3, x2, h2⟩
theorem walk_zipT {K : PySem.W.Frag} {a b : Addr} {xs ys : List V} {n : Nat} (hn : n = min xs.length ys.length) : Walk (ItzT K a b) n (fun H => SqT K H a xs ∧ SqT K H b ys) (YPair (fun i => xs[i]?) (fun i => ys[i]?)) := by
  subst hn
  refine ⟨fun i H hi q => ?_, fun H q => ⟨xs, ys, q.1, q.2, by omega⟩, fun i H v H' hi q y => ?_⟩
  · have h1 : i < xs.length := Nat.lt_of_lt_of_le hi (Nat.min_le_left _ _)
    have h2 : i < ys.length := Nat.lt_of_lt_of_le hi (Nat.min_le_right _ _)
    exact ⟨xs, ys, _, _, q.1, q.2, List.getElem?_eq_getElem h1, List.getElem?_eq_getElem h2⟩
  · obtain ⟨T, x, z, e1, e2, e3, f1, f2⟩ := y
    exact ⟨T, x, z, e1, e2, e3, f1 xs q.1, f2 ys q.2⟩
/-- what zip takes: both lists, or both tuples -/
def zipOf (ws : List W) (G : Gp) (R : List W → Gp → Prop) : Prop := match ws with
  | [.tup a, .tup b] => R (a.zipWith tup2 b) G
  | [.lst a, .lst b] => R (a.zipWith tup2 b) G
  | _ => False
def i_zip2 (ta : TAw) : TIw := fun σ G R => ta σ G fun ws G1 => zipOf ws G1 R
section
variable {X : Cx} {K : PySem.W.Frag} {ta : TAw} {p pos tpos : Pos} {elts : List Expr} {kk : Nat}
theorem zipOf_tup {a b : List W} {G : Gp} {R : List W → Gp → Prop} : zipOf [.tup a, .tup b] G R = R (a.zipWith tup2 b) G := rfl
theorem zipOf_lst {a b : List W} {G : Gp} {R : List W → Gp → Prop} : zipOf [.lst a, .lst b] G R = R (a.zipWith tup2 b) G := rfl
theorem qizip2 {e e2 : Expr} (hg : Gl X "zip") (hm : X.mg "zip" = none) (ha : PAw X [e, e2] ta)
    (hs : starEach [e, e2] X.env = (false, eval e X.env) :: starEach [e2] X.env := by rfl) (hpl : (backTo pos (starEach [e2] X.env)).any (·.1) = false := by rfl) :
    PIw X (.Tuple elts kk tpos) (.Call (.Name "zip" p) [e, e2] [] pos) (i_zip2 ta) := PI.imp (pi_zipA hg hm ha hs hpl) fun σ H R h => by
  obtain ⟨Z, σ', G, Qw, ev, hr, t, k⟩ := h
  refine ⟨Z, σ', G, _, ev, hr, t, fun Z1 G1 H1 ws vs x1 h1 r1 t1 => ?_⟩
  cases r1 with
  | nil => exact False.elim t1
  | cons ra rr =>
    cases rr with
    | nil => cases ra <;> exact False.elim t1
    | cons rb rr =>
      cases rr with
      | cons _ _ => cases ra <;> cases rb <;> exact False.elim t1
      | nil =>
        cases ra with
        | tup sa qa =>
          cases rb with
          | tup sb qb => exact ⟨_, _, _, _, rfl, .inr ⟨sa, sb, k Z1 G1 H1 _ _ x1 h1 (walkP _ (by rw [List.length_zipWith, qa.length, qb.length]) (walk_zipT rfl) (fun Z' G' H' x h' => ⟨SqT.ext h1 x sa, SqT.ext h1 x sb⟩) h1 qa qb) t1⟩⟩
          | _ => exact False.elim t1
        | lst za sa qa =>
          cases rb with
          | lst zb sb qb => exact ⟨_, _, _, _, rfl, .inl ⟨SqL.of sa, SqL.of sb, k Z1 G1 H1 _ _ x1 h1 (walkP _ (by rw [List.length_zipWith, qa.length, qb.length]) (walk_zip rfl) (fun Z' G' H' x h' => ⟨SqL.of (x.f _ _ sa (h1.z _ za).1).1, SqL.of (x.f _ _ sb (h1.z _ zb).1).1⟩) h1 qa qb) t1⟩⟩
          | _ => exact False.elim t1
        | _ => cases rb <;> exact False.elim t1
end
/-- enumerate of a list -/
def enumFrom (n : Nat) : List W → List W
  | [] => []
  | w :: ws => tup2 (.int (n : Int)) w :: enumFrom (n + 1) ws
theorem enum_len : ∀ (n : Nat) (ws : List W), (enumFrom n ws).length = ws.length
  | _, [] => rfl
  | n, _ :: ws => by
    show (enumFrom (n + 1) ws).length + 1 = ws.length + 1
    rw [enum_len]
theorem enum_get : ∀ (n : Nat) (ws : List W) (i : Nat), (enumFrom n ws)[i]? = ws[i]?.map fun w => tup2 (.int ((n + i : Nat) : Int)) w
  | _, [], i => by simp [enumFrom]
  | n, w :: ws, 0 => rfl
  | n, w :: ws, i + 1 => by
    show (enumFrom (n + 1) ws)[i]? = ws[i]?.map _
    rw [enum_get (n + 1) ws i, show n + 1 + i = n + (i + 1) by omega]
def enumOf (ws : List W) (G : Gp) (R : List W → Gp → Prop) : Prop := match ws with
  | [x] => isS (asL G x) fun us => match x with
    | .ref p => R (enumFrom 0 us) (gdel G p)
    | _ => R (enumFrom 0 us) G
  | _ => False
def i_enum (ta : TAw) : TIw := fun σ G R => ta σ G fun ws G1 => enumOf ws G1 R
section
variable {K : PySem.W.Frag} {X : Cx} {ta : TAw} {p pos tpos : Pos} {elts : List Expr} {kk : Nat}
theorem enumOf_lst {a : List W} {G : Gp} {R : List W → Gp → Prop} : enumOf [.lst a] G R = R (enumFrom 0 a) G := rfl
theorem enumOf_scr {a : List W} {G : Gp} {R : List W → Gp → Prop} : enumOf [.scr a] G R = R (enumFrom 0 a) G := rfl
theorem walkE {Z : Zp} {G : Gp} {H : Hp} {a : Addr} {ws : List W} {vs : List V} (hs : ∀ Z' G' H', Ext Z G H Z' G' H' → SqL K H' a vs) (h : HRel K Z G H) (r : RwL K Z H ws vs) : WalkW K (Ite K a) Z G H (enumFrom 0 ws) := by
  refine ⟨_, _, by rw [enum_len, r.length]; exact walk_enum (K := K) (a := a) (xs := vs), fun Z' G' H' x h' => ⟨hs Z' G' H' x, fun i v H'' hi y => ?_⟩⟩
  obtain ⟨T, c, b, rfl, nT, rfl, e1, e2⟩ := y
  injection e1 with e1
  subst e1
  obtain ⟨w, ew, rw'⟩ := (r.ext h x).get' i e2
  obtain ⟨h2, x2, r3⟩ := new_tup h' nT (.cons (w := .int (i : Int)) .int (.cons rw' .nil))
  exact ⟨_, by rw [enum_get, ew, Nat.zero_add]; rfl, r3, x2, h2⟩
theorem qienum {e : Expr} (hg : Gl X "enumerate") (hm : X.mg "enumerate" = none) (ha : PAw X [e] ta) (hs : starEach [e] X.env = [(false, eval e X.env)] := by rfl) :
    PIw X (.Tuple elts kk tpos) (.Call (.Name "enumerate" p) [e] [] pos) (i_enum ta) := PI.imp (pi_enum hg hm ha hs) fun σ H R h => by
  obtain ⟨Z, σ', G, Qw, ev, hr, t, k⟩ := h
  refine ⟨Z, σ', G, _, ev, hr, t, fun Z1 G1 H1 ws vs x1 h1 r1 t1 => ?_⟩
  cases r1 with
  | nil => exact False.elim t1
  | @cons w v ws vs ra rr =>
    cases rr with
    | cons _ _ => exact False.elim t1
    | nil =>
      obtain ⟨us, e, q⟩ := isS_ex t1
      cases ra with
      | lst z s r => cases e; exact ⟨_, _, rfl, SqL.of s, k Z1 G1 H1 _ _ x1 h1 (walkE (fun Z' G' H' x => SqL.of (x.f _ _ s (h1.z _ z).1).1) h1 r) q⟩
      | scr s r => cases e; exact ⟨_, _, rfl, s.sq, k Z1 G1 H1 _ _ x1 h1 (walkE (fun Z' G' H' x => (s.ext h1 x).sq) h1 r) q⟩
      | @ref p =>
        obtain ⟨p', vs, e1, s, r⟩ := asL_sq (Z := Z1) h1 .ref e
        cases e1
        have g : ∃ us', G1 p = some (.lst us') := by
          simp only [asL] at e
          split at e
          · exact ⟨_, by assumption⟩
          · cases e
        obtain ⟨us', g⟩ := g
        obtain ⟨vs', s', r'⟩ := h1.lst g
        have eu : us' = us := by simpa [asL, g] using e
        subst eu
        obtain ⟨h2, x2⟩ := h1.freeze (p := p) (by rw [g]; simp)
        exact ⟨_, _, rfl, SqL.of s', k _ _ H1 _ _ (x1.trans x2) h2 (walkE (fun Z' G' H' x => SqL.of (x.f _ _ s' (h2.z p (.inr rfl)).1).1) h2 (r'.ext h1 x2)) q⟩
      | _ => cases e
end
/-! ### comprehensions -/
def wYes : TTw := fun _ G Q => Q true G
def swipe (σ : SW) : List Nat → SW
  | [] => σ
  | i :: vs => sforget (swipe σ vs) i
where sforget : SW → Nat → SW
  | [], _ => []
  | _ :: l, 0 => none :: l
  | a :: l, i + 1 => a :: sforget l i
def lcW (g : TGw) (tt : TTw) (te : TEw) (σ : SW) : List W → List W → Gp → (List W → Gp → Prop) → Prop
  | [], acc, G, Q => Q acc G
  | w :: ws, acc, G, Q => g w σ G fun σ1 G1 => tt σ1 G1 fun b G2 => if b = true then te σ1 G2 fun y G3 => lcW g tt te σ ws (acc ++ [y]) G3 Q else lcW g tt te σ ws acc G2 Q
def wLc (vs : List Nat) (ti : TIw) (g : TGw) (tt : TTw) (te : TEw) : TEw := fun σ G Q => ti σ G fun ws G1 => ws.length ≤ sizeLine ∧ lcW g tt te (swipe σ vs) ws [] G1 fun us G2 => Q (.lst us) G2
def wLcM (vs : List Nat) (ti : TIw) (g : TGw) (tt : TTw) (te : TEw) : TEw := fun σ G Q => ti σ G fun ws G1 => ws.length ≤ sizeLine ∧ lcW g tt te (swipe σ vs) ws [] G1 fun us G2 => ∀ p, G2 p = none → Q (.ref p) (gup G2 p (.lst us))
/-- a target that stores names of the block alone -/
inductive SetsIn (vs : List Nat) (σ : SV) : SV → Prop
  | refl : SetsIn vs σ σ
  | set {τ : SV} {i : Nat} {v : V} : SetsIn vs σ τ → i ∈ vs → SetsIn vs σ (τ.set i (some v))
theorem wipe_set {σ : SV} {i : Nat} {o : Option V} : ∀ {vs : List Nat}, i ∈ vs → L2.wipe (σ.set i o) vs = L2.wipe σ vs
  | [], h => by cases h
  | v :: vs, h => by
    unfold L2.wipe
    by_cases hv : i ∈ vs
    · rw [wipe_set hv]
    · have e : i = v := by
        rcases List.mem_cons.mp h with h | h
        · exact h
        · exact absurd h hv
      subst e
      have out : ∀ us : List Nat, i ∉ us → L2.wipe (σ.set i o) us = (L2.wipe σ us).set i o := by
        intro us hu
        induction us with
        | nil => rfl
        | cons u us ih =>
          unfold L2.wipe
          rw [ih fun z => hu (.tail _ z), List.set_comm]
          exact fun z => hu (by rw [z]; exact .head _)
      rw [out vs hv, List.set_set]
theorem SetsIn.wipe {vs : List Nat} {σ τ : SV} (h : SetsIn vs σ τ) : L2.wipe τ vs = L2.wipe σ vs := by
  induction h with
  | refl => rfl
  | set _ hi ih => rw [wipe_set hi, ih]
theorem wipe_wipe {σ : SV} : ∀ (vs us : List Nat), (∀ i ∈ us, i ∈ vs) → L2.wipe (L2.wipe σ us) vs = L2.wipe σ vs
  | vs, [], _ => rfl
  | vs, u :: us, h => by
    show L2.wipe ((L2.wipe σ us).set u none) vs = _
    rw [wipe_set (h u (.head _)), wipe_wipe vs us fun i hi => h i (.tail _ hi)]
section
variable {K : PySem.W.Frag} {Z : Zp} {H : Hp} {σ' : SW} {σ : SV}
theorem RwS.forget1 : ∀ {ws : SW} {vs : SV} (i : Nat) (o : Option V), RwS K Z H ws vs → RwS K Z H (swipe.sforget ws i) (vs.set i o)
  | _, _, _, _, .nil => .nil
  | _, _, 0, _, .skip t => .skip t
  | _, _, 0, _, .cons _ t => .skip t
  | _, _, i + 1, o, .skip t => .skip (RwS.forget1 i o t)
  | _, _, i + 1, o, .cons r t => .cons r (RwS.forget1 i o t)
theorem RwS.wipe (h : RwS K Z H σ' σ) : ∀ vs : List Nat, RwS K Z H (swipe σ' vs) (L2.wipe σ vs)
  | [] => h
  | i :: vs => (RwS.wipe h vs).forget1 i none
/-- a target's reading over both, storing names of the block alone -/
def SimG (K : PySem.W.Frag) (vs : List Nat) (g : TG) (gw : TGw) : Prop := ∀ Z G H σ' σ w v Qw Q, RwS K Z H σ' σ → HRel K Z G H → Rw K Z H w v → gw w σ' G Qw →
  (∀ τ' τ, RwS K Z H τ' τ → SetsIn vs σ τ → Qw τ' G → Q τ H) → g v σ H Q
theorem simg_name {vs : List Nat} {i : Nat} (hi : i ∈ vs) : SimG K vs (gName i) (gN i) := fun Z G H σ' σ w v Qw Q e h r t k => k _ _ (e.set r i) (.set .refl hi) t
def SimGs (K : PySem.W.Frag) (vs : List Nat) (g : TGs) (gw : TGsw) : Prop := ∀ Z G H σ' σ ws us Qw Q, RwS K Z H σ' σ → HRel K Z G H → RwL K Z H ws us → gw ws σ' G Qw →
  (∀ τ' τ, RwS K Z H τ' τ → SetsIn vs σ τ → Qw τ' G → Q τ H) → g us σ H Q
theorem simgs_nil {vs : List Nat} : SimGs K vs gNil gsN := fun Z G H σ' σ ws us Qw Q e h r t k => by
  cases r with
  | nil => exact ⟨rfl, k _ _ e .refl t⟩
  | cons _ _ => exact False.elim t
theorem SetsIn.trans {vs : List Nat} {a b c : SV} (h : SetsIn vs a b) (h' : SetsIn vs b c) : SetsIn vs a c := by
  induction h' with
  | refl => exact h
  | set _ hi ih => exact .set ih hi
theorem simgs_cons {vs : List Nat} {i : Nat} {g : TGs} {gw : TGsw} (hi : i ∈ vs) (hg : SimGs K vs g gw) : SimGs K vs (gCons (gName i) g) (gsC (gN i) gw) := fun Z G H σ' σ ws us Qw Q e h r t k => by
  cases r with
  | nil => exact False.elim t
  | cons r rr => exact ⟨_, _, rfl, hg Z G H _ _ _ _ Qw Q (e.set r i) h rr t fun τ' τ e' s q => k τ' τ e' ((SetsIn.set .refl hi).trans s) q⟩
theorem simg_tup {vs : List Nat} {n : Nat} {g : TGs} {gw : TGsw} (hg : SimGs K vs g gw) : SimG K vs (fun v σ H Q => gTup K n g v σ H Q ∨ gLst K n g v σ H Q) (gT n gw) := fun Z G H σ' σ w v Qw Q e h r t k => by
  cases r with
  | tup s r => exact .inl ⟨_, _, rfl, s, by rw [← r.length]; exact t.1, hg Z G H _ _ _ _ Qw Q e h r t.2 k⟩
  | lst z s r => exact .inr ⟨_, _, rfl, SqL.of s, by rw [← r.length]; exact t.1, hg Z G H _ _ _ _ Qw Q e h r t.2 k⟩
  | @ref p =>
    obtain ⟨ws, g, t1, t2⟩ := isG_ex t
    obtain ⟨vs, s, r⟩ := h.lst g
    exact .inr ⟨_, _, rfl, SqL.of s, by rw [← r.length]; exact t1, hg Z G H _ _ _ _ Qw Q e h r t2 k⟩
  | _ => exact False.elim t
end
/-- the loop of a comprehension: D is the list that grows, known to the great heap alone -/
theorem llc {K : PySem.W.Frag} {vs : List Nat} {ti : TIw} {g : TG} {gw : TGw} {tt : TTw} {te : TEw} (sg : SimG K vs g gw) {σ : SV} {H : Hp} {Q : VK} {fin : List W → Gp → QW → Prop}
    (hfin : ∀ Z0 G0 H0 Z G H us xs D Qw, H0 D = none → Ext Z0 G0 H0 Z G H → HRel K Z G H → RwL K Z H us xs → H D = some (.lst xs) → G D = none → ¬ Z D → fin us G Qw → ∃ Z' G' w, Ext Z0 G0 H0 Z' G' H ∧ HRel K Z' G' H ∧ Rw K Z' H w (.ref D) ∧ Qw w G')
    (h : liftE K (fun σ G Q => ti σ G fun ws G1 => ws.length ≤ sizeLine ∧ lcW gw tt te (swipe σ vs) ws [] G1 fun us G2 => fin us G2 Q) σ H Q) : tLc (liftI K ti) g (liftT K tt) (liftE K te) vs σ H Q := by
  obtain ⟨Z, σ', G, Qw, e, hr, t, k⟩ := h
  refine ⟨Z, σ', G, _, e, hr, t, fun Z1 G1 H1 ws J x1 h1 ⟨Gd, Y, wk, hY⟩ t1 D hD => ?_⟩
  obtain ⟨hl, t1⟩ := t1
  have x0 : Ext Z1 G1 H1 Z1 G1 (upd H1 D (.lst [])) := Ext.laid h1 hD
  have h0 := h1.laid (o := .lst []) hD
  refine lc_it wk (fun i H2 => ∃ Z2 G2 us xs, Ext Z1 G1 H1 Z2 G2 H2 ∧ HRel K Z2 G2 H2 ∧ H2 D = some (.lst xs) ∧ G2 D = none ∧ ¬ Z2 D ∧ RwL K Z2 H2 us xs ∧ us.length ≤ i ∧ lcW gw tt te (swipe σ' vs) (ws.drop i) us G2 fun us G2 => fin us G2 Qw) ?_ ?_ ?_ ?_
  · exact ⟨Z1, G1, [], [], x0, h0, upd_same, h1.fresh hD, h1.freshZ hD, .nil, Nat.le_refl _, t1⟩
  · rintro i H2 _ ⟨Z2, G2, us, xs, x2, h2, _⟩
    exact (hY Z2 G2 H2 x2 h2).1
  · rintro i v H2 H3 hi ⟨Z2, G2, us, xs, x2, h2, eD, gD, zD, rus, lus, t2⟩ y
    obtain ⟨w, ew, rw', x3, h3⟩ := (hY Z2 G2 H2 x2 h2).2 i v H3 hi y
    have ed : ws.drop i = w :: ws.drop (i + 1) := by
      obtain ⟨hl, e⟩ := List.getElem?_eq_some_iff.mp ew
      rw [← e]; exact List.drop_eq_getElem_cons hl
    rw [ed] at t2
    have x23 := x2.trans x3
    have eσ : RwS K Z2 H3 (swipe σ' vs) (L2.wipe σ vs) := (e.ext hr (x1.trans x23)).wipe vs
    refine sg Z2 G2 H3 _ _ w v _ _ eσ h3 rw' t2 fun τ' τ eτ sτ t3 => ⟨?_, ?_⟩
    · rw [sτ.wipe, wipe_wipe vs vs fun i hi => hi]
    have eD3 := (x3.f D _ eD gD).1
    refine ⟨Z2, τ', G2, _, eτ, h3, t3, fun Z4 G4 H4 b x4 h4 t4 => ?_⟩
    have eD4 := x4.f D _ eD3 gD
    have zD4 : ¬ Z4 D := fun z => zD (x4.n D (by rw [eD3]; simp) gD z)
    have rus4 := (rus.ext h2 x3).ext h3 x4
    cases b with
    | false => exact ⟨Z4, G4, us, xs, x23.trans x4, h4, eD4.1, eD4.2, zD4, rus4, by omega, t4⟩
    | true =>
      refine ⟨Z4, τ', G4, _, eτ.ext h3 x4, h4, t4, fun Z5 G5 H5 yw yv x5 h5 r5 t5 => ?_⟩
      have eD5 := x5.f D _ eD4.1 eD4.2
      have zD5 : ¬ Z5 D := fun z => zD4 (x5.n D (by rw [eD4.1]; simp) eD4.2 z)
      have rus5 := rus4.ext h4 x5
      have kp : Keep Z5 H5 Z5 (upd H5 D (.lst (xs ++ [yv]))) := Keep.hid eD5.1 zD5
      have xx := (x23.trans x4).trans x5
      refine ⟨xs, eD5.1, by rw [← rus.length]; omega, Z5, G5, us ++ [yw], xs ++ [yv], ⟨xx.z, fun p u e' g' => ?_, xx.n⟩, ⟨fun p z => ?_, fun p o g' => ?_⟩, upd_same, eD5.2, zD5, (rus5.append (.cons r5 .nil)).keep kp, by simp; omega, t5⟩
      · rw [upd_ne (ne_of_none e' hD)]; exact xx.f p u e' g'
      · have := h5.z p z
        rw [upd_ne (fun c => zD5 (by rw [← c]; exact z))]
        exact this
      · obtain ⟨u, e', r⟩ := h5.g p o g'
        have c : p ≠ D := fun c => by rw [c, eD5.2] at g'; cases g'
        exact ⟨u, by rw [upd_ne c]; exact e', r.keep kp⟩
  · rintro H2 ⟨Z2, G2, us, xs, x2, h2, eD, gD, zD, rus, lus, t2⟩
    rw [List.drop_length] at t2
    obtain ⟨Z3, G3, w, x3, h3, r3, q⟩ := hfin Z1 G1 H1 Z2 G2 H2 us xs D Qw hD x2 h2 rus eD gD zD t2
    exact k Z3 G3 H2 w _ (x1.trans x3) h3 r3 q
theorem lc_frz {K : PySem.W.Frag} : ∀ Z0 G0 H0 Z G H us xs D (Qw : QW), H0 D = none → Ext Z0 G0 H0 Z G H → HRel K Z G H → RwL K Z H us xs → H D = some (.lst xs) → G D = none → ¬ Z D → Qw (.lst us) G → ∃ Z' G' w, Ext Z0 G0 H0 Z' G' H ∧ HRel K Z' G' H ∧ Rw K Z' H w (.ref D) ∧ Qw w G' := by
  intro Z0 G0 H0 Z G H us xs D Qw n x h r e g z q
  obtain ⟨h2, kp⟩ := h.frz (p := D) (by rw [e]; simp)
  have e2 : gdel G D = G := by
    funext b; unfold gdel; split
    · rename_i c; rw [c, g]
    · rfl
  rw [e2] at h2
  refine ⟨_, G, .lst us, ⟨fun q z => .inl (x.z q z), x.f, fun q e' g' z' => ?_⟩, h2, .lst (.inr rfl) e (r.keep kp), q⟩
  rcases z' with z' | z'
  · exact x.n q e' g' z'
  · rw [z'] at e'; exact absurd n e'
theorem lc_mut {K : PySem.W.Frag} : ∀ Z0 G0 H0 Z G H us xs D (Qw : QW), H0 D = none → Ext Z0 G0 H0 Z G H → HRel K Z G H → RwL K Z H us xs → H D = some (.lst xs) → G D = none → ¬ Z D → (∀ p, G p = none → Qw (.ref p) (gup G p (.lst us))) → ∃ Z' G' w, Ext Z0 G0 H0 Z' G' H ∧ HRel K Z' G' H ∧ Rw K Z' H w (.ref D) ∧ Qw w G' := by
  intro Z0 G0 H0 Z G H us xs D Qw n x h r e g z q
  refine ⟨Z, _, .ref D, ⟨x.z, fun p u e' g' => ?_, x.n⟩, h.track e z (.lst r), .ref, q D g⟩
  have c : p ≠ D := ne_of_none e' n
  have y := x.f p u e' g'
  exact ⟨y.1, by rw [gup_ne c]; exact y.2⟩
/-- a comprehension's tests, in the block -/
def PTsw (X : Cx) (ifs : List Expr) (t : TTw) : Prop := PTs X ifs (liftT X.K t)
theorem qts_nil {X : Cx} : PTsw X [] wYes := ⟨fun pins s σ H Q I h => by
  obtain ⟨Z, σ', G, Qw, e, hr, t, k⟩ := h
  exact pts_nil.run pins s σ H Q I (k Z G H true Ext.refl hr t)⟩
theorem qts_one {X : Cx} {c : Expr} {t : TTw} (h : PTw X c t) : PTsw X [c] t := pts_one h
/-- a comprehension's target -/
structure TgW (X : Cx) (vs : List Nat) (tg : Expr) (scope : Scope) (gw : TGw) : Prop where
  ex : ∃ g, (∀ (s : Shared) (H : Hp) (C : Addr) (cl : List (Str × Addr)) (fp : List Addr), PG (X.blk s H scope (compEnvC scope cl C X.env) fp) tg g) ∧ SimG X.K vs g gw
structure TgsW (X : Cx) (vs : List Nat) (tg : List Expr) (scope : Scope) (gw : TGsw) : Prop where
  ex : ∃ g, (∀ (s : Shared) (H : Hp) (C : Addr) (cl : List (Str × Addr)) (fp : List Addr), PGs (X.blk s H scope (compEnvC scope cl C X.env) fp) tg g) ∧ SimGs X.K vs g gw
section
variable {X : Cx} {vs : List Nat} {scope : Scope} {pos : Pos}
theorem gcN {i : Nat} {x : Str} (hN : X.N.Nodup) (hi : X.N[i]? = some x) (hv : i ∈ vs := by decide) (hx : ∀ (cl : List (Str × Addr)) (C : Addr), L2.Loc (compEnvC scope cl C X.env).scope x := by intro _ _; first | exact Or.inl rfl | exact Or.inr rfl) (hf : ∀ (cl : List (Str × Addr)) (C : Addr), (scope.names.lookup x == some .cell) = true ∨ (compEnvC scope cl C X.env).scope.names.lookup x = some .local := by intro _ _; first | exact .inl rfl | exact .inr rfl) : TgW X vs (.Name x pos) scope (gN i) :=
  ⟨_, fun s H C cl fp => pg_name hN hi (hx cl C) (hf cl C), simg_name hv⟩
theorem lookup_relabel {env : Env} {x : Str} : ∀ (names : List (Str × NameKind)), (names.map fun (n, k) => if (k == NameKind.free && env.scope.kind == .function && env.kindOf n == some .cell) then (n, NameKind.cell) else (n, k)).lookup x = (names.lookup x).map fun k => if (k == NameKind.free && env.scope.kind == .function && env.kindOf x == some .cell) then .cell else k
  | [] => rfl
  | (n, k) :: r => by
    have ih := lookup_relabel (env := env) (x := x) r
    show List.lookup x ((if (k == NameKind.free && env.scope.kind == .function && env.kindOf n == some .cell) = true then (n, NameKind.cell) else (n, k)) :: _) = _
    by_cases c : x = n
    · subst c
      have e : (x == x) = true := by simp
      split <;> rename_i h
      · rw [List.lookup_cons, List.lookup_cons]
        dsimp only
        rw [e]
        dsimp only
        rw [Option.map_some, if_pos h]
      · rw [List.lookup_cons, List.lookup_cons]
        dsimp only
        rw [e]
        dsimp only
        rw [Option.map_some, if_neg h]
    · have e : (x == n) = false := by simpa using c
      split <;> simp only [List.lookup_cons, e] <;> exact ih
/-- a comprehension within a comprehension -/
theorem blkOk_nest {N : List Str} {scope1 scope : Scope} {own : List (Str × Nat)} {cl : List (Str × Addr)} {C : Addr} {env : Env} (h : blkC N scope1 scope own = true) : BlkOk N (compEnvC scope1 cl C env).scope scope own := by
  obtain ⟨a, b, c, d, e⟩ := blkOk_by h
  refine ⟨a, b, c, fun y hy z => ?_, e⟩
  have l := lookup_relabel (env := env) (x := y.1) scope1.names
  have l' : (compEnvC scope1 cl C env).scope.names.lookup y.1 = (scope1.names.lookup y.1).map fun k => if (k == NameKind.free && env.scope.kind == .function && env.kindOf y.1 == some .cell) then .cell else k := l
  rw [l']
  rcases d y hy z with q | q
  · rw [q]; exact .inl rfl
  · rw [q, Option.map_some]
    split
    · exact .inl rfl
    · exact .inr rfl
theorem gcs_nil : TgsW X vs [] scope gsN := ⟨_, fun _ _ _ _ _ => pgs_nil, simgs_nil⟩
theorem gcs_cons {i : Nat} {x : Str} {es : List Expr} {gw : TGsw} (hN : X.N.Nodup) (hi : X.N[i]? = some x) (h2 : TgsW X vs es scope gw) (hv : i ∈ vs := by decide) (hx : ∀ (cl : List (Str × Addr)) (C : Addr), L2.Loc (compEnvC scope cl C X.env).scope x := by intro _ _; first | exact Or.inl rfl | exact Or.inr rfl) (hf : ∀ (cl : List (Str × Addr)) (C : Addr), (scope.names.lookup x == some .cell) = true ∨ (compEnvC scope cl C X.env).scope.names.lookup x = some .local := by intro _ _; first | exact .inl rfl | exact .inr rfl)
    (hs : ∀ (cl : List (Str × Addr)) (C : Addr), (assignEach (.Name x pos :: es) (compEnvC scope cl C X.env)).map (·.2) = assign (.Name x pos) (compEnvC scope cl C X.env) :: (assignEach es (compEnvC scope cl C X.env)).map (·.2) := by intro _ _; rfl) : TgsW X vs (.Name x pos :: es) scope (gsC (gN i) gw) := by
  obtain ⟨g, pg, sg⟩ := h2.ex
  exact ⟨_, fun s H C cl fp => pgs_cons (pg_name hN hi (hx cl C) (hf cl C)) (pg s H C cl fp) (hs cl C), simgs_cons hv sg⟩
theorem gcT {es : List Expr} {k : Nat} {gw : TGsw} {n : Nat} (hc : X.calm = true) (h : TgsW X vs es scope gw) (hn : ∀ (cl : List (Str × Addr)) (C : Addr), (assignEach es (compEnvC scope cl C X.env)).length = n := by intro _ _; rfl)
    (hst : ∀ (cl : List (Str × Addr)) (C : Addr), (assignEach es (compEnvC scope cl C X.env)).findIdx? (·.1) = none := by intro _ _; rfl) : TgW X vs (.Tuple es k pos) scope (gT n gw) := by
  obtain ⟨g, pg, sg⟩ := h.ex
  exact ⟨_, fun s H C cl fp => PG.or (pg_tup (X := X.blk s H scope (compEnvC scope cl C X.env) fp) hc (pg s H C cl fp) (hn cl C) (hst cl C)) (pg_lst (X := X.blk s H scope (compEnvC scope cl C X.env) fp) hc (pg s H C cl fp) (hn cl C) (hst cl C)), simg_tup sg⟩
variable {elt tg iter : Expr} {ifs : List Expr} {own : List (Str × Nat)} {ti : TIw} {gw : TGw} {tt : TTw} {te : TEw}
theorem qlc (hc : X.calm = true) (hN : X.N.Nodup) (hi : PIw X tg iter ti) (ok : BlkOk X.N X.env.scope scope own) (hg : TgW X (own.map (·.2)) tg scope gw)
    (ht : ∀ (s : Shared) (H : Hp) (C : Addr) (cl : List (Str × Addr)) (fp : List Addr), PTsw (X.blk s H scope (compEnvC scope cl C X.env) fp) ifs tt) (he : ∀ (s : Shared) (H : Hp) (C : Addr) (cl : List (Str × Addr)) (fp : List Addr), PEw (X.blk s H scope (compEnvC scope cl C X.env) fp) elt te)
    (hs : ∀ x, foldedSetIterable iter X.env x = pure x := by intro _; rfl) : PEw X (.ListComp elt [⟨tg, iter, ifs, 0⟩] scope pos) (wLc (own.map (·.2)) ti gw tt te) := by
  obtain ⟨g, pg, sg⟩ := hg.ex
  exact PE.imp (pe_lc (tt := liftT X.K tt) (te := liftE X.K te) hc hN hi ok pg ht he hs) fun _ _ _ h => llc (fin := fun us G Q => Q (.lst us) G) sg lc_frz h
theorem qlcM (hc : X.calm = true) (hN : X.N.Nodup) (hi : PIw X tg iter ti) (ok : BlkOk X.N X.env.scope scope own) (hg : TgW X (own.map (·.2)) tg scope gw)
    (ht : ∀ (s : Shared) (H : Hp) (C : Addr) (cl : List (Str × Addr)) (fp : List Addr), PTsw (X.blk s H scope (compEnvC scope cl C X.env) fp) ifs tt) (he : ∀ (s : Shared) (H : Hp) (C : Addr) (cl : List (Str × Addr)) (fp : List Addr), PEw (X.blk s H scope (compEnvC scope cl C X.env) fp) elt te)
    (hs : ∀ x, foldedSetIterable iter X.env x = pure x := by intro _; rfl) : PEw X (.ListComp elt [⟨tg, iter, ifs, 0⟩] scope pos) (wLcM (own.map (·.2)) ti gw tt te) := by
  obtain ⟨g, pg, sg⟩ := hg.ex
  exact PE.imp (pe_lc (tt := liftT X.K tt) (te := liftE X.K te) hc hN hi ok pg ht he hs) fun _ _ _ h => llc (fin := fun us G Q => ∀ p, G p = none → Q (.ref p) (gup G p (.lst us))) sg lc_mut h
variable {j : Nat} {y : Str} {py spos : Pos}
theorem lsetLc {g : TG} {tA : TEw} (hl : ∀ σ H Q, liftE X.K tA σ H Q → tLc (liftI X.K ti) g (liftT X.K tt) (liftE X.K te) (own.map (·.2)) σ H Q) {D : Ends} {σ : SV} {H : Hp} (h : liftS X (wAsg tA (gN j)) D σ H) :
    tAsg (tLc (liftI X.K ti) g (liftT X.K tt) (liftE X.K te) (own.map (·.2))) (gName j) D σ H := by
  obtain ⟨Z, σ', G, Dw, e, hr, t, k⟩ := h
  exact hl _ _ _ ⟨Z, σ', G, _, e, hr, t, fun Z1 G1 H1 w v x1 h1 r1 q => lgN ⟨Z1, σ', G1, w, _, e.ext hr x1, h1, r1, q, k.nx.mono x1⟩⟩
theorem qsetLc (hc : X.calm = true) (hN : X.N.Nodup) (hy : X.N[j]? = some y) (hyl : X.env.scope.names.lookup y = some .local) (hsw : swapsWith (.ListComp elt [⟨tg, iter, ifs, 0⟩] scope pos) (some (.Name y py)) spos.line X.env = pure true) (hi : PIw X tg iter ti) (ok : BlkOk X.N X.env.scope scope own) (hg : TgW X (own.map (·.2)) tg scope gw)
    (ht : ∀ (s : Shared) (H : Hp) (C : Addr) (cl : List (Str × Addr)) (fp : List Addr), PTsw (X.blk s H scope (compEnvC scope cl C X.env) fp) ifs tt) (he : ∀ (s : Shared) (H : Hp) (C : Addr) (cl : List (Str × Addr)) (fp : List Addr), PEw (X.blk s H scope (compEnvC scope cl C X.env) fp) elt te)
    (hs : ∀ x, foldedSetIterable iter X.env x = pure x := by intro _; rfl) : PSw X (.Assign [.Name y py] (.ListComp elt [⟨tg, iter, ifs, 0⟩] scope pos) spos) (wAsg (wLc (own.map (·.2)) ti gw tt te) (gN j)) := by
  obtain ⟨g, pg, sg⟩ := hg.ex
  exact PS.imp (ps_setLc (tt := liftT X.K tt) (te := liftE X.K te) hc hN hy hyl hsw hi ok pg ht he hs) fun _ _ _ h => lsetLc (fun _ _ _ h => llc (fin := fun us G Q => Q (.lst us) G) sg lc_frz h) h
theorem qsetLcM (hc : X.calm = true) (hN : X.N.Nodup) (hy : X.N[j]? = some y) (hyl : X.env.scope.names.lookup y = some .local) (hsw : swapsWith (.ListComp elt [⟨tg, iter, ifs, 0⟩] scope pos) (some (.Name y py)) spos.line X.env = pure true) (hi : PIw X tg iter ti) (ok : BlkOk X.N X.env.scope scope own) (hg : TgW X (own.map (·.2)) tg scope gw)
    (ht : ∀ (s : Shared) (H : Hp) (C : Addr) (cl : List (Str × Addr)) (fp : List Addr), PTsw (X.blk s H scope (compEnvC scope cl C X.env) fp) ifs tt) (he : ∀ (s : Shared) (H : Hp) (C : Addr) (cl : List (Str × Addr)) (fp : List Addr), PEw (X.blk s H scope (compEnvC scope cl C X.env) fp) elt te)
    (hs : ∀ x, foldedSetIterable iter X.env x = pure x := by intro _; rfl) : PSw X (.Assign [.Name y py] (.ListComp elt [⟨tg, iter, ifs, 0⟩] scope pos) spos) (wAsg (wLcM (own.map (·.2)) ti gw tt te) (gN j)) := by
  obtain ⟨g, pg, sg⟩ := hg.ex
  exact PS.imp (ps_setLc (tt := liftT X.K tt) (te := liftE X.K te) hc hN hy hyl hsw hi ok pg ht he hs) fun _ _ _ h => lsetLc (fun _ _ _ h => llc (fin := fun us G Q => ∀ p, G p = none → Q (.ref p) (gup G p (.lst us))) sg lc_mut h) h
end
/-! ### a comprehension whose parts are plain -/
theorem lcW_map {g : TGw} {te : TEw} {σ : SW} {G : Gp} (f : W → W) : ∀ (ws acc : List W) (Q : List W → Gp → Prop), (∀ w ∈ ws, ∀ P : QW, P (f w) G → g w σ G fun σ1 G1 => te σ1 G1 P) → Q (acc ++ ws.map f) G → lcW g wYes te σ ws acc G Q
  | [], acc, Q, _, q => by simpa [lcW] using q
  | w :: ws, acc, Q, h, q => by
    have h1 := h w (.head _) (fun y G3 => lcW g wYes te σ ws (acc ++ [y]) G3 Q) (lcW_map f ws (acc ++ [f w]) Q (fun w' hw => h w' (.tail _ hw)) (by simpa using q))
    simpa only [lcW, wYes, if_true] using h1
theorem lcW_filter {g : TGw} {tt : TTw} {te : TEw} {σ : SW} {G : Gp} (c : W → Bool) (f : W → W) : ∀ (ws acc : List W) (Q : List W → Gp → Prop),
    (∀ w ∈ ws, ∀ (R : QW) (P : Gp → Prop), (c w = true → R (f w) G) → (c w = false → P G) → g w σ G fun σ1 G1 => tt σ1 G1 fun b G2 => if b = true then te σ1 G2 R else P G2) → Q (acc ++ (ws.filter c).map f) G → lcW g tt te σ ws acc G Q
  | [], acc, Q, _, q => by simpa [lcW] using q
  | w :: ws, acc, Q, h, q => by
    have rest : ∀ acc', Q (acc' ++ (ws.filter c).map f) G → lcW g tt te σ ws acc' G Q := fun acc' q' => lcW_filter c f ws acc' Q (fun w' hw => h w' (.tail _ hw)) q'
    exact h w (.head _) (fun y G3 => lcW g tt te σ ws (acc ++ [y]) G3 Q) (fun G2 => lcW g tt te σ ws acc G2 Q) (fun e => rest _ (by simpa [List.filter_cons, e] using q)) (fun e => rest _ (by simpa [List.filter_cons, e] using q))
end WL
namespace WL
open PySem PySem.Spec PyProof.Rows L2 RZ
/-! ### methods of lists, by their names -/
section
variable {X : Cx} {K : PySem.W.Frag} {o e : Expr} {es : List Expr} {to : TEw} {t : TAw} {cpos apos : Pos}
theorem qbm0 {nm : Str} {id : String} {r : V → List V → Hp → VK → Prop} {wr : RWM} (slot : Slot "list" nm id) (hty : typeOf (.builtin id) = pure (.type "method_descriptor")) (hm : MtR X id r) (hs : SimM X.K r wr) (ho : PEw X o to)
    (hbase : attributeBase o nm X.env (eval o X.env) = eval o X.env := by rfl) (hline : (apos.endLine == cpos.line) = true := by rfl) :
    PEw X (.Call (.Attribute o nm apos) [] [] cpos) (wBM0 wr to) := PE.imp (pe_bm0 PySem.F.plainAttrs_list slot hty hm ho hbase hline) fun _ _ _ h => lbm0 hs h
def wPopAt : RWM := fun o ws G Q => match o, ws with
  | .ref p, [.int i] => isG (G p) fun us => -(2 ^ 63) ≤ i ∧ i < 2 ^ 63 ∧ isS (ixN us.length i) fun j => isS us[j]? fun w => Q w (gup G p (.lst (us.eraseIdx j)))
  | _, _ => False
theorem RwL.eraseIdx {K : PySem.W.Frag} {Z : Zp} {H : Hp} : ∀ {ws : List W} {vs : List V} (j : Nat), RwL K Z H ws vs → RwL K Z H (ws.eraseIdx j) (vs.eraseIdx j)
  | _, _, _, .nil => .nil
  | _, _, 0, .cons r rs => rs
  | _, _, j + 1, .cons r rs => .cons r (RwL.eraseIdx j rs)
theorem sim_popAt : SimM K rPopAt wPopAt := by
  intro Z G H x v ws vs Qw Q h rx rs t k
  cases rx with
  | @ref p =>
    cases rs with
    | nil => exact False.elim t
    | cons r1 rs =>
      cases r1 with
      | @int i =>
        cases rs with
        | cons _ _ => exact False.elim t
        | nil =>
          obtain ⟨us, g, h1, h2, t⟩ := isG_ex t
          obtain ⟨j, ej, t⟩ := isS_ex t
          obtain ⟨w, ew, q⟩ := isS_ex t
          obtain ⟨xs, s, r⟩ := h.lst g
          obtain ⟨y, ey, ry⟩ := r.get _ ew
          obtain ⟨h3, x3⟩ := chg_lst h g (r.eraseIdx j)
          refine ⟨p, xs, i, j, y, rfl, rfl, s, h1, h2, ?_, ey, k _ _ _ _ _ x3 h3 (ry.ext h x3) q⟩
          rw [← r.length]
          exact (ixN_seq ej).1
      | _ => exact False.elim t
  | _ => exact False.elim t
def wInsert : RWM := fun o ws G Q => match o, ws with
  | .ref p, [.int i, w] => isG (G p) fun us => us.length < sizeLine ∧ 0 ≤ i ∧ i < 2 ^ 63 ∧ Q .non (gup G p (.lst (us.take i.toNat ++ [w] ++ us.drop i.toNat)))
  | _, _ => False
theorem sim_insert : SimM K (fun x vs H Q => ∃ (l : Addr) (xs : List V) (i : Int) (y : V), x = .ref l ∧ vs = [.int i, y] ∧ H l = some (.lst xs) ∧ xs.length < sizeLine ∧ 0 ≤ i ∧ i < 2 ^ 63 ∧
    Q .non (upd H l (.lst (xs.take i.toNat ++ [y] ++ xs.drop i.toNat)))) wInsert := by
  intro Z G H x v ws vs Qw Q h rx rs t k
  cases rx with
  | @ref p =>
    cases rs with
    | nil => exact False.elim t
    | cons r1 rs =>
      cases r1 with
      | @int i =>
        cases rs with
        | nil => exact False.elim t
        | cons r2 rs =>
          cases rs with
          | cons _ _ => exact False.elim t
          | nil =>
            obtain ⟨us, g, l, h1, h2, q⟩ := isG_ex t
            obtain ⟨xs, s, r⟩ := h.lst g
            obtain ⟨h3, x3⟩ := chg_lst h g (((r.take i.toNat).append (.cons r2 .nil)).append (r.drop i.toNat))
            exact ⟨p, xs, i, _, rfl, rfl, s, by rw [← r.length]; exact l, h1, h2, k _ _ _ _ _ x3 h3 .non q⟩
      | _ => cases rs <;> exact False.elim t
  | _ => exact False.elim t
abbrev wM_append := wAppend
abbrev wM_extend := wExtend
abbrev wM_pop := wPop
abbrev wM_popAt := wPopAt
abbrev wM_insert := wInsert
section
variable (ho : PEw X o to) (ha : PAw X (e :: es) t)
    (hbase : ∀ nm, attributeBase o nm X.env (eval o X.env) = eval o X.env := by intro _; rfl)
    (hfew : ((backTo cpos (starEach (e :: es) X.env)).all (fun x => !x.1) && (backToKw cpos (keywordEach [] X.env)).all (fun x => x.1.isSome)
      && decide ((e :: es).length + ([] : List Keyword).length + (if ([] : List Keyword).isEmpty then 0 else 1) < 30)) = true := by rfl)
    (hline : (apos.endLine == cpos.line) = true := by rfl) (h1 : starEach (e :: es) X.env = (false, eval e X.env) :: starEach es X.env := by rfl) (h2 : (backTo cpos (starEach es X.env)).any (·.1) = false := by rfl)
include ho ha hbase hfew hline h1 h2
theorem qm_append : PEw X (.Call (.Attribute o "append" apos) (e :: es) [] cpos) (wBM wM_append to t) := qbm PySem.F.slot_list_append PySem.F.type_list_append mt_append sim_append ho ha (hbase _) hfew hline h1 h2
theorem qm_extend : PEw X (.Call (.Attribute o "extend" apos) (e :: es) [] cpos) (wBM wM_extend to t) := qbm PySem.F.slot_list_extend PySem.F.type_list_extend mt_extend sim_extend ho ha (hbase _) hfew hline h1 h2
theorem qm_popAt : PEw X (.Call (.Attribute o "pop" apos) (e :: es) [] cpos) (wBM wM_popAt to t) := qbm PySem.F.slot_list_pop PySem.F.type_list_pop mt_popAt sim_popAt ho ha (hbase _) hfew hline h1 h2
theorem qm_insert : PEw X (.Call (.Attribute o "insert" apos) (e :: es) [] cpos) (wBM wM_insert to t) := qbm PySem.F.slot_list_insert PySem.F.type_list_insert mt_insert sim_insert ho ha (hbase _) hfew hline h1 h2
end
theorem qm_pop (ho : PEw X o to) (hbase : attributeBase o "pop" X.env (eval o X.env) = eval o X.env := by rfl) (hline : (apos.endLine == cpos.line) = true := by rfl) : PEw X (.Call (.Attribute o "pop" apos) [] [] cpos) (wBM0 wM_pop to) :=
  qbm0 PySem.F.slot_list_pop PySem.F.type_list_pop mt_pop sim_pop ho hbase hline
end
theorem wPopAt_ref {p : Addr} {i : Int} {G : Gp} {Q : QW} : wPopAt (.ref p) [.int i] G Q = isG (G p) fun us => -(2 ^ 63) ≤ i ∧ i < 2 ^ 63 ∧ isS (ixN us.length i) fun j => isS us[j]? fun w => Q w (gup G p (.lst (us.eraseIdx j))) := rfl
theorem wInsert_ref {p : Addr} {i : Int} {w : W} {G : Gp} {Q : QW} : wInsert (.ref p) [.int i, w] G Q = isG (G p) fun us => us.length < sizeLine ∧ 0 ≤ i ∧ i < 2 ^ 63 ∧ Q .non (gup G p (.lst (us.take i.toNat ++ [w] ++ us.drop i.toNat))) := rfl
/-! ### a comprehension over a list that is still to be changed: it must stand at every turn -/
def lcR (p : Addr) (us : List W) (g : TGw) (tt : TTw) (te : TEw) (σ : SW) : List W → List W → Gp → (List W → Gp → Prop) → Prop
  | [], acc, G, Q => G p = some (.lst us) ∧ Q acc G
  | w :: ws, acc, G, Q => G p = some (.lst us) ∧ g w σ G fun σ1 G1 => tt σ1 G1 fun b G2 => if b = true then te σ1 G2 fun y G3 => lcR p us g tt te σ ws (acc ++ [y]) G3 Q else lcR p us g tt te σ ws acc G2 Q
def refR (w : W) (G : Gp) (R : Addr → List W → Gp → Prop) : Prop := match w with
  | .ref p => isG (G p) fun us => R p us G
  | _ => False
theorem refR_ref {p : Addr} {G : Gp} {R : Addr → List W → Gp → Prop} : refR (.ref p) G R = isG (G p) fun us => R p us G := rfl
def wLcR (vs : List Nat) (t0 : TEw) (g : TGw) (tt : TTw) (te : TEw) : TEw := fun σ G Q => t0 σ G fun w G1 => refR w G1 fun p us G1 => us.length ≤ sizeLine ∧ lcR p us g tt te (swipe σ vs) us [] G1 fun zs G2 => Q (.lst zs) G2
theorem lcR_map {p : Addr} {us : List W} {g : TGw} {te : TEw} {σ : SW} {G : Gp} (hp : G p = some (.lst us)) (f : W → W) : ∀ (ws acc : List W) (Q : List W → Gp → Prop), (∀ w ∈ ws, ∀ P : QW, P (f w) G → g w σ G fun σ1 G1 => te σ1 G1 P) → Q (acc ++ ws.map f) G → lcR p us g wYes te σ ws acc G Q
  | [], acc, Q, _, q => ⟨hp, by simpa using q⟩
  | w :: ws, acc, Q, h, q => by
    refine ⟨hp, ?_⟩
    have := h w (.head _) (fun y G3 => lcR p us g wYes te σ ws (acc ++ [y]) G3 Q) (lcR_map hp f ws _ Q (fun w' m => h w' (.tail _ m)) (by simpa using q))
    exact this
section
variable {K : PySem.W.Frag}
theorem walk_live {a : Addr} {n : Nat} : Walk (Itl K a) n (fun H => ∃ xs, SqL K H a xs ∧ xs.length = n) (fun i H x H' => H' = H ∧ ∀ xs, SqL K H a xs → xs[i]? = some x) :=
  ⟨fun i _ hi ⟨xs, q, e⟩ => ⟨xs, xs[i]'(by omega), q, by simp [e, hi]⟩, fun _ ⟨xs, q, e⟩ => ⟨xs, q, by omega⟩, fun _ _ _ _ _ q y => y⟩
theorem llcR {vs : List Nat} {t0 : TEw} {g : TG} {gw : TGw} {tt : TTw} {te : TEw} (sg : SimG K vs g gw) {σ : SV} {H : Hp} {Q : VK}
    (h : liftE K (wLcR vs t0 gw tt te) σ H Q) : tLc (iSeq K (liftE K t0)) g (liftT K tt) (liftE K te) vs σ H Q := by
  obtain ⟨Z, σ', G, Qw, e, hr, t, k⟩ := h
  refine ⟨Z, σ', G, _, e, hr, t, fun Z1 G1 H1 w v x1 h1 r1 t1 => ?_⟩
  cases r1 with
  | @ref p =>
    obtain ⟨ws, gp, hl, t1⟩ := isG_ex t1
    obtain ⟨vs0, s0, r0⟩ := h1.lst gp
    refine .inl ⟨p, rfl, ⟨_, SqL.of s0⟩, fun D hD => ?_⟩
    have x0 : Ext Z1 G1 H1 Z1 G1 (upd H1 D (.lst [])) := Ext.laid h1 hD
    have h0 := h1.laid (o := .lst []) hD
    refine lc_it (walk_live (K := K) (a := p) (n := ws.length)) (fun i H2 => ∃ Z2 G2 us xs, Ext Z1 G1 H1 Z2 G2 H2 ∧ HRel K Z2 G2 H2 ∧ H2 D = some (.lst xs) ∧ G2 D = none ∧ ¬ Z2 D ∧ RwL K Z2 H2 us xs ∧ us.length ≤ i ∧ lcR p ws gw tt te (swipe σ' vs) (ws.drop i) us G2 fun us G2 => Qw (.lst us) G2) ?_ ?_ ?_ ?_
    · exact ⟨Z1, G1, [], [], x0, h0, upd_same, h1.fresh hD, h1.freshZ hD, .nil, Nat.le_refl _, t1⟩
    · rintro i H2 _ ⟨Z2, G2, us, xs, x2, h2, _, _, _, _, _, t2⟩
      have g2 : G2 p = some (.lst ws) := by
        cases q : ws.drop i with
        | nil => rw [q] at t2; exact t2.1
        | cons _ _ => rw [q] at t2; exact t2.1
      obtain ⟨vs2, s2, r2⟩ := h2.lst g2
      exact ⟨vs2, SqL.of s2, r2.length.symm⟩
    · rintro i v H2 H3 hi ⟨Z2, G2, us, xs, x2, h2, eD, gD, zD, rus, lus, t2⟩ ⟨e3, y⟩
      subst e3
      have ed : ws.drop i = ws[i] :: ws.drop (i + 1) := List.drop_eq_getElem_cons hi
      rw [ed] at t2
      obtain ⟨g2, t2⟩ := t2
      obtain ⟨vs2, s2, r2⟩ := h2.lst g2
      obtain ⟨w, ew, rw'⟩ := r2.get' i (y _ (SqL.of s2))
      rw [List.getElem?_eq_getElem hi] at ew
      injection ew with ew
      have eσ : RwS K Z2 H3 (swipe σ' vs) (L2.wipe σ vs) := (e.ext hr (x1.trans x2)).wipe vs
      refine sg Z2 G2 H3 _ _ ws[i] v _ _ eσ h2 (by rw [ew]; exact rw') t2 fun τ' τ eτ sτ t3 => ⟨?_, ?_⟩
      · rw [sτ.wipe, wipe_wipe vs vs fun i hi => hi]
      refine ⟨Z2, τ', G2, _, eτ, h2, t3, fun Z4 G4 H4 b x4 h4 t4 => ?_⟩
      have eD4 := x4.f D _ eD gD
      have zD4 : ¬ Z4 D := fun z => zD (x4.n D (by rw [eD]; simp) gD z)
      have rus4 := rus.ext h2 x4
      cases b with
      | false => exact ⟨Z4, G4, us, xs, x2.trans x4, h4, eD4.1, eD4.2, zD4, rus4, by omega, t4⟩
      | true =>
        refine ⟨Z4, τ', G4, _, eτ.ext h2 x4, h4, t4, fun Z5 G5 H5 yw yv x5 h5 r5 t5 => ?_⟩
        have eD5 := x5.f D _ eD4.1 eD4.2
        have zD5 : ¬ Z5 D := fun z => zD4 (x5.n D (by rw [eD4.1]; simp) eD4.2 z)
        have rus5 := rus4.ext h4 x5
        have kp : Keep Z5 H5 Z5 (upd H5 D (.lst (xs ++ [yv]))) := Keep.hid eD5.1 zD5
        have xx := (x2.trans x4).trans x5
        refine ⟨xs, eD5.1, by rw [← rus.length]; omega, Z5, G5, us ++ [yw], xs ++ [yv], ⟨xx.z, fun p u e' g' => ?_, xx.n⟩, ⟨fun p z => ?_, fun p o g' => ?_⟩, upd_same, eD5.2, zD5, (rus5.append (.cons r5 .nil)).keep kp, by simp; omega, t5⟩
        · rw [upd_ne (ne_of_none e' hD)]; exact xx.f p u e' g'
        · have := h5.z p z
          rw [upd_ne (fun c => zD5 (by rw [← c]; exact z))]
          exact this
        · obtain ⟨u, e', r⟩ := h5.g p o g'
          have c : p ≠ D := fun c => by rw [c, eD5.2] at g'; cases g'
          exact ⟨u, by rw [upd_ne c]; exact e', r.keep kp⟩
    · rintro H2 ⟨Z2, G2, us, xs, x2, h2, eD, gD, zD, rus, lus, t2⟩
      rw [List.drop_length] at t2
      obtain ⟨_, t2⟩ := t2
      obtain ⟨Z3, G3, w, x3, h3, r3, q⟩ := lc_frz Z1 G1 H1 Z2 G2 H2 us xs D Qw hD x2 h2 rus eD gD zD t2
      exact k Z3 G3 H2 w _ (x1.trans x3) h3 r3 q
  | _ => exact False.elim t1
end
section
variable {X : Cx} {scope : Scope} {pos : Pos} {elt tg iter : Expr} {ifs : List Expr} {own : List (Str × Nat)} {t0 : TEw} {gw : TGw} {tt : TTw} {te : TEw}
theorem qlcR (hc : X.calm = true) (hN : X.N.Nodup) (hi : PEw X iter t0) (ok : BlkOk X.N X.env.scope scope own) (hg : TgW X (own.map (·.2)) tg scope gw)
    (ht : ∀ (s : Shared) (H : Hp) (C : Addr) (cl : List (Str × Addr)) (fp : List Addr), PTsw (X.blk s H scope (compEnvC scope cl C X.env) fp) ifs tt) (he : ∀ (s : Shared) (H : Hp) (C : Addr) (cl : List (Str × Addr)) (fp : List Addr), PEw (X.blk s H scope (compEnvC scope cl C X.env) fp) elt te)
    (hs : ∀ x, foldedSetIterable iter X.env x = pure x := by intro _; rfl) : PEw X (.ListComp elt [⟨tg, iter, ifs, 0⟩] scope pos) (wLcR (own.map (·.2)) t0 gw tt te) := by
  obtain ⟨g, pg, sg⟩ := hg.ex
  exact PE.imp (pe_lc (tt := liftT X.K tt) (te := liftE X.K te) hc hN (pi_seq hi) ok pg ht he hs) fun _ _ _ h => llcR sg h
end
/-! ### a loop over lists that are still to be changed: they must stand at every turn -/
def WalkP (K : PySem.W.Frag) (J : It) (I : Gp → Prop) (Z : Zp) (G : Gp) (H : Hp) (ws : List W) : Prop := ∃ (Gd : Hp → Prop) (Y : Nat → Hp → V → Hp → Prop), Walk J ws.length Gd Y ∧
  ∀ Z' G' H', Ext Z G H Z' G' H' → HRel K Z' G' H' → I G' → Gd H' ∧ ∀ i v H'', i < ws.length → Y i H' v H'' → ∃ w, ws[i]? = some w ∧ Rw K Z' H'' w v ∧ Ext Z' G' H' Z' G' H'' ∧ HRel K Z' G' H''
abbrev TIr := SW → Gp → (List W → (Gp → Prop) → Gp → Prop) → Prop
def liftIr (K : PySem.W.Frag) (t : TIr) : TI := fun σ H R => ∃ Z σ' G Rw', RwS K Z H σ' σ ∧ HRel K Z G H ∧ t σ' G Rw' ∧ ∀ Z' G' H' ws I J, Ext Z G H Z' G' H' → HRel K Z' G' H' → WalkP K J I Z' G' H' ws → Rw' ws I G' → R J H'
def PIr (X : Cx) (tg iter : Expr) (t : TIr) : Prop := PI X tg iter (liftIr X.K t)
def forR (I : Gp → Prop) (ks : List Bool) (g : TGw) (tb : TSw) : List W → TSw
  | [], D, σ, G => I G ∧ D.nx σ G
  | w :: ws, D, σ, G => I G ∧ g w σ G fun σ1 G1 => tb { nx := fun σ2 G2 => forR I ks g tb ws D (skill σ2 ks) G2, ct := fun σ2 G2 => forR I ks g tb ws D (skill σ2 ks) G2, bk := D.nx, rt := D.rt, ex := D.ex } σ1 G1
def wForR (ks : List Bool) (ti : TIr) (g : TGw) (tb : TSw) : TSw := fun D σ G => ti σ G fun ws I G1 => forR I ks g tb ws D (skill σ ks) G1
theorem forR_at {I : Gp → Prop} {ks : List Bool} {g : TGw} {tb : TSw} {ws : List W} {D : EndsW} {σ : SW} {G : Gp} (h : forR I ks g tb ws D σ G) : I G := by
  cases ws with
  | nil => exact h.1
  | cons _ _ => exact h.1
theorem forR_ix {I : Gp → Prop} {ks : List Bool} {g : TGw} {tb : TSw} {D : EndsW} (P : Nat → SW → Gp → Prop) (hI : ∀ i σ G, P i σ G → I G) : ∀ (items : List W) (k : Nat) (σ : SW) (G : Gp), P k σ G →
    (∀ i w, items[i]? = some w → ∀ σ G (N : SW → Gp → Prop), P (k + i) σ G → (∀ σ' G', P (k + i + 1) (skill σ' ks) G' → N σ' G') → g w σ G fun σ1 G1 => tb { nx := N, ct := N, bk := D.nx, rt := D.rt, ex := D.ex } σ1 G1) →
    (∀ σ G, P (k + items.length) σ G → D.nx σ G) → forR I ks g tb items D σ G
  | [], k, σ, G, p, _, hd => ⟨hI _ _ _ p, hd σ G p⟩
  | w :: ws, k, σ, G, p, hs, hd => ⟨hI _ _ _ p, hs 0 w rfl σ G _ p fun σ' G' p' => forR_ix P hI ws (k + 1) _ G' p' (fun i w' hw => by
      have h := hs (i + 1) w' hw
      rw [show k + (i + 1) = k + 1 + i by omega] at h
      exact h) (by
      have h := hd
      rw [show k + (w :: ws).length = k + 1 + ws.length by rw [List.length_cons]; omega] at h
      exact h)⟩
section
variable {X : Cx} {K : PySem.W.Frag} {pos : Pos}
theorem lforR {ks : List Bool} {ti : TIr} {g : TGw} {tb : TSw} {D : Ends} {σ : SV} {H : Hp} (h : liftS X (wForR ks ti g tb) D σ H) : tFor (liftIr X.K ti) (liftG X.K g) (liftS X tb) D σ H := by
  obtain ⟨Z, σ', G, Dw, e, hr, t, k⟩ := h
  refine ⟨Z, σ', G, _, e, hr, t, fun Z1 G1 H1 ws I J x1 h1 ⟨Gd, Y, wk, hY⟩ t1 => ?_⟩
  refine for_it wk (fun i σ2 H2 => ∃ Z2 σ2' G2, Ext Z1 G1 H1 Z2 G2 H2 ∧ HRel X.K Z2 G2 H2 ∧ RwS X.K Z2 H2 σ2' σ2 ∧ forR I ks g tb (ws.drop i) Dw σ2' G2) ?_ ?_ ?_ ?_
  · exact ⟨Z1, _, G1, Ext.refl, h1, (e.ext hr x1).kill ks, t1⟩
  · rintro i σ2 H2 _ ⟨Z2, σ2', G2, x2, h2, _, t2⟩
    exact (hY Z2 G2 H2 x2 h2 (forR_at t2)).1
  · rintro i v σ2 H2 H3 hi ⟨Z2, σ2', G2, x2, h2, e2, t2⟩ y
    obtain ⟨w, ew, rw', x3, h3⟩ := (hY Z2 G2 H2 x2 h2 (forR_at t2)).2 i v H3 hi y
    have ed : ws.drop i = w :: ws.drop (i + 1) := by
      obtain ⟨hl, e⟩ := List.getElem?_eq_some_iff.mp ew
      rw [← e]; exact List.drop_eq_getElem_cons hl
    rw [ed] at t2
    refine ⟨Z2, σ2', G2, w, _, e2.ext h2 x3, h3, rw', t2.2, fun Z4 G4 H4 s4 t4 x4 h4 e4 q4 => ?_⟩
    have x24 := (x2.trans x3).trans x4
    have xx := x1.trans x24
    exact ⟨Z4, s4, G4, _, e4, h4, q4, ⟨fun Z5 G5 H5 s5 t5 x5 h5 e5 q5 => ⟨Z5, _, G5, x24.trans x5, h5, e5.kill ks, q5⟩, k.rt.mono xx, k.nx.mono xx, fun Z5 G5 H5 s5 t5 x5 h5 e5 q5 => ⟨Z5, _, G5, x24.trans x5, h5, e5.kill ks, q5⟩, k.ex.mono xx⟩⟩
  · rintro σ2 H2 ⟨Z2, σ2', G2, x2, h2, e2, t2⟩
    rw [List.drop_length] at t2
    exact k.nx Z2 G2 H2 _ _ (x1.trans x2) h2 e2 t2.2
theorem qforR {ks : List Bool} {tg iter : Expr} {body : List Stmt} {ti : TIr} {g : TGw} {tb : TSw} (hp : PassesOwn (model X.prog X.w) X.A X.env X.xe) (hc : X.calm = true) (hi : PIr X tg iter ti) (hg : PGw X tg g) (hb : PSsw X body tb)
    (hs : ∀ x, foldedSetIterable iter X.env x = pure x := by intro _; rfl) : PSw X (.For tg iter body [] pos) (wForR ks ti g tb) := PS.imp (ps_for hp hc hi hg hb hs) fun _ _ _ h => lforR h
end
/-- what a live list must keep: itself -/
def pinOf (w : W) (us : List W) : Gp → Prop := match w with
  | .ref p => fun G => G p = some (.lst us)
  | _ => fun _ => True
theorem pin_at {K : PySem.W.Frag} {Z : Zp} {G : Gp} {H : Hp} (h : HRel K Z G H) {w : W} {v : V} {us : List W} (r : Rw K Z H w v) (e : asL G w = some us) :
    ∃ a, v = .ref a ∧ (∃ vs, SqL K H a vs) ∧ ∀ Z' G' H', Ext Z G H Z' G' H' → HRel K Z' G' H' → pinOf w us G' → ∃ vs, SqL K H' a vs ∧ RwL K Z' H' us vs := by
  cases r with
  | @ref p =>
    have g : G p = some (.lst us) := by
      simp only [asL] at e
      cases q : G p with
      | none => rw [q] at e; cases e
      | some o =>
        rw [q] at e
        cases o with
        | lst ws => simp only [Option.some.injEq] at e; rw [e]
        | _ => cases e
    obtain ⟨vs, s, r⟩ := h.lst g
    refine ⟨p, rfl, ⟨vs, SqL.of s⟩, fun Z' G' H' x h' g' => ?_⟩
    obtain ⟨vs', s', r'⟩ := h'.lst g'
    exact ⟨vs', SqL.of s', r'⟩
  | lst z s r =>
    injection e with e
    subst e
    refine ⟨_, rfl, ⟨_, SqL.of s⟩, fun Z' G' H' x h' _ => ⟨_, SqL.of (x.f _ _ s (h.z _ z).1).1, r.ext h x⟩⟩
  | scr s r =>
    injection e with e
    subst e
    exact ⟨_, rfl, ⟨_, s.sq⟩, fun Z' G' H' x h' _ => ⟨_, (s.ext h x).sq, r.ext h x⟩⟩
  | _ => cases e
def iSeqR (te : TEw) : TIr := fun σ G R => te σ G fun w G1 => isS (asL G1 w) fun us => R us (pinOf w us) G1
theorem qiseqR {X : Cx} {tg l : Expr} {te : TEw} (hl : PEw X l te) : PIr X tg l (iSeqR te) := PI.imp (pi_seq hl) fun σ H R h => by
  obtain ⟨Z, σ', G, Qw, e, hr, t, k⟩ := h
  refine ⟨Z, σ', G, _, e, hr, t, fun Z1 G1 H1 w v x1 h1 r1 t1 => ?_⟩
  obtain ⟨us, eu, t1⟩ := isS_ex t1
  obtain ⟨a, rfl, s, pin⟩ := pin_at h1 r1 eu
  refine .inl ⟨a, rfl, s, k Z1 G1 H1 us _ _ x1 h1 ⟨_, _, walk_live (K := X.K) (a := a) (n := us.length), fun Z' G' H' x h' i' => ?_⟩ t1⟩
  obtain ⟨vs, s', r'⟩ := pin Z' G' H' x h' i'
  refine ⟨⟨vs, s', r'.length.symm⟩, fun i v H'' hi y => ?_⟩
  obtain ⟨rfl, y⟩ := y
  obtain ⟨w, ew, rw'⟩ := r'.get' i (y vs s')
  exact ⟨w, ew, rw', Ext.refl, h'⟩
theorem walk_zip_live {K : PySem.W.Frag} {a b : Addr} {n m : Nat} : Walk (Itz K a b) (min n m) (fun H => (∃ xs, SqL K H a xs ∧ xs.length = n) ∧ ∃ ys, SqL K H b ys ∧ ys.length = m)
    (fun i H v H' => ∃ T x y, v = .ref T ∧ H T = none ∧ H' = upd H T (.tup [x, y]) ∧ (∀ xs, SqL K H a xs → xs[i]? = some x) ∧ ∀ ys, SqL K H b ys → ys[i]? = some y) := by
  refine ⟨fun i H hi q => ?_, fun H q => ?_, fun i H v H' hi q y => ?_⟩
  · obtain ⟨⟨xs, q1, l1⟩, ys, q2, l2⟩ := q
    have h1 : i < xs.length := by omega
    have h2 : i < ys.length := by omega
    exact ⟨xs, ys, _, _, q1, q2, List.getElem?_eq_getElem h1, List.getElem?_eq_getElem h2⟩
  · obtain ⟨⟨xs, q1, l1⟩, ys, q2, l2⟩ := q
    exact ⟨xs, ys, q1, q2, by omega⟩
  · obtain ⟨T, x, z, e1, e2, e3, f1, f2⟩ := y
    exact ⟨T, x, z, e1, e2, e3, f1, f2⟩
def zipR (ws : List W) (G : Gp) (R : List W → (Gp → Prop) → Gp → Prop) : Prop := match ws with
  | [a, b] => isS (asL G a) fun xs => isS (asL G b) fun ys => R (xs.zipWith tup2 ys) (fun G => pinOf a xs G ∧ pinOf b ys G) G
  | _ => False
def i_zip2R (ta : TAw) : TIr := fun σ G R => ta σ G fun ws G1 => zipR ws G1 R
theorem qizip2R {X : Cx} {ta : TAw} {p pos tpos : Pos} {elts : List Expr} {kk : Nat} {e e2 : Expr} (hg : Gl X "zip") (hm : X.mg "zip" = none) (ha : PAw X [e, e2] ta)
    (hs : starEach [e, e2] X.env = (false, eval e X.env) :: starEach [e2] X.env := by rfl) (hpl : (backTo pos (starEach [e2] X.env)).any (·.1) = false := by rfl) :
    PIr X (.Tuple elts kk tpos) (.Call (.Name "zip" p) [e, e2] [] pos) (i_zip2R ta) := PI.imp (pi_zipA hg hm ha hs hpl) fun σ H R h => by
  obtain ⟨Z, σ', G, Qw, ev, hr, t, k⟩ := h
  refine ⟨Z, σ', G, _, ev, hr, t, fun Z1 G1 H1 ws vs x1 h1 r1 t1 => ?_⟩
  cases r1 with
  | nil => exact False.elim t1
  | cons ra rr =>
    cases rr with
    | nil => exact False.elim t1
    | cons rb rr =>
      cases rr with
      | cons _ _ => exact False.elim t1
      | nil =>
        obtain ⟨xs, ex, t1⟩ := isS_ex t1
        obtain ⟨ys, ey, t1⟩ := isS_ex t1
        obtain ⟨a, rfl, ⟨_, sa⟩, pa⟩ := pin_at h1 ra ex
        obtain ⟨b, rfl, ⟨_, sb⟩, pb⟩ := pin_at h1 rb ey
        refine ⟨_, _, _, _, rfl, .inl ⟨sa, sb, k Z1 G1 H1 _ _ _ x1 h1 ⟨_, _, by rw [List.length_zipWith]; exact walk_zip_live (K := X.K) (a := a) (b := b), fun Z' G' H' x h' i' => ?_⟩ t1⟩⟩
        obtain ⟨va, sa', ra'⟩ := pa Z' G' H' x h' i'.1
        obtain ⟨vb, sb', rb'⟩ := pb Z' G' H' x h' i'.2
        refine ⟨⟨⟨va, sa', ra'.length.symm⟩, vb, sb', rb'.length.symm⟩, fun i v H'' hi y => ?_⟩
        obtain ⟨T, u1, u2, rfl, nT, rfl, f1, f2⟩ := y
        obtain ⟨w, ew, rw'⟩ := ra'.get' i (f1 va sa')
        obtain ⟨u, eu, ru⟩ := rb'.get' i (f2 vb sb')
        obtain ⟨h2, x2, r3⟩ := new_tup h' nT (.cons rw' (.cons ru .nil))
        exact ⟨tup2 w u, by rw [List.getElem?_zipWith, ew, eu], r3, x2, h2⟩
/-! ### a slot's list, from here on unchanged -/
def wFz (i : Nat) (t : TSw) : TSw := fun D σ G => isS (slot σ i) fun w => match w with
  | .ref p => isG (G p) fun ws => t D (sset σ i (.lst ws)) (gdel G p)
  | _ => t D σ G
theorem qfz {X : Cx} {st : Stmt} {t : TSw} (i : Nat) (h : PSw X st t) : PSw X st (wFz i t) := PS.imp h fun D σ H h => by
  obtain ⟨Z, σ', G, Dw, e, hr, t1, k⟩ := h
  obtain ⟨w, ew, t1⟩ := isS_ex t1
  cases w with
  | ref p =>
    obtain ⟨ws, g, t1⟩ := isG_ex t1
    obtain ⟨v, ev, rv⟩ := e.get i ew
    cases rv
    obtain ⟨vs, s, r⟩ := hr.lst g
    obtain ⟨h2, x2⟩ := hr.freeze (p := p) (by rw [g]; simp)
    have e2 := (e.ext hr x2).set (w := .lst ws) (v := .ref p) (.lst (.inr rfl) s (r.ext hr x2)) i
    have es : σ.set i (some (V.ref p)) = σ := by
      obtain ⟨hl, ee⟩ := List.getElem?_eq_some_iff.mp ev
      rw [← ee]
      exact List.set_getElem_self hl
    rw [es] at e2
    exact ⟨_, _, _, Dw, e2, h2, t1, k.mono x2⟩
  | _ => exact ⟨Z, σ', G, Dw, e, hr, t1, k⟩
/-- a list's own lists, from here on unchanged -/
def fzL : List W → Gp → (List W → Gp → Prop) → Prop
  | [], G, R => R [] G
  | .ref p :: ws, G, R => isG (G p) fun us => fzL ws (gdel G p) fun zs G' => R (.lst us :: zs) G'
  | w :: ws, G, R => fzL ws G fun zs G' => R (w :: zs) G'
theorem fzL_ex {K : PySem.W.Frag} : ∀ {ws : List W} {vs : List V} {Z : Zp} {G : Gp} {H : Hp} {R : List W → Gp → Prop}, HRel K Z G H → RwL K Z H ws vs → fzL ws G R →
    ∃ Z' G' zs, HRel K Z' G' H ∧ Ext Z G H Z' G' H ∧ RwL K Z' H zs vs ∧ R zs G'
  | [], _, Z, G, H, R, h, .nil, t => ⟨Z, G, [], h, Ext.refl, .nil, t⟩
  | w :: ws, _, Z, G, H, R, h, .cons r rr, t => by
    have gen : (fzL ws G fun zs G' => R (w :: zs) G') → ∃ Z' G' zs, HRel K Z' G' H ∧ Ext Z G H Z' G' H ∧ RwL K Z' H zs (_ :: _) ∧ R zs G' := fun t => by
      obtain ⟨Z', G', zs, h', x, r', t'⟩ := fzL_ex h rr t
      exact ⟨Z', G', w :: zs, h', x, .cons (r.ext h x) r', t'⟩
    cases r with
    | @ref p =>
      obtain ⟨us, g, t⟩ := isG_ex t
      obtain ⟨vs, s, rv⟩ := h.lst g
      obtain ⟨h2, x2⟩ := h.freeze (p := p) (by rw [g]; simp)
      obtain ⟨Z', G', zs, h', x, r', t'⟩ := fzL_ex h2 (rr.ext h x2) t
      exact ⟨Z', G', .lst us :: zs, h', x2.trans x, .cons ((Rw.lst (.inr rfl) s (rv.ext h x2)).ext h2 x) r', t'⟩
    | non => exact gen t
    | bl => exact gen t
    | int => exact gen t
    | str => exact gen t
    | tup s r => exact gen t
    | lst z e r => exact gen t
    | scr s r => exact gen t
    | ty => exact gen t
    | ins c z e r => exact gen t
    | dic z e r => exact gen t
    | exc0 => exact gen t
    | dcn _ _ _ _ _ _ _ => exact gen t
    | excF z e r => exact gen t
def wFzN (i : Nat) (t : TSw) : TSw := fun D σ G => isS (slot σ i) fun w => match w with
  | .lst ws => fzL ws G fun zs G' => t D (sset σ i (.lst zs)) G'
  | _ => t D σ G
theorem qfzN {X : Cx} {st : Stmt} {t : TSw} (i : Nat) (h : PSw X st t) : PSw X st (wFzN i t) := PS.imp h fun D σ H h => by
  obtain ⟨Z, σ', G, Dw, e, hr, t1, k⟩ := h
  obtain ⟨w, ew, t1⟩ := isS_ex t1
  cases w with
  | lst ws =>
    obtain ⟨v, ev, rv⟩ := e.get i ew
    cases rv with
    | @lst p _ vs z s r =>
      obtain ⟨Z', G', zs, h', x, r', t'⟩ := fzL_ex hr r t1
      have e2 := (e.ext hr x).set (w := .lst zs) (v := .ref p) (.lst (x.z p z) s r') i
      have es : σ.set i (some (V.ref p)) = σ := by
        obtain ⟨hl, ee⟩ := List.getElem?_eq_some_iff.mp ev
        rw [← ee]
        exact List.set_getElem_self hl
      rw [es] at e2
      exact ⟨_, _, _, Dw, e2, h', t', k.mono x⟩
  | _ => exact ⟨Z, σ', G, Dw, e, hr, t1, k⟩
/-! ### list(range(n)) -/
def rgO (w : W) (G : Gp) (Q : List W → Gp → Prop) : Prop := match w with
  | .int n => RgOk 0 n ∧ Q (rangeW 0 n.toNat) G
  | _ => False
theorem rgO_int {n : Int} {G : Gp} {Q : List W → Gp → Prop} : rgO (.int n) G Q = (RgOk 0 n ∧ Q (rangeW 0 n.toNat) G) := rfl
def wLstRg (te : TEw) : TEw := fun σ G Q => te σ G fun w G1 => rgO w G1 fun us G2 => Q (.lst us) G2
def wLstRgM (te : TEw) : TEw := fun σ G Q => te σ G fun w G1 => rgO w G1 fun us G2 => ∀ p, G2 p = none → Q (.ref p) (gup G2 p (.lst us))
theorem RwL.range {K : PySem.W.Frag} {Z : Zp} {H : Hp} {n : Int} : RwL K Z H (rangeW 0 n.toNat) (rgV 0 n) := by
  unfold rangeW rgV
  rw [Int.sub_zero]
  generalize List.range n.toNat = xs
  induction xs with
  | nil => exact .nil
  | cons x xs ih => exact .cons .int ih
section
variable {X : Cx} {K : PySem.W.Frag} {e : Expr} {te : TEw} {p p2 pos pos2 : Pos}
theorem qlstRg (hc : X.calm = true) (hg : Gl X "list") (hm : X.mg "list" = none) (hg2 : Gl X "range") (hm2 : X.mg "range" = none) (he : PEw X e te) (na : starEach [e] X.env = (false, eval e X.env) :: starEach [] X.env := by rfl)
    (nb : starEach [.Call (.Name "range" p2) [e] [] pos2] X.env = (false, eval (.Call (.Name "range" p2) [e] [] pos2) X.env) :: starEach [] X.env := by rfl) : PEw X (.Call (.Name "list" p) [.Call (.Name "range" p2) [e] [] pos2] [] pos) (wLstRg te) :=
  PE.imp (pe_listRg hc hg hm (prg_1 hg2 hm2 he na) nb) fun σ H Q h => by
    obtain ⟨Z, σ', G, Qw, ev, hr, t, k⟩ := h
    refine ⟨Z, σ', G, _, ev, hr, t, fun Z1 G1 H1 w v x1 h1 r1 t1 => ?_⟩
    cases r1 with
    | int =>
      refine ⟨_, rfl, t1.1, fun q n => ?_⟩
      obtain ⟨h2, x2, r2⟩ := new_frz h1 n RwL.range
      exact k _ _ _ _ _ (x1.trans x2) h2 r2 t1.2
    | _ => exact False.elim t1
theorem qlstRgM (hc : X.calm = true) (hg : Gl X "list") (hm : X.mg "list" = none) (hg2 : Gl X "range") (hm2 : X.mg "range" = none) (he : PEw X e te) (na : starEach [e] X.env = (false, eval e X.env) :: starEach [] X.env := by rfl)
    (nb : starEach [.Call (.Name "range" p2) [e] [] pos2] X.env = (false, eval (.Call (.Name "range" p2) [e] [] pos2) X.env) :: starEach [] X.env := by rfl) : PEw X (.Call (.Name "list" p) [.Call (.Name "range" p2) [e] [] pos2] [] pos) (wLstRgM te) :=
  PE.imp (pe_listRg hc hg hm (prg_1 hg2 hm2 he na) nb) fun σ H Q h => by
    obtain ⟨Z, σ', G, Qw, ev, hr, t, k⟩ := h
    refine ⟨Z, σ', G, _, ev, hr, t, fun Z1 G1 H1 w v x1 h1 r1 t1 => ?_⟩
    cases r1 with
    | int =>
      refine ⟨_, rfl, t1.1, fun q n => ?_⟩
      obtain ⟨g, h2, x2⟩ := new_lst h1 n RwL.range
      exact k _ _ _ _ _ (x1.trans x2) h2 .ref (t1.2 q g)
    | _ => exact False.elim t1
end
theorem wTuple_ref {p : Addr} {G : Gp} {Q : QW} : wTuple [.ref p] G Q = isS (asL G (.ref p)) fun us => Q (.tup us) G := rfl
/-! ### is True, reverse -/
def wIsB : RW2 := fun x y G Q => match x, y with
  | .bl a, .bl b => Q (.bl (decide (a = b))) G
  | _, _ => False
theorem wIsB_bl {a b : Bool} {G : Gp} {Q : QW} : wIsB (.bl a) (.bl b) G Q = Q (.bl (decide (a = b))) G := rfl
theorem sim_isB {K : PySem.W.Frag} : Sim2 K rIsB wIsB := by
  intro Z G H x y v u Qw Q h rx ry t k
  cases rx with
  | bl =>
    cases ry with
    | bl => exact ⟨_, _, rfl, rfl, k.at h .bl t⟩
    | _ => exact False.elim t
  | _ => cases ry <;> exact False.elim t
section
variable {X : Cx} {K : PySem.W.Frag} {a b o : Expr} {ta tb to : TEw} {pos apos cpos : Pos}
theorem qisB (ha : PEw X a ta) (hb : PEw X b tb) : PEw X (.Compare a [.Is] [b] pos) (wOp wIsB ta tb) := qcmp op_isBl sim_isB ha hb (nomark _)
theorem qtisB (ha : PEw X a ta) (hb : PEw X b tb) : PTw X (.Compare a [.Is] [b] pos) (wTest (wOp wIsB ta tb)) := qtcmp op_isBl sim_isB ha hb (nomark _)
def wReverse : RWM := fun o ws G Q => match o, ws with
  | .ref p, [] => isG (G p) fun us => Q .non (gup G p (.lst us.reverse))
  | _, _ => False
theorem wReverse_ref {p : Addr} {G : Gp} {Q : QW} : wReverse (.ref p) [] G Q = isG (G p) fun us => Q .non (gup G p (.lst us.reverse)) := rfl
abbrev wM_reverse := wReverse
theorem sim_reverse : SimM K rReverse wReverse := by
  intro Z G H x v ws vs Qw Q h rx rs t k
  cases rx with
  | @ref p =>
    cases rs with
    | cons _ _ => exact False.elim t
    | nil =>
      obtain ⟨us, g, q⟩ := isG_ex t
      obtain ⟨xs, s, r⟩ := h.lst g
      obtain ⟨h2, x2⟩ := chg_lst h g r.reverse
      exact ⟨p, xs, rfl, rfl, s, k _ _ _ _ _ x2 h2 .non q⟩
  | _ => exact False.elim t
theorem qm_reverse (ho : PEw X o to) (hbase : attributeBase o "reverse" X.env (eval o X.env) = eval o X.env := by rfl) (hline : (apos.endLine == cpos.line) = true := by rfl) : PEw X (.Call (.Attribute o "reverse" apos) [] [] cpos) (wBM0 wM_reverse to) :=
  qbm0 PySem.F.slot_list_reverse PySem.F.type_list_reverse mt_reverse sim_reverse ho hbase hline
end
/-! ### a comprehension over a list, still to be changed or not: it must stand at every turn -/
def lcP (I : Gp → Prop) (g : TGw) (tt : TTw) (te : TEw) (σ : SW) : List W → List W → Gp → (List W → Gp → Prop) → Prop
  | [], acc, G, Q => I G ∧ Q acc G
  | w :: ws, acc, G, Q => I G ∧ g w σ G fun σ1 G1 => tt σ1 G1 fun b G2 => if b = true then te σ1 G2 fun y G3 => lcP I g tt te σ ws (acc ++ [y]) G3 Q else lcP I g tt te σ ws acc G2 Q
def wLcP (vs : List Nat) (t0 : TEw) (g : TGw) (tt : TTw) (te : TEw) : TEw := fun σ G Q => t0 σ G fun w G1 => isS (asL G1 w) fun us => us.length ≤ sizeLine ∧ lcP (pinOf w us) g tt te (swipe σ vs) us [] G1 fun zs G2 => Q (.lst zs) G2
theorem lcP_at {I : Gp → Prop} {g : TGw} {tt : TTw} {te : TEw} {σ : SW} {ws acc : List W} {G : Gp} {Q : List W → Gp → Prop} (h : lcP I g tt te σ ws acc G Q) : I G := by
  cases ws with
  | nil => exact h.1
  | cons _ _ => exact h.1
section
variable {K : PySem.W.Frag}
theorem llcP {vs : List Nat} {t0 : TEw} {g : TG} {gw : TGw} {tt : TTw} {te : TEw} (sg : SimG K vs g gw) {σ : SV} {H : Hp} {Q : VK}
    (h : liftE K (wLcP vs t0 gw tt te) σ H Q) : tLc (iSeq K (liftE K t0)) g (liftT K tt) (liftE K te) vs σ H Q := by
  obtain ⟨Z, σ', G, Qw, e, hr, t, k⟩ := h
  refine ⟨Z, σ', G, _, e, hr, t, fun Z1 G1 H1 w v x1 h1 r1 t1 => ?_⟩
  obtain ⟨ws, ew0, hl, t1⟩ := isS_ex t1
  obtain ⟨p, rfl, s0, pin⟩ := pin_at h1 r1 ew0
  generalize pinOf w ws = I at t1 pin
  refine .inl ⟨p, rfl, s0, fun D hD => ?_⟩
  have x0 : Ext Z1 G1 H1 Z1 G1 (upd H1 D (.lst [])) := Ext.laid h1 hD
  have h0 := h1.laid (o := .lst []) hD
  refine lc_it (walk_live (K := K) (a := p) (n := ws.length)) (fun i H2 => ∃ Z2 G2 us xs, Ext Z1 G1 H1 Z2 G2 H2 ∧ HRel K Z2 G2 H2 ∧ H2 D = some (.lst xs) ∧ G2 D = none ∧ ¬ Z2 D ∧ RwL K Z2 H2 us xs ∧ us.length ≤ i ∧ lcP I gw tt te (swipe σ' vs) (ws.drop i) us G2 fun us G2 => Qw (.lst us) G2) ?_ ?_ ?_ ?_
  · exact ⟨Z1, G1, [], [], x0, h0, upd_same, h1.fresh hD, h1.freshZ hD, .nil, Nat.le_refl _, t1⟩
  · rintro i H2 _ ⟨Z2, G2, us, xs, x2, h2, _, _, _, _, _, t2⟩
    obtain ⟨vs2, s2, r2⟩ := pin Z2 G2 H2 x2 h2 (lcP_at t2)
    exact ⟨vs2, s2, r2.length.symm⟩
  · rintro i v H2 H3 hi ⟨Z2, G2, us, xs, x2, h2, eD, gD, zD, rus, lus, t2⟩ ⟨e3, y⟩
    subst e3
    obtain ⟨vs2, s2, r2⟩ := pin Z2 G2 H3 x2 h2 (lcP_at t2)
    have ed : ws.drop i = ws[i] :: ws.drop (i + 1) := List.drop_eq_getElem_cons hi
    rw [ed] at t2
    obtain ⟨g2, t2⟩ := t2
    obtain ⟨w, ew, rw'⟩ := r2.get' i (y _ s2)
    rw [List.getElem?_eq_getElem hi] at ew
    injection ew with ew
    have eσ : RwS K Z2 H3 (swipe σ' vs) (L2.wipe σ vs) := (e.ext hr (x1.trans x2)).wipe vs
    refine sg Z2 G2 H3 _ _ ws[i] v _ _ eσ h2 (by rw [ew]; exact rw') t2 fun τ' τ eτ sτ t3 => ⟨?_, ?_⟩
    · rw [sτ.wipe, wipe_wipe vs vs fun i hi => hi]
    refine ⟨Z2, τ', G2, _, eτ, h2, t3, fun Z4 G4 H4 b x4 h4 t4 => ?_⟩
    have eD4 := x4.f D _ eD gD
    have zD4 : ¬ Z4 D := fun z => zD (x4.n D (by rw [eD]; simp) gD z)
    have rus4 := rus.ext h2 x4
    cases b with
    | false => exact ⟨Z4, G4, us, xs, x2.trans x4, h4, eD4.1, eD4.2, zD4, rus4, by omega, t4⟩
    | true =>
      refine ⟨Z4, τ', G4, _, eτ.ext h2 x4, h4, t4, fun Z5 G5 H5 yw yv x5 h5 r5 t5 => ?_⟩
      have eD5 := x5.f D _ eD4.1 eD4.2
      have zD5 : ¬ Z5 D := fun z => zD4 (x5.n D (by rw [eD4.1]; simp) eD4.2 z)
      have rus5 := rus4.ext h4 x5
      have kp : Keep Z5 H5 Z5 (upd H5 D (.lst (xs ++ [yv]))) := Keep.hid eD5.1 zD5
      have xx := (x2.trans x4).trans x5
      refine ⟨xs, eD5.1, by rw [← rus.length]; omega, Z5, G5, us ++ [yw], xs ++ [yv], ⟨xx.z, fun p u e' g' => ?_, xx.n⟩, ⟨fun p z => ?_, fun p o g' => ?_⟩, upd_same, eD5.2, zD5, (rus5.append (.cons r5 .nil)).keep kp, by simp; omega, t5⟩
      · rw [upd_ne (ne_of_none e' hD)]; exact xx.f p u e' g'
      · have := h5.z p z
        rw [upd_ne (fun c => zD5 (by rw [← c]; exact z))]
        exact this
      · obtain ⟨u, e', r⟩ := h5.g p o g'
        have c : p ≠ D := fun c => by rw [c, eD5.2] at g'; cases g'
        exact ⟨u, by rw [upd_ne c]; exact e', r.keep kp⟩
  · rintro H2 ⟨Z2, G2, us, xs, x2, h2, eD, gD, zD, rus, lus, t2⟩
    rw [List.drop_length] at t2
    obtain ⟨_, t2⟩ := t2
    obtain ⟨Z3, G3, w, x3, h3, r3, q⟩ := lc_frz Z1 G1 H1 Z2 G2 H2 us xs D Qw hD x2 h2 rus eD gD zD t2
    exact k Z3 G3 H2 w _ (x1.trans x3) h3 r3 q
end
section
variable {X : Cx} {scope : Scope} {pos : Pos} {elt tg iter : Expr} {ifs : List Expr} {own : List (Str × Nat)} {t0 : TEw} {gw : TGw} {tt : TTw} {te : TEw}
theorem qlcP (hc : X.calm = true) (hN : X.N.Nodup) (hi : PEw X iter t0) (ok : BlkOk X.N X.env.scope scope own) (hg : TgW X (own.map (·.2)) tg scope gw)
    (ht : ∀ (s : Shared) (H : Hp) (C : Addr) (cl : List (Str × Addr)) (fp : List Addr), PTsw (X.blk s H scope (compEnvC scope cl C X.env) fp) ifs tt) (he : ∀ (s : Shared) (H : Hp) (C : Addr) (cl : List (Str × Addr)) (fp : List Addr), PEw (X.blk s H scope (compEnvC scope cl C X.env) fp) elt te)
    (hs : ∀ x, foldedSetIterable iter X.env x = pure x := by intro _; rfl) : PEw X (.ListComp elt [⟨tg, iter, ifs, 0⟩] scope pos) (wLcP (own.map (·.2)) t0 gw tt te) := by
  obtain ⟨g, pg, sg⟩ := hg.ex
  exact PE.imp (pe_lc (tt := liftT X.K tt) (te := liftE X.K te) hc hN (pi_seq hi) ok pg ht he hs) fun _ _ _ h => llcP sg h
end
/-! ### list + list, the caller's own -/
def wAddM : RW2 := fun x y G Q => match x, y with
  | .lst a, .lst b => a.length + b.length ≤ sizeLine ∧ ∀ p, G p = none → Q (.ref p) (gup G p (.lst (a ++ b)))
  | _, _ => False
theorem wAddM_lst {a b : List W} {G : Gp} {Q : QW} : wAddM (.lst a) (.lst b) G Q = (a.length + b.length ≤ sizeLine ∧ ∀ p, G p = none → Q (.ref p) (gup G p (.lst (a ++ b)))) := rfl
theorem sim_addM {K : PySem.W.Frag} : Sim2 K rCat wAddM := by
  intro Z G H x y v u Qw Q h rx ry t k
  cases rx with
  | @lst p a vs z1 s1 r1 =>
    cases ry with
    | @lst p2 b us z2 s2 r2 =>
      refine ⟨_, _, vs, us, rfl, rfl, s1, s2, by rw [← r1.length, ← r2.length]; exact t.1, fun q n => ?_⟩
      obtain ⟨g, h2, x2⟩ := new_lst h n (r1.append r2)
      exact k _ _ _ _ _ x2 h2 .ref (t.2 q g)
    | _ => exact False.elim t
  | _ => exact False.elim t
theorem qaddM {X : Cx} {a b : Expr} {ta tb : TEw} {pos : Pos} (ha : PEw X a ta) (hb : PEw X b tb) : PEw X (.BinOp a .Add b pos) (wOp wAddM ta tb) := qop op_cat sim_addM ha hb
end WL
/-! zip of two or three, enumerate: of tuples and lists in any mixture. -/
namespace WL
open PySem PySem.Spec PyProof.Rows L2
/-- a list (true) or a tuple (false) -/
def SqK (K : PySem.W.Frag) : Bool → Hp → Addr → List V → Prop
  | true => SqL K
  | false => SqT K
def ItK : Bool → Heap → Addr → Addr → Nat → Prop
  | true => fun h it a i => h.IsListIter it a i
  | false => fun h it a i => h.IsTupleIter it a i
def SeqK : Bool → Heap → Addr → Array Value → Prop
  | true => fun h a its => h.IsList a its
  | false => fun h a its => h.IsTuple a its
def oK : Bool → Addr → Obj
  | true => fun a => { cls := .type "list_iterator", data := .fields #[.ref a, .int 0 0] }
  | false => fun a => { cls := .type "tuple_iterator", data := .fields #[.ref a, .int 0 0] }
theorem drawsK {P : Program} {w : World} {A : Around} (hh : A.handled = none) (k : Bool) (it a : Addr) (hne : a ≠ it) (items : Array Value) :
    Draws P w A it [it, a] items.size (fun i v => items[i]? = some v) (fun i h => ItK k h it a i ∧ SeqK k h a items) := by
  cases k with
  | true => exact Draws.list hh it a hne items
  | false => exact Draws.tuple hh it a hne items
theorem beginsK (k : Bool) (a : Addr) (items : Array Value) : Begins (.ref a) (oK k a) (fun h => SeqK k h a items) := by
  cases k with
  | true => exact begins_list a items
  | false => exact begins_tuple a items
theorem itK_new {k : Bool} {h : Heap} {it a : Addr} (e : h.get? it = some (oK k a)) : ItK k h it a 0 := by
  cases k with
  | true => exact ⟨_, e, rfl, rfl⟩
  | false => exact ⟨_, e, rfl, rfl⟩
theorem itK_obj {k : Bool} {h : Heap} {it a : Addr} {i : Nat} (q : ItK k h it a i) : ∃ o, h.get? it = some o ∧ ∀ v, o.data ≠ .cell v := by
  cases k with
  | true => obtain ⟨o, e, _, d⟩ := q; exact ⟨o, e, fun v z => by rw [d] at z; cases z⟩
  | false => obtain ⟨o, e, _, d⟩ := q; exact ⟨o, e, fun v z => by rw [d] at z; cases z⟩
theorem itK_keep {k : Bool} {h h' : Heap} {it a : Addr} {i : Nat} (q : ItK k h it a i) (e : ∀ o, h.get? it = some o → h'.get? it = some o) : ItK k h' it a i := by
  cases k with
  | true => exact Heap.IsListIter.at q e
  | false => exact Heap.IsTupleIter.at q e
section
variable {X : Cx} {pins : List (Addr × Obj)} {σ : L2.St} {H : Hp} {s : Shared} {a : Addr} {xs ys : List V}
theorem Inv.sqk (I : Inv X pins σ H s) {k : Bool} (h : SqK X.K k H a xs) : ∃ its : List Value, Vals xs its ∧ SeqK k s.heap a its.toArray ∧ a < s.heap.objs.size := by
  cases k with
  | true =>
    obtain ⟨its, rv, p, _⟩ := I.list h
    exact ⟨its, rv, p.isList, p.lt⟩
  | false =>
    obtain ⟨its, rv, p, _⟩ := I.tuple h
    obtain ⟨o, ho, _⟩ := id p
    exact ⟨its, rv, p, Heap.lt_size ho⟩
theorem Inv.sqk_inj (I : Inv X pins σ H s) {k : Bool} (h : SqK X.K k H a xs) (h' : SqK X.K k H a ys) : xs = ys := by
  cases k with
  | true => exact I.list_inj h h'
  | false => exact I.tuple_inj h h'
end
/-! ### zip of two -/
def ItzG (K : PySem.W.Frag) (k1 k2 : Bool) (a b : Addr) : It :=
  ⟨fun i H => ∃ (xs ys : List V) (x y : V), SqK K k1 H a xs ∧ SqK K k2 H b ys ∧ xs[i]? = some x ∧ ys[i]? = some y,
    fun i H v H' => ∃ T x y, v = .ref T ∧ H T = none ∧ H' = upd H T (.tup [x, y]) ∧ (∀ xs, SqK K k1 H a xs → xs[i]? = some x) ∧ ∀ ys, SqK K k2 H b ys → ys[i]? = some y,
    fun i H => ∃ xs ys : List V, SqK K k1 H a xs ∧ SqK K k2 H b ys ∧ i ≤ xs.length ∧ i ≤ ys.length ∧ (i = xs.length ∨ i = ys.length)⟩
theorem turn_zipG {P : Program} {w : World} {K : PySem.W.Frag} {elts : List Expr} {kk : Nat} {tpos : Pos} {k1 k2 : Bool} {a b z TI TO i1 i2 : Addr} (D : ZipSep2 z TI TO i1 i2 [i1, a] [i2, b]) (n1 : a ≠ i1) (n2 : b ≠ i2) :
    Turn P w K (.Tuple elts kk tpos) (ItzG K k1 k2 a b) [z, TI, TO, i1, i2] z (fun i h => IsZip h z TI TO .none ∧ IsTupOf2 h TI (.ref i1) (.ref i2) ∧ (∃ x y, IsTupOf2 h TO x y) ∧ ItK k1 h i1 a i ∧ ItK k2 h i2 b i) where
  mem := by simp
  obj := fun i h st d hd => by
    obtain ⟨hz, hTI, ⟨x, y, hTO⟩, h1, h2⟩ := st
    have e' : d = z ∨ d = TI ∨ d = TO ∨ d = i1 ∨ d = i2 := by simpa using hd
    rcases e' with q | q | q | q | q
    · rw [q]; exact ⟨_, hz, fun v q => nomatch q⟩
    · rw [q]; exact ⟨_, hTI, fun v q => nomatch q⟩
    · rw [q]; exact ⟨_, hTO, fun v q => nomatch q⟩
    · rw [q]; exact itK_obj h1
    · rw [q]; exact itK_obj h2
  keep := fun i h h' st k => by
    obtain ⟨hz, hTI, ⟨x, y, hTO⟩, h1, h2⟩ := st
    exact ⟨k z (by simp) _ hz, k TI (by simp) _ hTI, ⟨x, y, k TO (by simp) _ hTO⟩, itK_keep h1 fun o q => k i1 (by simp) o q, itK_keep h2 fun o q => k i2 (by simp) o q⟩
  item := by
    intro X hP hw hK hc i pins s σ H E I hf st hg
    subst hP hw hK
    obtain ⟨hz, hTI, ⟨x0, y0, hTO⟩, h1, h2⟩ := st
    obtain ⟨xs, ys, x, y, q1, q2, g1, g2⟩ := hg
    obtain ⟨t1, rv1, p1, _⟩ := Inv.sqk I q1
    obtain ⟨t2, rv2, p2, _⟩ := Inv.sqk I q2
    obtain ⟨u1, hu1, ru1⟩ := rv1.get g1
    obtain ⟨u2, hu2, ru2⟩ := rv2.get g2
    have hzl : z < s.heap.objs.size := Heap.lt_size hz
    have hh := I.ok.hd hc
    have D1 := drawsK (P := X.prog) (w := X.w) (A := X.A.in1) hh k1 i1 a n1 t1.toArray
    have l1 : i < t1.toArray.size := by obtain ⟨z, _⟩ := List.getElem?_eq_some_iff.mp hu1; simpa using z
    have D2 := drawsK (P := X.prog) (w := X.w) (A := X.A.in1) hh k2 i2 b n2 t2.toArray
    have l2 : i < t2.toArray.size := by obtain ⟨z, _⟩ := List.getElem?_eq_some_iff.mp hu2; simpa using z
    refine wpAny_pyNext_zipD2_item D D1 D2 hz hTI hTO ⟨h1, p1⟩ ⟨h2, p2⟩ l1 l2 fun x1 x2 h' tk y1 y2 z' TO' s1 s2 hT hsz hk => ?_
    have e1 : x1 = u1 := by rw [show t1.toArray[i]? = t1[i]? by simp, hu1] at y1; injection y1 with y1; exact y1.symm
    have e2 : x2 = u2 := by rw [show t2.toArray[i]? = t2[i]? by simp, hu2] at y2; injection y2 with y2; exact y2.symm
    subst e1 e2
    refine ⟨_, rfl, wpAny_letOwnedTupleGo_zip (s := { s with heap := h', toks := tk }) z' fun h'' z'' sb => ?_⟩
    have hT2 : h''.get? s.heap.objs.size = some { cls := .type "tuple", data := .seq #[x1, x2] } := (sb.2 _ (Nat.ne_of_gt hzl)).trans hT
    have new : ObjOk X.prog X.w (upd H s.heap.objs.size (.tup [x, y])) h'' s.heap.objs.size (.tup [x, y]) :=
      ⟨by show 2 ≤ sizeLine; decide, [x1, x2], (.cons ru1 (.cons ru2 .nil)), ⟨_, hT2, rfl, _, rfl⟩⟩
    have I1 : Inv X pins σ (upd H s.heap.objs.size (.tup [x, y])) { s with heap := h'', toks := tk } :=
      I.turnedNew (ch := [z, TI, TO, i1, i2]) (fun c o hb q => (sb.2 c (fun q' => hb (by simp [q']))).trans (hk c o (fun q' => hb (by simp [q'])) (fun q' => hb (by simp [q'])) (fun q' => hb (by simp [q'])) (fun q' => hb (by simp [q'])) q)) hf (Nat.le_refl _) new
    refine ⟨.ref s.heap.objs.size, _, I1, rfl, ⟨_, x, y, rfl, I.hok.fresh (Nat.le_refl _), rfl, fun l hl => by rw [Inv.sqk_inj I hl q1]; exact g1, fun l hl => by rw [Inv.sqk_inj I hl q2]; exact g2⟩, ⟨z'', ?_, ⟨x1, x2, ?_⟩, ?_, ?_⟩, fun d hcm => ?_⟩
    · exact (sb.2 _ D.TIz).trans (hk _ _ D.TIz D.TITO D.TIi1 D.TIi2 hTI)
    · exact (sb.2 _ D.TOz).trans TO'
    · exact itK_keep s1.1 fun o q => (sb.2 _ (Ne.symm D.zi1)).trans q
    · exact itK_keep s2.1 fun o q => (sb.2 _ (Ne.symm D.zi2)).trans q
    · have hlt : d < s.heap.objs.size := by
        have e' : d = z ∨ d = TI ∨ d = TO ∨ d = i1 ∨ d = i2 := by simpa using hcm
        rcases e' with q | q | q | q | q
        · rw [q]; exact hzl
        · rw [q]; exact Heap.lt_size hTI
        · rw [q]; exact Heap.lt_size hTO
        · rw [q]; obtain ⟨_, e1, _⟩ := itK_obj h1; exact Heap.lt_size e1
        · rw [q]; obtain ⟨_, e1, _⟩ := itK_obj h2; exact Heap.lt_size e1
      rw [upd_ne (Nat.ne_of_lt hlt)]
      exact (hf d hcm).1
  done := by
    intro X hP hw hK hc i pins s σ H E I hf st hg
    subst hP hw hK
    obtain ⟨hz, hTI, ⟨x0, y0, hTO⟩, h1, h2⟩ := st
    obtain ⟨xs, ys, q1, q2, g1, g2, hend⟩ := hg
    obtain ⟨t1, rv1, p1, _⟩ := Inv.sqk I q1
    have e1 := rv1.length
    obtain ⟨t2, rv2, p2, _⟩ := Inv.sqk I q2
    have e2 := rv2.length
    have hh := I.ok.hd hc
    have D1 := drawsK (P := X.prog) (w := X.w) (A := X.A.in1) hh k1 i1 a n1 t1.toArray
    have D2 := drawsK (P := X.prog) (w := X.w) (A := X.A.in1) hh k2 i2 b n2 t2.toArray
    refine wpAny_pyNext_zipD2_end D D1 D2 hz hTI hTO ⟨h1, p1⟩ ⟨h2, p2⟩ (by simp only [List.size_toArray]; omega) (by simp only [List.size_toArray]; omega) (by simp only [List.size_toArray]; omega) fun h' tk hk => ⟨rfl, I.turnedL (ch := [z, TI, TO, i1, i2]) (fun c o hb q => hk c o (fun q' => hb (by simp [q'])) (fun q' => hb (by simp [q'])) (fun q' => hb (by simp [q'])) (fun q' => hb (by simp [q'])) q) hf⟩
  self := fun A i s Q E st h => wpAny_pyIter_zip st.1 h
def iZipG (K : PySem.W.Frag) (ta : TA) : TI := fun σ H R => ta σ H fun vs H1 => ∃ k1 k2 a b xs ys, vs = [.ref a, .ref b] ∧ SqK K k1 H1 a xs ∧ SqK K k2 H1 b ys ∧ R (ItzG K k1 k2 a b) H1
theorem pi_zipG {X : Cx} {e e2 : Expr} {ta : TA} {p pos tpos : Pos} {elts : List Expr} {kk : Nat} (hg : Gl X "zip") (hm : X.mg "zip" = none) (ha : PA X [e, e2] ta)
    (hs : starEach [e, e2] X.env = (false, eval e X.env) :: starEach [e2] X.env := by rfl) (hpl : (backTo pos (starEach [e2] X.env)).any (·.1) = false := by rfl) :
    PI X (.Tuple elts kk tpos) (.Call (.Name "zip" p) [e, e2] [] pos) (iZipG X.K ta) := by
  refine ⟨fun pins s σ H R I h => ?_⟩
  refine Call_ (ld_blt I hg hm PyProof.Rows.boot_zip (PyProof.Rows.callWith_type1 (thn (ha.run pos pins s σ H _ I h) fun us s1 ⟨vs, H1, I1, r1, q1⟩ => ?_) hs hpl))
  obtain ⟨k1, k2, a, b, xs, ys, ex, q1, q2, q⟩ := q1
  subst ex
  cases r1 with
  | cons r1' r1 =>
    cases r1 with
    | cons r2' r1 =>
      cases r1
      cases r1'
      cases r2'
      obtain ⟨t1, rv1, p1, lt1⟩ := Inv.sqk I1 q1
      obtain ⟨t2, rv2, p2, lt2⟩ := Inv.sqk I1 q2
      refine zip_begins2 (beginsK k1 a t1.toArray) (beginsK k2 b t2.toArray) p1 p2 fun h' hz hTI hTO b1 b2 hsz hk => wpAny_pyIter_zip hz ?_
      have I2 : Inv X pins σ H1 { s1 with heap := h' } := I1.kept (t' := s1.toks) hk
      refine ⟨s1.heap.objs.size + 4, [s1.heap.objs.size + 4, s1.heap.objs.size + 2, s1.heap.objs.size + 3, s1.heap.objs.size, s1.heap.objs.size + 1], _, _, H1, rfl, I2, turn_zipG (zip_sep2 (fun x hx => by rw [List.mem_singleton.mp hx]; exact lt1) (fun x hx => by rw [List.mem_singleton.mp hx]; exact lt2)) (Nat.ne_of_lt (Nat.lt_of_lt_of_le lt1 (Nat.le_refl _))) (Nat.ne_of_lt (Nat.lt_of_lt_of_le lt2 (Nat.le_add_right _ _))), ⟨hz, hTI, ⟨_, _, hTO⟩, itK_new b1, itK_new b2⟩, fun d hcm => ?_, q⟩
      have e' : d = s1.heap.objs.size + 4 ∨ d = s1.heap.objs.size + 2 ∨ d = s1.heap.objs.size + 3 ∨ d = s1.heap.objs.size ∨ d = s1.heap.objs.size + 1 := by simpa using hcm
      have hle : s1.heap.objs.size ≤ d := by
        rcases e' with z | z | z | z | z
        · rw [z]; exact Nat.le_add_right _ _
        · rw [z]; exact Nat.le_add_right _ _
        · rw [z]; exact Nat.le_add_right _ _
        · rw [z]; exact Nat.le_refl _
        · rw [z]; exact Nat.le_add_right _ _
      exact I1.fpOk hle (I1.hok.fresh hle)
/-! ### zip of three -/
def ItzG3 (K : PySem.W.Frag) (k1 k2 k3 : Bool) (a b c : Addr) : It :=
  ⟨fun i H => ∃ (xs ys us : List V) (x y t : V), SqK K k1 H a xs ∧ SqK K k2 H b ys ∧ SqK K k3 H c us ∧ xs[i]? = some x ∧ ys[i]? = some y ∧ us[i]? = some t,
    fun i H v H' => ∃ T x y t, v = .ref T ∧ H T = none ∧ H' = upd H T (.tup [x, y, t]) ∧ (∀ xs, SqK K k1 H a xs → xs[i]? = some x) ∧ (∀ ys, SqK K k2 H b ys → ys[i]? = some y) ∧ ∀ us, SqK K k3 H c us → us[i]? = some t,
    fun i H => ∃ xs ys us : List V, SqK K k1 H a xs ∧ SqK K k2 H b ys ∧ SqK K k3 H c us ∧ i ≤ xs.length ∧ i ≤ ys.length ∧ i ≤ us.length ∧ (i = xs.length ∨ i = ys.length ∨ i = us.length)⟩
theorem turn_zipG3 {P : Program} {w : World} {K : PySem.W.Frag} {elts : List Expr} {kk : Nat} {tpos : Pos} {k1 k2 k3 : Bool} {a b c z TI TO i1 i2 i3 : Addr} (D : ZipSep3 z TI TO i1 i2 i3 [i1, a] [i2, b] [i3, c]) (n1 : a ≠ i1) (n2 : b ≠ i2) (n3 : c ≠ i3) :
    Turn P w K (.Tuple elts kk tpos) (ItzG3 K k1 k2 k3 a b c) [z, TI, TO, i1, i2, i3] z (fun i h => IsZip h z TI TO .none ∧ IsTupOf3 h TI (.ref i1) (.ref i2) (.ref i3) ∧ (∃ x y t, IsTupOf3 h TO x y t) ∧ ItK k1 h i1 a i ∧ ItK k2 h i2 b i ∧ ItK k3 h i3 c i) where
  mem := by simp
  obj := fun i h st d hd => by
    obtain ⟨hz, hTI, ⟨x, y, t, hTO⟩, h1, h2, h3⟩ := st
    have e' : d = z ∨ d = TI ∨ d = TO ∨ d = i1 ∨ d = i2 ∨ d = i3 := by simpa using hd
    rcases e' with q | q | q | q | q | q
    · rw [q]; exact ⟨_, hz, fun v q => nomatch q⟩
    · rw [q]; exact ⟨_, hTI, fun v q => nomatch q⟩
    · rw [q]; exact ⟨_, hTO, fun v q => nomatch q⟩
    · rw [q]; exact itK_obj h1
    · rw [q]; exact itK_obj h2
    · rw [q]; exact itK_obj h3
  keep := fun i h h' st k => by
    obtain ⟨hz, hTI, ⟨x, y, t, hTO⟩, h1, h2, h3⟩ := st
    exact ⟨k z (by simp) _ hz, k TI (by simp) _ hTI, ⟨x, y, t, k TO (by simp) _ hTO⟩, itK_keep h1 fun o q => k i1 (by simp) o q, itK_keep h2 fun o q => k i2 (by simp) o q, itK_keep h3 fun o q => k i3 (by simp) o q⟩
  item := by
    intro X hP hw hK hc i pins s σ H E I hf st hg
    subst hP hw hK
    obtain ⟨hz, hTI, ⟨x0, y0, t0, hTO⟩, h1, h2, h3⟩ := st
    obtain ⟨xs, ys, us, x, y, t, q1, q2, q3, g1, g2, g3⟩ := hg
    obtain ⟨t1, rv1, p1, _⟩ := Inv.sqk I q1
    obtain ⟨t2, rv2, p2, _⟩ := Inv.sqk I q2
    obtain ⟨t3, rv3, p3, _⟩ := Inv.sqk I q3
    obtain ⟨u1, hu1, ru1⟩ := rv1.get g1
    obtain ⟨u2, hu2, ru2⟩ := rv2.get g2
    obtain ⟨u3, hu3, ru3⟩ := rv3.get g3
    have hzl : z < s.heap.objs.size := Heap.lt_size hz
    have hh := I.ok.hd hc
    have D1 := drawsK (P := X.prog) (w := X.w) (A := X.A.in1) hh k1 i1 a n1 t1.toArray
    have l1 : i < t1.toArray.size := by obtain ⟨z, _⟩ := List.getElem?_eq_some_iff.mp hu1; simpa using z
    have D2 := drawsK (P := X.prog) (w := X.w) (A := X.A.in1) hh k2 i2 b n2 t2.toArray
    have l2 : i < t2.toArray.size := by obtain ⟨z, _⟩ := List.getElem?_eq_some_iff.mp hu2; simpa using z
    have D3 := drawsK (P := X.prog) (w := X.w) (A := X.A.in1) hh k3 i3 c n3 t3.toArray
    have l3 : i < t3.toArray.size := by obtain ⟨z, _⟩ := List.getElem?_eq_some_iff.mp hu3; simpa using z
    refine wpAny_pyNext_zipD3_item D D1 D2 D3 hz hTI hTO ⟨h1, p1⟩ ⟨h2, p2⟩ ⟨h3, p3⟩ l1 l2 l3 fun x1 x2 x3 h' tk y1 y2 y3 z' TO' s1 s2 s3 hT hsz hk => ?_
    have e1 : x1 = u1 := by rw [show t1.toArray[i]? = t1[i]? by simp, hu1] at y1; injection y1 with y1; exact y1.symm
    have e2 : x2 = u2 := by rw [show t2.toArray[i]? = t2[i]? by simp, hu2] at y2; injection y2 with y2; exact y2.symm
    have e3 : x3 = u3 := by rw [show t3.toArray[i]? = t3[i]? by simp, hu3] at y3; injection y3 with y3; exact y3.symm
    subst e1 e2 e3
    refine ⟨_, rfl, wpAny_letOwnedTupleGo_zip (s := { s with heap := h', toks := tk }) z' fun h'' z'' sb => ?_⟩
    have hT2 : h''.get? s.heap.objs.size = some { cls := .type "tuple", data := .seq #[x1, x2, x3] } := (sb.2 _ (Nat.ne_of_gt hzl)).trans hT
    have new : ObjOk X.prog X.w (upd H s.heap.objs.size (.tup [x, y, t])) h'' s.heap.objs.size (.tup [x, y, t]) :=
      ⟨by show 3 ≤ sizeLine; decide, [x1, x2, x3], (.cons ru1 (.cons ru2 (.cons ru3 .nil))), ⟨_, hT2, rfl, _, rfl⟩⟩
    have I1 : Inv X pins σ (upd H s.heap.objs.size (.tup [x, y, t])) { s with heap := h'', toks := tk } :=
      I.turnedNew (ch := [z, TI, TO, i1, i2, i3]) (fun c o hb q => (sb.2 c (fun q' => hb (by simp [q']))).trans (hk c o (fun q' => hb (by simp [q'])) (fun q' => hb (by simp [q'])) (fun q' => hb (by simp [q'])) (fun q' => hb (by simp [q'])) (fun q' => hb (by simp [q'])) q)) hf (Nat.le_refl _) new
    refine ⟨.ref s.heap.objs.size, _, I1, rfl, ⟨_, x, y, t, rfl, I.hok.fresh (Nat.le_refl _), rfl, fun l hl => by rw [Inv.sqk_inj I hl q1]; exact g1, fun l hl => by rw [Inv.sqk_inj I hl q2]; exact g2, fun l hl => by rw [Inv.sqk_inj I hl q3]; exact g3⟩, ⟨z'', ?_, ⟨x1, x2, x3, ?_⟩, ?_, ?_, ?_⟩, fun d hcm => ?_⟩
    · exact (sb.2 _ D.TIz).trans (hk _ _ D.TIz D.TITO D.TIi1 D.TIi2 D.TIi3 hTI)
    · exact (sb.2 _ D.TOz).trans TO'
    · exact itK_keep s1.1 fun o q => (sb.2 _ (Ne.symm D.zi1)).trans q
    · exact itK_keep s2.1 fun o q => (sb.2 _ (Ne.symm D.zi2)).trans q
    · exact itK_keep s3.1 fun o q => (sb.2 _ (Ne.symm D.zi3)).trans q
    · have hlt : d < s.heap.objs.size := by
        have e' : d = z ∨ d = TI ∨ d = TO ∨ d = i1 ∨ d = i2 ∨ d = i3 := by simpa using hcm
        rcases e' with q | q | q | q | q | q
        · rw [q]; exact hzl
        · rw [q]; exact Heap.lt_size hTI
        · rw [q]; exact Heap.lt_size hTO
        · rw [q]; obtain ⟨_, e1, _⟩ := itK_obj h1; exact Heap.lt_size e1
        · rw [q]; obtain ⟨_, e1, _⟩ := itK_obj h2; exact Heap.lt_size e1
        · rw [q]; obtain ⟨_, e1, _⟩ := itK_obj h3; exact Heap.lt_size e1
      rw [upd_ne (Nat.ne_of_lt hlt)]
      exact (hf d hcm).1
  done := by
    intro X hP hw hK hc i pins s σ H E I hf st hg
    subst hP hw hK
    obtain ⟨hz, hTI, ⟨x0, y0, t0, hTO⟩, h1, h2, h3⟩ := st
    obtain ⟨xs, ys, us, q1, q2, q3, g1, g2, g3, hend⟩ := hg
    obtain ⟨t1, rv1, p1, _⟩ := Inv.sqk I q1
    have e1 := rv1.length
    obtain ⟨t2, rv2, p2, _⟩ := Inv.sqk I q2
    have e2 := rv2.length
    obtain ⟨t3, rv3, p3, _⟩ := Inv.sqk I q3
    have e3 := rv3.length
    have hh := I.ok.hd hc
    have D1 := drawsK (P := X.prog) (w := X.w) (A := X.A.in1) hh k1 i1 a n1 t1.toArray
    have D2 := drawsK (P := X.prog) (w := X.w) (A := X.A.in1) hh k2 i2 b n2 t2.toArray
    have D3 := drawsK (P := X.prog) (w := X.w) (A := X.A.in1) hh k3 i3 c n3 t3.toArray
    refine wpAny_pyNext_zipD3_end D D1 D2 D3 hz hTI hTO ⟨h1, p1⟩ ⟨h2, p2⟩ ⟨h3, p3⟩ (by simp only [List.size_toArray]; omega) (by simp only [List.size_toArray]; omega) (by simp only [List.size_toArray]; omega) (by simp only [List.size_toArray]; omega) fun h' tk hk => ⟨rfl, I.turnedL (ch := [z, TI, TO, i1, i2, i3]) (fun c o hb q => hk c o (fun q' => hb (by simp [q'])) (fun q' => hb (by simp [q'])) (fun q' => hb (by simp [q'])) (fun q' => hb (by simp [q'])) (fun q' => hb (by simp [q'])) q) hf⟩
  self := fun A i s Q E st h => wpAny_pyIter_zip st.1 h
def iZipG3 (K : PySem.W.Frag) (ta : TA) : TI := fun σ H R => ta σ H fun vs H1 => ∃ k1 k2 k3 a b c xs ys us, vs = [.ref a, .ref b, .ref c] ∧ SqK K k1 H1 a xs ∧ SqK K k2 H1 b ys ∧ SqK K k3 H1 c us ∧ R (ItzG3 K k1 k2 k3 a b c) H1
theorem pi_zipG3 {X : Cx} {e e2 e3 : Expr} {ta : TA} {p pos tpos : Pos} {elts : List Expr} {kk : Nat} (hg : Gl X "zip") (hm : X.mg "zip" = none) (ha : PA X [e, e2, e3] ta)
    (hs : starEach [e, e2, e3] X.env = (false, eval e X.env) :: starEach [e2, e3] X.env := by rfl) (hpl : (backTo pos (starEach [e2, e3] X.env)).any (·.1) = false := by rfl) :
    PI X (.Tuple elts kk tpos) (.Call (.Name "zip" p) [e, e2, e3] [] pos) (iZipG3 X.K ta) := by
  refine ⟨fun pins s σ H R I h => ?_⟩
  refine Call_ (ld_blt I hg hm PyProof.Rows.boot_zip (PyProof.Rows.callWith_type1 (thn (ha.run pos pins s σ H _ I h) fun us s1 ⟨vs, H1, I1, r1, q1⟩ => ?_) hs hpl))
  obtain ⟨k1, k2, k3, a, b, c, xs, ys, us, ex, q1, q2, q3, q⟩ := q1
  subst ex
  cases r1 with
  | cons r1' r1 =>
    cases r1 with
    | cons r2' r1 =>
      cases r1 with
      | cons r3' r1 =>
        cases r1
        cases r1'
        cases r2'
        cases r3'
        obtain ⟨t1, rv1, p1, lt1⟩ := Inv.sqk I1 q1
        obtain ⟨t2, rv2, p2, lt2⟩ := Inv.sqk I1 q2
        obtain ⟨t3, rv3, p3, lt3⟩ := Inv.sqk I1 q3
        refine zip_begins3 (beginsK k1 a t1.toArray) (beginsK k2 b t2.toArray) (beginsK k3 c t3.toArray) p1 p2 p3 fun h' hz hTI hTO b1 b2 b3 hsz hk => wpAny_pyIter_zip hz ?_
        have I2 : Inv X pins σ H1 { s1 with heap := h' } := I1.kept (t' := s1.toks) hk
        refine ⟨s1.heap.objs.size + 5, [s1.heap.objs.size + 5, s1.heap.objs.size + 3, s1.heap.objs.size + 4, s1.heap.objs.size, s1.heap.objs.size + 1, s1.heap.objs.size + 2], _, _, H1, rfl, I2, turn_zipG3 (zip_sep3 (fun x hx => by rw [List.mem_singleton.mp hx]; exact lt1) (fun x hx => by rw [List.mem_singleton.mp hx]; exact lt2) (fun x hx => by rw [List.mem_singleton.mp hx]; exact lt3)) (Nat.ne_of_lt (Nat.lt_of_lt_of_le lt1 (Nat.le_refl _))) (Nat.ne_of_lt (Nat.lt_of_lt_of_le lt2 (Nat.le_add_right _ _))) (Nat.ne_of_lt (Nat.lt_of_lt_of_le lt3 (Nat.le_add_right _ _))), ⟨hz, hTI, ⟨_, _, _, hTO⟩, itK_new b1, itK_new b2, itK_new b3⟩, fun d hcm => ?_, q⟩
        have e' : d = s1.heap.objs.size + 5 ∨ d = s1.heap.objs.size + 3 ∨ d = s1.heap.objs.size + 4 ∨ d = s1.heap.objs.size ∨ d = s1.heap.objs.size + 1 ∨ d = s1.heap.objs.size + 2 := by simpa using hcm
        have hle : s1.heap.objs.size ≤ d := by
          rcases e' with z | z | z | z | z | z
          · rw [z]; exact Nat.le_add_right _ _
          · rw [z]; exact Nat.le_add_right _ _
          · rw [z]; exact Nat.le_add_right _ _
          · rw [z]; exact Nat.le_refl _
          · rw [z]; exact Nat.le_add_right _ _
          · rw [z]; exact Nat.le_add_right _ _
        exact I1.fpOk hle (I1.hok.fresh hle)
/-! ### enumerate -/
set_option maxHeartbeats 4000000 in
theorem meets_enumerate_newB1 {v : Value} {o : Obj} {Hh : Heap → Prop} (B : Begins v o Hh) :
    Meets (Builtin.«enumerate.__new__» ⟨[.type "enumerate", v], []⟩) (fun _ R s => Hh s.heap ∧
      R (.ok (.ret (.ref (s.heap.push o).objs.size))) { s with heap := (s.heap.push o).push { cls := .type "enumerate", data := .fields #[.none, .bool false, .ref s.heap.objs.size, rawInt 0, .none, .none] } }) :=
  .of_wp fun prog w A R s h => by
    obtain ⟨hp, g, d, tk, os⟩ := s; obtain ⟨h1, h⟩ := h
    have hsub := sub_enumerate
    have q1 : ∀ {A' : Around} {E : Value → Shared → Prop} {Q : Value → Shared → Prop}, Q (.ref hp.objs.size) ⟨hp.push o, g, d, tk, os⟩ → wpAny (model prog w) A' (pyIter v) Q E ⟨hp, g, d, tk, os⟩ :=
      fun q => B.iter prog w _ _ ⟨hp, g, d, tk, os⟩ _ h1 q
    wp_walk using q1
    refine wpAny_stack_any fun st => wpAny_pure ?_
    split
    · rename_i c _ _ _ _ _
      cases (c == Value.type "enumerate")
      · wp_walk using q1
        exact ⟨_, rfl, h⟩
      · wp_walk using q1
        exact ⟨_, rfl, h⟩
    · wp_walk using q1
      exact ⟨_, rfl, h⟩
theorem call_enumG {prog : Program} {w : World} {A : Around} {E : Value → Shared → Prop} {s : Shared} {v : Value} {o : Obj} {Hh : Heap → Prop} {Q : Value → Shared → Prop} (B : Begins v o Hh) (h1 : Hh s.heap)
    (h : ∀ h', IsEnum h' (s.heap.objs.size + 1) s.heap.objs.size 0 .none → h'.get? s.heap.objs.size = some o → h'.objs.size = s.heap.objs.size + 2 →
      (∀ b o, s.heap.get? b = some o → h'.get? b = some o) → Q (.ref (s.heap.objs.size + 1)) { s with heap := h' }) :
    wpAny (model prog w) A (call (.type "enumerate") [v]) Q E s := by
  refine callType_new F.called_enumerate (by decide) (F.typeCall_enumerate_1 _) (F.newCall_enumerate_1 _) (fun obj => F.args_object_init_2 obj _) F.entry_enumerate_new
    (meets_enumerate_newB1 B) ⟨h1, ?_⟩
  have hz : (s.heap.push o).objs.size = s.heap.objs.size + 1 := Heap.size_push ..
  show _ ∧ _
  rw [hz]
  have he : IsEnum ((s.heap.push o).push { cls := .type "enumerate", data := .fields #[.none, .bool false, .ref s.heap.objs.size, rawInt 0, .none, .none] }) (s.heap.objs.size + 1) s.heap.objs.size 0 .none := by
    have := Heap.get?_push_size (s.heap.push o) (o := { cls := .type "enumerate", data := .fields #[.none, .bool false, .ref s.heap.objs.size, rawInt 0, .none, .none] }) rfl
    rw [hz] at this; exact this
  refine ⟨⟨_, he, rfl⟩, h _ he (Heap.get?_push_of_some _ (Heap.get?_push_size _ B.free)) (by rw [Heap.size_push, hz]) fun b o x => Heap.get?_push_of_some _ (Heap.get?_push_of_some _ x)⟩
def IteG (K : PySem.W.Frag) (k : Bool) (a : Addr) : It :=
  ⟨fun i H => ∃ (xs : List V) (x : V), SqK K k H a xs ∧ xs[i]? = some x, fun i H v H' => ∃ T x, v = .ref T ∧ H T = none ∧ H' = upd H T (.tup [.int (i : Nat), x]) ∧ ∀ xs, SqK K k H a xs → xs[i]? = some x, fun i H => ∃ xs : List V, SqK K k H a xs ∧ xs.length = i⟩
theorem turn_enumG {P : Program} {w : World} {K : PySem.W.Frag} {elts : List Expr} {kk : Nat} {tpos : Pos} (k : Bool) (a e it : Addr) (na : a ≠ it) (ea : e ≠ a) :
    Turn P w K (.Tuple elts kk tpos) (IteG K k a) [e, it] e (fun i h => (∃ old, IsEnum h e it ((i : Nat) : Int) old) ∧ ItK k h it a i ∧ e ≠ it) where
  mem := by simp
  obj := fun i h st b hb => by
    obtain ⟨⟨old, he⟩, hi, _⟩ := st
    have e' : b = e ∨ b = it := by simpa using hb
    rcases e' with z | z
    · rw [z]; exact ⟨_, he, fun v q => nomatch q⟩
    · rw [z]; exact itK_obj hi
  keep := fun i h h' st k => let ⟨⟨old, he⟩, hi, hne⟩ := st; ⟨⟨old, k e (by simp) _ he⟩, itK_keep hi fun o q => k it (by simp) o q, hne⟩
  item := by
    intro X hP hw hK hc i pins s σ H E I hf st hg
    subst hP hw hK
    obtain ⟨⟨old, he⟩, hit, hne⟩ := st
    obtain ⟨xs, x, hq, hx⟩ := hg
    obtain ⟨its, rv, p, _⟩ := Inv.sqk I hq
    obtain ⟨u, hu, ru⟩ := rv.get hx
    have hel : e < s.heap.objs.size := Heap.lt_size he
    have hil : it < s.heap.objs.size := by obtain ⟨_, q, _⟩ := itK_obj hit; exact Heap.lt_size q
    have D := drawsK (P := X.prog) (w := X.w) (A := X.A.in1) (I.ok.hd hc) k it a na its.toArray
    have lt : i < its.toArray.size := by obtain ⟨z, _⟩ := List.getElem?_eq_some_iff.mp hu; simpa using z
    refine wpAny_pyNext_enum_itemC D he ⟨hit, p⟩ lt hne (by simp [hne, ea]) fun y h' tk hy ho hst' hT hsz hk => ?_
    have ey : y = u := by rw [show its.toArray[i]? = its[i]? by simp, hu] at hy; injection hy with hy; exact hy.symm
    subst ey
    refine ⟨_, rfl, wpAny_letOwnedTupleGo_enum (s := { s with heap := h', toks := tk + 1 }) ho fun h'' he' sb => ?_⟩
    have hT2 : h''.get? s.heap.objs.size = some { cls := .type "tuple", data := .seq #[.int i tk, y] } := (sb.2 _ (Nat.ne_of_gt hel)).trans hT
    have new : ObjOk X.prog X.w (upd H s.heap.objs.size (.tup [.int (i : Nat), x])) h'' s.heap.objs.size (.tup [.int (i : Nat), x]) :=
      ⟨by show 2 ≤ sizeLine; decide, [.int i tk, y], .cons ⟨_, rfl⟩ (.cons ru .nil), ⟨_, hT2, rfl, _, rfl⟩⟩
    have I1 : Inv X pins σ (upd H s.heap.objs.size (.tup [.int (i : Nat), x])) { s with heap := h'', toks := tk + 1 } :=
      I.turnedNew (ch := [e, it]) (fun b ob hb q => (sb.2 b (fun z => hb (by simp [z]))).trans (hk b ob (fun z => hb (by simp [z])) (fun z => hb (by simp [z])) q)) hf (Nat.le_refl _) new
    refine ⟨.ref s.heap.objs.size, _, I1, rfl, ⟨_, x, rfl, I.hok.fresh (Nat.le_refl _), rfl, fun ys hy => by rw [Inv.sqk_inj I hy hq]; exact hx⟩, ⟨⟨y, ?_⟩, itK_keep hst'.1 fun o q => (sb.2 it (Ne.symm hne)).trans q, hne⟩, fun b hb => ?_⟩
    · have e1 : ((i + 1 : Nat) : Int) = (i : Int) + 1 := by omega
      rw [e1]; exact he'
    · have hb' : b < s.heap.objs.size := by
        have e' : b = e ∨ b = it := by simpa using hb
        rcases e' with z | z
        · rw [z]; exact hel
        · rw [z]; exact hil
      rw [upd_ne (Nat.ne_of_lt hb')]
      exact (hf b hb).1
  done := by
    intro X hP hw hK hc i pins s σ H E I hf st hg
    subst hP hw hK
    obtain ⟨⟨old, he⟩, hit, hne⟩ := st
    obtain ⟨xs, hq, hx⟩ := hg
    obtain ⟨its, rv, p, _⟩ := Inv.sqk I hq
    have hl := rv.length
    have D := drawsK (P := X.prog) (w := X.w) (A := X.A.in1) (I.ok.hd hc) k it a na its.toArray
    have en : i = its.toArray.size := by simp only [List.size_toArray]; omega
    subst en
    exact wpAny_pyNext_enum_endD D he ⟨hit, p⟩ fun h' eb => ⟨rfl, I.turnedL (t' := s.toks) (ch := [e, it]) (fun b o hb q => eb b o (fun z => hb (by simp [z])) q) hf⟩
  self := fun A i s Q E st h => let ⟨⟨_, he⟩, _⟩ := st; wpAny_pyIter_enum he h
def iEnumG (K : PySem.W.Frag) (ta : TA) : TI := fun σ H R => ta σ H fun vs H1 => ∃ k a xs, vs = [.ref a] ∧ SqK K k H1 a xs ∧ R (IteG K k a) H1
theorem pi_enumG {X : Cx} {e : Expr} {ta : TA} {p pos tpos : Pos} {elts : List Expr} {kk : Nat} (hg : Gl X "enumerate") (hm : X.mg "enumerate" = none) (ha : PA X [e] ta) (hs : starEach [e] X.env = [(false, eval e X.env)] := by rfl) :
    PI X (.Tuple elts kk tpos) (.Call (.Name "enumerate" p) [e] [] pos) (iEnumG X.K ta) := by
  refine ⟨fun pins s σ H R I h => ?_⟩
  refine Call_ (ld_blt I hg hm boot_enumerate (PyProof.Rows.callWith_type1 (thn (ha.run pos pins s σ H _ I h) fun us s1 ⟨vs, H1, I1, r1, q1⟩ => ?_) hs rfl))
  obtain ⟨k, a, xs, ex, hq, q⟩ := q1
  subst ex
  cases r1 with
  | cons r rr =>
    cases rr
    cases r
    obtain ⟨its, rv, p', lt⟩ := Inv.sqk I1 hq
    refine call_enumG (beginsK k a its.toArray) p' fun h' he hit hsz hk => wpAny_pyIter_enum he ?_
    have I2 : Inv X pins σ H1 { s1 with heap := h' } := I1.kept (t' := s1.toks) hk
    refine ⟨s1.heap.objs.size + 1, [s1.heap.objs.size + 1, s1.heap.objs.size], _, _, H1, rfl, I2, turn_enumG k a (s1.heap.objs.size + 1) s1.heap.objs.size (Nat.ne_of_lt lt) (Nat.ne_of_gt (Nat.lt_of_lt_of_le lt (Nat.le_add_right _ _))), ⟨⟨.none, he⟩, itK_new hit, Nat.succ_ne_self _⟩, fun b hb => ?_, q⟩
    have e' : b = s1.heap.objs.size + 1 ∨ b = s1.heap.objs.size := by simpa using hb
    have hle : s1.heap.objs.size ≤ b := by
      rcases e' with z | z
      · rw [z]; exact Nat.le_add_right _ _
      · rw [z]; exact Nat.le_refl _
    exact I1.fpOk hle (I1.hok.fresh hle)
/-! ### the readings -/
/-- a sequence that stays as it is from here on -/
theorem seqOf_ex {K : PySem.W.Frag} {Z : Zp} {G : Gp} {H : Hp} {w : W} {v : V} {R : List W → Gp → Prop} (h : HRel K Z G H) (r : Rw K Z H w v) (t : seqOf w G R) :
    ∃ k a ws vs Z' G', v = .ref a ∧ HRel K Z' G' H ∧ Ext Z G H Z' G' H ∧ RwL K Z' H ws vs ∧ (∀ Z2 G2 H2, Ext Z' G' H Z2 G2 H2 → SqK K k H2 a vs) ∧ R ws G' := by
  cases r with
  | tup s r => exact ⟨false, _, _, _, Z, G, rfl, h, Ext.refl, r, fun Z2 G2 H2 x => SqT.ext h x s, t⟩
  | lst z s r => exact ⟨true, _, _, _, Z, G, rfl, h, Ext.refl, r, fun Z2 G2 H2 x => SqL.of (x.f _ _ s (h.z _ z).1).1, t⟩
  | scr s r => exact ⟨true, _, _, _, Z, G, rfl, h, Ext.refl, r, fun Z2 G2 H2 x => (s.ext h x).sq, t⟩
  | @ref p =>
    obtain ⟨ws, g, q⟩ := isG_ex t
    obtain ⟨vs, s, r⟩ := h.lst g
    obtain ⟨h2, x2⟩ := h.freeze (p := p) (by rw [g]; simp)
    exact ⟨true, p, ws, vs, _, _, rfl, h2, x2, r.ext h x2, fun Z2 G2 H2 x => SqL.of (x.f _ _ s gdel_same).1, q⟩
  | _ => exact False.elim t
def tup3 (x y z : W) : W := .tup [x, y, z]
def zip3W : List W → List W → List W → List W
  | x :: xs, y :: ys, z :: zs => tup3 x y z :: zip3W xs ys zs
  | _, _, _ => []
theorem zip3_get : ∀ (xs ys zs : List W) (i : Nat) {x y z : W}, xs[i]? = some x → ys[i]? = some y → zs[i]? = some z → (zip3W xs ys zs)[i]? = some (tup3 x y z)
  | x :: xs, y :: ys, z :: zs, 0, _, _, _, e1, e2, e3 => by simp at e1 e2 e3; subst e1 e2 e3; rfl
  | x :: xs, y :: ys, z :: zs, i + 1, _, _, _, e1, e2, e3 => by
    simp at e1 e2 e3
    show (zip3W xs ys zs)[i]? = _
    exact zip3_get xs ys zs i e1 e2 e3
  | [], _, _, _, _, _, _, e1, _, _ => by simp at e1
  | _ :: _, [], _, _, _, _, _, _, e2, _ => by simp at e2
  | _ :: _, _ :: _, [], _, _, _, _, _, _, e3 => by simp at e3
theorem zip3_len : ∀ (xs ys zs : List W), (zip3W xs ys zs).length = min (min xs.length ys.length) zs.length
  | x :: xs, y :: ys, z :: zs => by
    show (zip3W xs ys zs).length + 1 = _
    rw [zip3_len xs ys zs]
    simp only [List.length_cons]; omega
  | [], _, _ => by simp [zip3W]
  | _ :: _, [], _ => by simp [zip3W]
  | _ :: _, _ :: _, [] => by simp [zip3W]
section
variable {K : PySem.W.Frag} {k k1 k2 k3 : Bool} {a b c : Addr} {Z : Zp} {G : Gp} {H : Hp} {ws us ts : List W} {vs xs ys : List V}
theorem walkZ2 (h : HRel K Z G H) (s1 : ∀ Z2 G2 H2, Ext Z G H Z2 G2 H2 → SqK K k1 H2 a vs) (s2 : ∀ Z2 G2 H2, Ext Z G H Z2 G2 H2 → SqK K k2 H2 b xs) (r1 : RwL K Z H ws vs) (r2 : RwL K Z H us xs) : WalkW K (ItzG K k1 k2 a b) Z G H (ws.zipWith tup2 us) := by
  refine ⟨fun H => SqK K k1 H a vs ∧ SqK K k2 H b xs, YPair (fun i => vs[i]?) (fun i => xs[i]?), ⟨fun i H hi q => ?_, fun H q => ⟨vs, xs, q.1, q.2, ?_, ?_, ?_⟩, fun i H v H' hi q y => ?_⟩, fun Z' G' H' x h' => ⟨⟨s1 _ _ _ x, s2 _ _ _ x⟩, fun i v H'' hi y => ?_⟩⟩
  · rw [List.length_zipWith, r1.length, r2.length] at hi
    exact ⟨vs, xs, _, _, q.1, q.2, List.getElem?_eq_getElem (by omega), List.getElem?_eq_getElem (by omega)⟩
  · rw [List.length_zipWith, r1.length, r2.length]; omega
  · rw [List.length_zipWith, r1.length, r2.length]; omega
  · rw [List.length_zipWith, r1.length, r2.length]; omega
  · obtain ⟨T, x, z, e1, e2, e3, f1, f2⟩ := y
    exact ⟨T, x, z, e1, e2, e3, f1 vs q.1, f2 xs q.2⟩
  · obtain ⟨T, p, q, rfl, nT, rfl, e1, e2⟩ := y
    obtain ⟨w, ew, rw'⟩ := (r1.ext h x).get' i e1
    obtain ⟨u, eu, ru⟩ := (r2.ext h x).get' i e2
    obtain ⟨h2, x2, r3⟩ := new_tup h' nT (.cons rw' (.cons ru .nil))
    exact ⟨tup2 w u, by rw [List.getElem?_zipWith, ew, eu], r3, x2, h2⟩
theorem walkZ3 (h : HRel K Z G H) (s1 : ∀ Z2 G2 H2, Ext Z G H Z2 G2 H2 → SqK K k1 H2 a vs) (s2 : ∀ Z2 G2 H2, Ext Z G H Z2 G2 H2 → SqK K k2 H2 b xs) (s3 : ∀ Z2 G2 H2, Ext Z G H Z2 G2 H2 → SqK K k3 H2 c ys) (r1 : RwL K Z H ws vs) (r2 : RwL K Z H us xs) (r3 : RwL K Z H ts ys) : WalkW K (ItzG3 K k1 k2 k3 a b c) Z G H (zip3W ws us ts) := by
  refine ⟨fun H => SqK K k1 H a vs ∧ SqK K k2 H b xs ∧ SqK K k3 H c ys, fun i H v H' => ∃ T x y z, v = .ref T ∧ H T = none ∧ H' = upd H T (.tup [x, y, z]) ∧ vs[i]? = some x ∧ xs[i]? = some y ∧ ys[i]? = some z, ⟨fun i H hi q => ?_, fun H q => ⟨vs, xs, ys, q.1, q.2.1, q.2.2, ?_, ?_, ?_, ?_⟩, fun i H v H' hi q y => ?_⟩, fun Z' G' H' x h' => ⟨⟨s1 _ _ _ x, s2 _ _ _ x, s3 _ _ _ x⟩, fun i v H'' hi y => ?_⟩⟩
  · rw [zip3_len, r1.length, r2.length, r3.length] at hi
    exact ⟨vs, xs, ys, _, _, _, q.1, q.2.1, q.2.2, List.getElem?_eq_getElem (by omega), List.getElem?_eq_getElem (by omega), List.getElem?_eq_getElem (by omega)⟩
  · rw [zip3_len, r1.length, r2.length, r3.length]; omega
  · rw [zip3_len, r1.length, r2.length, r3.length]; omega
  · rw [zip3_len, r1.length, r2.length, r3.length]; omega
  · rw [zip3_len, r1.length, r2.length, r3.length]; omega
  · obtain ⟨T, x, z, t, e1, e2, e3, f1, f2, f3⟩ := y
    exact ⟨T, x, z, t, e1, e2, e3, f1 vs q.1, f2 xs q.2.1, f3 ys q.2.2⟩
  · obtain ⟨T, p, q, r, rfl, nT, rfl, e1, e2, e3⟩ := y
    obtain ⟨w, ew, rw'⟩ := (r1.ext h x).get' i e1
    obtain ⟨u, eu, ru⟩ := (r2.ext h x).get' i e2
    obtain ⟨t, et, rt⟩ := (r3.ext h x).get' i e3
    obtain ⟨h2, x2, r3⟩ := new_tup h' nT (.cons rw' (.cons ru (.cons rt .nil)))
    exact ⟨tup3 w u t, zip3_get _ _ _ i ew eu et, r3, x2, h2⟩
theorem walkEG (h : HRel K Z G H) (s1 : ∀ Z2 G2 H2, Ext Z G H Z2 G2 H2 → SqK K k H2 a vs) (r : RwL K Z H ws vs) : WalkW K (IteG K k a) Z G H (enumFrom 0 ws) := by
  refine ⟨fun H => SqK K k H a vs, fun i H v H' => ∃ T x, v = .ref T ∧ H T = none ∧ H' = upd H T (.tup [.int (i : Nat), x]) ∧ vs[i]? = some x, ⟨fun i H hi q => ?_, fun H q => ⟨vs, q, ?_⟩, fun i H v H' hi q y => ?_⟩, fun Z' G' H' x h' => ⟨s1 _ _ _ x, fun i v H'' hi y => ?_⟩⟩
  · rw [enum_len, r.length] at hi
    exact ⟨vs, _, q, List.getElem?_eq_getElem hi⟩
  · rw [enum_len, r.length]
  · obtain ⟨T, x, e1, e2, e3, f1⟩ := y
    exact ⟨T, x, e1, e2, e3, f1 vs q⟩
  · obtain ⟨T, p, rfl, nT, rfl, e1⟩ := y
    obtain ⟨w, ew, rw'⟩ := (r.ext h x).get' i e1
    obtain ⟨h2, x2, r3⟩ := new_tup h' nT (.cons .int (.cons rw' .nil))
    exact ⟨tup2 (.int (i : Nat)) w, by rw [enum_get, ew]; simp, r3, x2, h2⟩
end
def zipG2 (ws : List W) (G : Gp) (R : List W → Gp → Prop) : Prop := match ws with
  | [a, b] => seqOf a G fun xs G1 => seqOf b G1 fun ys G2 => R (xs.zipWith tup2 ys) G2
  | _ => False
def zipG3 (ws : List W) (G : Gp) (R : List W → Gp → Prop) : Prop := match ws with
  | [a, b, c] => seqOf a G fun xs G1 => seqOf b G1 fun ys G2 => seqOf c G2 fun zs G3 => R (zip3W xs ys zs) G3
  | _ => False
def enumG (ws : List W) (G : Gp) (R : List W → Gp → Prop) : Prop := match ws with
  | [a] => seqOf a G fun xs G1 => R (enumFrom 0 xs) G1
  | _ => False
def i_zipG2 (ta : TAw) : TIw := fun σ G R => ta σ G fun ws G1 => zipG2 ws G1 R
def i_zipG3 (ta : TAw) : TIw := fun σ G R => ta σ G fun ws G1 => zipG3 ws G1 R
def i_enumG (ta : TAw) : TIw := fun σ G R => ta σ G fun ws G1 => enumG ws G1 R
theorem zipG2_eq {a b : W} {G : Gp} {R : List W → Gp → Prop} : zipG2 [a, b] G R = seqOf a G fun xs G1 => seqOf b G1 fun ys G2 => R (xs.zipWith tup2 ys) G2 := rfl
theorem zipG3_eq {a b c : W} {G : Gp} {R : List W → Gp → Prop} : zipG3 [a, b, c] G R = seqOf a G fun xs G1 => seqOf b G1 fun ys G2 => seqOf c G2 fun zs G3 => R (zip3W xs ys zs) G3 := rfl
theorem enumG_eq {a : W} {G : Gp} {R : List W → Gp → Prop} : enumG [a] G R = seqOf a G fun xs G1 => R (enumFrom 0 xs) G1 := rfl
section
variable {X : Cx} {K : PySem.W.Frag} {ta : TAw} {p pos tpos : Pos} {elts : List Expr} {kk : Nat}
theorem qizipG2 {e e2 : Expr} (hg : Gl X "zip") (hm : X.mg "zip" = none) (ha : PAw X [e, e2] ta)
    (hs : starEach [e, e2] X.env = (false, eval e X.env) :: starEach [e2] X.env := by rfl) (hpl : (backTo pos (starEach [e2] X.env)).any (·.1) = false := by rfl) :
    PIw X (.Tuple elts kk tpos) (.Call (.Name "zip" p) [e, e2] [] pos) (i_zipG2 ta) := PI.imp (pi_zipG hg hm ha hs hpl) fun σ H R h => by
  obtain ⟨Z, σ', G, Qw, ev, hr, t, k⟩ := h
  refine ⟨Z, σ', G, _, ev, hr, t, fun Z1 G1 H1 ws vs x1 h1 r1 t1 => ?_⟩
  cases r1 with
  | nil => exact False.elim t1
  | cons ra rr =>
    cases rr with
    | nil => exact False.elim t1
    | cons rb rr =>
      cases rr with
      | cons _ _ => exact False.elim t1
      | nil =>
        rw [zipG2_eq] at t1
        obtain ⟨k1, a, xs, vs, Z2, G2, rfl, h2, x2, q1, s1, t2⟩ := seqOf_ex h1 ra t1
        obtain ⟨k2, b, ys, us, Z3, G3, rfl, h3, x3, q2, s2, t3⟩ := seqOf_ex h2 (rb.ext h1 x2) t2
        have s1' : ∀ Z4 G4 H4, Ext Z3 G3 H1 Z4 G4 H4 → SqK X.K k1 H4 a vs := fun Z4 G4 H4 x => s1 _ _ _ (x3.trans x)
        exact ⟨k1, k2, a, b, _, _, rfl, s1' _ _ _ Ext.refl, s2 _ _ _ Ext.refl, k Z3 G3 H1 _ _ ((x1.trans x2).trans x3) h3 (walkZ2 h3 s1' s2 (q1.ext h2 x3) q2) t3⟩
theorem qizipG3 {e e2 e3 : Expr} (hg : Gl X "zip") (hm : X.mg "zip" = none) (ha : PAw X [e, e2, e3] ta)
    (hs : starEach [e, e2, e3] X.env = (false, eval e X.env) :: starEach [e2, e3] X.env := by rfl) (hpl : (backTo pos (starEach [e2, e3] X.env)).any (·.1) = false := by rfl) :
    PIw X (.Tuple elts kk tpos) (.Call (.Name "zip" p) [e, e2, e3] [] pos) (i_zipG3 ta) := PI.imp (pi_zipG3 hg hm ha hs hpl) fun σ H R h => by
  obtain ⟨Z, σ', G, Qw, ev, hr, t, k⟩ := h
  refine ⟨Z, σ', G, _, ev, hr, t, fun Z1 G1 H1 ws vs x1 h1 r1 t1 => ?_⟩
  cases r1 with
  | nil => exact False.elim t1
  | cons ra rr =>
    cases rr with
    | nil => exact False.elim t1
    | cons rb rr =>
      cases rr with
      | nil => exact False.elim t1
      | cons rc rr =>
        cases rr with
        | cons _ _ => exact False.elim t1
        | nil =>
          rw [zipG3_eq] at t1
          obtain ⟨k1, a, xs, vs, Z2, G2, rfl, h2, x2, q1, s1, t2⟩ := seqOf_ex h1 ra t1
          obtain ⟨k2, b, ys, us, Z3, G3, rfl, h3, x3, q2, s2, t3⟩ := seqOf_ex h2 (rb.ext h1 x2) t2
          obtain ⟨k3, c, zs, ts, Z4, G4, rfl, h4, x4, q3, s3, t4⟩ := seqOf_ex h3 ((rc.ext h1 x2).ext h2 x3) t3
          have s1' : ∀ Z5 G5 H5, Ext Z4 G4 H1 Z5 G5 H5 → SqK X.K k1 H5 a vs := fun Z5 G5 H5 x => s1 _ _ _ ((x3.trans x4).trans x)
          have s2' : ∀ Z5 G5 H5, Ext Z4 G4 H1 Z5 G5 H5 → SqK X.K k2 H5 b us := fun Z5 G5 H5 x => s2 _ _ _ (x4.trans x)
          exact ⟨k1, k2, k3, a, b, c, _, _, _, rfl, s1' _ _ _ Ext.refl, s2' _ _ _ Ext.refl, s3 _ _ _ Ext.refl, k Z4 G4 H1 _ _ (((x1.trans x2).trans x3).trans x4) h4 (walkZ3 h4 s1' s2' s3 ((q1.ext h2 x3).ext h3 x4) (q2.ext h3 x4) q3) t4⟩
theorem qienumG {e : Expr} (hg : Gl X "enumerate") (hm : X.mg "enumerate" = none) (ha : PAw X [e] ta) (hs : starEach [e] X.env = [(false, eval e X.env)] := by rfl) :
    PIw X (.Tuple elts kk tpos) (.Call (.Name "enumerate" p) [e] [] pos) (i_enumG ta) := PI.imp (pi_enumG hg hm ha hs) fun σ H R h => by
  obtain ⟨Z, σ', G, Qw, ev, hr, t, k⟩ := h
  refine ⟨Z, σ', G, _, ev, hr, t, fun Z1 G1 H1 ws vs x1 h1 r1 t1 => ?_⟩
  cases r1 with
  | nil => exact False.elim t1
  | cons ra rr =>
    cases rr with
    | cons _ _ => exact False.elim t1
    | nil =>
      rw [enumG_eq] at t1
      obtain ⟨k1, a, xs, vs, Z2, G2, rfl, h2, x2, q1, s1, t2⟩ := seqOf_ex h1 ra t1
      exact ⟨k1, a, _, rfl, s1 _ _ _ Ext.refl, k Z2 G2 H1 _ _ (x1.trans x2) h2 (walkEG h2 s1 q1) t2⟩
end
end WL
/-! sorted and < of data. -/
namespace WL
open PySem PySem.Spec PyProof.Rows L2
/-- the order of data -/
def leW (a b : W) : Bool := !PySem.W.dataLt (wdat b) (wdat a)
section
variable {X : Cx} {K : PySem.W.Frag}
theorem readsEach {X : Cx} {pins : List (Addr × Obj)} {σ : L2.St} {H : Hp} {s : Shared} (I : Inv X pins σ H s) : ∀ {xs : List V} {ds : List PyData} {its : List Value}, DpAll X.K H xs ds → Vals xs its → PySem.W.EachIs (fun v d => ∃ as, Reads s.heap v d as) its ds
  | _, _, _, .nil, .nil => .nil
  | _, _, _, .cons d dd, .cons r rr => .cons (Dp.reads I _ _ _ d r) (readsEach I dd rr)
def rSortedD (K : PySem.W.Frag) : List V → Hp → VK → Prop := fun vs H Q => ∃ (a : Addr) (xs : List V) (ds : List PyData), vs = [V.ref a] ∧ SqL K H a xs ∧ DpAll K H xs ds ∧ PySem.W.AllAlike ds ∧ PySem.W.Sortable ds ∧ (∀ d ∈ ds, d.depth ≤ 60) ∧
  ∀ p, H p = none → Q (.ref p) (upd H p (.lst (((xs.zip ds).mergeSort fun a b => !PySem.W.dataLt b.2 a.2).map Prod.fst)))
theorem vals_fst {R : V × PyData → Prop} : ∀ {vs : List Value} {bs : List (V × PyData)}, PySem.W.EachIs (fun v (b : V × PyData) => RelV b.1 v) vs bs → Vals (bs.map Prod.fst) vs
  | _, _, .nil => .nil
  | _, _, .cons r t => .cons r (vals_fst (R := R) t)
theorem each_zip : ∀ {xs : List V} {ds : List PyData} {vs : List Value}, Vals xs vs → xs.length = ds.length → PySem.W.EachIs (fun v (b : V × PyData) => RelV b.1 v) vs (xs.zip ds)
  | [], [], _, .nil, _ => .nil
  | _ :: _, d :: ds, _, .cons r t, e => .cons r (each_zip t (by simpa using e))
  | _ :: _, [], _, .cons _ _, e => by simp at e
theorem each_key {h : Heap} {ds0 : List PyData} (hal : PySem.W.AllAlike ds0) : ∀ {xs : List V} {ds : List PyData} {vs : List Value}, PySem.W.EachIs (fun v d => ∃ as, Reads h v d as) vs ds → xs.length = ds.length → (∀ d ∈ ds, d ∈ ds0) → PySem.W.EachIs (fun v (b : V × PyData) => (PySem.W.dataKind h ds0).keyOf v = some (PySem.W.keyToks b.2)) vs (xs.zip ds)
  | [], _, _, .nil, _, _ => .nil
  | _ :: _, _, _, .nil, e, _ => by simp at e
  | _ :: xs, _, _, .cons ⟨as, r⟩ t, e, hm => .cons (PySem.W.dataKind_some hal (hm _ (.head _)) r) (each_key hal t (by simpa using e) fun d hd => hm d (.tail _ hd))
  | [], _, _, .cons _ _, e, _ => by simp at e
theorem dp_len {H : Hp} : ∀ {xs : List V} {ds : List PyData}, DpAll K H xs ds → xs.length = ds.length
  | _, _, .nil => rfl
  | _, _, .cons _ t => by rw [List.length_cons, List.length_cons, dp_len t]
theorem cr_sortedD (hu : X.A.units + 64 < cLine) : CallR X (.builtin "sorted") (rSortedD X.K) := by
  intro pins s σ H vs us Q I r h
  obtain ⟨a, xs, ds, rfl, hs, dd, hal, hso, hd, q⟩ := h
  obtain ⟨its, rv, hl, hz⟩ := I.list hs
  rw [Vals.ref1 r]
  have ll := dp_len dd
  have lv := rv.length
  have re := readsEach I dd rv
  have re' : PySem.W.EachIs (fun v d => ∃ as, Reads (PySem.W.sortingHeap (PySem.W.copyHeap s.heap its) (s.heap.objs.size + 1) its) v d as) its ds := re.mono fun v d ⟨as, r⟩ => ⟨as, Reads.keeps (fun b o e => PySem.W.sorting_copy_old e) r⟩
  have SA := PySem.W.SortsAt.data (prog := X.prog) (w := X.w) (A := X.A.in1.in1) (s := { s with heap := PySem.W.sortingHeap (PySem.W.copyHeap s.heap its) (s.heap.objs.size + 1) its }) re' hal hso fun d hm => by
    have := hd d hm
    show X.A.units + 2 + d.depth < cLine
    omega
  refine PySem.W.sorted_vals hl.isList SA (by rw [← lv]; exact hz) ?_
  have ev := PySem.W.sortVals_each (κ := PySem.W.dataKind (PySem.W.sortingHeap (PySem.W.copyHeap s.heap its) (s.heap.objs.size + 1) its) ds) (rev := false) (k := fun b : V × PyData => PySem.W.keyToks b.2) (each_zip (ds := ds) rv ll) (each_key (xs := xs) hal re' ll fun d hd => hd)
  have vv := vals_fst (R := fun _ => True) ev
  obtain ⟨ep, he'⟩ := PyProof.Rows.sortedAll_at s.heap its (PySem.W.sortVals (PySem.W.dataKind (PySem.W.sortingHeap (PySem.W.copyHeap s.heap its) (s.heap.objs.size + 1) its) ds) false its its).toArray
  have hlen : (((xs.zip ds).mergeSort fun a b => !PySem.W.dataLt b.2 a.2).map Prod.fst).length ≤ sizeLine := by
    rw [List.length_map, List.length_mergeSort, List.length_zip]
    omega
  refine ⟨.ref _, upd H (s.heap.objs.size + 1) (.lst (((xs.zip ds).mergeSort fun a b => !PySem.W.dataLt b.2 a.2).map Prod.fst)), I.laid (t' := s.toks) (fun _ _ => PyProof.Rows.sortedAll_old) (Nat.le_succ _) ⟨hlen, _, ep, ?_, he'⟩, rfl, q _ (I.hok.fresh (Nat.le_succ _))⟩
  exact vv
end
/-! ### sorted -/
def wSortO (x : W) (G : Gp) (R : List W → Prop) : Prop := isS (asL G x) fun us => wpures us = true ∧ PySem.W.AllAlike (wdats us) ∧ PySem.W.Sortable (wdats us) ∧ (∀ d ∈ wdats us, d.depth ≤ 60) ∧ R (us.mergeSort leW)
def wSorted : List W → Gp → QW → Prop := fun ws G Q => match ws with
  | [x] => wSortO x G fun us => Q (.lst us) G
  | _ => False
def wSortedM : List W → Gp → QW → Prop := fun ws G Q => match ws with
  | [x] => wSortO x G fun us => ∀ p, G p = none → Q (.ref p) (gup G p (.lst us))
  | _ => False
theorem wSorted_eq {x : W} {G : Gp} {Q : QW} : wSorted [x] G Q = wSortO x G fun us => Q (.lst us) G := rfl
theorem wSortedM_eq {x : W} {G : Gp} {Q : QW} : wSortedM [x] G Q = wSortO x G fun us => ∀ p, G p = none → Q (.ref p) (gup G p (.lst us)) := rfl
section
variable {K : PySem.W.Frag} {Z : Zp} {G : Gp} {H : Hp}
theorem each_W : ∀ {us : List W} {xs : List V}, RwL K Z H us xs → PySem.W.EachIs (fun w (b : V × PyData) => Rw K Z H w b.1 ∧ b.2 = wdat w) us (xs.zip (wdats us))
  | _, _, .nil => .nil
  | _, _, .cons r t => .cons ⟨r, rfl⟩ (each_W t)
theorem each_RwL : ∀ {us : List W} {bs : List (V × PyData)}, PySem.W.EachIs (fun w (b : V × PyData) => Rw K Z H w b.1 ∧ b.2 = wdat w) us bs → RwL K Z H us (bs.map Prod.fst)
  | _, _, .nil => .nil
  | _, _, .cons r t => .cons r.1 (each_RwL t)
theorem sort_RwL {us : List W} {xs : List V} (r : RwL K Z H us xs) : RwL K Z H (us.mergeSort leW) (((xs.zip (wdats us)).mergeSort fun a b => !PySem.W.dataLt b.2 a.2).map Prod.fst) := by
  have e := each_W r
  refine each_RwL (PySem.W.sort_each e fun p hp q hq => ?_)
  have h1 := (e.zip p hp).2
  have h2 := (e.zip q hq).2
  unfold leW
  rw [h1, h2]
theorem sim_sorted : SimN K (rSortedD K) wSorted := by
  intro Z G H ws vs Qw Q h r t k
  cases r with
  | nil => exact False.elim t
  | cons rx rr =>
    cases rr with
    | cons _ _ => exact False.elim t
    | nil =>
      obtain ⟨us, e, h1, h2, h3, h4, q⟩ := isS_ex t
      obtain ⟨p, vs, rfl, s, r⟩ := asL_sq h rx e
      refine ⟨p, vs, wdats us, rfl, s, r.dp h1, h2, h3, h4, fun l n => ?_⟩
      obtain ⟨h5, x5, r5⟩ := new_frz h n (sort_RwL r)
      exact k _ _ _ _ _ x5 h5 r5 q
theorem sim_sortedM : SimN K (rSortedD K) wSortedM := by
  intro Z G H ws vs Qw Q h r t k
  cases r with
  | nil => exact False.elim t
  | cons rx rr =>
    cases rr with
    | cons _ _ => exact False.elim t
    | nil =>
      obtain ⟨us, e, h1, h2, h3, h4, q⟩ := isS_ex t
      obtain ⟨p, vs, rfl, s, r⟩ := asL_sq h rx e
      refine ⟨p, vs, wdats us, rfl, s, r.dp h1, h2, h3, h4, fun l n => ?_⟩
      obtain ⟨g5, h5, x5⟩ := new_lst h n (sort_RwL r)
      exact k _ _ _ _ _ x5 h5 .ref (q l g5)
variable {X : Cx} {e : Expr} {es : List Expr} {t : TAw} {p pos : Pos}
theorem qsorted {k : Nat} (hr : Room k X.A) (hg : Gl X "sorted") (hm : X.mg "sorted" = none) (ha : PAw X (e :: es) t) (he : starEach (e :: es) X.env = (false, eval e X.env) :: starEach es X.env := by rfl) (hpl : (backTo pos (starEach es X.env)).any (·.1) = false := by rfl) :
    PEw X (.Call (.Name "sorted" p) (e :: es) [] pos) (wCB wSorted t) := PE.imp (pe_callB (cr_sortedD (hu64 hr)) hg hm (by decide +kernel) ha (by decide) (by decide) he hpl) fun _ _ _ h => liftN sim_sorted h
theorem qsortedM {k : Nat} (hr : Room k X.A) (hg : Gl X "sorted") (hm : X.mg "sorted" = none) (ha : PAw X (e :: es) t) (he : starEach (e :: es) X.env = (false, eval e X.env) :: starEach es X.env := by rfl) (hpl : (backTo pos (starEach es X.env)).any (·.1) = false := by rfl) :
    PEw X (.Call (.Name "sorted" p) (e :: es) [] pos) (wCB wSortedM t) := PE.imp (pe_callB (cr_sortedD (hu64 hr)) hg hm (by decide +kernel) ha (by decide) (by decide) he hpl) fun _ _ _ h => liftN sim_sortedM h
end
/-! ### < of data (of tuples) -/
def rLtD (K : PySem.W.Frag) : R2 := fun x y H Q => ∃ d e, Dp K H x d ∧ Dp K H y e ∧ PySem.W.alike d e = true ∧ d ≠ .none ∧ d.depth ≤ 60 ∧ Q (.bl (PySem.W.dataLt d e)) H
theorem op_ltD {X : Cx} (hu : X.A.units + 64 < cLine) : OpR X (compareOp .Lt) (rLtD X.K) := by
  intro pins s σ H x y v u Q I rx ry h
  obtain ⟨d, e, hd, he, ha, hn, hp, q⟩ := h
  obtain ⟨as, r1⟩ := Dp.reads I d x v hd rx
  obtain ⟨bs, r2⟩ := Dp.reads I e y u he ry
  exact PySem.W.lt_data r1 r2 ha hn (by omega) ⟨.bl _, H, I, rfl, q⟩
def wLtD : RW2 := fun x y G Q => wpure x = true ∧ wpure y = true ∧ PySem.W.alike (wdat x) (wdat y) = true ∧ wdat x ≠ .none ∧ (wdat x).depth ≤ 60 ∧ Q (.bl (PySem.W.dataLt (wdat x) (wdat y))) G
theorem sim_ltD {K : PySem.W.Frag} : Sim2 K (rLtD K) wLtD := by
  intro Z G H x y v u Qw Q h rx ry t k
  obtain ⟨h1, h2, h3, h4, h5, q⟩ := t
  exact ⟨_, _, rx.dp h1, ry.dp h2, h3, h4, h5, k.at h .bl q⟩
section
variable {X : Cx} {a b : Expr} {ta tb : TEw} {pos : Pos}
theorem qltD {k : Nat} (hr : Room k X.A) (ha : PEw X a ta) (hb : PEw X b tb) : PEw X (.Compare a [.Lt] [b] pos) (wOp wLtD ta tb) := qcmp (op_ltD (hu64 hr)) sim_ltD ha hb (nomark _)
theorem qtltD {k : Nat} (hr : Room k X.A) (ha : PEw X a ta) (hb : PEw X b tb) : PTw X (.Compare a [.Lt] [b] pos) (wTest (wOp wLtD ta tb)) := qtcmp (op_ltD (hu64 hr)) sim_ltD ha hb (nomark _)
end
/-! ### defs as values -/
theorem qfn {X : Cx} {x : Str} {f : Addr} {pos : Pos} (hg : Gl X x) (m : X.mg x = some (.ref f)) (hd : (x == ("__debug__" : Str)) = false := by decide) : PEw X (.Name x pos) (wC (.ref f)) :=
  PE.imp (pe_glob (v := .ref f) hg m rfl hd) fun _ _ _ h => lC (fun _ _ => .ref) h
/-- a call of a name that holds one of some defs -/
def wCallV (i : Nat) (fs : List (Addr × Spw)) (t : TAw) : TEw := fun σ G Q => isS (slot σ i) fun w => ∃ p ∈ fs, w = .ref p.1 ∧ t σ G fun ws G1 => p.2 ws G1 Q E0w
def CalF (X : Cx) (p : Addr × Spw) : Prop := ∃ k fd ps, FnOk X.prog X.w X.K X.mg X.base CX0 k p.1 fd ps (liftSp X.K p.2) ∧ Room k X.A ∧ PySem.W.keepIn X.K (.ref p.1) = true ∧ Binds X.K fd ps []
theorem qcallV {X : Cx} {i : Nat} {x : Str} {p pos : Pos} {e : Expr} {es : List Expr} {t : TAw} {fs : List (Addr × Spw)} (hf : ∀ p ∈ fs, CalF X p) (ha : PAw X (e :: es) t) (hN : X.N[i]? = some x := by rfl) (hv : Vis X.env.scope x := by first | exact Or.inl rfl | exact Or.inr (Or.inl rfl) | exact Or.inr (Or.inr rfl))
    (hdb : (x == ("__debug__" : Str)) = false := by decide) (hcd : (x == ("__classdict__" : Str)) = false := by decide)
    (he : starEach (e :: es) X.env = (false, eval e X.env) :: starEach es X.env := by rfl) (hpl : (backTo pos (starEach es X.env)).any (·.1) = false := by rfl) : PEw X (.Call (.Name x p) (e :: es) [] pos) (wCallV i fs t) := by
  refine ⟨fun pins s σ H Q I h => ?_⟩
  obtain ⟨Z, σ', G, Qw, ev, hr, t1, k⟩ := h
  obtain ⟨w, ew, q, hq, rfl, t1⟩ := isS_ex t1
  obtain ⟨kk, fd, ps, F, room, kp, b⟩ := hf q hq
  obtain ⟨v, e1, rv⟩ := ev.get i ew
  cases rv
  refine (pe_callL F room hN hv kp b .nil pass0 ha hdb hcd he hpl).run pins s σ H Q I ⟨e1, ?_⟩
  exact lcall ⟨Z, σ', G, Qw, ev, hr, t1, k⟩
/-! ### xs.clear() -/
def wClear : RWM := fun o ws G Q => match o, ws with
  | .ref p, [] => isG (G p) fun _ => Q .non (gup G p (.lst []))
  | _, _ => False
theorem wClear_ref {p : Addr} {G : Gp} {Q : QW} : wClear (.ref p) [] G Q = isG (G p) fun _ => Q .non (gup G p (.lst [])) := rfl
abbrev wM_clear := wClear
theorem sim_clear {K : PySem.W.Frag} : SimM K rClear wClear := by
  intro Z G H x v ws vs Qw Q h rx rs t k
  cases rx with
  | @ref p =>
    cases rs with
    | cons _ _ => exact False.elim t
    | nil =>
      obtain ⟨us, g, q⟩ := isG_ex t
      obtain ⟨xs, s, r⟩ := h.lst g
      obtain ⟨h2, x2⟩ := chg_lst h g (.nil : RwL K Z H [] [])
      exact ⟨p, xs, rfl, rfl, s, k _ _ _ _ _ x2 h2 .non q⟩
  | _ => exact False.elim t
theorem qm_clear {X : Cx} {o : Expr} {to : TEw} {cpos apos : Pos} (ho : PEw X o to) (hbase : attributeBase o "clear" X.env (eval o X.env) = eval o X.env := by rfl) (hline : (apos.endLine == cpos.line) = true := by rfl) : PEw X (.Call (.Attribute o "clear" apos) [] [] cpos) (wBM0 wM_clear to) :=
  qbm0 PySem.F.slot_list_clear PySem.F.type_list_clear mt_clear sim_clear ho hbase hline
/-! ### is not of bools; bits -/
def wNotB : RW2 := fun x y G Q => match x, y with
  | .bl a, .bl b => Q (.bl (!decide (a = b))) G
  | _, _ => False
theorem wNotB_bl {a b : Bool} {G : Gp} {Q : QW} : wNotB (.bl a) (.bl b) G Q = Q (.bl (!decide (a = b))) G := rfl
theorem sim_notB {K : PySem.W.Frag} : Sim2 K rNotB wNotB := by
  intro Z G H x y v u Qw Q h rx ry t k
  cases rx with
  | bl =>
    cases ry with
    | bl => exact ⟨_, _, rfl, rfl, k.at h .bl t⟩
    | _ => exact False.elim t
  | _ => cases ry <;> exact False.elim t
abbrev wShl : RW2 := wI2 CPow fun i j => .int (i * 2 ^ j.toNat)
abbrev wShr : RW2 := wI2 (fun _ j => 0 ≤ j) fun i j => .int (i / 2 ^ j.toNat)
abbrev wBand : RW2 := wII fun i j => .int (PySem.Builtin.bitAnd i j)
section
variable {X : Cx} {K : PySem.W.Frag} {a b o : Expr} {ta tb to : TEw} {pos apos cpos : Pos}
theorem qnotB (ha : PEw X a ta) (hb : PEw X b tb) : PEw X (.Compare a [.IsNot] [b] pos) (wOp wNotB ta tb) := qcmp op_notBl sim_notB ha hb (nomark _)
theorem qtnotB (ha : PEw X a ta) (hb : PEw X b tb) : PTw X (.Compare a [.IsNot] [b] pos) (wTest (wOp wNotB ta tb)) := qtcmp op_notBl sim_notB ha hb (nomark _)
theorem qshl (ha : PEw X a ta) (hb : PEw X b tb) : PEw X (.BinOp a .LShift b pos) (wOp wShl ta tb) := qop op_shl (sim_I fun _ _ _ _ => .int) ha hb
theorem qshr (ha : PEw X a ta) (hb : PEw X b tb) : PEw X (.BinOp a .RShift b pos) (wOp wShr ta tb) := qop op_shr (sim_I fun _ _ _ _ => .int) ha hb
theorem qband (ha : PEw X a ta) (hb : PEw X b tb) : PEw X (.BinOp a .BitAnd b pos) (wOp wBand ta tb) := qop op_and (sim_II fun _ _ _ _ => .int) ha hb
end
/-! ### in, of data of any depth -/
def wInD (neg : Bool) : RW2 := fun x y G Q => match y with
  | .lst ws => wOk x ∧ wOk (.lst ws) ∧ Q (.bl (if neg then !((wdats ws).any fun z => PyData.eqv z (wdat x)) else (wdats ws).any fun z => PyData.eqv z (wdat x))) G
  | _ => False
theorem wInD_lst {neg : Bool} {x : W} {ws : List W} {G : Gp} {Q : QW} : wInD neg x (.lst ws) G Q = (wOk x ∧ wOk (.lst ws) ∧ Q (.bl (if neg then !((wdats ws).any fun z => PyData.eqv z (wdat x)) else (wdats ws).any fun z => PyData.eqv z (wdat x))) G) := rfl
theorem sim_inD {K : PySem.W.Frag} : Sim2 K (rInD K) (wInD false) := by
  intro Z G H x y v u Qw Q h rx ry t k
  cases y with
  | lst ws =>
    obtain ⟨t1, t2, q⟩ := t
    exact ⟨_, _, rx.dp t1.1, ry.dp t2.1, t1.2, t2.2, k.at h .bl q⟩
  | _ => exact False.elim t
theorem sim_ninD {K : PySem.W.Frag} : Sim2 K (rNotInD K) (wInD true) := by
  intro Z G H x y v u Qw Q h rx ry t k
  cases y with
  | lst ws =>
    obtain ⟨t1, t2, q⟩ := t
    exact ⟨_, _, rx.dp t1.1, ry.dp t2.1, t1.2, t2.2, k.at h .bl q⟩
  | _ => exact False.elim t
theorem hu65 {A : Around} {k : Nat} (hr : Room k A) : A.units + 65 < cLine := by have := hr.un; omega
section
variable {X : Cx} {K : PySem.W.Frag} {a b o : Expr} {ta tb to : TEw} {pos apos cpos : Pos}
theorem qinD {k : Nat} (hr : Room k X.A) (ha : PEw X a ta) (hb : PEw X b tb) (hm : behindInMarks .In b = false := by rfl) : PEw X (.Compare a [.In] [b] pos) (wOp (wInD false) ta tb) := qcmp (op_inD (hu65 hr)) sim_inD ha hb hm
theorem qninD {k : Nat} (hr : Room k X.A) (ha : PEw X a ta) (hb : PEw X b tb) (hm : behindInMarks .NotIn b = false := by rfl) : PEw X (.Compare a [.NotIn] [b] pos) (wOp (wInD true) ta tb) := qcmp (op_notInD (hu65 hr)) sim_ninD ha hb hm
theorem qtinD {k : Nat} (hr : Room k X.A) (ha : PEw X a ta) (hb : PEw X b tb) (hm : behindInMarks .In b = false := by rfl) : PTw X (.Compare a [.In] [b] pos) (wTest (wOp (wInD false) ta tb)) := qtcmp (op_inD (hu65 hr)) sim_inD ha hb hm
theorem qtninD {k : Nat} (hr : Room k X.A) (ha : PEw X a ta) (hb : PEw X b tb) (hm : behindInMarks .NotIn b = false := by rfl) : PTw X (.Compare a [.NotIn] [b] pos) (wTest (wOp (wInD true) ta tb)) := qtcmp (op_notInD (hu65 hr)) sim_ninD ha hb hm
end
end WL
/-! tuple * a whole number from 0 on, of tuples of any length. -/
namespace WL
open PySem PySem.Spec PyProof.Rows L2
theorem tuple_mulSame (l : Addr) (items : Array Value) (n : Nat) (dd : Option Addr) (sl : Array (Option Value)) (x : Int) (u : Tok) (c0 : (decide (x < -(2 ^ 63)) || decide (x ≥ 2 ^ 63)) = false) (c1 : (items.isEmpty || x == 1) = true) :
    Meets (Builtin.«tuple.__mul__» ⟨[.ref l, .int x u], []⟩) (fun _ R s => s.heap.get? l = some { cls := .type "tuple", dict := dd, data := .seq items n, slots := sl } ∧
      R (.ok (.ret (Value.ref l))) s) :=
  .of_wp fun prog w A R s h => by
    obtain ⟨hp, g, d, tk, os⟩ := s
    obtain ⟨hl, h⟩ := h
    have f1 := AutoSeq1.idx_int
    wp_walk using wpAny_loadPart' hl
    repeat (first
      | (refine wpAny_ite_false (decide_eq_false (by rw [c0]; exact Bool.false_ne_true)) ?_; wp_walk using wpAny_loadPart' hl)
      | (refine wpAny_ite_true (decide_eq_true (by rw [c1])) ?_; wp_walk using wpAny_loadPart' hl))
    exact ⟨_, rfl, h⟩
theorem tuple_mulNone (l : Addr) (items : Array Value) (n : Nat) (dd : Option Addr) (sl : Array (Option Value)) (x : Int) (u : Tok) (c0 : (decide (x < -(2 ^ 63)) || decide (x ≥ 2 ^ 63)) = false) (c1 : (items.isEmpty || x == 1) = false) (c2 : (decide (x ≤ 0) || items.isEmpty) = true) :
    Meets (Builtin.«tuple.__mul__» ⟨[.ref l, .int x u], []⟩) (fun _ R s => s.heap.get? l = some { cls := .type "tuple", dict := dd, data := .seq items n, slots := sl } ∧
      R (.ok (.ret (Value.ref s.heap.objs.size))) { s with heap := s.heap.push { cls := Value.type "tuple", data := Data.seq #[] }, toks := s.toks }) :=
  .of_wp fun prog w A R s h => by
    obtain ⟨hp, g, d, tk, os⟩ := s
    obtain ⟨hl, h⟩ := h
    have f1 := AutoSeq1.idx_int
    wp_walk using wpAny_loadPart' hl
    repeat (first
      | (refine wpAny_ite_false (decide_eq_false (by rw [c0]; exact Bool.false_ne_true)) ?_; wp_walk using wpAny_loadPart' hl)
      | (refine wpAny_ite_false (decide_eq_false (by rw [c1]; exact Bool.false_ne_true)) ?_; wp_walk using wpAny_loadPart' hl)
      | (refine wpAny_ite_true (decide_eq_true (by rw [c2])) ?_; wp_walk using wpAny_loadPart' hl))
    exact ⟨_, rfl, h⟩
def rRepTA (K : PySem.W.Frag) : R2 := fun x y H Q => ∃ l k xs, x = .ref l ∧ y = .int k ∧ SqT K H l xs ∧ 0 ≤ k ∧ k ≤ 1000 ∧ xs.length ≤ 1000 ∧ ((xs = [] ∨ k = 1) → Q (.ref l) H) ∧ (¬ (xs = [] ∨ k = 1) → ∀ p, H p = none → Q (.ref p) (upd H p (.tup (List.replicate k.toNat xs).flatten)))
section
variable {X : Cx}
theorem op_repTA : OpR X (binaryOp .Mult) (rRepTA X.K) := by
  intro pins s σ H x y v u Q I rx ry h
  obtain ⟨l, k, xs, rfl, rfl, hT, h1, h2, hz, qa, qb⟩ := h
  by_cases cA : xs = [] ∨ k = 1
  · cases rx
    obtain ⟨t, rfl⟩ := ry
    obtain ⟨its, r, ⟨⟨cls, dd, data, sl⟩, ho, hc, n, hd⟩, hs⟩ := I.tuple hT
    simp only at hc hd
    subst hc hd
    have hle : its.length = xs.length := r.length.symm
    have c0 : (decide (k < -(2 ^ 63)) || decide (k ≥ 2 ^ 63)) = false := by
      rw [decide_eq_false (by omega), decide_eq_false (by omega)] <;> rfl
    have c1 : (its.toArray.isEmpty || k == 1) = true := by
      rcases cA with e | e
      · rw [e] at hle
        rw [List.eq_nil_of_length_eq_zero hle]
        rfl
      · rw [e]; simp
    refine wpAny_binaryOp_repeat_ref (T := "tuple") (U := "int") (by decide) ⟨_, ho, rfl⟩ (fun s' => typeIs_int s' k t) noFill_tuple_mul F.fills_int_mul F.slot_int_rmul repeat_tuple F.slot_int_index.lookup
      (call_meets F.slot_int_rmul (typeIs_int s k t) F.entry_int_rmul (F.args_int_rmul_2 _ _) (int_rmul_tuple k t l its.toArray n dd sl)
        ⟨ho, rfl, ⟨_, ho, rfl⟩, call_meets F.slot_tuple_mul ⟨_, ho, rfl⟩ F.entry_tuple_mul (F.args_tuple_mul_2 _ _) (tuple_mulSame l its.toArray n dd sl k t c0 c1) ⟨ho, ?_⟩⟩)
    exact ⟨.ref l, H, I, rfl, qa cA⟩
  · by_cases cB : k = 0
    · cases rx
      obtain ⟨t, rfl⟩ := ry
      obtain ⟨its, r, ⟨⟨cls, dd, data, sl⟩, ho, hc, n, hd⟩, hs⟩ := I.tuple hT
      simp only at hc hd
      subst hc hd
      have hle : its.length = xs.length := r.length.symm
      have hn : its ≠ [] := fun e => cA (.inl (by
        rw [e] at hle
        exact List.eq_nil_of_length_eq_zero hle.symm))
      have hi : its.toArray.isEmpty = false := by
        cases its with
        | nil => exact absurd rfl hn
        | cons a b => rfl
      have c0 : (decide (k < -(2 ^ 63)) || decide (k ≥ 2 ^ 63)) = false := by
        rw [decide_eq_false (by omega), decide_eq_false (by omega)] <;> rfl
      have c1 : (its.toArray.isEmpty || k == 1) = false := by
        rw [hi, Bool.false_or]
        exact beq_eq_false_iff_ne.mpr (by omega)
      have c2 : (decide (k ≤ 0) || its.toArray.isEmpty) = true := by
        rw [decide_eq_true (by omega)]; rfl
      refine wpAny_binaryOp_repeat_ref (T := "tuple") (U := "int") (by decide) ⟨_, ho, rfl⟩ (fun s' => typeIs_int s' k t) noFill_tuple_mul F.fills_int_mul F.slot_int_rmul repeat_tuple F.slot_int_index.lookup
        (call_meets F.slot_int_rmul (typeIs_int s k t) F.entry_int_rmul (F.args_int_rmul_2 _ _) (int_rmul_tuple k t l its.toArray n dd sl)
          ⟨ho, rfl, ⟨_, ho, rfl⟩, call_meets F.slot_tuple_mul ⟨_, ho, rfl⟩ F.entry_tuple_mul (F.args_tuple_mul_2 _ _) (tuple_mulNone l its.toArray n dd sl k t c0 c1 c2) ⟨ho, ?_⟩⟩)
      have e0 : (List.replicate k.toNat xs).flatten = [] := by rw [cB]; rfl
      refine ⟨.ref s.heap.objs.size, _, I.laid (t' := s.toks) (o := .tup (List.replicate k.toNat xs).flatten) (fun b ob q => Heap.get?_push_of_some _ q) (Nat.le_refl _) ?_, rfl, qb cA _ (I.hok.fresh (Nat.le_refl _))⟩
      rw [e0]
      exact ⟨by decide, [], .nil, IsTup.new _ _⟩
    · exact op_repT pins s σ H _ _ v u Q I rx ry ⟨l, k, xs, rfl, rfl, hT, fun e => cA (.inl e), by omega, h2, hz, qb cA⟩
end
/-! ### by value -/
def wRepT : RW2 := fun x y G Q => match x, y with
  | .tup ws, .int k => 0 ≤ k ∧ k ≤ 1000 ∧ ws.length ≤ 1000 ∧ Q (.tup (repW k ws)) G
  | _, _ => False
theorem wRepT_tup {ws : List W} {k : Int} {G : Gp} {Q : QW} : wRepT (.tup ws) (.int k) G Q = (0 ≤ k ∧ k ≤ 1000 ∧ ws.length ≤ 1000 ∧ Q (.tup (repW k ws)) G) := rfl
theorem sim_repT {K : PySem.W.Frag} : Sim2 K (rRepTA K) wRepT := by
  intro Z G H x y v u Qw Q h rx ry t k
  cases rx with
  | @tup p ws vs s r =>
    cases ry with
    | @int i =>
      obtain ⟨t1, t2, t3, q⟩ := t
      refine ⟨p, i, vs, rfl, rfl, s, t1, t2, by rw [← r.length]; exact t3, fun c => ?_, fun _ a n => ?_⟩
      · have e : repW i ws = ws := by
          rcases c with c | c
          · subst c
            cases r
            unfold repW
            simp
          · subst c
            unfold repW
            show (List.replicate 1 ws).flatten = ws
            simp
        rw [e] at q
        exact k.at h (.tup s r) q
      · obtain ⟨h2, x2, r'⟩ := new_tup h n (r.rep i.toNat)
        exact k Z G _ _ _ x2 h2 r' q
    | _ => exact False.elim t
  | _ => cases ry <;> exact False.elim t
section
variable {X : Cx} {a b : Expr} {ta tb : TEw} {pos : Pos}
theorem qrepT (ha : PEw X a ta) (hb : PEw X b tb) : PEw X (.BinOp a .Mult b pos) (wOp wRepT ta tb) := qop op_repTA sim_repT ha hb
end
end WL
/-! Instances of own classes; dicts with whole numbers and texts as keys; defs that may raise. -/
namespace WL
open PySem PySem.Spec PyProof.Rows L2
/-! ### attributes -/
structure FldOk (K : PySem.W.Frag) (nm f : Str) : Prop where
  ok : ∀ C, ClsA K nm C → Cls K C ∧ NoAttr K C f
def insOf (G : Gp) : W → Option (Str × List (Str × W))
  | .ins n fs => some (n, fs)
  | .ref p => match G p with
    | some (.ins n fs) => some (n, fs)
    | _ => none
  | _ => none
theorem insOf_gup {G : Gp} {p : Addr} {n : Str} {fs : List (Str × W)} : insOf (gup G p (.ins n fs)) (.ref p) = some (n, fs) := by simp only [insOf, gup_same]
section
variable {K : PySem.W.Frag} {Z : Zp} {G : Gp} {H : Hp}
theorem insOf_at (h : HRel K Z G H) {w : W} {v : V} {n : Str} {fs : List (Str × W)} (r : Rw K Z H w v) (e : insOf G w = some (n, fs)) : ∃ p C dx gs, v = .ref p ∧ ClsA K n C ∧ H p = some (.ins C dx gs) ∧ RwF K Z H fs gs := by
  cases r with
  | ins c z s r => simp only [insOf, Option.some.injEq, Prod.mk.injEq] at e; obtain ⟨rfl, rfl⟩ := e; exact ⟨_, _, _, _, rfl, c, s, r⟩
  | @ref p =>
    simp only [insOf] at e
    cases q : G p with
    | none => rw [q] at e; cases e
    | some o =>
      rw [q] at e
      cases o with
      | ins n' fs' =>
        simp only [Option.some.injEq, Prod.mk.injEq] at e
        obtain ⟨rfl, rfl⟩ := e
        obtain ⟨u, eu, ru⟩ := h.g p _ q
        cases ru with
        | ins c r => exact ⟨p, _, _, _, rfl, c, eu, r⟩
      | lst _ => cases e
      | dic _ => cases e
      | dcn _ _ => cases e
  | _ => cases e
end
def wFld (nm f : Str) : W → Gp → QW → Prop := fun x G Q => isS (insOf G x) fun o => o.1 = nm ∧ isS (o.2.lookup f) fun w => Q w G
def rFld (K : PySem.W.Frag) (f : Str) : V → Hp → VK → Prop := fun x H Q => ∃ a C dx fs v, x = .ref a ∧ H a = some (.ins C dx fs) ∧ Cls K C ∧ NoAttr K C f ∧ fs.lookup f = some v ∧ Q v H
theorem sim_fld {K : PySem.W.Frag} {nm f : Str} (ok : FldOk K nm f) : Sim1 K (rFld K f) (wFld nm f) := by
  intro Z G H x v Qw Q h rx t k
  obtain ⟨⟨n, fs⟩, e, en, t5⟩ := isS_ex t
  have en : n = nm := en
  obtain ⟨w, el, q⟩ := isS_ex t5
  clear t5 t
  subst en
  obtain ⟨p, C, dx, gs, rfl, c, s, r⟩ := insOf_at h rx e
  obtain ⟨c1, c2⟩ := ok.ok C c
  obtain ⟨u, eu, ru⟩ := r.get el
  exact ⟨p, C, dx, gs, u, rfl, s, c1, c2, eu, k.at h ru q⟩
theorem qfld {X : Cx} {nm f : Str} {e : Expr} {te : TEw} {pos : Pos} (ok : FldOk X.K nm f) (he : PEw X e te) (hb : attributeBase e f X.env (eval e X.env) = eval e X.env := by rfl) : PEw X (.Attribute e f pos) (wUn (wFld nm f) te) :=
  PE.imp (pe_fld he hb) fun σ H Q h => lift1 (r := rFld X.K f) (sim_fld ok) h
def putW (f : Str) (v : W) : List (Str × W) → List (Str × W)
  | [] => [(f, v)]
  | (g, x) :: r => if g = f then (g, v) :: r else (g, x) :: putW f v r
theorem RwF.put {K : PySem.W.Frag} {Z : Zp} {H : Hp} {f : Str} {w : W} {v : V} (rw' : Rw K Z H w v) : ∀ {ws : List (Str × W)} {vs : List (Str × V)}, RwF K Z H ws vs → RwF K Z H (putW f w ws) (putF f v vs)
  | _, _, .nil => .cons rw' .nil
  | _, _, .cons (f := g) r t => by
    simp only [putW, putF]
    split
    · exact .cons rw' t
    · exact .cons r (RwF.put rw' t)
/-- an instance that stands in the small heap is changed -/
theorem chg_ins {K : PySem.W.Frag} {Z : Zp} {G : Gp} {H : Hp} (h : HRel K Z G H) {p : Addr} {n : Str} {fs fs' : List (Str × W)} {C dx : Addr} {gs' : List (Str × V)} (e : G p = some (.ins n fs)) (c : ClsA K n C) (r : RwF K Z H fs' gs') :
    HRel K Z (gup G p (.ins n fs')) (upd H p (.ins C dx gs')) ∧ Ext Z G H Z (gup G p (.ins n fs')) (upd H p (.ins C dx gs')) := by
  have x : Ext Z G H Z (gup G p (.ins n fs')) (upd H p (.ins C dx gs')) := ⟨fun _ z => z, fun q u e' g => by
    have c : q ≠ p := fun c => by rw [c, e] at g; cases g
    exact ⟨by rw [upd_ne c]; exact e', by rw [gup_ne c]; exact g⟩, fun _ _ _ z => z⟩
  refine ⟨⟨fun q z => ?_, fun q g e' => ?_⟩, x⟩
  · have c : q ≠ p := fun c => by
      have := (h.z q z).1
      rw [c, e] at this; cases this
    exact ⟨by rw [gup_ne c]; exact (h.z q z).1, by rw [upd_ne c]; exact (h.z q z).2⟩
  · by_cases d : q = p
    · rw [d, gup_same] at e'; cases e'
      exact ⟨_, by rw [d]; exact upd_same, .ins c (r.ext h x)⟩
    · rw [gup_ne d] at e'
      obtain ⟨u, e2, r2⟩ := h.g q g e'
      exact ⟨u, by rw [upd_ne d]; exact e2, r2.ext h x⟩
/-- an instance of the small heap -/
def isI (o : Option GO) (nm : Str) (P : List (Str × W) → Prop) : Prop := match o with
  | some (.ins n fs) => n = nm ∧ P fs
  | _ => False
theorem isI_ins {nm : Str} {fs : List (Str × W)} {P : List (Str × W) → Prop} : isI (some (.ins nm fs)) nm P = P fs := by
  unfold isI
  simp
theorem isI_ex {o : Option GO} {nm : Str} {P : List (Str × W) → Prop} (h : isI o nm P) : ∃ fs, o = some (.ins nm fs) ∧ P fs := by
  cases o with
  | none => exact h.elim
  | some g =>
    cases g with
    | lst ws => exact h.elim
    | dic _ => exact h.elim
    | dcn _ _ => exact h.elim
    | ins n fs =>
      obtain ⟨rfl, h⟩ := h
      exact ⟨fs, rfl, h⟩
def setF (nm f : Str) (y x : W) (G : Gp) (P : Gp → Prop) : Prop := match x with
  | .ref p => isI (G p) nm fun fs => fs.length < 1000 ∧ P (gup G p (.ins nm (putW f y fs)))
  | _ => False
theorem setF_ref {nm f : Str} {y : W} {p : Addr} {G : Gp} {P : Gp → Prop} : setF nm f y (.ref p) G P = isI (G p) nm fun fs => fs.length < 1000 ∧ P (gup G p (.ins nm (putW f y fs))) := rfl
def wSetF (nm f : Str) (te to : TEw) : TSw := fun D σ G => te σ G fun y G1 => to σ G1 fun x G2 => setF nm f y x G2 fun G3 => D.nx σ G3
theorem qsetF {X : Cx} {nm f : Str} {o e : Expr} {te to : TEw} {pos pos' : Pos} (ok : FldOk X.K nm f) (ho : PEw X o to) (he : PEw X e te) (hs : swapsWith e (some (.Attribute o f pos')) pos.line X.env = pure false := by rfl) : PSw X (.Assign [.Attribute o f pos'] e pos) (wSetF nm f te to) :=
  PS.imp (ps_fld ho he hs) fun D σ H h => by
    obtain ⟨Z, σ', G, Dw, ev, hr, t, k⟩ := h
    refine ⟨Z, σ', G, _, ev, hr, t, fun Z1 G1 H1 yw yv x1 h1 r1 t1 => ⟨Z1, σ', G1, _, ev.ext hr x1, h1, t1, fun Z2 G2 H2 xw xv x2 h2 r2 t2 => ?_⟩⟩
    cases r2 with
    | @ref p =>
      obtain ⟨fs, g, l, q⟩ := isI_ex t2
      obtain ⟨u, eu, ru⟩ := h2.g p _ g
      cases ru with
      | ins c r =>
        obtain ⟨c1, c2⟩ := ok.ok _ c
        obtain ⟨h3, x3⟩ := chg_ins (fs' := putW f yw fs) h2 g c (RwF.put (r1.ext h1 x2) r)
        refine ⟨p, _, _, _, rfl, eu, c1, c2, by rw [← r.length]; exact l, ?_⟩
        have xx := (x1.trans x2).trans x3
        exact k.nx _ _ _ _ _ xx h3 (ev.ext hr xx) q
    | _ => exact False.elim t2
/-! ### calls of methods, new instances -/
structure CalM (P : Program) (w : World) (K : PySem.W.Frag) (mg : Str → Option Value) (base : Heap) (CX : CXT) (k : Nat) (nm m : Str) (sp : Spw) : Prop where
  ex : ∃ C f fd ps, ClsA K nm C ∧ Cls K C ∧ Meth K C m f ∧ FnOk P w K mg base CX k f fd ps (liftSp K sp) ∧ Binds K fd ps []
structure CalC (P : Program) (w : World) (K : PySem.W.Frag) (mg : Str → Option Value) (base : Heap) (CX : CXT) (k : Nat) (nm : Str) (sp : Spw) : Prop where
  ex : ∃ C f fd ps, ClsA K nm C ∧ Mk K C f ∧ mg nm = some (.ref C) ∧ FnOk P w K mg base CX k f fd ps (liftSp K sp) ∧ Binds K fd ps []
def wMeth (nm m : Str) (sp : Spw) (to : TEw) (t : TAw) : TEw := fun σ G Q => to σ G fun x G1 => isS (insOf G1 x) fun o => o.1 = nm ∧ o.2.lookup m = none ∧ t σ G1 fun ws G2 => sp (x :: ws) G2 Q E0w
def wMake (nm : Str) (sp : Spw) (t : TAw) : TEw := fun σ G Q => t σ G fun ws G1 => ∀ p, G1 p = none → sp (.ref p :: ws) (gup G1 p (.ins nm [])) (fun w G2 => w = .non ∧ Q (.ref p) G2) E0w
/-- a new instance that is never changed -/
def wMakeZ (nm : Str) (sp : Spw) (t : TAw) : TEw := fun σ G Q => t σ G fun ws G1 => ∀ p, G1 p = none → sp (.ref p :: ws) (gup G1 p (.ins nm [])) (fun w G2 => w = .non ∧ isI (G2 p) nm fun fs => Q (.ins nm fs) (gdel G2 p)) E0w
section
variable {X : Cx} {K : PySem.W.Frag} {o e : Expr} {es : List Expr} {to : TEw} {t : TAw} {sp : Spw} {nm m : Str} {k : Nat} {p pos apos : Pos}
theorem lmeth {C : Addr} (c : ClsA K nm C) {σ : SV} {H : Hp} {Q : VK} (h : liftE K (wMeth nm m sp to t) σ H Q) : tMeth C m (liftSp K sp) [] E0 (liftE K to) (liftA K t) σ H Q := by
  obtain ⟨Z, σ', G, Qw, ev, hr, t, k⟩ := h
  refine ⟨Z, σ', G, _, ev, hr, t, fun Z1 G1 H1 w v x1 h1 r1 t1 => ?_⟩
  obtain ⟨⟨n, fs⟩, e, en, el, t5⟩ := isS_ex t1
  have en : n = nm := en
  clear t1
  subst en
  obtain ⟨p, C', dx, gs, rfl, c', s, r⟩ := insOf_at h1 r1 e
  cases c.one c'
  refine ⟨p, dx, gs, rfl, s, r.none el, Z1, σ', G1, _, ev.ext hr x1, h1, t5, fun Z2 G2 H2 ws vs x2 h2 r2 t2 => ?_⟩
  show liftSp K sp (.ref p :: (vs ++ [])) H2 Q E0
  rw [List.append_nil]
  exact ⟨Z2, w :: ws, G2, Qw, E0w, .cons (r1.ext h1 x2) r2, h2, t2, k.mono (x1.trans x2), fun _ _ _ _ _ _ _ _ _ _ _ z => z.elim⟩
theorem qmeth (c : CalM X.prog X.w X.K X.mg X.base CX0 k nm m sp) (hr : Room k X.A) (ho : PEw X o to) (ha : PAw X (e :: es) t) {pl : Sem Bool} (hst : starEach (e :: es) X.env = (false, eval e X.env) :: starEach es X.env := by rfl) (hpl : (backTo pos (starEach es X.env)).any (·.1) = false := by rfl)
    (ht : eval (.Call (.Attribute o m apos) (e :: es) [] pos) X.env = (do
      let ov ← eval o X.env
      standAt apos.atName
      let (f, first) ← holding [ov] (getMethod ov m pl)
      callWith pos f first (backTo pos (starEach (e :: es) X.env)) (backToKw pos (keywordEach [] X.env))) := by rfl) : PEw X (.Call (.Attribute o m apos) (e :: es) [] pos) (wMeth nm m sp to t) := by
  obtain ⟨C, f, fd, ps, ca, cl, hm, F, b⟩ := c.ex
  exact PE.imp (pe_meth ho cl hm F hr b .nil pass0 ha hst hpl ht) fun _ _ _ h => lmeth ca h
theorem qmeth0 (c : CalM X.prog X.w X.K X.mg X.base CX0 k nm m sp) (hr : Room k X.A) (ho : PEw X o to) {pl : Sem Bool}
    (ht : eval (.Call (.Attribute o m apos) [] [] pos) X.env = (do
      let ov ← eval o X.env
      standAt apos.atName
      let (f, first) ← holding [ov] (getMethod ov m pl)
      callWith pos f first (backTo pos (starEach [] X.env)) (backToKw pos (keywordEach [] X.env))) := by rfl) : PEw X (.Call (.Attribute o m apos) [] [] pos) (wMeth nm m sp to wNil) := by
  obtain ⟨C, f, fd, ps, ca, cl, hm, F, b⟩ := c.ex
  exact PE.imp (pe_meth0 ho cl hm F hr b .nil pass0 ht) fun σ H Q h => by
    obtain ⟨Z, σ', G, Qw, ev, hr, t, k⟩ := h
    refine ⟨Z, σ', G, _, ev, hr, t, fun Z1 G1 H1 w v x1 h1 r1 t1 => ?_⟩
    obtain ⟨⟨n, fs⟩, e, en, el, t5⟩ := isS_ex t1
    have en : n = nm := en
    clear t1
    subst en
    obtain ⟨p, C', dx, gs, rfl, c', s, r⟩ := insOf_at h1 r1 e
    cases ca.one c'
    exact ⟨p, dx, gs, rfl, s, r.none el, Z1, [w], G1, Qw, E0w, .cons r1 .nil, h1, t5, k.mono x1, fun _ _ _ _ _ _ _ _ _ _ _ z => z.elim⟩
theorem new_ins {Z : Zp} {G : Gp} {H : Hp} (h : HRel K Z G H) {nm : Str} {C x dx : Addr} (c : ClsA K nm C) (hx : H x = none) (hdx : H dx = none) (ne : dx ≠ x) :
    G x = none ∧ HRel K Z (gup G x (.ins nm [])) (upd (upd H dx (.own x)) x (.ins C dx [])) ∧ Ext Z G H Z (gup G x (.ins nm [])) (upd (upd H dx (.own x)) x (.ins C dx [])) := by
  have h1 := h.laid (o := .own x) hdx
  have x1 := Ext.laid (o := .own x) h hdx
  have hx1 : upd H dx (.own x) x = none := by rw [upd_ne (Ne.symm ne)]; exact hx
  have x2 : Ext Z G (upd H dx (.own x)) Z G (upd (upd H dx (.own x)) x (.ins C dx [])) := Ext.laid h1 hx1
  refine ⟨h.fresh hx, (h1.laid hx1).track upd_same (h1.freshZ hx1) (.ins c .nil), x1.trans ⟨fun _ z => z, fun q u e g => ?_, fun _ _ _ z => z⟩⟩
  have c : q ≠ x := ne_of_none e hx1
  exact ⟨by rw [upd_ne c]; exact e, by rw [gup_ne c]; exact g⟩
theorem lmake {C : Addr} (c : ClsA K nm C) {σ : SV} {H : Hp} {Q : VK} (h : liftE K (wMake nm sp t) σ H Q) : tMake C (liftSp K sp) [] E0 (liftA K t) σ H Q := by
  obtain ⟨Z, σ', G, Qw, ev, hr, t, k⟩ := h
  refine ⟨Z, σ', G, _, ev, hr, t, fun Z1 G1 H1 ws vs x1 h1 r1 t1 x dx hx hdx ne => ?_⟩
  obtain ⟨g, h2, x2⟩ := new_ins h1 c hx hdx ne
  show liftSp K sp (.ref x :: (vs ++ [])) _ _ E0
  rw [List.append_nil]
  refine ⟨Z1, .ref x :: ws, _, _, E0w, .cons .ref (r1.ext h1 x2), h2, t1 x g, fun Z3 G3 H3 w v x3 h3 r3 q => ?_, fun _ _ _ _ _ _ _ _ _ _ _ z => z.elim⟩
  obtain ⟨rfl, q⟩ := q
  cases r3
  exact ⟨rfl, k Z3 G3 H3 _ _ ((x1.trans x2).trans x3) h3 .ref q⟩
theorem lmakeZ {C : Addr} (c : ClsA K nm C) {σ : SV} {H : Hp} {Q : VK} (h : liftE K (wMakeZ nm sp t) σ H Q) : tMake C (liftSp K sp) [] E0 (liftA K t) σ H Q := by
  obtain ⟨Z, σ', G, Qw, ev, hr, t, k⟩ := h
  refine ⟨Z, σ', G, _, ev, hr, t, fun Z1 G1 H1 ws vs x1 h1 r1 t1 x dx hx hdx ne => ?_⟩
  obtain ⟨g, h2, x2⟩ := new_ins h1 c hx hdx ne
  show liftSp K sp (.ref x :: (vs ++ [])) _ _ E0
  rw [List.append_nil]
  refine ⟨Z1, .ref x :: ws, _, _, E0w, .cons .ref (r1.ext h1 x2), h2, t1 x g, fun Z3 G3 H3 w v x3 h3 r3 q => ?_, fun _ _ _ _ _ _ _ _ _ _ _ z => z.elim⟩
  obtain ⟨rfl, q⟩ := q
  cases r3
  obtain ⟨fs, g3, q⟩ := isI_ex q
  obtain ⟨u, eu, ru⟩ := h3.g x _ g3
  cases ru with
  | ins c3 rf =>
    obtain ⟨h4, x4⟩ := h3.freeze (p := x) (by rw [g3]; simp)
    exact ⟨rfl, k _ _ H3 _ _ (((x1.trans x2).trans x3).trans x4) h4 (.ins c3 (.inr rfl) eu (rf.ext h3 x4)) q⟩
theorem qmake (c : CalC X.prog X.w X.K X.mg X.base CX0 k nm sp) (hr : Room (k + 1) X.A) (hg : Gl X nm) (ha : PAw X (e :: es) t) (hdb : (nm == ("__debug__" : Str)) = false := by decide) (he : starEach (e :: es) X.env = (false, eval e X.env) :: starEach es X.env := by rfl) (hpl : (backTo pos (starEach es X.env)).any (·.1) = false := by rfl) :
    PEw X (.Call (.Name nm p) (e :: es) [] pos) (wMake nm sp t) := by
  obtain ⟨C, f, fd, ps, ca, M, hm, F, b⟩ := c.ex
  exact PE.imp (pe_make M F hr hg hm b .nil pass0 ha hdb he hpl) fun _ _ _ h => lmake ca h
theorem qmakeZ (c : CalC X.prog X.w X.K X.mg X.base CX0 k nm sp) (hr : Room (k + 1) X.A) (hg : Gl X nm) (ha : PAw X (e :: es) t) (hdb : (nm == ("__debug__" : Str)) = false := by decide) (he : starEach (e :: es) X.env = (false, eval e X.env) :: starEach es X.env := by rfl) (hpl : (backTo pos (starEach es X.env)).any (·.1) = false := by rfl) :
    PEw X (.Call (.Name nm p) (e :: es) [] pos) (wMakeZ nm sp t) := by
  obtain ⟨C, f, fd, ps, ca, M, hm, F, b⟩ := c.ex
  exact PE.imp (pe_make M F hr hg hm b .nil pass0 ha hdb he hpl) fun _ _ _ h => lmakeZ ca h
end
end WL
/-! Dicts whose keys are whole numbers and texts. -/
namespace WL
open PySem PySem.Spec PyProof.Rows L2
def keyOf : W → Option Key
  | .int i => some (.inl i)
  | .str s => some (.inr s)
  | _ => none
def valW (kvs : List (NestedKey × W)) (k : NestedKey) : Option W := (kvs.find? fun kv => decide (kv.1 = k)).map (·.2)
def putD (kvs : List (NestedKey × W)) (k : NestedKey) (v : W) : List (NestedKey × W) := if (kvs.any fun kv => decide (kv.1 = k)) then kvs.map fun kv => if kv.1 = k then (kv.1, v) else kv else kvs ++ [(k, v)]
def dicOf (G : Gp) : W → Option (List (NestedKey × W))
  | .dic kvs => some kvs
  | .ref p => match G p with
    | some (.dic kvs) => some kvs
    | _ => none
  | _ => none
theorem dicOf_gup {G : Gp} {p : Addr} {kvs : List (NestedKey × W)} : dicOf (gup G p (.dic kvs)) (.ref p) = some kvs := by simp only [dicOf, gup_same]
/-- a dict of the small heap -/
def isD (o : Option GO) (P : List (NestedKey × W) → Prop) : Prop := match o with
  | some (.dic kvs) => P kvs
  | _ => False
theorem isD_dic {kvs : List (NestedKey × W)} {P : List (NestedKey × W) → Prop} : isD (some (.dic kvs)) P = P kvs := rfl
theorem isD_ex {o : Option GO} {P : List (NestedKey × W) → Prop} (h : isD o P) : ∃ kvs, o = some (.dic kvs) ∧ P kvs := by
  cases o with
  | none => exact h.elim
  | some g =>
    cases g with
    | lst ws => exact h.elim
    | ins _ _ => exact h.elim
    | dcn _ _ => exact h.elim
    | dic kvs => exact ⟨kvs, rfl, h⟩
section
variable {K : PySem.W.Frag} {Z Z' : Zp} {G G' : Gp} {H H' : Hp}
theorem Rw.key {w : W} {v : V} {k : Key} (r : Rw K Z H w v) (e : keyOf w = some k) : v = kV k := by
  cases r <;> simp only [keyOf, Option.some.injEq, reduceCtorEq] at e <;> subst e <;> rfl
theorem nk_dec {a b : Key} : decide (nk a = nk b) = decide (a = b) := by
  by_cases c : a = b
  · subst c; simp
  · rw [decide_eq_false c, decide_eq_false fun h => c (nk_inj h)]
theorem RwD.length : ∀ {ws : List (NestedKey × W)} {vs : List (Key × V)}, RwD K Z H ws vs → ws.length = vs.length
  | _, _, .nil => rfl
  | _, _, .cons _ t => by rw [List.length_cons, List.length_cons, RwD.length t]
theorem RwD.val {k : Key} : ∀ {ws : List (NestedKey × W)} {vs : List (Key × V)} {w : W}, RwD K Z H ws vs → valW ws (nk k) = some w → ∃ v, valV vs k = some v ∧ Rw K Z H w v
  | _, _, _, .nil, e => by simp [valW] at e
  | _, _, w, .cons (k := k2) r t, e => by
    by_cases c : k2 = k
    · subst c
      have e2 : ∀ (x : W) (ws : List (NestedKey × W)), valW ((nk k2, x) :: ws) (nk k2) = some x := fun x ws => by simp [valW, List.find?_cons]
      rw [e2] at e
      cases e
      exact ⟨_, valV_pos rfl, r⟩
    · have c2 : ¬ nk k2 = nk k := fun h => c (nk_inj h)
      have e2 : ∀ (x : W) (ws : List (NestedKey × W)), valW ((nk k2, x) :: ws) (nk k) = valW ws (nk k) := fun x ws => by simp [valW, List.find?_cons, c2]
      rw [e2] at e
      obtain ⟨v, h1, h2⟩ := RwD.val t e
      exact ⟨v, by rw [valV_neg c]; exact h1, h2⟩
theorem RwD.some_ {k : Key} : ∀ {ws : List (NestedKey × W)} {vs : List (Key × V)}, RwD K Z H ws vs → (valV vs k).isSome = (valW ws (nk k)).isSome
  | _, _, .nil => rfl
  | _, _, .cons (k := k2) r t => by
    by_cases c : k2 = k
    · subst c
      rw [valV_pos rfl]
      simp [valW, List.find?_cons]
    · have c2 : ¬ nk k2 = nk k := fun h => c (nk_inj h)
      rw [valV_neg c, RwD.some_ t]
      simp [valW, List.find?_cons, c2]
theorem RwD.repl {k : Key} {w : W} {v : V} (r : Rw K Z H w v) : ∀ {ws : List (NestedKey × W)} {vs : List (Key × V)}, RwD K Z H ws vs → RwD K Z H (ws.map fun kv => if kv.1 = nk k then (kv.1, w) else kv) (vs.map fun kv => if kv.1 = k then (kv.1, v) else kv)
  | _, _, .nil => .nil
  | _, _, .cons (k := k2) r2 t => by
    rw [List.map_cons, List.map_cons]
    by_cases c : k2 = k
    · subst c
      simp only [if_true]
      exact .cons r (RwD.repl r t)
    · have c2 : ¬ nk k2 = nk k := fun h => c (nk_inj h)
      simp only [if_neg c, if_neg c2]
      exact .cons r2 (RwD.repl r t)
theorem RwD.snoc {k : Key} {w : W} {v : V} (r : Rw K Z H w v) : ∀ {ws : List (NestedKey × W)} {vs : List (Key × V)}, RwD K Z H ws vs → RwD K Z H (ws ++ [(nk k, w)]) (vs ++ [(k, v)])
  | _, _, .nil => .cons r .nil
  | _, _, .cons r2 t => .cons r2 (RwD.snoc r t)
theorem RwD.any {k : Key} : ∀ {ws : List (NestedKey × W)} {vs : List (Key × V)}, RwD K Z H ws vs → (ws.any fun kv => decide (kv.1 = nk k)) = vs.any fun kv => decide (kv.1 = k)
  | _, _, .nil => rfl
  | _, _, .cons r2 t => by rw [List.any_cons, List.any_cons, RwD.any t, nk_dec]
theorem RwD.put {k : Key} {w : W} {v : V} (r : Rw K Z H w v) {ws : List (NestedKey × W)} {vs : List (Key × V)} (t : RwD K Z H ws vs) : RwD K Z H (putD ws (nk k) w) (putK vs k v) := by
  unfold putD putK
  rw [t.any]
  split
  · exact t.repl r
  · exact t.snoc r
theorem dicOf_at (h : HRel K Z G H) {w : W} {v : V} {kvs : List (NestedKey × W)} (r : Rw K Z H w v) (e : dicOf G w = some kvs) : ∃ p us, v = .ref p ∧ H p = some (.dK us) ∧ RwD K Z H kvs us := by
  cases r with
  | dic z s r => simp only [dicOf, Option.some.injEq] at e; subst e; exact ⟨_, _, rfl, s, r⟩
  | @ref p =>
    simp only [dicOf] at e
    cases q : G p with
    | none => rw [q] at e; cases e
    | some o =>
      rw [q] at e
      cases o with
      | dic kvs' =>
        simp only [Option.some.injEq] at e
        subst e
        obtain ⟨u, eu, ru⟩ := h.g p _ q
        cases ru with
        | dic r => exact ⟨p, _, rfl, eu, r⟩
      | lst _ => cases e
      | ins _ _ => cases e
      | dcn _ _ => cases e
  | _ => cases e
theorem new_dic (h : HRel K Z G H) {p : Addr} (n : H p = none) : G p = none ∧ HRel K Z (gup G p (.dic [])) (upd H p (.dK [])) ∧ Ext Z G H Z (gup G p (.dic [])) (upd H p (.dK [])) := by
  have x : Ext Z G H Z G (upd H p (.dK [])) := Ext.laid h n
  refine ⟨h.fresh n, (h.laid n).track upd_same (h.freshZ n) (.dic .nil), ⟨fun _ z => z, fun q u e g => ?_, fun _ _ _ z => z⟩⟩
  have c : q ≠ p := ne_of_none e n
  exact ⟨by rw [upd_ne c]; exact e, by rw [gup_ne c]; exact g⟩
theorem chg_dic (h : HRel K Z G H) {p : Addr} {kvs kvs' : List (NestedKey × W)} {us' : List (Key × V)} (e : G p = some (.dic kvs)) (r : RwD K Z H kvs' us') :
    HRel K Z (gup G p (.dic kvs')) (upd H p (.dK us')) ∧ Ext Z G H Z (gup G p (.dic kvs')) (upd H p (.dK us')) := by
  have x : Ext Z G H Z (gup G p (.dic kvs')) (upd H p (.dK us')) := ⟨fun _ z => z, fun q u e' g => by
    have c : q ≠ p := fun c => by rw [c, e] at g; cases g
    exact ⟨by rw [upd_ne c]; exact e', by rw [gup_ne c]; exact g⟩, fun _ _ _ z => z⟩
  refine ⟨⟨fun q z => ?_, fun q g e' => ?_⟩, x⟩
  · have c : q ≠ p := fun c => by
      have := (h.z q z).1
      rw [c, e] at this; cases this
    exact ⟨by rw [gup_ne c]; exact (h.z q z).1, by rw [upd_ne c]; exact (h.z q z).2⟩
  · by_cases d : q = p
    · rw [d, gup_same] at e'; cases e'
      exact ⟨_, by rw [d]; exact upd_same, .dic (r.keep (x.keep h))⟩
    · rw [gup_ne d] at e'
      obtain ⟨u, e2, r2⟩ := h.g q g e'
      exact ⟨u, by rw [upd_ne d]; exact e2, r2.ext h x⟩
end
/-! ### rules -/
def wDGet : RW2 := fun x y G Q => isS (dicOf G x) fun kvs => isS (keyOf y) fun k => isS (valW kvs (nk k)) fun w => Q w G
def wDIn (neg : Bool) : RW2 := fun y x G Q => isS (dicOf G x) fun kvs => isS (keyOf y) fun k => Q (.bl (if neg then !(valW kvs (nk k)).isSome else (valW kvs (nk k)).isSome)) G
def rDGet : R2 := fun x y H Q => ∃ a v, x = .ref a ∧ DGet H a y (some v) ∧ Q v H
def rDIn (neg : Bool) : R2 := fun y x H Q => ∃ a o, x = .ref a ∧ DGet H a y o ∧ Q (.bl (if neg then !o.isSome else o.isSome)) H
theorem sim_dget {K : PySem.W.Frag} : Sim2 K rDGet wDGet := by
  intro Z G H x y v u Qw Q h rx ry t k
  obtain ⟨kvs, e, t1⟩ := isS_ex t
  obtain ⟨kk, ek, t2⟩ := isS_ex t1
  obtain ⟨w, ew, q⟩ := isS_ex t2
  obtain ⟨p, us, rfl, s, r⟩ := dicOf_at h rx e
  obtain ⟨z, ez, rz⟩ := r.val ew
  rw [ry.key ek]
  exact ⟨p, z, rfl, by rw [← ez]; exact DGet.k s, k.at h rz q⟩
theorem sim_din {K : PySem.W.Frag} {neg : Bool} : Sim2 K (rDIn neg) (wDIn neg) := by
  intro Z G H y x u v Qw Q h ry rx t k
  obtain ⟨kvs, e, t1⟩ := isS_ex t
  obtain ⟨kk, ek, q⟩ := isS_ex t1
  obtain ⟨p, us, rfl, s, r⟩ := dicOf_at h rx e
  rw [ry.key ek]
  refine ⟨p, _, rfl, DGet.k s, ?_⟩
  rw [r.some_]
  exact k.at h .bl q
def wDNew : TEw := fun _ G Q => ∀ p, G p = none → Q (.ref p) (gup G p (.dic []))
def dPut (x y v : W) (G : Gp) (P : Gp → Prop) : Prop := match x with
  | .ref p => isD (G p) fun kvs => kvs.length < sizeLine ∧ isS (keyOf y) fun k => P (gup G p (.dic (putD kvs (nk k) v)))
  | _ => False
theorem dPut_ref {p : Addr} {y v : W} {G : Gp} {P : Gp → Prop} : dPut (.ref p) y v G P = isD (G p) fun kvs => kvs.length < sizeLine ∧ isS (keyOf y) fun k => P (gup G p (.dic (putD kvs (nk k) v))) := rfl
def wDPut (td ty tv : TEw) : TSw := fun D σ G => tv σ G fun v G1 => td σ G1 fun x G2 => ty σ G2 fun y G3 => dPut x y v G3 fun G4 => D.nx σ G4
def wLenD : List W → Gp → QW → Prop := fun ws G Q => match ws with
  | [x] => isS (dicOf G x) fun kvs => Q (.int kvs.length) G
  | _ => False
/-- {a: b} -/
def wDOne (tk tv : TEw) : TEw := fun σ G Q => ∀ p, G p = none → tk σ (gup G p (.dic [])) fun x G1 => tv σ G1 fun y G2 => G2 p = some (.dic []) ∧ isS (keyOf x) fun k => Q (.ref p) (gup G2 p (.dic [(nk k, y)]))
section
variable {X : Cx} {K : PySem.W.Frag} {a b o i e : Expr} {ta tb td ty tv : TEw} {pos pos' tpos : Pos} {k : Nat}
theorem hu1 {A : Around} {k : Nat} (hr : Room k A) : A.units + 1 < cLine := by have := hr.un; omega
theorem qdget (hr : Room k X.A) (ha : PEw X a ta) (hb : PEw X b tb) (hs : NoSl b := by intro _ _; rfl) : PEw X (.Subscript a b pos) (wOp wDGet ta tb) :=
  PE.imp (pe_dget (hu1 hr) ha hb hs) fun _ _ _ h => lift2 sim_dget h
theorem qdin (hr : Room k X.A) (ha : PEw X a ta) (hb : PEw X b tb) (hm : behindInMarks .In b = false := by rfl) : PEw X (.Compare a [.In] [b] pos) (wOp (wDIn false) ta tb) :=
  PE.imp (pe_cmp (pc_din (hu1 hr) ha hb) hm) fun _ _ _ h => lift2 (sim_din (neg := false)) h
theorem qdnin (hr : Room k X.A) (ha : PEw X a ta) (hb : PEw X b tb) (hm : behindInMarks .NotIn b = false := by rfl) : PEw X (.Compare a [.NotIn] [b] pos) (wOp (wDIn true) ta tb) :=
  PE.imp (pe_cmp (pc_dnotin (hu1 hr) ha hb) hm) fun _ _ _ h => lift2 (sim_din (neg := true)) h
theorem qtdin (hr : Room k X.A) (ha : PEw X a ta) (hb : PEw X b tb) (hm : behindInMarks .In b = false := by rfl) : PTw X (.Compare a [.In] [b] pos) (wTest (wOp (wDIn false) ta tb)) :=
  PT.imp (pt_cmp (pc_din (hu1 hr) ha hb) hm) fun _ _ _ h => ltest (fun _ _ _ => lift2 (sim_din (neg := false))) h
theorem qtdnin (hr : Room k X.A) (ha : PEw X a ta) (hb : PEw X b tb) (hm : behindInMarks .NotIn b = false := by rfl) : PTw X (.Compare a [.NotIn] [b] pos) (wTest (wOp (wDIn true) ta tb)) :=
  PT.imp (pt_cmp (pc_dnotin (hu1 hr) ha hb) hm) fun _ _ _ h => ltest (fun _ _ _ => lift2 (sim_din (neg := true))) h
theorem qdnew : PEw X (.Dict [] [] pos) wDNew := PE.imp pe_dnewK fun σ H Q h => by
  obtain ⟨Z, σ', G, Qw, ev, hr, t, k⟩ := h
  intro p n
  obtain ⟨g, h2, x2⟩ := new_dic hr n
  exact k _ _ _ _ _ x2 h2 .ref (t p g)
theorem qdone (ha : PEw X a ta) (hb : PEw X b tb) : PEw X (.Dict [some a] [b] pos) (wDOne ta tb) := PE.imp (pe_disp (pps_cons ha hb pps_nil) rfl rfl (by simp) (by simp)) fun σ H Q h => by
  obtain ⟨Z, σ', G, Qw, ev, hr, t, k⟩ := h
  intro p n
  obtain ⟨g, h1, x1⟩ := new_dic hr n
  refine ⟨Z, σ', _, _, ev.ext hr x1, h1, t p g, fun Z2 G2 H2 x v x2 h2 r2 t2 => ⟨Z2, σ', G2, _, (ev.ext hr x1).ext h1 x2, h2, t2, fun Z3 G3 H3 y u x3 h3 r3 t3 => ?_⟩⟩
  obtain ⟨g3, t4⟩ := t3
  obtain ⟨kk, ek, q⟩ := isS_ex t4
  obtain ⟨us, eu, ru⟩ := h3.g p _ g3
  cases ru with
  | dic r =>
    cases r
    refine ⟨eu, [(kk, u)], ?_, by simp, ?_⟩
    · rw [(r2.ext h2 x3).key ek]; rfl
    · obtain ⟨h4, x4⟩ := chg_dic (kvs' := [(nk kk, y)]) (us' := [(kk, u)]) h3 g3 (.cons r3 .nil)
      exact k _ _ _ _ _ (((x1.trans x2).trans x3).trans x4) h4 .ref q
theorem qdput (hr : Room k X.A) (hd : PEw X o td) (hi : PEw X i ty) (hv : PEw X e tv) (hs : swapsWith e (some (.Subscript o i pos')) pos.line X.env = pure false := by rfl) : PSw X (.Assign [.Subscript o i pos'] e pos) (wDPut td ty tv) :=
  PS.imp (ps_dput (hu1 hr) hd hi hv hs) fun D σ H h => by
    obtain ⟨Z, σ', G, Dw, ev, hh, t, k⟩ := h
    refine ⟨Z, σ', G, _, ev, hh, t, fun Z1 G1 H1 vw vv x1 h1 r1 t1 => ⟨Z1, σ', G1, _, ev.ext hh x1, h1, t1, fun Z2 G2 H2 xw xv x2 h2 r2 t2 => ⟨Z2, σ', G2, _, (ev.ext hh x1).ext h1 x2, h2, t2, fun Z3 G3 H3 yw yv x3 h3 r3 t3 => ?_⟩⟩⟩
    have r2' := r2.ext h2 x3
    cases r2' with
    | @ref p =>
      obtain ⟨kvs, g, l, t4⟩ := isD_ex t3
      obtain ⟨kk, ek, q⟩ := isS_ex t4
      obtain ⟨us, eu, ru⟩ := h3.g p _ g
      cases ru with
      | dic r =>
        obtain ⟨h4, x4⟩ := chg_dic h3 g (r.put (k := kk) ((r1.ext h1 x2).ext h2 x3))
        have xx := ((x1.trans x2).trans x3).trans x4
        rw [r3.key ek]
        exact ⟨p, _, rfl, DPut.k eu (by rw [← r.length]; exact l), k.nx _ _ _ _ _ xx h4 (ev.ext hh xx) q⟩
    | _ => exact False.elim t3
theorem sim_lenD {K : PySem.W.Frag} : SimN K (fun xs H Q => ∃ a kvs, xs = [V.ref a] ∧ H a = some (.dK kvs) ∧ Q (.int kvs.length) H) wLenD := by
  intro Z G H ws vs Qw Q h r t k
  cases r with
  | nil => exact False.elim t
  | cons rx rr =>
    cases rr with
    | cons _ _ => exact False.elim t
    | nil =>
      obtain ⟨kvs, e, q⟩ := isS_ex t
      obtain ⟨p, us, rfl, s, r⟩ := dicOf_at h rx e
      exact ⟨p, us, rfl, s, by rw [← r.length]; exact k.at h .int q⟩
theorem qlenD {es : List Expr} {t : TAw} {p : Pos} (hg : Gl X "len") (hm : X.mg "len" = none) (ha : PAw X (e :: es) t) (he : starEach (e :: es) X.env = (false, eval e X.env) :: starEach es X.env := by rfl) (hpl : (backTo pos (starEach es X.env)).any (·.1) = false := by rfl) :
    PEw X (.Call (.Name "len" p) (e :: es) [] pos) (wCB wLenD t) := PE.imp (pe_callB call_lenD hg hm (by decide +kernel) ha (by decide) (by decide) he hpl) fun _ _ _ h => liftN sim_lenD h
end
end WL
namespace WL
open PySem PySem.Spec PyProof.Rows L2
/-! ### zip of three lists that are still to be changed; a list of one's own by a list that is still to be changed -/
def zip3R (ws : List W) (G : Gp) (R : List W → (Gp → Prop) → Gp → Prop) : Prop := match ws with
  | [a, b, c] => isS (asL G a) fun xs => isS (asL G b) fun ys => isS (asL G c) fun zs => R (zip3W xs ys zs) (fun G => pinOf a xs G ∧ pinOf b ys G ∧ pinOf c zs G) G
  | _ => False
theorem zip3R_eq {a b c : W} {G : Gp} {R : List W → (Gp → Prop) → Gp → Prop} : zip3R [a, b, c] G R = isS (asL G a) fun xs => isS (asL G b) fun ys => isS (asL G c) fun zs => R (zip3W xs ys zs) (fun G => pinOf a xs G ∧ pinOf b ys G ∧ pinOf c zs G) G := rfl
def i_zip3R (ta : TAw) : TIr := fun σ G R => ta σ G fun ws G1 => zip3R ws G1 R
theorem a0_zip3R {ta : TAw} {σ : SW} {G : Gp} {P : List W → (Gp → Prop) → Gp → Prop} : i_zip3R ta σ G P = ta σ G fun ws G1 => zip3R ws G1 P := rfl
theorem qizip3R {X : Cx} {ta : TAw} {p pos tpos : Pos} {elts : List Expr} {kk : Nat} {e e2 e3 : Expr} (hg : Gl X "zip") (hm : X.mg "zip" = none) (ha : PAw X [e, e2, e3] ta)
    (hs : starEach [e, e2, e3] X.env = (false, eval e X.env) :: starEach [e2, e3] X.env := by rfl) (hpl : (backTo pos (starEach [e2, e3] X.env)).any (·.1) = false := by rfl) :
    PIr X (.Tuple elts kk tpos) (.Call (.Name "zip" p) [e, e2, e3] [] pos) (i_zip3R ta) := PI.imp (pi_zipG3 hg hm ha hs hpl) fun σ H R h => by
  obtain ⟨Z, σ', G, Qw, ev, hr, t, k⟩ := h
  refine ⟨Z, σ', G, _, ev, hr, t, fun Z1 G1 H1 ws vs x1 h1 r1 t1 => ?_⟩
  cases r1 with
  | nil => exact False.elim t1
  | cons ra rr =>
    cases rr with
    | nil => exact False.elim t1
    | cons rb rr =>
      cases rr with
      | nil => exact False.elim t1
      | cons rc rr =>
        cases rr with
        | cons _ _ => exact False.elim t1
        | nil =>
          rw [zip3R_eq] at t1
          obtain ⟨xs, ex, t1⟩ := isS_ex t1
          obtain ⟨ys, ey, t1⟩ := isS_ex t1
          obtain ⟨zs, ez, t1⟩ := isS_ex t1
          obtain ⟨a, rfl, ⟨va, sa⟩, pa⟩ := pin_at h1 ra ex
          obtain ⟨b, rfl, ⟨vb, sb⟩, pb⟩ := pin_at h1 rb ey
          obtain ⟨c, rfl, ⟨vc, sc⟩, pc⟩ := pin_at h1 rc ez
          refine ⟨true, true, true, a, b, c, _, _, _, rfl, sa, sb, sc, k Z1 G1 H1 _ _ _ x1 h1 ⟨fun H => (∃ xs', SqL X.K H a xs' ∧ xs'.length = xs.length) ∧ (∃ ys', SqL X.K H b ys' ∧ ys'.length = ys.length) ∧ ∃ zs', SqL X.K H c zs' ∧ zs'.length = zs.length,
            fun i H v H' => ∃ T x y z, v = .ref T ∧ H T = none ∧ H' = upd H T (.tup [x, y, z]) ∧ (∀ xs', SqL X.K H a xs' → xs'[i]? = some x) ∧ (∀ ys', SqL X.K H b ys' → ys'[i]? = some y) ∧ ∀ zs', SqL X.K H c zs' → zs'[i]? = some z, ⟨fun i H hi q => ?_, fun H q => ?_, fun i H v H' hi q y => ?_⟩, fun Z' G' H' x h' i' => ?_⟩ t1⟩
          · rw [zip3_len] at hi
            obtain ⟨⟨v1, q1, l1⟩, ⟨v2, q2, l2⟩, v3, q3, l3⟩ := q
            exact ⟨v1, v2, v3, _, _, _, q1, q2, q3, List.getElem?_eq_getElem (by omega), List.getElem?_eq_getElem (by omega), List.getElem?_eq_getElem (by omega)⟩
          · obtain ⟨⟨v1, q1, l1⟩, ⟨v2, q2, l2⟩, v3, q3, l3⟩ := q
            exact ⟨v1, v2, v3, q1, q2, q3, by rw [zip3_len]; omega, by rw [zip3_len]; omega, by rw [zip3_len]; omega, by rw [zip3_len]; omega⟩
          · obtain ⟨T, x, z, t, e1, e2, e3, f1, f2, f3⟩ := y
            exact ⟨T, x, z, t, e1, e2, e3, f1, f2, f3⟩
          · obtain ⟨va, sa', ra'⟩ := pa Z' G' H' x h' i'.1
            obtain ⟨vb, sb', rb'⟩ := pb Z' G' H' x h' i'.2.1
            obtain ⟨vc, sc', rc'⟩ := pc Z' G' H' x h' i'.2.2
            refine ⟨⟨⟨va, sa', ra'.length.symm⟩, ⟨vb, sb', rb'.length.symm⟩, vc, sc', rc'.length.symm⟩, fun i v H'' hi y => ?_⟩
            obtain ⟨T, u1, u2, u3, rfl, nT, rfl, f1, f2, f3⟩ := y
            obtain ⟨w, ew, rw'⟩ := ra'.get' i (f1 va sa')
            obtain ⟨u, eu, ru⟩ := rb'.get' i (f2 vb sb')
            obtain ⟨t, et, rt⟩ := rc'.get' i (f3 vc sc')
            obtain ⟨h2, x2, r3⟩ := new_tup h' nT (.cons rw' (.cons ru (.cons rt .nil)))
            exact ⟨tup3 w u t, zip3_get _ _ _ i ew eu et, r3, x2, h2⟩
def wLcPM (vs : List Nat) (t0 : TEw) (g : TGw) (tt : TTw) (te : TEw) : TEw := fun σ G Q => t0 σ G fun w G1 => isS (asL G1 w) fun us => us.length ≤ sizeLine ∧ lcP (pinOf w us) g tt te (swipe σ vs) us [] G1 fun zs G2 => ∀ p, G2 p = none → Q (.ref p) (gup G2 p (.lst zs))
theorem a0_lcPM {vs : List Nat} {t0 : TEw} {g : TGw} {tt : TTw} {te : TEw} {σ : SW} {G : Gp} {Q : QW} : wLcPM vs t0 g tt te σ G Q = t0 σ G fun w G1 => isS (asL G1 w) fun us => us.length ≤ sizeLine ∧ lcP (pinOf w us) g tt te (swipe σ vs) us [] G1 fun zs G2 => ∀ p, G2 p = none → Q (.ref p) (gup G2 p (.lst zs)) := rfl
section
variable {K : PySem.W.Frag}
theorem llcPM {vs : List Nat} {t0 : TEw} {g : TG} {gw : TGw} {tt : TTw} {te : TEw} (sg : SimG K vs g gw) {σ : SV} {H : Hp} {Q : VK}
    (h : liftE K (wLcPM vs t0 gw tt te) σ H Q) : tLc (iSeq K (liftE K t0)) g (liftT K tt) (liftE K te) vs σ H Q := by
  obtain ⟨Z, σ', G, Qw, e, hr, t, k⟩ := h
  refine ⟨Z, σ', G, _, e, hr, t, fun Z1 G1 H1 w v x1 h1 r1 t1 => ?_⟩
  obtain ⟨ws, ew0, hl, t1⟩ := isS_ex t1
  obtain ⟨p, rfl, s0, pin⟩ := pin_at h1 r1 ew0
  generalize pinOf w ws = I at t1 pin
  refine .inl ⟨p, rfl, s0, fun D hD => ?_⟩
  have x0 : Ext Z1 G1 H1 Z1 G1 (upd H1 D (.lst [])) := Ext.laid h1 hD
  have h0 := h1.laid (o := .lst []) hD
  refine lc_it (walk_live (K := K) (a := p) (n := ws.length)) (fun i H2 => ∃ Z2 G2 us xs, Ext Z1 G1 H1 Z2 G2 H2 ∧ HRel K Z2 G2 H2 ∧ H2 D = some (.lst xs) ∧ G2 D = none ∧ ¬ Z2 D ∧ RwL K Z2 H2 us xs ∧ us.length ≤ i ∧ lcP I gw tt te (swipe σ' vs) (ws.drop i) us G2 fun us G2 => ∀ p, G2 p = none → Qw (.ref p) (gup G2 p (.lst us))) ?_ ?_ ?_ ?_
  · exact ⟨Z1, G1, [], [], x0, h0, upd_same, h1.fresh hD, h1.freshZ hD, .nil, Nat.le_refl _, t1⟩
  · rintro i H2 _ ⟨Z2, G2, us, xs, x2, h2, _, _, _, _, _, t2⟩
    obtain ⟨vs2, s2, r2⟩ := pin Z2 G2 H2 x2 h2 (lcP_at t2)
    exact ⟨vs2, s2, r2.length.symm⟩
  · rintro i v H2 H3 hi ⟨Z2, G2, us, xs, x2, h2, eD, gD, zD, rus, lus, t2⟩ ⟨e3, y⟩
    subst e3
    obtain ⟨vs2, s2, r2⟩ := pin Z2 G2 H3 x2 h2 (lcP_at t2)
    have ed : ws.drop i = ws[i] :: ws.drop (i + 1) := List.drop_eq_getElem_cons hi
    rw [ed] at t2
    obtain ⟨g2, t2⟩ := t2
    obtain ⟨w, ew, rw'⟩ := r2.get' i (y _ s2)
    rw [List.getElem?_eq_getElem hi] at ew
    injection ew with ew
    have eσ : RwS K Z2 H3 (swipe σ' vs) (L2.wipe σ vs) := (e.ext hr (x1.trans x2)).wipe vs
    refine sg Z2 G2 H3 _ _ ws[i] v _ _ eσ h2 (by rw [ew]; exact rw') t2 fun τ' τ eτ sτ t3 => ⟨?_, ?_⟩
    · rw [sτ.wipe, wipe_wipe vs vs fun i hi => hi]
    refine ⟨Z2, τ', G2, _, eτ, h2, t3, fun Z4 G4 H4 b x4 h4 t4 => ?_⟩
    have eD4 := x4.f D _ eD gD
    have zD4 : ¬ Z4 D := fun z => zD (x4.n D (by rw [eD]; simp) gD z)
    have rus4 := rus.ext h2 x4
    cases b with
    | false => exact ⟨Z4, G4, us, xs, x2.trans x4, h4, eD4.1, eD4.2, zD4, rus4, by omega, t4⟩
    | true =>
      refine ⟨Z4, τ', G4, _, eτ.ext h2 x4, h4, t4, fun Z5 G5 H5 yw yv x5 h5 r5 t5 => ?_⟩
      have eD5 := x5.f D _ eD4.1 eD4.2
      have zD5 : ¬ Z5 D := fun z => zD4 (x5.n D (by rw [eD4.1]; simp) eD4.2 z)
      have rus5 := rus4.ext h4 x5
      have kp : Keep Z5 H5 Z5 (upd H5 D (.lst (xs ++ [yv]))) := Keep.hid eD5.1 zD5
      have xx := (x2.trans x4).trans x5
      refine ⟨xs, eD5.1, by rw [← rus.length]; omega, Z5, G5, us ++ [yw], xs ++ [yv], ⟨xx.z, fun p u e' g' => ?_, xx.n⟩, ⟨fun p z => ?_, fun p o g' => ?_⟩, upd_same, eD5.2, zD5, (rus5.append (.cons r5 .nil)).keep kp, by simp; omega, t5⟩
      · rw [upd_ne (ne_of_none e' hD)]; exact xx.f p u e' g'
      · have := h5.z p z
        rw [upd_ne (fun c => zD5 (by rw [← c]; exact z))]
        exact this
      · obtain ⟨u, e', r⟩ := h5.g p o g'
        have c : p ≠ D := fun c => by rw [c, eD5.2] at g'; cases g'
        exact ⟨u, by rw [upd_ne c]; exact e', r.keep kp⟩
  · rintro H2 ⟨Z2, G2, us, xs, x2, h2, eD, gD, zD, rus, lus, t2⟩
    rw [List.drop_length] at t2
    obtain ⟨_, t2⟩ := t2
    obtain ⟨Z3, G3, w, x3, h3, r3, q⟩ := lc_mut Z1 G1 H1 Z2 G2 H2 us xs D Qw hD x2 h2 rus eD gD zD t2
    exact k Z3 G3 H2 w _ (x1.trans x3) h3 r3 q
end
section
variable {X : Cx} {scope : Scope} {pos : Pos} {elt tg iter : Expr} {ifs : List Expr} {own : List (Str × Nat)} {t0 : TEw} {gw : TGw} {tt : TTw} {te : TEw}
theorem qlcPM (hc : X.calm = true) (hN : X.N.Nodup) (hi : PEw X iter t0) (ok : BlkOk X.N X.env.scope scope own) (hg : TgW X (own.map (·.2)) tg scope gw)
    (ht : ∀ (s : Shared) (H : Hp) (C : Addr) (cl : List (Str × Addr)) (fp : List Addr), PTsw (X.blk s H scope (compEnvC scope cl C X.env) fp) ifs tt) (he : ∀ (s : Shared) (H : Hp) (C : Addr) (cl : List (Str × Addr)) (fp : List Addr), PEw (X.blk s H scope (compEnvC scope cl C X.env) fp) elt te)
    (hs : ∀ x, foldedSetIterable iter X.env x = pure x := by intro _; rfl) : PEw X (.ListComp elt [⟨tg, iter, ifs, 0⟩] scope pos) (wLcPM (own.map (·.2)) t0 gw tt te) := by
  obtain ⟨g, pg, sg⟩ := hg.ex
  exact PE.imp (pe_lc (tt := liftT X.K tt) (te := liftE X.K te) hc hN (pi_seq hi) ok pg ht he hs) fun _ _ _ h => llcPM sg h
end
/-! ### a <= b < c; len(set(xs)), xs tuples of whole numbers, each once -/
theorem qlelt {X : Cx} {a b c : Expr} {ta tb tc : TEw} {pos : Pos} (ha : PEw X a ta) (hb : PEw X b tb) (hc : PEw X c tc) (hm : lastMarks [.LtE, .Lt] [b, c] = false := by with_unfolding_all rfl) : PEw X (.Compare a [.LtE, .Lt] [b, c] pos) (wChain wLe wLt ta tb tc) :=
  qchain op_le op_lt (sim_II fun _ _ _ _ => .bl) (sim_II fun _ _ _ _ => .bl) ha hb hc hm
theorem qtlelt {X : Cx} {a b c : Expr} {ta tb tc : TEw} {pos : Pos} (ha : PEw X a ta) (hb : PEw X b tb) (hc : PEw X c tc) (hm : lastMarks [.LtE, .Lt] [b, c] = false := by with_unfolding_all rfl) : PTw X (.Compare a [.LtE, .Lt] [b, c] pos) (wTest (wChain wLe wLt ta tb tc)) :=
  qtchain op_le op_lt (sim_II fun _ _ _ _ => .bl) (sim_II fun _ _ _ _ => .bl) ha hb hc hm
abbrev tupI (ns : List Int) : W := .tup (ns.map W.int)
theorem RwL.tupIs {K : PySem.W.Frag} {Z : Zp} {H : Hp} : ∀ {nss : List (List Int)} {vs : List V}, RwL K Z H (nss.map tupI) vs → ∃ ks : List (Addr × List Int), vs = ks.map (fun p => V.ref p.1) ∧ nss = ks.map (·.2) ∧ ∀ p ∈ ks, SqT K H p.1 (p.2.map V.int)
  | [], _, .nil => ⟨[], rfl, rfl, fun p hp => by cases hp⟩
  | ns :: nss, _, .cons r t => by
    obtain ⟨ks, rfl, rfl, hk⟩ := RwL.tupIs t
    cases r with
    | @tup p ws vs s r =>
      have hin : ∀ {ns : List Int} {vs : List V}, RwL K Z H (ns.map W.int) vs → vs = ns.map V.int := fun {ns} => by
        induction ns with
        | nil => intro vs h; cases h; rfl
        | cons n ns ih => intro vs h; cases h with | cons r t => cases r; rw [ih t]; rfl
      refine ⟨(p, ns) :: ks, rfl, rfl, fun q hq => ?_⟩
      rcases List.mem_cons.mp hq with rfl | hq
      · rw [← hin r]; exact s
      · exact hk q hq
def tLenSetT (K : PySem.W.Frag) (ta : TE) : TE := fun σ H Q => ta σ H fun x H1 => ∃ (l : Addr) (ks : List (Addr × List Int)), x = V.ref l ∧ SqL K H1 l (ks.map fun p => V.ref p.1) ∧ (∀ p ∈ ks, SqT K H1 p.1 (p.2.map V.int)) ∧ ks.length < 64 ∧ (ks.map (·.2)).Nodup ∧ Q (.int ks.length) H1
theorem pe_lenSetT {X : Cx} {a : Expr} {ta : TE} {p p2 q pos : Pos} (hc : X.calm = true) (hu : X.A.units + 64 < cLine) (hg : Gl X "len") (hm : X.mg "len" = none) (hg2 : Gl X "set") (hm2 : X.mg "set" = none) (ha : PE X a ta)
    (na : starEach [a] X.env = (false, eval a X.env) :: starEach [] X.env := by rfl) : PE X (.Call (.Name "len" p) [.Call (.Name "set" p2) [a] [] q] [] pos) (tLenSetT X.K ta) := by
  refine ⟨fun pins s σ H Q I h => ?_⟩
  refine Call_ (ld_blt I hg hm PySem.boot_len ?_)
  refine PyProof.Rows.callWith_builtin1 (PyProof.Rows.args_cons ?_ rfl) rfl rfl
  refine Call_ (ld_blt I hg2 hm2 PyProof.Rows.boot_set ?_)
  refine PyProof.Rows.callWith_type1 (PyProof.Rows.args_cons (thn (ha.run pins s σ H _ I h) fun v s1 ⟨x, H1, I1, r1, q1⟩ => PyProof.Rows.args_nil ?_) na) na rfl
  obtain ⟨l, ks, rfl, hl, hk, hf, hnd, q1⟩ := q1
  cases r1
  obtain ⟨its, rv, pl, hz⟩ := I1.list hl
  refine call_set_tups (P := X.prog) (w := X.w) ks (I1.ok.hd hc) pl.isList (by simpa using refs_of_vals rv) (fun p hp => I1.isT (hk p hp)) hf (by have : X.A.units + 64 < cLine := hu; exact Nat.lt_of_le_of_lt (Nat.add_le_add_left (by decide : 3 ≤ 64) _) this) fun h' tk L es ep t R g k => ?_
  have hlen : L.length = ks.length := by
    have pm : (L.map (·.2)).Perm (ks.map (·.2)) := (List.perm_ext_iff_of_nodup R.nd hnd).mpr fun x => ⟨fun hx => ?_, fun hx => ?_⟩
    · have := pm.length_eq
      rwa [List.length_map, List.length_map] at this
    · obtain ⟨p, hp, rfl⟩ := List.mem_map.mp hx
      exact List.mem_map.mpr ⟨p, List.mem_of_mem_take (g.sub p hp), rfl⟩
    · obtain ⟨p, hp, rfl⟩ := List.mem_map.mp hx
      exact g.all p (by rw [List.take_length]; exact hp)
  obtain ⟨o, ho, hex, hd⟩ := R.ob
  refine PyProof.Rows.args_nil ?_
  have I2 : Inv X pins σ H1 { s1 with heap := h', toks := tk } := I1.kept fun b o e => k b o e
  have hsz : es.size = ks.length := (SetTR.size (s := { s1 with heap := h', toks := tk }) R).trans hlen
  refine call_len_set (s := { s1 with heap := h', toks := tk }) ho hex hd (SetTR.fits (s := { s1 with heap := h', toks := tk }) R) (by rw [hsz]; omega) ⟨.int ks.length, H1, I2.tok _, ⟨_, by rw [hsz]⟩, q1⟩
def wLenSetT (ta : TEw) : TEw := fun σ G Q => ta σ G fun x G1 => isS (asL G1 x) fun ws => ∃ nss : List (List Int), ws = nss.map tupI ∧ nss.length < 64 ∧ nss.Nodup ∧ Q (.int nss.length) G1
theorem qlenSetT {X : Cx} {k : Nat} {a : Expr} {ta : TEw} {p p2 q pos : Pos} (hc : X.calm = true) (hr : Room k X.A) (hg : Gl X "len") (hm : X.mg "len" = none) (hg2 : Gl X "set") (hm2 : X.mg "set" = none) (ha : PEw X a ta)
    (na : starEach [a] X.env = (false, eval a X.env) :: starEach [] X.env := by rfl) : PEw X (.Call (.Name "len" p) [.Call (.Name "set" p2) [a] [] q] [] pos) (wLenSetT ta) :=
  PE.imp (pe_lenSetT hc (hu64 hr) hg hm hg2 hm2 ha na) fun σ H Q h => by
    obtain ⟨Z, σ', G, Qw, ev, hh, t, k⟩ := h
    refine ⟨Z, σ', G, _, ev, hh, t, fun Z1 G1 H1 x v x1 h1 r1 t1 => ?_⟩
    obtain ⟨ws, e, nss, rfl, l, nd, q⟩ := isS_ex t1
    obtain ⟨a, vs, rfl, s, r⟩ := asL_sq h1 r1 e
    obtain ⟨ks, rfl, rfl, hk⟩ := r.tupIs
    rw [List.length_map] at l q
    exact ⟨a, ks, rfl, s, hk, l, nd, k Z1 G1 H1 _ _ x1 h1 .int q⟩
end WL
namespace WL
open PySem PySem.Spec PyProof.Rows L2
/-! ### zip of what does not change and a list that is still to be changed -/
def zipTR (ws : List W) (G : Gp) (R : List W → (Gp → Prop) → Gp → Prop) : Prop := match ws with
  | [a, b] => seqOf a G fun xs G2 => isS (asL G2 b) fun ys => R (xs.zipWith tup2 ys) (fun G => pinOf b ys G) G2
  | _ => False
theorem zipTR_eq {a b : W} {G : Gp} {R : List W → (Gp → Prop) → Gp → Prop} : zipTR [a, b] G R = seqOf a G fun xs G2 => isS (asL G2 b) fun ys => R (xs.zipWith tup2 ys) (fun G => pinOf b ys G) G2 := rfl
def i_zipTR (ta : TAw) : TIr := fun σ G R => ta σ G fun ws G1 => zipTR ws G1 R
theorem a0_zipTR {ta : TAw} {σ : SW} {G : Gp} {P : List W → (Gp → Prop) → Gp → Prop} : i_zipTR ta σ G P = ta σ G fun ws G1 => zipTR ws G1 P := rfl
theorem qizipTR {X : Cx} {ta : TAw} {p pos tpos : Pos} {elts : List Expr} {kk : Nat} {e e2 : Expr} (hg : Gl X "zip") (hm : X.mg "zip" = none) (ha : PAw X [e, e2] ta)
    (hs : starEach [e, e2] X.env = (false, eval e X.env) :: starEach [e2] X.env := by rfl) (hpl : (backTo pos (starEach [e2] X.env)).any (·.1) = false := by rfl) :
    PIr X (.Tuple elts kk tpos) (.Call (.Name "zip" p) [e, e2] [] pos) (i_zipTR ta) := PI.imp (pi_zipG hg hm ha hs hpl) fun σ H R h => by
  obtain ⟨Z, σ', G, Qw, ev, hr, t, k⟩ := h
  refine ⟨Z, σ', G, _, ev, hr, t, fun Z1 G1 H1 ws vs x1 h1 r1 t1 => ?_⟩
  cases r1 with
  | nil => exact False.elim t1
  | cons ra rr =>
    cases rr with
    | nil => exact False.elim t1
    | cons rb rr =>
      cases rr with
      | cons _ _ => exact False.elim t1
      | nil =>
        rw [zipTR_eq] at t1
        obtain ⟨k1, a, xs, vs, Z2, G2, rfl, h2, x2, q1, s1, t2⟩ := seqOf_ex h1 ra t1
        obtain ⟨ys, ey, t2⟩ := isS_ex t2
        obtain ⟨b, rfl, ⟨vb, sb⟩, pb⟩ := pin_at h2 (rb.ext h1 x2) ey
        refine ⟨k1, true, a, b, _, _, rfl, s1 _ _ _ Ext.refl, sb, k Z2 G2 H1 _ _ _ (x1.trans x2) h2 ⟨fun H => SqK X.K k1 H a vs ∧ ∃ ys', SqL X.K H b ys' ∧ ys'.length = ys.length,
          fun i H v H' => ∃ T x y, v = .ref T ∧ H T = none ∧ H' = upd H T (.tup [x, y]) ∧ (∀ xs', SqK X.K k1 H a xs' → xs'[i]? = some x) ∧ ∀ ys', SqL X.K H b ys' → ys'[i]? = some y, ⟨fun i H hi q => ?_, fun H q => ?_, fun i H v H' hi q y => ?_⟩, fun Z' G' H' x h' i' => ?_⟩ t2⟩
        · rw [List.length_zipWith] at hi
          obtain ⟨q0, v2, q2, l2⟩ := q
          have := q1.length
          exact ⟨vs, v2, _, _, q0, q2, List.getElem?_eq_getElem (by omega), List.getElem?_eq_getElem (by omega)⟩
        · obtain ⟨q0, v2, q2, l2⟩ := q
          have := q1.length
          exact ⟨vs, v2, q0, q2, by rw [List.length_zipWith]; omega⟩
        · obtain ⟨T, x, z, e1, e2, e3, f1, f2⟩ := y
          exact ⟨T, x, z, e1, e2, e3, f1, f2⟩
        · obtain ⟨vb, sb', rb'⟩ := pb Z' G' H' x h' i'
          refine ⟨⟨s1 _ _ _ x, vb, sb', rb'.length.symm⟩, fun i v H'' hi y => ?_⟩
          obtain ⟨T, u1, u2, rfl, nT, rfl, f1, f2⟩ := y
          obtain ⟨w, ew, rw'⟩ := (q1.ext h2 x).get' i (f1 vs (s1 _ _ _ x))
          obtain ⟨u, eu, ru⟩ := rb'.get' i (f2 vb sb')
          obtain ⟨h2', x2', r3⟩ := new_tup h' nT (.cons rw' (.cons ru .nil))
          exact ⟨tup2 w u, by rw [List.getElem?_zipWith, ew, eu], r3, x2', h2'⟩
end WL
/-! Raising: raise, calls that may raise, try .. except X as e, what a suite asks of the caught one, defs called in a suite. -/
namespace WL
open PySem PySem.Spec PyProof.Rows L2
/-! ### classes of exceptions -/
/-- every refusal stands straight under the base, which stands under ValueError -/
def subE (nm T : Str) : Bool := decide (nm = T) || (decide (T = "MainsError") || decide (T = "ValueError"))
/-- a class without own __init__ whose instances are raised -/
structure Err (K : PySem.W.Frag) (mg : Str → Option Value) (nm : Str) : Prop where
  ex : ∃ C, mg nm = some (.ref C) ∧ ClsA K nm C ∧ PySem.W.keepIn K (.ref C) = true ∧ PySem.W.excIn K C [.type "ValueError", .type "Exception", .type "BaseException", .type "object"] "ValueError.__new__" = true ∧
    PySem.W.subIn K (.ref C) (.type "BaseException") = some true ∧ PySem.W.typeIn K (.ref C) = some (.type "type")
/-- isinstance(e, T) for e of these classes; except T -/
def ErrT (K : PySem.W.Frag) (ES : List Str) (T : Str) (c : Value) : Prop := ∀ nm ∈ ES, ∀ C, ClsA K nm C → PySem.W.kitOne K (.ref C) c = some (subE nm T)
def ErrM (K : PySem.W.Frag) (ES : List Str) (T : Str) (c : Value) : Prop := ∀ nm ∈ ES, ∀ C, ClsA K nm C → PySem.W.exmOne K (.ref C) c = some (subE nm T)
def ErrC (K : PySem.W.Frag) (ES : List Str) : Prop := ∀ nm ∈ ES, ∀ C, ClsA K nm C → ExcC K C
def FldX (K : PySem.W.Frag) (ES : List Str) (f : Str) : Prop := ∀ nm ∈ ES, ∀ C, ClsA K nm C → PySem.W.findIn K (.ref C) f = some none
/-! ### raise -/
def wRaise (nm : Str) : TSw := fun D σ G => D.ex nm [] σ G
section
variable {X : Cx} {nm x m : Str} {j : Nat} {p p2 pos pos' apos : Pos} {e : Expr} {es : List Expr}
theorem qraise (E : Err X.K X.mg nm) (hc : X.calm = true) (hg : Gl X nm) (hdb : (nm == ("__debug__" : Str)) = false := by decide) : PSw X (.Raise (some (.Call (.Name nm p) [.Constant (.str m) j p2] [] pos)) none pos') (wRaise nm) := by
  obtain ⟨C, gC, cA, kC, xC, bC, tC⟩ := E.ex
  refine PS.imp (L2N.ps_raise (W := wishOf X) hc takes_wish (L2N.pmk_own F.excBase_ValueError xC gC kC (raises_own bC tC) hg hdb)) fun D σ H h => ?_
  obtain ⟨Z, σ', G, Dw, e, hr, t, k⟩ := h
  exact k.ex Z G H σ' σ nm C [] none Ext.refl hr e cA (.inl ⟨rfl, rfl⟩) t
/-! ### expressions that may raise -/
abbrev EXs := Str → List (Str × W) → SW → Gp → Prop
def liftX (X : Cx) (Ex : EXs) (t : TEw) : TE := fun σ H Q => ∃ Z σ' G Qw, RwS X.K Z H σ' σ ∧ HRel X.K Z G H ∧ t σ' G Qw ∧ KE X.K Z G H Qw Q ∧ KX X Z G H Ex
def PExw (X : Cx) (e : Expr) (te : EXs → TEw) : Prop := ∀ Ex, PE X e (liftX X Ex (te Ex))
def wCallX (sp : Spw) (t : TAw) : EXs → TEw := fun Ex σ G Q => t σ G fun ws G1 => sp ws G1 Q fun nm fs G2 => Ex nm fs σ G2
theorem qcallX {k : Nat} {sp : Spw} {t : TAw} (c : Cal X.prog X.w X.K X.mg X.base (L2N.CX X.prog X.w) k x sp) (hr : Room k X.A) (hg : Gl X x) (ha : PAw X (e :: es) t) (hdb : (x == ("__debug__" : Str)) = false := by decide)
    (he : starEach (e :: es) X.env = (false, eval e X.env) :: starEach es X.env := by rfl) (hpl : (backTo pos (starEach es X.env)).any (·.1) = false := by rfl) : PExw X (.Call (.Name x p) (e :: es) [] pos) (wCallX sp t) := fun Ex => by
  obtain ⟨f, fd, ps, F, m, kp, b⟩ := c.ex
  refine PE.imp (pe_callS F hr hg m kp b (fun σ => L2N.passAt (W := wishOf X) takes_wish σ) ha hdb he hpl) fun σ H Q h => ?_
  obtain ⟨Z, σ', G, Qw, e, hh, t, k, kx⟩ := h
  exact ⟨Z, σ', G, _, e, hh, t, fun Z1 G1 H1 ws vs x1 h1 r1 t1 => ⟨Z1, ws, G1, Qw, _, r1, h1, t1, k.mono x1, fun Z2 G2 H2 nm C fs d x2 h2 c f q => kx Z2 G2 H2 σ' σ nm C fs d (x1.trans x2) h2 (e.ext hh (x1.trans x2)) c f q⟩⟩
/-! ### statements -/
def wRetX (te : EXs → TEw) : TSw := fun D σ G => te D.ex σ G D.rt
def wDropX (te : EXs → TEw) : TSw := fun D σ G => te D.ex σ G fun _ G1 => D.nx σ G1
def wAsgX (te : EXs → TEw) (g : TGw) : TSw := fun D σ G => te D.ex σ G fun w G1 => g w σ G1 D.nx
variable {te : EXs → TEw}
theorem qretX (he : PExw X e te) : PSw X (.Return (some e) pos) (wRetX te) := ⟨fun pins s σ H D I h => by
  obtain ⟨Z, σ', G, Dw, ev, hr, t, k⟩ := h
  exact (ps_ret (he Dw.ex)).run pins s σ H D I ⟨Z, σ', G, _, ev, hr, t, k.rt, k.ex⟩⟩
theorem qexprX (he : PExw X e te) (hs : swapsWith e none pos.line X.env = pure false := by rfl) : PSw X (.Expr e pos) (wDropX te) := ⟨fun pins s σ H D I h => by
  obtain ⟨Z, σ', G, Dw, ev, hr, t, k⟩ := h
  exact (ps_expr (he Dw.ex) hs).run pins s σ H D I ⟨Z, σ', G, _, ev, hr, t, fun Z1 G1 H1 w v x1 h1 r1 q => k.nx Z1 G1 H1 σ' σ x1 h1 (ev.ext hr x1) q, k.ex⟩⟩
theorem qasgX {tg : Expr} {g : TGw} (he : PExw X e te) (hg : PGw X tg g) (hs : swapsWithSole [tg] e pos.line X.env = pure false := by rfl) (hw : swappedStores [tg] e X.env = pure none := by rfl)
    (h1 : (assignEach [tg] X.env).map (·.2) = [assign tg X.env] := by rfl) : PSw X (.Assign [tg] e pos) (wAsgX te g) := ⟨fun pins s σ H D I h => by
  obtain ⟨Z, σ', G, Dw, ev, hr, t, k⟩ := h
  exact (ps_asg (he Dw.ex) hg hs hw h1).run pins s σ H D I ⟨Z, σ', G, _, ev, hr, t, fun Z1 G1 H1 w v x1 h1 r1 q => ⟨Z1, σ', G1, w, _, ev.ext hr x1, h1, r1, q, k.nx.mono x1⟩, k.ex⟩⟩
theorem qsetX {i : Nat} {x : Str} {pos' : Pos} (hN : X.N.Nodup) (hi : X.N[i]? = some x) (hx : Loc X.env.scope x := by first | exact Or.inl rfl | exact Or.inr rfl) (he : PExw X e te) (hs : swapsWith e (some (.Name x pos')) pos.line X.env = pure false := by rfl) (hf : X.fn x = true ∨ X.env.scope.names.lookup x = some .local := by first | exact .inl rfl | exact .inr rfl | assumption) :
    PSw X (.Assign [.Name x pos'] e pos) (wAsgX te (gN i)) := ⟨fun pins s σ H D I h => by
  obtain ⟨Z, σ', G, Dw, ev, hr, t, k⟩ := h
  exact (ps_set hN hi hx (he Dw.ex) hs hf).run pins s σ H D I ⟨Z, σ', G, _, ev, hr, t, fun Z1 G1 H1 w v x1 h1 r1 q => lgN ⟨Z1, σ', G1, w, _, ev.ext hr x1, h1, r1, q, k.nx.mono x1⟩, k.ex⟩⟩
end
/-! ### try .. except X as n -/
def sdel : SW → Nat → SW
  | [], _ => []
  | _ :: l, 0 => none :: l
  | a :: l, i + 1 => a :: sdel l i
section
variable {K : PySem.W.Frag} {Z : Zp} {G : Gp} {H : Hp}
theorem RwS.del : ∀ {ws : SW} {vs : SV} (i : Nat), RwS K Z H ws vs → RwS K Z H (sdel ws i) (vs.set i none)
  | _, _, _, .nil => .nil
  | _, _, 0, .skip t => .skip t
  | _, _, 0, .cons _ t => .skip t
  | _, _, i + 1, .skip t => .skip (RwS.del i t)
  | _, _, i + 1, .cons r t => .cons r (RwS.del i t)
theorem ExF.exc {nm : Str} {a : Addr} {fs : List (Str × W)} {d : Option Addr} (f : ExF K Z H fs d) : Rw K Z H (.exc a d nm fs) (.ref a) := by
  rcases f with ⟨rfl, rfl⟩ | ⟨dd, gs, rfl, z, e, r⟩
  · exact .exc0
  · exact .excF z e r
end
def wTryAs (i : Nat) (c : Str) (ES : List Str) (t : TSw) (ts : Addr → Option Addr → Str → List (Str × W) → TSw) : TSw := fun D σ G =>
  t { D with ex := fun nm fs σ1 G1 => nm ∈ ES ∧ (subE nm c = true → ∀ a d, G1 a = none → ts a d nm fs { nx := fun σ2 G2 => D.nx (sdel σ2 i) G2, rt := D.rt, bk := fun σ2 G2 => D.bk (sdel σ2 i) G2, ct := fun σ2 G2 => D.ct (sdel σ2 i) G2 } (sset σ1 i (.exc a d nm fs)) G1) ∧ (subE nm c = false → D.ex nm fs σ1 G1) } σ G
def liftW (K : PySem.W.Frag) (V : WX) (t : TSw) : TS := fun D σ H => ∃ Z σ' G Dw, RwS K Z H σ' σ ∧ HRel K Z G H ∧ t Dw σ' G ∧ KS K Z G H Dw.nx D.nx ∧ KE K Z G H Dw.rt D.rt ∧ KS K Z G H Dw.bk D.bk ∧ KS K Z G H Dw.ct D.ct ∧
  ∀ Z' G' H' σ1' σ1 nm C fs d, Ext Z G H Z' G' H' → HRel K Z' G' H' → RwS K Z' H' σ1' σ1 → ClsA K nm C → ExF K Z' H' fs d → Dw.ex nm fs σ1' G' → V (.ref C) d σ1 H'
def lift0 (K : PySem.W.Frag) (t : TSw) : TS := fun D σ H => ∃ Z σ' G Dw, RwS K Z H σ' σ ∧ HRel K Z G H ∧ t Dw σ' G ∧ KS K Z G H Dw.nx D.nx ∧ KE K Z G H Dw.rt D.rt ∧ KS K Z G H Dw.bk D.bk ∧ KS K Z G H Dw.ct D.ct ∧ Dw.ex = fun _ _ _ _ => False
theorem qtryAs {X : Cx} {c n : Str} {cv : Value} {i : Nat} {ES : List Str} {body suite : List Stmt} {b₀ : Stmt} {np pos pos' : Pos} {t : TSw} {ts : Addr → Option Addr → Str → List (Str × W) → TSw} (hs : X.stack = X.env :: X.outer) (hf : X.env.frame = some X.env.locals) (hN : X.N.Nodup) (hi : X.N[i]? = some n) (hln : X.env.kindOf n = some .local)
    (hc : Names X c cv) (hM : ErrM X.K ES c cv) (hb : ∀ (pn : List (Addr × Obj)) (xe : Value → Shared → Prop), PassesOwn (model X.prog X.w) X.A X.env xe → PSsw (X.tr pn xe) body t)
    (hsu : ∀ (a : Addr) (oe : Obj) (C : Addr) (d : Option Addr) (pn : List (Addr × Obj)) (nm : Str) (fs : List (Str × W)), ClsA X.K nm C → nm ∈ ES → L2N.Zn (.ref C) d oe → (∃ vs, oe.data = .fields vs) → PSsw (X.suite a ((a, oe) :: pn)) (b₀ :: suite) (ts a d nm fs)) :
    PSw X (.Try body [.ExceptHandler (some (.Name c np)) (some n) (b₀ :: suite) pos'] [] [] pos) (wTryAs i c ES t ts) := by
  refine PS.imp (L2N.ps_try_as (i := i) (c := cv) (tb := fun V => liftW X.K V t) (ts := fun a cls d D σ H => ∃ nm C fs, cls = .ref C ∧ ClsA X.K nm C ∧ nm ∈ ES ∧ lift0 X.K (ts a d nm fs) D σ H) (Wout := wishOf X) hs hf hN hi hln hc takes_wish
    (fun V pn xe tk pa => PSs.imp (hb pn xe pa) fun D σ H h => ?_) (fun a oe cls d pn hz hfl => ⟨fun pins s σ H D I h => ?_⟩)) fun D σ H h => ?_
  · obtain ⟨Z, σ', G, Dw, ev, hr, t, k1, k2, k3, k4, kx⟩ := h
    exact ⟨Z, σ', G, Dw, ev, hr, t, ⟨k1, k2, k3, k4, fun Z1 G1 H1 s1' s1 nm C fs d x1 h1 r1 c1 f1 q => wish_of tk (kx Z1 G1 H1 s1' s1 nm C fs d x1 h1 r1 c1 f1 q)⟩⟩
  · obtain ⟨nm, C, fs, rfl, cA, hm, Z, σ', G, Dw, ev, hr, t, k1, k2, k3, k4, k5⟩ := h
    exact (hsu a oe C d pn nm fs cA hm hz hfl).run pins s σ H D I ⟨Z, σ', G, Dw, ev, hr, t, ⟨k1, k2, k3, k4, fun _ _ _ _ _ _ _ _ _ _ _ _ _ _ z => by rw [k5] at z; exact z.elim⟩⟩
  · obtain ⟨Z, σ', G, Dw, ev, hr, t, k⟩ := h
    refine ⟨Z, σ', G, _, ev, hr, t, k.nx, k.rt, k.bk, k.ct, fun Z1 G1 H1 s1' s1 nm C fs d x1 h1 r1 c1 f1 q => ?_⟩
    obtain ⟨q1, q2, q3⟩ := q
    refine ⟨subE nm c, hM nm q1 C c1, fun e a na => ⟨nm, C, fs, rfl, c1, q1, Z1, _, G1, _, r1.set f1.exc i, h1, q2 e a d (h1.fresh na), fun Z2 G2 H2 s2' s2 x2 h2 r2 q => k.nx Z2 G2 H2 _ _ (x1.trans x2) h2 (r2.del i) q, k.rt.mono x1,
      fun Z2 G2 H2 s2' s2 x2 h2 r2 q => k.bk Z2 G2 H2 _ _ (x1.trans x2) h2 (r2.del i) q, fun Z2 G2 H2 s2' s2 x2 h2 r2 q => k.ct Z2 G2 H2 _ _ (x1.trans x2) h2 (r2.del i) q, rfl⟩, fun e => k.ex Z1 G1 H1 s1' s1 nm C fs d x1 h1 r1 c1 f1 (q3 e)⟩
/-! ### what a suite asks of the caught one -/
/-- the exception that is handled here: at a, its class's name, its dict -/
structure HotE (X : Cx) (a : Addr) (d : Option Addr) (nm : Str) : Prop where
  ex : ∃ oe C, L2H.Hot1 X.A (a, oe) ∧ (a, oe) ∈ X.pn ∧ ClsA X.K nm C ∧ L2N.Zn (.ref C) d oe
theorem hotE_suite {X : Cx} {a C : Addr} {oe : Obj} {d : Option Addr} {nm : Str} {pn : List (Addr × Obj)} (c : ClsA X.K nm C) (hz : L2N.Zn (.ref C) d oe) (hf : ∃ vs, oe.data = .fields vs) : HotE (X.suite a ((a, oe) :: pn)) a d nm :=
  ⟨oe, C, ⟨rfl, by obtain ⟨vs, e⟩ := hf; exact ⟨vs, e, hz.2.2 vs e⟩⟩, List.mem_cons_self, c, hz⟩
inductive ClsW : W → V → Value → Prop
  | own {D} : ClsW (.ref D) (.ref D) (.ref D)
  | ty {n} : ClsW (.ty n) (.ty n) (.type n)
/-- where the caught one's dict is told -/
def DAt (d : Option Addr) (H : Hp) : Prop := d = none ∨ ∃ dd gs, d = some dd ∧ H dd = some (.xd gs)
theorem inst_at {X : Cx} {a C : Addr} {oe : Obj} {d : Option Addr} {pins : List (Addr × Obj)} {σ : SV} {H : Hp} {s : Shared} (I : Inv X pins σ H s) (hm : (a, oe) ∈ X.pn) (hz : L2N.Zn (.ref C) d oe) (hf : ∃ vs, oe.data = .fields vs) (hd : DAt d H) : ∃ od, PySem.W.InstAt s.heap a oe C od := by
  obtain ⟨hget, _⟩ := I.pin (a, oe) (List.mem_append_left _ hm)
  obtain ⟨vs, hv⟩ := hf
  obtain ⟨h1, h2, _⟩ := hz
  rcases hd with rfl | ⟨dd, gs, rfl, e⟩
  · exact ⟨none, hget, h1, by unfold PySem.W.notCls; rw [hv] <;> rfl, by rw [h2]; trivial⟩
  · have hx : ObjOk X.prog X.w H s.heap dd (.xd gs) := I.hok dd _ e
    obtain ⟨mA, hns, hr⟩ := hx
    obtain ⟨od, ho, hl⟩ := lookIn_ns hns
    exact ⟨some od, hget, h1, by unfold PySem.W.notCls; rw [hv] <;> rfl, by rw [h2]; exact ho⟩
theorem kit_at {K : PySem.W.Frag} {C a : Addr} {oe : Obj} {od : Option Obj} (T : ExcC K C) : PySem.W.KitX K (.ref a) (.ref C) (fun h => PySem.W.InstAt h a oe C od) :=
  PySem.W.kitx_exc (by obtain ⟨cd, e, _⟩ := PySem.W.any_some T.hd; rw [e]; rfl) T.hg T.hk T.hs T.ha T.hn T.ht T.hm
def rIsX (K : PySem.W.Frag) (C a : Addr) (d : Option Addr) : List V → Hp → VK → Prop := fun xs H Q => ∃ c cv b, xs = [.ref a, c] ∧ (∀ u, RelV c u → u = cv) ∧ DAt d H ∧ PySem.W.kitOne K (.ref C) cv = some b ∧ Q (.bl b) H
def rIsXT (K : PySem.W.Frag) (C a : Addr) (d : Option Addr) : List V → Hp → VK → Prop := fun xs H Q => ∃ tp cs cvs b, xs = [.ref a, .ref tp] ∧ SqT K H tp cs ∧ (∀ us, Vals cs us → us = cvs) ∧ DAt d H ∧ PySem.W.kitAny K (.ref C) cvs = some b ∧ Q (.bl b) H
section
variable {X : Cx} {a C : Addr} {d : Option Addr} {oe : Obj}
theorem call_isX (T : ExcC X.K C) (hm : (a, oe) ∈ X.pn) (hz : L2N.Zn (.ref C) d oe) (hf : ∃ vs, oe.data = .fields vs) : CallR X (.builtin "isinstance") (rIsX X.K C a d) := by
  intro pins s σ H xs us Q I r h
  obtain ⟨c, cv, b, rfl, hcv, hd, e, q⟩ := h
  cases r with
  | cons rx rr =>
    cases rr with
    | cons rt rr =>
      cases rr
      cases rx
      have ec := hcv _ rt
      subst ec
      obtain ⟨od, J⟩ := inst_at I hm hz hf hd
      exact PySem.W.kia_one (kit_at T) I.kIn J e (fun z => nomatch z) fun tk => ⟨.bl b, H, I.kept (t' := tk) fun _ _ z => z, rfl, q⟩
theorem call_isXT (T : ExcC X.K C) (hm : (a, oe) ∈ X.pn) (hz : L2N.Zn (.ref C) d oe) (hf : ∃ vs, oe.data = .fields vs) : CallR X (.builtin "isinstance") (rIsXT X.K C a d) := by
  intro pins s σ H xs us Q I r h
  obtain ⟨tp, cs, cvs, b, rfl, ht, hcv, hd, e, q⟩ := h
  cases r with
  | cons rx rr =>
    cases rr with
    | cons rt rr =>
      cases rr
      cases rx
      cases rt
      obtain ⟨its, rv, ⟨o, h1, h2, n, h3⟩, _⟩ := I.tuple ht
      have e3 := hcv _ rv
      subst e3
      obtain ⟨oc, od, dt, sl⟩ := o
      simp only at h2 h3
      subst h2 h3
      obtain ⟨od, J⟩ := inst_at I hm hz hf hd
      exact PySem.W.kia_tup (kit_at T) I.kIn J h1 e (fun z => nomatch z) fun tk => ⟨.bl b, H, I.kept (t' := tk) fun _ _ z => z, rfl, q⟩
end
theorem Rw.dat {K : PySem.W.Frag} {Z : Zp} {H : Hp} {a : Addr} {d : Option Addr} {nm : Str} {fs : List (Str × W)} {v : V} (r : Rw K Z H (.exc a d nm fs) v) : v = .ref a ∧ DAt d H := by
  cases r with
  | exc0 => exact ⟨rfl, .inl rfl⟩
  | excF z e r => exact ⟨rfl, .inr ⟨_, _, rfl, e⟩⟩
def wIsE (a : Addr) (d : Option Addr) (nm : Str) (T : Str) (te : TEw) : TEw := fun σ G Q => te σ G fun x G1 => ∃ fs, x = .exc a d nm fs ∧ Q (.bl (subE nm T)) G1
def wIsET (a : Addr) (d : Option Addr) (nm : Str) (Ts : List Str) (te : TEw) : TEw := fun σ G Q => te σ G fun x G1 => ∃ fs, x = .exc a d nm fs ∧ Q (.bl (Ts.any (subE nm))) G1
/-- the field of a caught one -/
def wXf (a : Addr) (d : Option Addr) (nm : Str) (f : Str) (te : TEw) : TEw := fun σ G Q => te σ G fun x G1 => ∃ fs, x = .exc a d nm fs ∧ isS (fs.lookup f) fun w => Q w G1
/-- the classes named in a tuple -/
inductive ClsWs (K : PySem.W.Frag) (ES : List Str) : List Str → List W → List V → List Value → Prop
  | nil : ClsWs K ES [] [] [] []
  | cons {T cw cv c Ts cws cvs cs} : ErrT K ES T c → ClsW cw cv c → ClsWs K ES Ts cws cvs cs → ClsWs K ES (T :: Ts) (cw :: cws) (cv :: cvs) (c :: cs)
theorem ClsW.rel {K : PySem.W.Frag} {Z : Zp} {H : Hp} {cw : W} {cv v : V} {c : Value} (hw : ClsW cw cv c) (r : Rw K Z H cw v) : v = cv := by
  cases hw <;> cases r <;> rfl
theorem ClsW.val {cw : W} {cv : V} {c u : Value} (hw : ClsW cw cv c) (r : RelV cv u) : u = c := by
  cases hw <;> exact r
theorem ClsWs.rel {K : PySem.W.Frag} {ES : List Str} {Z : Zp} {H : Hp} : ∀ {Ts cws cvs cs vs}, ClsWs K ES Ts cws cvs cs → RwL K Z H cws vs → vs = cvs
  | _, _, _, _, _, .nil, r => by cases r; rfl
  | _, _, _, _, _, .cons _ hw t, r => by
    cases r with
    | cons ra rb => rw [hw.rel ra, ClsWs.rel t rb]
theorem ClsWs.val {K : PySem.W.Frag} {ES : List Str} : ∀ {Ts cws cvs cs us}, ClsWs K ES Ts cws cvs cs → Vals cvs us → us = cs
  | _, _, _, _, _, .nil, r => by cases r; rfl
  | _, _, _, _, _, .cons _ hw t, r => by
    cases r with
    | cons ra rb => rw [hw.val ra, ClsWs.val t rb]
theorem ClsWs.kit {K : PySem.W.Frag} {ES : List Str} {nm : Str} {C : Addr} (hm : nm ∈ ES) (cA : ClsA K nm C) : ∀ {Ts cws cvs cs}, ClsWs K ES Ts cws cvs cs → PySem.W.kitAny K (.ref C) cs = some (Ts.any (subE nm))
  | _, _, _, _, .nil => rfl
  | _, _, _, _, .cons (T := T) e _ t => by
    have ih := ClsWs.kit hm cA t
    unfold PySem.W.kitAny
    rw [e nm hm C cA, List.any_cons]
    cases subE nm T with
    | true => simp
    | false => simpa using ih
section
variable {X : Cx} {a : Addr} {d : Option Addr} {nm T f : Str} {ES Ts : List Str} {c : Value} {cw : W} {cv : V} {cws : List W} {cvs : List V} {cs : List Value} {e : Expr} {es : List Expr} {te : TEw} {p p2 pos : Pos}
theorem qclsv {D : Addr} (hg : Gl X T) (hm : X.mg T = some (.ref D)) (hdb : (T == ("__debug__" : Str)) = false := by decide) : PEw X (.Name T p) (wC (.ref D)) := PE.imp (pe_glob (v := .ref D) hg hm rfl hdb) fun _ _ _ h => lC (fun _ _ => .ref) h
theorem qclsT {n : String} (hg : Gl X T) (hm : X.mg T = none) (hb : bootBuiltins T = some (.type n)) (hn : T ≠ "__name__" := by decide) (hd : (T == ("__debug__" : Str)) = false := by decide) : PEw X (.Name T p) (wC (.ty n)) := PE.imp (pe_bltn hg hm hb (show RelV (.ty n) (.type n) from rfl) hn hd) fun _ _ _ h => lC (fun _ _ => .ty) h
theorem qisE (hot : HotE X a d nm) (hn : nm ∈ ES) (hT : ErrT X.K ES T c) (hC : ErrC X.K ES) (hw : ClsW cw cv c) (hg : Gl X "isinstance") (hm : X.mg "isinstance" = none) (he : PEw X e te) (ht : PEw X (.Name T p2) (wC cw))
    (h1 : starEach [e, .Name T p2] X.env = (false, eval e X.env) :: starEach [.Name T p2] X.env := by rfl) (h2 : (backTo pos (starEach [.Name T p2] X.env)).any (·.1) = false := by rfl) (h3 : starEach [.Name T p2] X.env = (false, eval (.Name T p2) X.env) :: starEach [] X.env := by rfl) :
    PEw X (.Call (.Name "isinstance" p) [e, .Name T p2] [] pos) (wIsE a d nm T te) := by
  obtain ⟨oe, C, ⟨hh, vs, hd, _⟩, hp, cA, hz⟩ := hot.ex
  refine PE.imp (pe_callB (call_isX (hC nm hn C cA) hp hz ⟨vs, hd⟩) hg hm (by decide +kernel) (qa_cons he (qa_cons ht qa_nil h3) h1) (by decide) (by decide) h1 h2) fun σ H Q h => ?_
  obtain ⟨Z, σ', G, Qw, ev, hr, t, kk⟩ := h
  refine ⟨Z, σ', G, fun ws G1 => ∃ fs, ws = [.exc a d nm fs, cw] ∧ Qw (.bl (subE nm T)) G1, ev, hr, ?_, fun Z1 G1 H1 ws vs x1 h1 r1 t1 => ?_⟩
  · have t' : te σ' G fun x G1 => ∃ fs, x = .exc a d nm fs ∧ Qw (.bl (subE nm T)) G1 := t
    show te σ' G fun x G1 => ∃ fs, [x, cw] = [.exc a d nm fs, cw] ∧ Qw (.bl (subE nm T)) G1
    have e2 : (fun x G1 => ∃ fs, [x, cw] = [W.exc a d nm fs, cw] ∧ Qw (.bl (subE nm T)) G1) = fun (x : W) (G1 : Gp) => ∃ fs, x = .exc a d nm fs ∧ Qw (.bl (subE nm T)) G1 := by
      funext x G1; simp
    rw [e2]; exact t'
  · obtain ⟨fs, rfl, q⟩ := t1
    cases r1 with
    | cons ra r1 =>
      cases r1 with
      | cons rb r1 =>
        cases r1
        obtain ⟨rfl, da⟩ := ra.dat
        obtain rfl := hw.rel rb
        exact ⟨_, c, _, rfl, fun u r => hw.val r, da, hT nm hn C cA, kk Z1 G1 H1 _ _ x1 h1 .bl q⟩
theorem qisET {kk : Nat} (hot : HotE X a d nm) (hn : nm ∈ ES) (hC : ErrC X.K ES) (hw : ClsWs X.K ES Ts cws cvs cs) (hg : Gl X "isinstance") (hm : X.mg "isinstance" = none) (he : PEw X e te) (ht : PAw X es fun _ G Q => Q cws G) (hz : cws.length ≤ sizeLine)
    (h1 : starEach [e, .Tuple es kk p2] X.env = (false, eval e X.env) :: starEach [.Tuple es kk p2] X.env := by rfl) (h2 : (backTo pos (starEach [.Tuple es kk p2] X.env)).any (·.1) = false := by rfl) (h3 : starEach [.Tuple es kk p2] X.env = (false, eval (.Tuple es kk p2) X.env) :: starEach [] X.env := by rfl) :
    PEw X (.Call (.Name "isinstance" p) [e, .Tuple es kk p2] [] pos) (wIsET a d nm Ts te) := by
  obtain ⟨oe, C, ⟨hh, vs, hd, _⟩, hp, cA, hzn⟩ := hot.ex
  refine PE.imp (pe_callB (call_isXT (hC nm hn C cA) hp hzn ⟨vs, hd⟩) hg hm (by decide +kernel) (qa_cons he (qa_cons (qtup ht) qa_nil h3) h1) (by decide) (by decide) h1 h2) fun σ H Q h => ?_
  obtain ⟨Z, σ', G, Qw, ev, hr, t, k⟩ := h
  refine ⟨Z, σ', G, fun ws G1 => ∃ fs, ws = [.exc a d nm fs, .tup cws] ∧ Qw (.bl (Ts.any (subE nm))) G1, ev, hr, ?_, fun Z1 G1 H1 ws vs x1 h1 r1 t1 => ?_⟩
  · have t' : te σ' G fun x G1 => ∃ fs, x = .exc a d nm fs ∧ Qw (.bl (Ts.any (subE nm))) G1 := t
    show te σ' G fun x G1 => cws.length ≤ sizeLine ∧ ∃ fs, [x, .tup cws] = [.exc a d nm fs, .tup cws] ∧ Qw (.bl (Ts.any (subE nm))) G1
    have e2 : (fun x G1 => cws.length ≤ sizeLine ∧ ∃ fs, [x, W.tup cws] = [W.exc a d nm fs, .tup cws] ∧ Qw (.bl (Ts.any (subE nm))) G1) = fun (x : W) (G1 : Gp) => ∃ fs, x = .exc a d nm fs ∧ Qw (.bl (Ts.any (subE nm))) G1 := by
      funext x G1; simp [hz]
    rw [e2]; exact t'
  · obtain ⟨fs, rfl, q⟩ := t1
    cases r1 with
    | cons ra r1 =>
      cases r1 with
      | cons rb r1 =>
        cases r1
        obtain ⟨rfl, da⟩ := ra.dat
        cases rb with
        | tup st rt =>
          obtain rfl := hw.rel rt
          exact ⟨_, _, cs, _, rfl, st, fun us r => hw.val r, da, hw.kit hn cA, k Z1 G1 H1 _ _ x1 h1 .bl q⟩
theorem qxf (hot : HotE X a d nm) (hn : nm ∈ ES) (hC : ErrC X.K ES) (hF : FldX X.K ES f) (he : PEw X e te) (hb : attributeBase e f X.env (eval e X.env) = eval e X.env := by rfl) : PEw X (.Attribute e f pos) (wXf a d nm f te) := by
  obtain ⟨oe, C, ⟨hh, vs, hd, _⟩, hp, cA, hz⟩ := hot.ex
  have T := hC nm hn C cA
  have hno := hF nm hn C cA
  refine ⟨fun pins s σ H Q I h => ?_⟩
  obtain ⟨Z, σ', G, Qw, ev, hr, t, k⟩ := h
  refine attr_of hb (thn (he.run pins s σ H (fun v H1 => ∃ dd gs u, v = .ref a ∧ d = some dd ∧ H1 dd = some (.xd gs) ∧ gs.lookup f = some u ∧ Q u H1) I ⟨Z, σ', G, _, ev, hr, t, fun Z1 G1 H1 x v x1 h1 r1 t1 => ?_⟩) fun u s1 hh => ?_)
  · obtain ⟨fs, rfl, t1⟩ := t1
    obtain ⟨w, el, q⟩ := isS_ex t1
    cases r1 with
    | exc0 => simp [List.lookup] at el
    | excF z e r =>
      obtain ⟨u, eu, ru⟩ := r.get el
      exact ⟨_, _, u, rfl, rfl, e, eu, k Z1 G1 H1 _ _ x1 h1 ru q⟩
  · obtain ⟨x, H1, I1, rx, dd, gs, v, rfl, rfl, ea, l, q⟩ := hh
    obtain rfl : u = Value.ref a := rx
    obtain ⟨ha, _⟩ := I1.pin (a, oe) (List.mem_append_left _ hp)
    have hx : ObjOk X.prog X.w H1 s1.heap dd (.xd gs) := I1.hok dd _ ea
    obtain ⟨mA, hns, hr⟩ := hx
    obtain ⟨od, ho, hl⟩ := lookIn_ns hns
    obtain ⟨u, hu, ru⟩ := RelO.some_of (v := v) (o := mA f) (by rw [← l]; exact hr f)
    have J : PySem.W.InstAt s1.heap a oe C (some od) := ⟨ha, hz.1, by unfold PySem.W.notCls; rw [hd] <;> rfl, by rw [hz.2.1]; exact ho⟩
    exact HandSPX.exc_get I1.kIn J T.hg T.hk T.hs (PySem.W.findObj_own T.hd hno rfl (by rw [hl, hu])) (handed_of ru) ⟨v, H1, I1.tok _, ru, q⟩
end
/-! ### defs called in a suite -/
/-- the promise of such a def: the handled exception's place, dict, class's name, the arguments, the small heap, the wanted end -/
abbrev SpE := Addr → Option Addr → Str → List W → Gp → QW → Prop
def liftSpE (K : PySem.W.Frag) (sp : SpE) (a : Addr) (d : Option Addr) (nm : Str) (vs : List V) (H : Hp) (Q : VK) : Prop := ∃ Z ws G Qw, RwL K Z H ws vs ∧ HRel K Z G H ∧ sp a d nm ws G Qw ∧ KE K Z G H Qw Q
structure FnE (P : Program) (w : World) (K : PySem.W.Frag) (mg : Str → Option Value) (base : Heap) (ES : List Str) (k : Nat) (f : Addr) (fd : FuncData) (ps : List Str) (sp : SpE) : Prop where
  len : ∀ a d nm ws G Q, sp a d nm ws G Q → ws.length = ps.length
  run : ∀ (A : Around) (outer : List Env) (s : Shared) (H : Hp) (args : Args) (us : List Value) (vs : List V) (Q : VK) (p : Addr × Obj) (C : Addr) (d : Option Addr) (nm : Str), L2H.RoomH k A → L2H.Hot1 A p → ClsA K nm C → nm ∈ ES → L2N.Zn (.ref C) d p.2 → L2H.PinOk outer H s p → Env0 P w K mg base A outer s H → BindsTo s fd args (ps.zip us) → Vals vs us → liftSpE K sp p.1 d nm vs H Q →
    codeAny (model P w) A (.call (.ref f) args) (CR CX0 outer P w H s Q L2.E0) s
structure CalE (P : Program) (w : World) (K : PySem.W.Frag) (mg : Str → Option Value) (base : Heap) (ES : List Str) (k : Nat) (x : Str) (sp : SpE) : Prop where
  ex : ∃ f fd ps, FnE P w K mg base ES k f fd ps sp ∧ mg x = some (.ref f) ∧ PySem.W.keepIn K (.ref f) = true ∧ Binds K fd ps []
/-- room in a suite -/
theorem hu64H {A : Around} {k : Nat} (hr : L2H.RoomH k A) : A.units + 64 < cLine := by have := hr.un; omega
theorem okE {P : Program} {w : World} {K : PySem.W.Frag} {mg : Str → Option Value} {base : Heap} {ES : List Str} {x qual : Str} {st : Stmt} {f : Addr} {fd : FuncData} {N ps : List Str} {k : Nat} {sp : SpE} (F : Fun K x qual st f fd) (S : FnScope N ps (defScope st)) (len : ∀ a d nm ws G Q, sp a d nm ws G Q → ws.length = ps.length)
    (hbody : ∀ (cdv : Value) (A : Around) (outer : List Env) (s : Shared) (H : Hp) (p : Addr × Obj) (d : Option Addr) (nm : Str), nm ∈ ES → L2H.RoomH k (A.deeper (envOfC qual (defScope st) s.heap.objs.size f cdv)) → HotE (L2H.cxH CX0 P w K mg base N qual (defScope st) f cdv A outer s H L2.E0 p) p.1 d nm →
      ∃ t, PSsw (L2H.cxH CX0 P w K mg base N qual (defScope st) f cdv A outer s H L2.E0 p) (defBody st) t ∧ ∀ ws G Q, sp p.1 d nm ws G Q → t { nx := fun _ G' => Q .non G', rt := Cl Q } (startW N ws) G) :
    FnE P w K mg base ES (k + 1) f fd ps sp := by
  obtain ⟨oc, od, kV, doc, pm, an, cdv, ct, osl, rfl, lk, hcd⟩ := F.ex
  refine ⟨len, fun A outer s H args us vs Q p C d nm hr hot cA hn hz hpin e0 hb r hsp => ?_⟩
  obtain ⟨Z, ws, G, Qw, rr, hh, s1, kq⟩ := hsp
  have hl : vs.length = ps.length := by rw [← rr.length]; exact len _ _ _ _ _ _ s1
  have KX : K.In s.heap := e0.mod.kin.keeps fun b o e => (e0.bs b o e).1
  have lim : s.heap.NoLimit := e0.mod.nolimit.keeps fun b o e => (e0.bs b o e).1
  have hkind : ∀ y ∈ ps.zip us, (defScope st).names.lookup y.1 = some .local ∨ ((defScope st).names.lookup y.1 = some .cell ∧ ((cellsFrom (s.heap.objs.size + 1) (defScope st).names []).lookup y.1).isSome = true) := fun ⟨n, v⟩ hy => by
    rcases S.par n (List.of_mem_zip hy).1 with q | q
    · exact .inl q
    · exact .inr ⟨q, PySem.W.cellsFrom_some _ _ _ (.inl q)⟩
  refine codeAny_call_function hr.depth (KX _ _ lk) rfl S.co S.gen rfl (PySem.W.codeRec_of KX hcd) (hb _ _ _ _ ?_)
  refine wpAny_newFunctionEnv_cells S.kind hkind fun env he s1' x => ?_
  subst he
  refine ⟨lim.keeps x.toInCall.keep, codeAny_func ?_⟩
  obtain ⟨t, ht, hq⟩ := hbody cdv A outer s H p d nm hn (hr.deeper _) ⟨p.2, C, hot, List.mem_cons_self, cA, hz⟩
  have I : Inv (L2H.cxH CX0 P w K mg base N qual (defScope st) f cdv A outer s H L2.E0 p) [] (L2.start N vs) H s1' := L2H.inv_startH S hpin e0 hl r x
  refine wpAny_mono (ht.run [] s1' (L2.start N vs) H { nx := fun _ H' => Q .non H', rt := Q } I ⟨Z, _, G, _, RwS.start rr, hh, hq ws G Qw s1, ⟨fun Z1 G1 H1 _ _ x1 h1 _ q1 => kq Z1 G1 H1 _ _ x1 h1 .non q1, kq.cl, fun _ _ _ _ _ _ _ _ z => z.elim, fun _ _ _ _ _ _ _ _ z => z.elim, fun _ _ _ _ _ _ _ _ _ _ _ _ _ _ z => z.elim⟩⟩) (fun fl s' hs => ?_) fun e s' hs => hs
  have fin : ∀ {σ' : SV} {H' : Hp} {v : V} {u : Value}, Inv (L2H.cxH CX0 P w K mg base N qual (defScope st) f cdv A outer s H L2.E0 p) [] σ' H' s' → RelV v u → Q v H' → CE outer P w H s Q u s' :=
    fun {σ' H' v u} J rv q => ⟨v, H', J.os, J.bare, J.base, J.hok, rv, q⟩
  cases fl with
  | ret u =>
    obtain ⟨v, σ', H', J, rv, q⟩ := hs
    exact fin J rv q
  | next =>
    obtain ⟨σ', H', J, q⟩ := hs
    exact fin (v := V.non) (u := Value.none) J rfl q
  | brk =>
    obtain ⟨_, _, _, q⟩ := hs
    exact False.elim q
  | cont =>
    obtain ⟨_, _, _, q⟩ := hs
    exact False.elim q
def wCallE (sp : SpE) (a : Addr) (d : Option Addr) (nm : Str) (t : TAw) : TEw := fun σ G Q => t σ G fun ws G1 => sp a d nm ws G1 Q
section
variable {X : Cx} {a : Addr} {d : Option Addr} {nm x : Str} {ES : List Str} {k : Nat} {sp : SpE} {t : TAw} {e : Expr} {es : List Expr} {p pos : Pos}
theorem qcallE (c : CalE X.prog X.w X.K X.mg X.base ES k x sp) (hot : HotE X a d nm) (hn : nm ∈ ES) (hr : L2H.RoomH k X.A) (hg : Gl X x) (ha : PAw X (e :: es) t) (hdb : (x == ("__debug__" : Str)) = false := by decide)
    (he : starEach (e :: es) X.env = (false, eval e X.env) :: starEach es X.env := by rfl) (hpl : (backTo pos (starEach es X.env)).any (·.1) = false := by rfl) : PEw X (.Call (.Name x p) (e :: es) [] pos) (wCallE sp a d nm t) := by
  obtain ⟨f, fd, ps, F, m, kp, b⟩ := c.ex
  obtain ⟨oe, C, hh, hp, cA, hz⟩ := hot.ex
  refine ⟨fun pins s σ H Q I h => ?_⟩
  obtain ⟨Z, σ', G, Qw, ev, hrl, t, kk⟩ := h
  refine wpAny_Call_Name_kw (ld_glob I hg m ?_ hdb)
  refine PySem.W.callWith_K (h₀ := X.base) I.ok.mod.kin kp (thn (ha.run pos pins s σ H (fun vs H1 => liftSpE X.K sp a d nm vs H1 Q) I ⟨Z, σ', G, _, ev, hrl, t, fun Z1 G1 H1 ws vs x1 h1 r1 t1 => ⟨Z1, ws, G1, Qw, r1, h1, t1, kk.mono x1⟩⟩) fun us s1 ⟨vs, H1, I1, r, q⟩ => ⟨I1.kIn, ?_⟩) he hpl
  have hl : us.length = ps.length := by
    obtain ⟨Z1, ws, G1, Qw1, r1, _, s1, _⟩ := q
    rw [← r.length, ← r1.length]; exact F.len _ _ _ _ _ _ s1
  have b := b s1 us I1.kIn (by rw [List.append_nil]; exact hl)
  rw [List.append_nil] at b
  have P1 := I1.pin (a, oe) (List.mem_append_left _ hp)
  have hpin : L2H.PinOk X.stack H1 s1 (a, oe) := ⟨P1.1, P1.2.1, fun hm => (List.mem_cons.mp (I1.stkSub a hm)).elim P1.2.2.1 P1.2.2.2.1, P1.2.2.2.2⟩
  refine wpAny_call (codeAny_mono (F.run X.A X.stack s1 H1 ⟨us, []⟩ us vs Q (a, oe) C d nm hr hh cA hn hz hpin I1.env0 b r q) fun r s' hq => ?_)
  cases r with
  | error e => exact hq.elim
  | ok fl =>
    cases fl with
    | ret u => exact I1.after hq
    | next => exact False.elim hq
    | brk => exact False.elim hq
    | cont => exact False.elim hq
end
/-! ### without calm -/
section
variable {X : Cx} {a b : Expr} {ta tb : TEw} {pos : Pos} {k : Nat}
theorem qeqH (hr : L2H.RoomH k X.A) (ha : PEw X a ta) (hb : PEw X b tb) : PEw X (.Compare a [.Eq] [b] pos) (wOp wEq ta tb) := qcmp (OpR.or op_eq (op_eqD (hu64H hr))) sim_eq ha hb (nomark _)
theorem qneH (hr : L2H.RoomH k X.A) (ha : PEw X a ta) (hb : PEw X b tb) : PEw X (.Compare a [.NotEq] [b] pos) (wOp wNe ta tb) := qcmp (OpR.or op_ne (op_neD (hu64H hr))) sim_ne ha hb (nomark _)
theorem qteqH (hr : L2H.RoomH k X.A) (ha : PEw X a ta) (hb : PEw X b tb) : PTw X (.Compare a [.Eq] [b] pos) (wTest (wOp wEq ta tb)) := qtcmp (OpR.or op_eq (op_eqD (hu64H hr))) sim_eq ha hb (nomark _)
theorem qtneH (hr : L2H.RoomH k X.A) (ha : PEw X a ta) (hb : PEw X b tb) : PTw X (.Compare a [.NotEq] [b] pos) (wTest (wOp wNe ta tb)) := qtcmp (OpR.or op_ne (op_neD (hu64H hr))) sim_ne ha hb (nomark _)
end
theorem roomH_mark {k : Nat} {A : Around} {a_e : Addr} (hr : Room k A) : L2H.RoomH k (A.mark (some (.ref a_e))) := ⟨hr.dp, hr.un⟩
def isExc (a : Addr) (d : Option Addr) (nm : Str) (x : W) (P : List (Str × W) → Prop) : Prop := ∃ fs, x = .exc a d nm fs ∧ P fs
theorem isExc_exc {a : Addr} {d : Option Addr} {nm : Str} {fs : List (Str × W)} {P : List (Str × W) → Prop} : isExc a d nm (.exc a d nm fs) P = P fs := by
  unfold isExc
  exact propext ⟨fun ⟨gs, e, h⟩ => (by injection e with _ _ _ e; subst e; exact h), fun h => ⟨fs, rfl, h⟩⟩
/-- isinstance between own classes, by what stands of them -/
theorem kit_ref {K : PySem.W.Frag} {C D : Addr} {b : Bool} (h1 : PySem.W.isClsIn K D = true) (h2 : PySem.W.typeIn K (.ref D) = some (.type "type")) (h3 : PySem.W.subIn K (.ref C) (.ref D) = some b) (h0 : PySem.W.subIn K (.ref C) (.ref C) = some true) : PySem.W.kitOne K (.ref C) (.ref D) = some b := by
  unfold PySem.W.kitOne
  split
  · rename_i e
    have e : C = D := Value.ref.inj (beq_iff_eq.mp e)
    subst e
    exact h0.symm.trans h3
  · have h1 : (PySem.W.clsIn K D).isSome = true := h1
    show (if ((PySem.W.clsIn K D).isSome && PySem.W.typeIn K (.ref D) == some (.type "type")) = true then PySem.W.subIn K (.ref C) (.ref D) else none) = some b
    rw [if_pos (by rw [h1, h2]; rfl)]
    exact h3
theorem kit_typ {K : PySem.W.Frag} {C : Addr} {n : String} {b : Bool} (h1 : PySem.W.kitMeta n = true) (h3 : PySem.W.subIn K (.ref C) (.type n) = some b) : PySem.W.kitOne K (.ref C) (.type n) = some b := by
  unfold PySem.W.kitOne
  rw [if_neg (show ¬ ((Value.ref C == Value.type n) = true) from Bool.false_ne_true)]
  show (if PySem.W.kitMeta n = true then PySem.W.subIn K (.ref C) (.type n) else none) = some b
  rw [if_pos h1]
  exact h3
theorem qcls_nil {X : Cx} : PAw X [] fun _ G Q => Q [] G := qa_nil
theorem qcls_cons {X : Cx} {e : Expr} {es : List Expr} {cw : W} {cws : List W} (h : PEw X e (wC cw)) (t : PAw X es fun _ G Q => Q cws G) (hst : starEach (e :: es) X.env = (false, eval e X.env) :: starEach es X.env := by rfl) : PAw X (e :: es) fun _ G Q => Q (cw :: cws) G := qa_cons h t hst
end WL
/-! A list comprehension over a list, in a suite (or a def called there): the end of a walk is an exception of its own, hung behind the handled one. -/
namespace WL
open PySem PySem.Spec PyProof.Rows L2
/-! ### the end of a walk -/
section
variable {prog : Program} {w : World} {A : Around} {E : Value → Shared → Prop} {s : Shared}
/-- StopIteration raised while x1 is handled -/
theorem stop_hot {α : Type} {x1 : Addr} {Q : α → Shared → Prop} (hot : HotX.HotAt A x1 s.heap) (h : ∀ a h', (∀ b o, s.heap.get? b = some o → h'.get? b = some o) → (∃ o, h'.get? a = some o ∧ o.cls = .type "StopIteration") → E (.ref a) { s with heap := h' }) :
    wpAny (model prog w) A (newExc (.type "StopIteration") [] >>= fun e => (raiseNew e : Sem α)) Q E s := by
  obtain ⟨hh, o1, vs1, h1, d1, c1⟩ := hot
  simp only [newExc, newTuple]
  refine wpAny_bind (wpAny_bind (wpAny_newObj_type (wpAny_bind (m := firstArgMember _ _) (wpAny_of_eq (a := Value.none) (by first | rfl | (simp only [firstArgMember]; rfl)) (wpAny_newObj_type ?_ (by size_fits)))) (by size_fits)))
  refine HotX.raiseNew_hot ⟨hh, o1, vs1, Heap.get?_push_of_some _ (Heap.get?_push_of_some _ h1), d1, c1⟩ (Nat.ne_of_lt (Heap.lt_size (Heap.get?_push_of_some _ h1))) (Heap.get?_push_size _ rfl) rfl (by first | (simp; done) | (simp; omega) | (simp only [Array.size_append]; simp; omega)) ?_
  refine h _ _ (fun b o e => ?_) ⟨_, Heap.get?_update_self _ (Heap.get?_push_size _ rfl) rfl, rfl⟩
  rw [Heap.get?_update_other _ _ (Nat.ne_of_gt (Heap.lt_size (Heap.get?_push_of_some _ e)))]
  exact Heap.get?_push_of_some _ (Heap.get?_push_of_some _ e)
theorem next_list_end {it l x1 : Addr} {i : Nat} {items : Array Value} {Q : Option Value → Shared → Prop} (hot : HotX.HotAt A x1 s.heap) (nx : x1 ≠ it) (hit : s.heap.IsListIter it l i) (hl : s.heap.IsList l items) (hx : items[i]? = none)
    (hQ : ∀ h', (∀ b o, b ≠ it → s.heap.get? b = some o → h'.get? b = some o) → Q none { s with heap := h' }) : wpAny (model prog w) A (pyNext (.ref it)) Q E s := by
  obtain ⟨oi, gi, ci, di⟩ := id hit
  obtain ⟨ol, gl, _, nl, dl⟩ := hl
  obtain ⟨hh, o1, vs1, h1, d1, c1⟩ := hot
  unfold pyNext
  refine wpAny_bind (wpAny_attempt (wpAny_callSpecial?_slot hit.typeIs slot_listiter_next (wpAny_call_entry slot_listiter_next hit.typeIs entry_listiter_next ?_ (args_listiter_next _))))
  refine (show wpAny _ _ (field (.ref it) 0 >>= _) _ _ s from wpAny_bind (wpAny_field gi di (x := .ref l) rfl ?_))
  refine (show wpAny _ _ (if (Value.ref l == Value.none) = true then _ else _) _ _ s from ?_)
  rw [if_neg (show ¬ ((Value.ref l == Value.none) = true) from Bool.false_ne_true)]
  refine (show wpAny _ _ (field (.ref it) 1 >>= _) _ _ s from wpAny_bind (wpAny_field gi di (x := .int i 0) rfl ?_))
  refine (show wpAny _ _ (seqItems? (.ref l) >>= _) _ _ s from wpAny_bind (wpAny_seqItems gl dl ?_))
  simp only [Int.toNat_natCast, hx]
  refine wpAny_bind (wpAny_rule (wpAny_bind (wpAny_setField gi di (by simp) ?_)))
  refine stop_hot (x1 := x1) ⟨hh, o1, vs1, by rw [Heap.get?_update_other _ _ (Ne.symm nx)]; exact h1, d1, c1⟩ fun a h' k ho => wpAny_bind (wpAny_isInstance (T := "StopIteration") (b := true) ho isSubtype_stop (wpAny_pure (hQ _ fun b o hb e => k b o ?_)))
  rw [Heap.get?_update_other _ _ (Ne.symm hb)]; exact e
theorem next_tuple_end {it t x1 : Addr} {i : Nat} {items : Array Value} {Q : Option Value → Shared → Prop} (hot : HotX.HotAt A x1 s.heap) (nx : x1 ≠ it) (hit : s.heap.IsTupleIter it t i) (ht : s.heap.IsTuple t items) (hx : items[i]? = none)
    (hQ : ∀ h', (∀ b o, b ≠ it → s.heap.get? b = some o → h'.get? b = some o) → Q none { s with heap := h' }) : wpAny (model prog w) A (pyNext (.ref it)) Q E s := by
  obtain ⟨oi, gi, ci, di⟩ := id hit
  obtain ⟨ol, gl, _, nl, dl⟩ := ht
  obtain ⟨hh, o1, vs1, h1, d1, c1⟩ := hot
  unfold pyNext
  refine wpAny_bind (wpAny_attempt (wpAny_callSpecial?_slot hit.typeIs F.slot_tuple_iterator_next (wpAny_call_entry F.slot_tuple_iterator_next hit.typeIs F.entry_tuple_iterator_next ?_ (F.args_tuple_iterator_next_1 _))))
  refine (show wpAny _ _ (field (.ref it) 0 >>= _) _ _ s from wpAny_bind (wpAny_field gi di (x := .ref t) rfl ?_))
  refine (show wpAny _ _ (if (Value.ref t == Value.none) = true then _ else _) _ _ s from ?_)
  rw [if_neg (show ¬ ((Value.ref t == Value.none) = true) from Bool.false_ne_true)]
  refine (show wpAny _ _ (field (.ref it) 1 >>= _) _ _ s from wpAny_bind (wpAny_field gi di (x := .int i 0) rfl ?_))
  refine (show wpAny _ _ (seqItems? (.ref t) >>= _) _ _ s from wpAny_bind (wpAny_seqItems gl dl ?_))
  simp only [Int.toNat_natCast, hx]
  refine wpAny_bind (wpAny_rule (wpAny_bind (wpAny_setField gi di (by simp) ?_)))
  refine stop_hot (x1 := x1) ⟨hh, o1, vs1, by rw [Heap.get?_update_other _ _ (Ne.symm nx)]; exact h1, d1, c1⟩ fun a h' k ho => wpAny_bind (wpAny_isInstance (T := "StopIteration") (b := true) ho isSubtype_stop (wpAny_pure (hQ _ fun b o hb e => k b o ?_)))
  rw [Heap.get?_update_other _ _ (Ne.symm hb)]; exact e
/-- a tuple taken apart -/
theorem apart_hot {env : Env} {elts : List Expr} {k} {pos : Pos} {t x1 : Addr} {items : Array Value} {Q : Unit → Shared → Prop} (hot : HotX.HotAt A x1 s.heap) (ht : s.heap.IsTuple t items) (hn : (assignEach elts env).length = items.size) (hstar : (assignEach elts env).findIdx? (·.1) = none)
    (h : ∀ h', (∀ b o, s.heap.get? b = some o → h'.get? b = some o) → wpAny (model prog w) A (assignInOrder ((assignEach elts env).map (·.2)) items.toList) Q E { s with heap := h' }) : wpAny (model prog w) A (assign (.Tuple elts k pos) env (.ref t)) Q E s := by
  have tl : t < s.heap.objs.size := by obtain ⟨o, e, _⟩ := ht; exact Heap.lt_size e
  obtain ⟨hh, o1, vs1, h1, d1, c1⟩ := hot
  have xl : x1 < s.heap.objs.size := Heap.lt_size h1
  rw [arm_assign_Tuple]
  refine wpAny_bind (wpAny_standAt ?_)
  unfold unpack
  rw [hn, hstar]
  refine wpAny_bind (wpAny_holding ?_)
  unfold unpackItems notIterableAtAll
  refine wpAny_bind (wpAny_bind (wpAny_specialOf ht.typeIs F.slot_tuple_iter.lookup (wpAny_pure ?_)))
  simp only [Bool.false_eq_true, if_false]
  refine wpAny_bind (wpAny_holding (wpAny_pyIter_tuple ht (wpAny_bind (wpAny_holding (wpAny_draw_tuple (Nat.ne_of_lt tl) items.size 0 _ _ ⟨_, Heap.get?_push_size _ rfl, rfl, rfl⟩ (ht.push _) (by omega) fun hA itA sA => ?_)))))
  have whole : (items.toList.drop 0).take items.size = items.toList := by rw [List.drop_zero, List.take_of_length_le (by simp)]
  rw [whole, if_neg (by simp)]
  refine wpAny_bind (wpAny_holding (next_tuple_end (x1 := x1) ⟨hh, o1, vs1, (sA.2 x1 (Nat.ne_of_lt xl)).trans (Heap.get?_push_of_some _ h1), d1, c1⟩ (Nat.ne_of_lt xl) itA ((ht.push _).extBut sA.extBut (Nat.ne_of_lt tl)) (by simp) fun hB kB => ?_))
  simp only [Option.isSome_none, Bool.false_eq_true, if_false]
  exact wpAny_pure (h hB fun b o e => kB b o (Nat.ne_of_lt (Heap.lt_size e)) ((sA.2 b (Nat.ne_of_lt (Heap.lt_size e))).trans (Heap.get?_push_of_some _ e)))
end
theorem pg_tupH {X : Cx} {pos : Pos} {es : List Expr} {k : Nat} {t : TGs} {n : Nat} (hc : L2H.HotC X) (h : PGs X es t) (hn : (assignEach es X.env).length = n := by rfl) (hst : (assignEach es X.env).findIdx? (·.1) = none := by rfl) : PG X (.Tuple es k pos) (gTup X.K n t) :=
  ⟨fun pins s σ H v u Q I r ⟨a, xs, e1, hq, hl, hw⟩ => by
    subst e1
    cases r
    obtain ⟨its, rv, ht, _⟩ := I.tuple hq
    obtain ⟨x1, hot⟩ := hc.at I
    exact apart_hot hot ht (by simp [hn, ← hl, rv.length]) hst fun h' kp => h.run pins _ σ H xs _ Q (I.kept (t' := s.toks) kp) (by simpa using rv) hw⟩
/-! ### the comprehension -/
/-- the block: the handled exception stays in sight -/
abbrev blkH (X : Cx) (s : Shared) (H : Hp) (scope : Scope) (cenv : Env) (fp : List Addr) : Cx := { X.blk s H scope cenv fp with pn := X.pn }
/-- what a comprehension over a list does: P by the number of items that are through -/
def tLcL (K : PySem.W.Frag) (tl : TE) (g : TG) (tt : TT) (te : TE) (vs : List Nat) : TE := fun σ H Q => tl σ H fun x H1 => ∃ a xs, x = .ref a ∧ SqL K H1 a xs ∧ ∀ D, H1 D = none → ∃ P : Nat → Hp → Prop, P 0 (upd H1 D (.lst [])) ∧ (∀ i H', P i H' → SqL K H' a xs) ∧ (∀ H', P xs.length H' → Q (.ref D) H') ∧
  ∀ i y H', xs[i]? = some y → P i H' → g y (wipe σ vs) H' fun σ2 H2 => wipe σ2 vs = wipe σ vs ∧ tt σ2 H2 fun b H3 => if b = true then te σ2 H3 fun z H4 => ∃ acc, H4 D = some (.lst acc) ∧ acc.length < sizeLine ∧ P (i + 1) (upd H4 D (.lst (acc ++ [z]))) else P (i + 1) H3
section
variable {X : Cx} {elt tg iter : Expr} {ifs : List Expr} {scope : Scope} {own : List (Str × Nat)} {pos : Pos} {g : TG} {tt : TT} {te tl : TE}
theorem lcL_core {pins : List (Addr × Obj)} {s : Shared} {σ : SV} {H : Hp} {Q : VK} {use : Option (Value → Sem Unit)} {Qf : Value → Shared → Prop} {pos' : Pos} (I : Inv X pins σ H s) (hc : L2H.HotC X) (hN : X.N.Nodup) (hl : PE X iter tl) (ok : BlkOk X.N X.env.scope scope own)
    (hg : ∀ (s : Shared) (H : Hp) (C : Addr) (cl : List (Str × Addr)) (fp : List Addr), PG (blkH X s H scope (compEnvC scope cl C X.env) fp) tg g) (ht : ∀ (s : Shared) (H : Hp) (C : Addr) (cl : List (Str × Addr)) (fp : List Addr), PTs (blkH X s H scope (compEnvC scope cl C X.env) fp) ifs tt)
    (he : ∀ (s : Shared) (H : Hp) (C : Addr) (cl : List (Str × Addr)) (fp : List Addr), PE (blkH X s H scope (compEnvC scope cl C X.env) fp) elt te) (hs : ∀ x, foldedSetIterable iter X.env x = pure x) (h : tLcL X.K tl g tt te (own.map (·.2)) σ H Q)
    (told : ∀ D C s' m H', Inv X pins σ H' s' → Q (.ref D) H' → s'.heap.Ns C m → FpOk X pins H' C → compPost (model X.prog X.w) X.A X.xe use Qf (.ref D) C (.ok .next) s') :
    wpAny (model X.prog X.w) X.A (comprehension (.ListComp elt [⟨tg, iter, ifs, 0⟩] scope pos) scope X.env pos' (newList []) false (eval iter X.env) use) Qf X.xe s := by
  have cells : ∀ y ∈ scope.names, y.2 = .free → ∃ c, X.env.cells.lookup y.1 = some c := fun y hy e => I.ok.has _ (ok.free y hy e)
  refine wpAny_comprehension_free (use := use) rfl hs (closure_ok cells) ok.kind (fun y hy e => (ok.uniq y hy).trans (congrArg some e)) (thn (hl.run pins s σ H _ I h) fun u s1 ⟨x, H1, I1, r1, a, xs, ex, hq, q⟩ => ?_)
  subst ex
  obtain rfl : u = Value.ref a := r1
  obtain ⟨its, rv, pl, _⟩ := I1.list hq
  refine wpAny_pyIter_list pl.isList ?_
  -- the iterator at it, the new list at it + 1
  generalize hit : s1.heap.objs.size = it
  have I2 : Inv X pins σ H1 { s1 with heap := s1.heap.push { cls := .type "list_iterator", data := .fields #[.ref a, .int 0 0] } } := I1.kept (t' := s1.toks) fun b o e => Heap.get?_push_of_some _ e
  have li : Heap.IsListIter (s1.heap.push { cls := .type "list_iterator", data := .fields #[.ref a, .int 0 0] }) it a 0 := by rw [← hit]; exact ⟨_, Heap.get?_push_size _ rfl, rfl, rfl⟩
  have fi : FpOk X pins H1 it := by rw [← hit]; exact I1.fpOk (Nat.le_refl _) (I1.hok.fresh (Nat.le_refl _))
  generalize hs2 : ({ s1 with heap := s1.heap.push { cls := .type "list_iterator", data := .fields #[.ref a, .int 0 0] } } : Shared) = s2 at I2 ⊢
  have li2 : s2.heap.IsListIter it a 0 := by rw [← hs2]; exact li
  refine wpAny_newObj_type (newEnv_comp ?_) (by show 0 ≤ sizeLine; decide)
  generalize hD : s2.heap.objs.size = D
  have nD : H1 D = none := I2.hok.fresh (Nat.le_of_eq hD)
  obtain ⟨P, p0, pS, pE, turn⟩ := q D nD
  generalize hs3 : ({ s2 with heap := s2.heap.push { cls := .type "list", data := .seq ([] : List Value).toArray } } : Shared) = s3
  have s3h : s3.heap = s2.heap.push { cls := .type "list", data := .seq ([] : List Value).toArray } := by rw [← hs3]
  have I3 : Inv X pins σ (upd H1 D (.lst [])) s3 := by
    rw [← hs3]
    exact I2.laid (t' := s2.toks) (fun b o e => Heap.get?_push_of_some _ e) (Nat.le_of_eq hD) ⟨Nat.zero_le _, [], 0, .nil, by rw [← hD]; exact Heap.get?_push_size _ rfl⟩
  have itD : it < D := by rw [← hD]; obtain ⟨o, e, _⟩ := li2; exact Heap.lt_size e
  have li3 : s3.heap.IsListIter it a 0 := by rw [s3h]; exact li2.at fun o e => Heap.get?_push_of_some _ e
  have f3 : FpOk X pins (upd H1 D (.lst [])) it := ⟨by rw [upd_ne (Nat.ne_of_lt itD)]; exact fi.1, fi.2⟩
  have it3 : it < s3.heap.objs.size := by obtain ⟨o, e, _⟩ := li3; exact Heap.lt_size e
  have st := block_start (fp := [it]) I3 ok hN fun b hb => by rw [List.mem_singleton.mp hb]; exact ⟨f3, it3⟩
  have pg := hg s3 (upd H1 D (.lst [])) s3.heap.objs.size (cellsFrom (s3.heap.objs.size + 1) scope.names (cloFrom X.env.cells scope.names [])) [it]
  have pt := ht s3 (upd H1 D (.lst [])) s3.heap.objs.size (cellsFrom (s3.heap.objs.size + 1) scope.names (cloFrom X.env.cells scope.names [])) [it]
  have pe := he s3 (upd H1 D (.lst [])) s3.heap.objs.size (cellsFrom (s3.heap.objs.size + 1) scope.names (cloFrom X.env.cells scope.names [])) [it]
  refine (show codeAny _ _ (.compStart (.ListComp elt [⟨tg, iter, ifs, 0⟩] scope pos) 0 (.ref it) (.ref D) (compEnvC scope (cellsFrom (s3.heap.objs.size + 1) scope.names (cloFrom X.env.cells scope.names [])) s3.heap.objs.size X.env)) (compPost (model X.prog X.w) X.A X.xe use Qf (.ref D) s3.heap.objs.size) { s3 with heap := pushCells (s3.heap.push { cls := .type "dict", data := .dict #[] }) scope.names } from ?_)
  generalize hce : compEnvC scope (cellsFrom (s3.heap.objs.size + 1) scope.names (cloFrom X.env.cells scope.names [])) s3.heap.objs.size X.env = ce at st pg pt pe ⊢
  have cL : ce.locals = s3.heap.objs.size := by rw [← hce]; rfl
  have up : ∀ b o, s3.heap.get? b = some o → (pushCells (s3.heap.push { cls := .type "dict", data := .dict #[] }) scope.names).get? b = some o := fun b o e => pushCells_keeps _ _ _ _ (Heap.get?_push_of_some _ e)
  generalize hH3 : upd H1 D (.lst []) = H3 at I3 p0 f3 st pg pt pe
  -- the handled one is pinned in the block
  have okB : (blkH X s3 H3 scope ce [it]).Ok := ⟨st.ok.mod, st.ok.kind, st.ok.glob, st.ok.blt, st.ok.above, st.ok.inj, st.ok.has, st.ok.cab, st.ok.hd, st.ok.frames, st.ok.stk, st.ok.exf, st.ok.bs, st.ok.bsz, st.ok.noex, st.ok.exfs, st.ok.funs, st.ok.frf⟩
  have I4 : Inv (blkH X s3 H3 scope ce [it]) [] (wipe σ (own.map (·.2))) H3 { s3 with heap := pushCells (s3.heap.push { cls := .type "dict", data := .dict #[] }) scope.names } :=
    ⟨okB, st.os, st.bare, st.base, st.loc, st.cell, st.free, st.freeC, fun p hp => by
      have hp : p ∈ X.pn := by simpa using (show p ∈ X.pn ++ [] from hp)
      have z := I3.pin p (List.mem_append_left _ hp)
      exact ⟨up _ _ z.1, z.2.1, by show p.1 ≠ ce.locals; rw [cL]; exact Nat.ne_of_lt (Heap.lt_size z.1), fun hm => (List.mem_cons.mp (I3.stkSub p.1 hm)).elim z.2.2.1 z.2.2.2.1, z.2.2.2.2⟩, st.hok, st.len⟩
  generalize hs4 : ({ s3 with heap := pushCells (s3.heap.push { cls := .type "dict", data := .dict #[] }) scope.names } : Shared) = s4 at I4 ⊢
  have li4 : s4.heap.IsListIter it a 0 := by rw [← hs4]; exact li3.at fun o e => up _ _ e
  have pn3 : ∀ p ∈ X.pn, p.1 ≠ it := fun p hp => f3.2.2.2.2.2 p (List.mem_append_left _ hp)
  -- what holds of the iterator's place in the block
  have fpB : ∀ {σ' : SV} {H' : Hp} {s' : Shared}, Inv (blkH X s3 H3 scope ce [it]) [] σ' H' s' → H' it = none → FpOk (blkH X s3 H3 scope ce [it]) [] H' it := fun I' n =>
    ⟨n, (I'.ok.exf it (List.mem_singleton.mpr rfl)).1, I'.ok.exfs it (List.mem_singleton.mpr rfl), .inl (List.mem_singleton.mpr rfl), fun x c e => (I'.ok.exf it (List.mem_singleton.mpr rfl)).2 x c e, fun p hp => pn3 p (by simpa using (show p ∈ X.pn ++ [] from hp))⟩
  have loop : codeAny (model X.prog X.w) X.A (.compLoop (.ListComp elt [⟨tg, iter, ifs, 0⟩] scope pos) 0 (.ref it) (.ref D) ce) (compPost (model X.prog X.w) X.A X.xe use Qf (.ref D) s3.heap.objs.size) s4 := by
    refine compLoop_any (fun n s' => ∃ i H', n = xs.length - i ∧ i ≤ xs.length ∧ Inv (blkH X s3 H3 scope ce [it]) [] (wipe σ (own.map (·.2))) H' s' ∧ s'.heap.IsListIter it a i ∧ H' it = none ∧ P i H') ?_ xs.length ⟨0, H3, by omega, Nat.zero_le _, I4, li4, f3.1, p0⟩
    rintro n s5 ⟨i, H5, hn, hi, I5, li5, n5, p5⟩
    obtain ⟨its5, rv5, pl5, _⟩ := I5.list (pS i H5 p5)
    obtain ⟨f0, f1, f2, f3', f4, f5⟩ := fpB I5 n5
    have len5 := rv5.length
    by_cases c : i = xs.length
    · subst c
      obtain ⟨q1, ⟨hh, v1, e1, c1⟩, hq1⟩ := hc
      have z := I5.pin q1 (List.mem_append_left _ hq1)
      refine next_list_end (x1 := q1.1) ⟨hh, q1.2, v1, z.1, e1, c1⟩ (pn3 q1 hq1) li5 pl5.isList (by simp; omega) fun h' kp => ?_
      have I6 : Inv (blkH X s3 H3 scope ce [it]) [] (wipe σ (own.map (·.2))) H5 { s5 with heap := h' } := I5.turned (t' := s5.toks) kp f0 f1 f3' f4 f5
      have I7 : Inv X pins σ H5 { s5 with heap := h' } := I3.call' (ch := [it]) I6.os I6.base I6.hok I6.bare fun b hb => by rw [List.mem_singleton.mp hb]; exact ⟨f3.2.2.2.1, f3.2.1, f3.2.2.2.2.1, f3.2.2.2.2.2⟩
      obtain ⟨m, ns, _⟩ := I6.loc
      have nC : H5 s3.heap.objs.size = none := by rw [← cL]; exact I6.free
      exact told D s3.heap.objs.size _ m H5 I7 (pE H5 p5) (by rw [← cL]; exact ns) (I3.fpOk (Nat.le_refl _) nC)
    · have hlt : i < xs.length := by omega
      obtain ⟨u, hu, ru⟩ := rv5.get (List.getElem?_eq_getElem hlt)
      refine wpAny_pyNext_list_item li5 pl5.isList (x := u) (by simpa using hu) fun h' li6 sb => ?_
      have I6 : Inv (blkH X s3 H3 scope ce [it]) [] (wipe σ (own.map (·.2))) H5 { s5 with heap := h' } := I5.turned (t' := s5.toks) (fun b o hb e => (sb.2 b hb).trans e) f0 f1 f3' f4 f5
      obtain ⟨oi, gi, ci, di⟩ := id li6
      refine go_of (s := { s5 with heap := h' }) gi ci di (by decide) ?_
      have I6' := I6.pinned (fp := [it]) (fun b hb => by rw [List.mem_singleton.mp hb]; exact fpB I6 n5) fun b hb => by rw [List.mem_singleton.mp hb]; exact ⟨oi, gi, fun v z => by rw [di] at z; cases z⟩
      -- behind a turn
      have fin : ∀ {s' : Shared} {H' : Hp} {σ8 : SV}, wipe σ8 (own.map (·.2)) = wipe σ (own.map (·.2)) → Inv (blkH X s3 H3 scope ce [it]) ([] ++ pinsAt [it] h') σ8 H' s' → P (i + 1) H' → ∃ m, m < n ∧ ∃ i H', m = xs.length - i ∧ i ≤ xs.length ∧ Inv (blkH X s3 H3 scope ce [it]) [] (wipe σ (own.map (·.2))) H' s' ∧ s'.heap.IsListIter it a i ∧ H' it = none ∧ P i H' := fun {s' H' σ8} hw I' p' => by
        have z := I'.pin (it, oi) (List.mem_append_right _ (List.mem_append_right _ (mem_pinsAt (List.mem_singleton.mpr rfl) gi)))
        refine ⟨xs.length - (i + 1), by omega, i + 1, H', rfl, by omega, (I'.unpinned (pins := [])).weak (by rw [← hw, wipe_length]) (fun j v e => ?_), li6.at fun o e => by rw [gi] at e; cases e; exact z.1, z.2.1, p'⟩
        rw [← hw] at e
        exact (wipe_some e).1
      refine thnF (pg.run _ _ _ H5 xs[i] u _ I6' ru (turn i xs[i] H5 (List.getElem?_eq_getElem hlt) p5)) fun _ s8 ⟨σ8, H8, I8, hw8, q8⟩ => thnF (pt.run _ s8 σ8 H8 _ I8 q8) fun b s9 ⟨H9, I9, q9⟩ => ?_
      cases b with
      | false => exact fin hw8 I9 q9
      | true =>
        refine thnF (pe.run _ s9 σ8 H9 _ I9 q9) fun z s10 ⟨yv, H10, I10, r10, acc, gD, lz, p'⟩ => ?_
        exact app_ok (X := blkH X s3 H3 scope ce [it]) I10 gD lz r10 fun s11 I11 => fin hw8 I11 p'
  exact codeAny_compStart_list loop (wpAny_pyIter_listiter li4 loop)
theorem pe_lcL (hc : L2H.HotC X) (hN : X.N.Nodup) (hl : PE X iter tl) (ok : BlkOk X.N X.env.scope scope own)
    (hg : ∀ (s : Shared) (H : Hp) (C : Addr) (cl : List (Str × Addr)) (fp : List Addr), PG (blkH X s H scope (compEnvC scope cl C X.env) fp) tg g) (ht : ∀ (s : Shared) (H : Hp) (C : Addr) (cl : List (Str × Addr)) (fp : List Addr), PTs (blkH X s H scope (compEnvC scope cl C X.env) fp) ifs tt)
    (he : ∀ (s : Shared) (H : Hp) (C : Addr) (cl : List (Str × Addr)) (fp : List Addr), PE (blkH X s H scope (compEnvC scope cl C X.env) fp) elt te) (hs : ∀ x, foldedSetIterable iter X.env x = pure x := by intro _; rfl) :
    PE X (.ListComp elt [⟨tg, iter, ifs, 0⟩] scope pos) (tLcL X.K tl g tt te (own.map (·.2))) := by
  refine ⟨fun pins s σ H Q I h => ?_⟩
  rw [eval_ListComp]
  exact lcL_core (use := none) I hc hN hl ok hg ht he hs h fun D C s' m H' I' q hn f => ⟨m, hn, fun h2 sb => ⟨.ref D, H', I'.turned (t' := s'.toks) (fun b o hb e => (sb.2 b hb).trans e) f.1 f.2.1 f.2.2.2.1 f.2.2.2.2.1 f.2.2.2.2.2, rfl, q⟩⟩
/-- name = [..] on one line -/
theorem ps_setLcL {i : Nat} {y : Str} {py spos : Pos} (hy : X.N[i]? = some y) (hyl : X.env.scope.names.lookup y = some .local) (hsw : swapsWith (.ListComp elt [⟨tg, iter, ifs, 0⟩] scope pos) (some (.Name y py)) spos.line X.env = pure true) (hc : L2H.HotC X) (hN : X.N.Nodup) (hl : PE X iter tl) (ok : BlkOk X.N X.env.scope scope own)
    (hg : ∀ (s : Shared) (H : Hp) (C : Addr) (cl : List (Str × Addr)) (fp : List Addr), PG (blkH X s H scope (compEnvC scope cl C X.env) fp) tg g) (ht : ∀ (s : Shared) (H : Hp) (C : Addr) (cl : List (Str × Addr)) (fp : List Addr), PTs (blkH X s H scope (compEnvC scope cl C X.env) fp) ifs tt)
    (he : ∀ (s : Shared) (H : Hp) (C : Addr) (cl : List (Str × Addr)) (fp : List Addr), PE (blkH X s H scope (compEnvC scope cl C X.env) fp) elt te) (hs : ∀ x, foldedSetIterable iter X.env x = pure x := by intro _; rfl) :
    PS X (.Assign [.Name y py] (.ListComp elt [⟨tg, iter, ifs, 0⟩] scope pos) spos) (tAsg (tLcL X.K tl g tt te (own.map (·.2))) (gName i)) := by
  refine ⟨fun pins s σ H D I h => ?_⟩
  rw [exec_Assign_Name_used _ _ _ _ hsw]
  have h : tLcL X.K tl g tt te (own.map (·.2)) σ H (fun x H1 => gName i x σ H1 D.nx) := h
  refine wpAny_bind (wpAny_standAt (wpAny_bind ?_))
  refine (show wpAny _ X.A (do let _ ← comprehension (.ListComp elt [⟨tg, iter, ifs, 0⟩] scope pos) scope X.env (firstIterPos [⟨tg, iter, ifs, 0⟩] pos) (newList []) false (eval iter X.env) (some (assign (.Name y py) X.env))) _ _ s from wpAny_bind (thn (lcL_core (Qf := fun _ s' => SP X pins D .next s') I hc hN hl ok hg ht he hs h fun L C s' m H' I' q hn f => ?_) fun _ s' hq => wpAny_pure (wpAny_pure hq)))
  refine (show wpAny _ _ (assign (.Name y py) X.env (.ref L)) _ _ _ from wpAny_assign_Name (store_ok2 (v := V.ref L) I' hN hy (.inl hyl) rfl (fun s2 I2 ⟨a, sb, ha⟩ => ?_) (.inr hyl)))
  have hC : C ≠ a := ha.elim (fun z => z ▸ f.2.1) fun z e => f.2.2.2.2.1 y a z e.symm
  exact ⟨m, hn.sameBut sb hC, fun h3 sb3 => ⟨_, H', I2.turned (t' := s2.toks) (fun b o hb e => (sb3.2 b hb).trans e) f.1 f.2.1 f.2.2.2.1 f.2.2.2.2.1 f.2.2.2.2.2, q⟩⟩
end
/-! ### over the small world -/
/-- a frozen list, walked in a suite -/
def iLstW (te : TEw) : TIw := fun σ G R => te σ G fun w G1 => match w with
  | .lst ws => R ws G1
  | _ => False
theorem llcL {K : PySem.W.Frag} {vs : List Nat} {te0 : TEw} {g : TG} {gw : TGw} {tt : TTw} {te : TEw} (sg : SimG K vs g gw) {σ : SV} {H : Hp} {Q : VK} (h : liftE K (wLc vs (iLstW te0) gw tt te) σ H Q) : tLcL K (liftE K te0) g (liftT K tt) (liftE K te) vs σ H Q := by
  obtain ⟨Z, σ', G, Qw, e, hr, t, k⟩ := h
  refine ⟨Z, σ', G, _, e, hr, t, fun Z1 G1 H1 w v x1 h1 r1 t1 => ?_⟩
  cases r1 with
  | @lst p ws xs z1 s1 rl =>
    obtain ⟨hl, t1⟩ := t1
    refine ⟨p, xs, rfl, SqL.of s1, fun D hD => ?_⟩
    have x0 : Ext Z1 G1 H1 Z1 G1 (upd H1 D (.lst [])) := Ext.laid h1 hD
    have h0 := h1.laid (o := .lst []) hD
    have still : ∀ {Z2 G2 H2}, Ext Z1 G1 H1 Z2 G2 H2 → SqL K H2 p xs ∧ RwL K Z2 H2 ws xs := fun x2 => ⟨SqL.of (x2.f p _ s1 (h1.z p z1).1).1, rl.ext h1 x2⟩
    refine ⟨fun i H2 => ∃ Z2 G2 us ys, Ext Z1 G1 H1 Z2 G2 H2 ∧ HRel K Z2 G2 H2 ∧ H2 D = some (.lst ys) ∧ G2 D = none ∧ ¬ Z2 D ∧ RwL K Z2 H2 us ys ∧ us.length ≤ i ∧ lcW gw tt te (swipe σ' vs) (ws.drop i) us G2 fun us G2 => Qw (.lst us) G2, ?_, ?_, ?_, ?_⟩
    · exact ⟨Z1, G1, [], [], x0, h0, upd_same, h1.fresh hD, h1.freshZ hD, .nil, Nat.le_refl _, t1⟩
    · rintro i H2 ⟨Z2, G2, us, ys, x2, _⟩
      exact (still x2).1
    · rintro H2 ⟨Z2, G2, us, ys, x2, h2, eD, gD, zD, rus, lus, t2⟩
      rw [← rl.length, List.drop_length] at t2
      obtain ⟨Z3, G3, w, x3, h3, r3, q⟩ := lc_frz Z1 G1 H1 Z2 G2 H2 us ys D Qw hD x2 h2 rus eD gD zD t2
      exact k Z3 G3 H2 w _ (x1.trans x3) h3 r3 q
    · rintro i v H2 hi ⟨Z2, G2, us, ys, x2, h2, eD, gD, zD, rus, lus, t2⟩
      obtain ⟨w, ew, rw'⟩ := (still x2).2.get' i hi
      have ed : ws.drop i = w :: ws.drop (i + 1) := by
        obtain ⟨hl, e⟩ := List.getElem?_eq_some_iff.mp ew
        rw [← e]; exact List.drop_eq_getElem_cons hl
      have hi2 : i < ws.length := (List.getElem?_eq_some_iff.mp ew).1
      rw [ed] at t2
      have eσ : RwS K Z2 H2 (swipe σ' vs) (L2.wipe σ vs) := (e.ext hr (x1.trans x2)).wipe vs
      refine sg Z2 G2 H2 _ _ w v _ _ eσ h2 rw' t2 fun τ' τ eτ sτ t3 => ⟨?_, ?_⟩
      · rw [sτ.wipe, wipe_wipe vs vs fun i hi => hi]
      refine ⟨Z2, τ', G2, _, eτ, h2, t3, fun Z4 G4 H4 b x4 h4 t4 => ?_⟩
      have eD4 := x4.f D _ eD gD
      have zD4 : ¬ Z4 D := fun z => zD (x4.n D (by rw [eD]; simp) gD z)
      have rus4 := rus.ext h2 x4
      cases b with
      | false => exact ⟨Z4, G4, us, ys, x2.trans x4, h4, eD4.1, eD4.2, zD4, rus4, by omega, t4⟩
      | true =>
        refine ⟨Z4, τ', G4, _, eτ.ext h2 x4, h4, t4, fun Z5 G5 H5 yw yv x5 h5 r5 t5 => ?_⟩
        have eD5 := x5.f D _ eD4.1 eD4.2
        have zD5 : ¬ Z5 D := fun z => zD4 (x5.n D (by rw [eD4.1]; simp) eD4.2 z)
        have rus5 := rus4.ext h4 x5
        have kp : Keep Z5 H5 Z5 (upd H5 D (.lst (ys ++ [yv]))) := Keep.hid eD5.1 zD5
        have xx := (x2.trans x4).trans x5
        refine ⟨ys, eD5.1, by rw [← rus.length]; omega, Z5, G5, us ++ [yw], ys ++ [yv], ⟨xx.z, fun p u e' g' => ?_, xx.n⟩, ⟨fun p z => ?_, fun p o g' => ?_⟩, upd_same, eD5.2, zD5, (rus5.append (.cons r5 .nil)).keep kp, by simp; omega, t5⟩
        · rw [upd_ne (ne_of_none e' hD)]; exact xx.f p u e' g'
        · have := h5.z p z
          rw [upd_ne (fun c => zD5 (by rw [← c]; exact z))]
          exact this
        · obtain ⟨u, e', r⟩ := h5.g p o g'
          have c : p ≠ D := fun c => by rw [c, eD5.2] at g'; cases g'
          exact ⟨u, by rw [upd_ne c]; exact e', r.keep kp⟩
  | _ => exact False.elim t1
structure TgHW (X : Cx) (vs : List Nat) (tg : Expr) (scope : Scope) (gw : TGw) : Prop where
  ex : ∃ g, (∀ (s : Shared) (H : Hp) (C : Addr) (cl : List (Str × Addr)) (fp : List Addr), PG (blkH X s H scope (compEnvC scope cl C X.env) fp) tg g) ∧ SimG X.K vs g gw
/-- a tuple alone is taken apart -/
def gT' (n : Nat) (t : TGsw) : TGw := fun w σ G Q => match w with
  | .tup ws => ws.length = n ∧ t ws σ G Q
  | _ => False
section
variable {X : Cx} {vs : List Nat} {scope : Scope} {pos : Pos}
theorem simg_tupH {K : PySem.W.Frag} {vs : List Nat} {n : Nat} {g : TGs} {gw : TGsw} (hg : SimGs K vs g gw) : SimG K vs (gTup K n g) (gT' n gw) := fun Z G H σ' σ w v Qw Q e h r t k => by
  cases r with
  | tup s r => exact ⟨_, _, rfl, s, by rw [← r.length]; exact t.1, hg Z G H _ _ _ _ Qw Q e h r t.2 k⟩
  | _ => exact False.elim t
/-- two names -/
theorem gcT2H {i j : Nat} {x y : Str} {k : Nat} {px py : Pos} (hc : L2H.HotC X) (hN : X.N.Nodup) (hi : X.N[i]? = some x) (hj : X.N[j]? = some y) (hvi : i ∈ vs := by decide) (hvj : j ∈ vs := by decide)
    (hx : ∀ (cl : List (Str × Addr)) (C : Addr), L2.Loc (compEnvC scope cl C X.env).scope x := by intro _ _; first | exact Or.inl rfl | exact Or.inr rfl) (hf : ∀ (cl : List (Str × Addr)) (C : Addr), (scope.names.lookup x == some .cell) = true ∨ (compEnvC scope cl C X.env).scope.names.lookup x = some .local := by intro _ _; first | exact .inl rfl | exact .inr rfl)
    (hy : ∀ (cl : List (Str × Addr)) (C : Addr), L2.Loc (compEnvC scope cl C X.env).scope y := by intro _ _; first | exact Or.inl rfl | exact Or.inr rfl) (hg : ∀ (cl : List (Str × Addr)) (C : Addr), (scope.names.lookup y == some .cell) = true ∨ (compEnvC scope cl C X.env).scope.names.lookup y = some .local := by intro _ _; first | exact .inl rfl | exact .inr rfl) :
    TgHW X vs (.Tuple [.Name x px, .Name y py] k pos) scope (gT' 2 (gsC (gN i) (gsC (gN j) gsN))) :=
  ⟨_, fun s H C cl fp => pg_tupH (X := blkH X s H scope (compEnvC scope cl C X.env) fp) hc (pgs_cons (pg_name hN hi (hx cl C) (hf cl C)) (pgs_cons (pg_name hN hj (hy cl C) (hg cl C)) pgs_nil rfl) rfl) rfl rfl, simg_tupH (simgs_cons hvi (simgs_cons hvj simgs_nil))⟩
variable {elt tg iter : Expr} {ifs : List Expr} {own : List (Str × Nat)} {gw : TGw} {tt : TTw} {te te0 : TEw}
theorem qlcH (hc : L2H.HotC X) (hN : X.N.Nodup) (hi : PEw X iter te0) (ok : BlkOk X.N X.env.scope scope own) (hg : TgHW X (own.map (·.2)) tg scope gw)
    (ht : ∀ (s : Shared) (H : Hp) (C : Addr) (cl : List (Str × Addr)) (fp : List Addr), PTsw (blkH X s H scope (compEnvC scope cl C X.env) fp) ifs tt) (he : ∀ (s : Shared) (H : Hp) (C : Addr) (cl : List (Str × Addr)) (fp : List Addr), PEw (blkH X s H scope (compEnvC scope cl C X.env) fp) elt te)
    (hs : ∀ x, foldedSetIterable iter X.env x = pure x := by intro _; rfl) : PEw X (.ListComp elt [⟨tg, iter, ifs, 0⟩] scope pos) (wLc (own.map (·.2)) (iLstW te0) gw tt te) := by
  obtain ⟨g, pg, sg⟩ := hg.ex
  exact PE.imp (pe_lcL (tt := liftT X.K tt) (te := liftE X.K te) hc hN hi ok pg ht he hs) fun _ _ _ h => llcL sg h
theorem qsetLcH {j : Nat} {y : Str} {py spos : Pos} (hc : L2H.HotC X) (hN : X.N.Nodup) (hy : X.N[j]? = some y) (hyl : X.env.scope.names.lookup y = some .local) (hsw : swapsWith (.ListComp elt [⟨tg, iter, ifs, 0⟩] scope pos) (some (.Name y py)) spos.line X.env = pure true) (hi : PEw X iter te0) (ok : BlkOk X.N X.env.scope scope own) (hg : TgHW X (own.map (·.2)) tg scope gw)
    (ht : ∀ (s : Shared) (H : Hp) (C : Addr) (cl : List (Str × Addr)) (fp : List Addr), PTsw (blkH X s H scope (compEnvC scope cl C X.env) fp) ifs tt) (he : ∀ (s : Shared) (H : Hp) (C : Addr) (cl : List (Str × Addr)) (fp : List Addr), PEw (blkH X s H scope (compEnvC scope cl C X.env) fp) elt te)
    (hs : ∀ x, foldedSetIterable iter X.env x = pure x := by intro _; rfl) : PSw X (.Assign [.Name y py] (.ListComp elt [⟨tg, iter, ifs, 0⟩] scope pos) spos) (wAsg (wLc (own.map (·.2)) (iLstW te0) gw tt te) (gN j)) := by
  obtain ⟨g, pg, sg⟩ := hg.ex
  refine PS.imp (ps_setLcL (tt := liftT X.K tt) (te := liftE X.K te) hy hyl hsw hc hN hi ok pg ht he hs) fun D σ H h => ?_
  obtain ⟨Z, σ', G, Dw, e, hr, t, k⟩ := h
  exact llcL sg ⟨Z, σ', G, _, e, hr, t, fun Z1 G1 H1 w v x1 h1 r1 q => lgN ⟨Z1, σ', G1, w, _, e.ext hr x1, h1, r1, q, k.nx.mono x1⟩⟩
end
/-- the handled one, in sight -/
theorem HotE.hotC {X : Cx} {a : Addr} {d : Option Addr} {nm : Str} (h : HotE X a d nm) : L2H.HotC X := by
  obtain ⟨oe, C, hh, hp, _⟩ := h.ex
  exact ⟨_, hh, hp⟩
def lstOf (w : W) (G : Gp) (P : List W → Gp → Prop) : Prop := match w with
  | .lst ws => P ws G
  | _ => False
theorem lstOf_lst {ws : List W} {G : Gp} {P : List W → Gp → Prop} : lstOf (.lst ws) G P = P ws G := rfl
theorem gT'_tup {n : Nat} {t : TGsw} {ws : List W} {σ : SW} {G : Gp} {P : SW → Gp → Prop} : gT' n t (.tup ws) σ G P = (ws.length = n ∧ t ws σ G P) := rfl
end WL
/-! Dicts whose keys are tuples (of whole numbers, truths, None, such tuples). -/
namespace WL
open PySem PySem.Spec PyProof.Rows L2
/-! ### a value that is a key -/
mutual
inductive NkV (K : PySem.W.Frag) (H : Hp) : NestedKey → V → Prop
  | non : NkV K H .none .non
  | bl {b} : NkV K H (.num (if b = true then 1 else 0)) (.bl b)
  | int {i} : NkV K H (.num i) (.int i)
  | tup {p vs ks} : SqT K H p vs → NkVs K H ks vs → NkV K H (.tup ks) (.ref p)
inductive NkVs (K : PySem.W.Frag) (H : Hp) : List NestedKey → List V → Prop
  | nil : NkVs K H [] []
  | cons {k v ks vs} : NkV K H k v → NkVs K H ks vs → NkVs K H (k :: ks) (v :: vs)
end
section
variable {K : PySem.W.Frag} {Z Z' : Zp} {G G' : Gp} {H H' : Hp}
mutual
theorem Rw.nkv : ∀ {w : W} {v : V} {k : NestedKey}, Rw K Z H w v → keyN0 w = some k → NkV K H k v
  | _, _, _, .non, e => by simp only [keyN0, Option.some.injEq] at e; subst e; exact .non
  | _, _, _, .bl, e => by simp only [keyN0, Option.some.injEq] at e; subst e; exact .bl
  | _, _, _, .int, e => by simp only [keyN0, Option.some.injEq] at e; subst e; exact .int
  | _, _, _, .tup s r, e => by
    simp only [keyN0, Option.map_eq_some_iff] at e
    obtain ⟨ks, e, rfl⟩ := e
    exact .tup s (RwL.nkv r e)
  | _, _, _, .str, e => by simp [keyN0] at e
  | _, _, _, .ref, e => by simp [keyN0] at e
  | _, _, _, .lst _ _ _, e => by simp [keyN0] at e
  | _, _, _, .scr _ _, e => by simp [keyN0] at e
  | _, _, _, .ty, e => by simp [keyN0] at e
  | _, _, _, .ins _ _ _ _, e => by simp [keyN0] at e
  | _, _, _, .dic _ _ _, e => by simp [keyN0] at e
  | _, _, _, .exc0, e => by simp [keyN0] at e
  | _, _, _, .excF _ _ _, e => by simp [keyN0] at e
  | _, _, _, .dcn _ _ _ _ _ _ _, e => by simp [keyN0] at e
theorem RwL.nkv : ∀ {ws : List W} {vs : List V} {ks : List NestedKey}, RwL K Z H ws vs → keysN0 ws = some ks → NkVs K H ks vs
  | _, _, _, .nil, e => by simp only [keysN0, Option.some.injEq] at e; subst e; exact .nil
  | w :: ws, _, _, .cons r t, e => by
    simp only [keysN0] at e
    cases e1 : keyN0 w with
    | none => rw [e1] at e; cases e
    | some k =>
      cases e2 : keysN0 ws with
      | none => rw [e1, e2] at e; cases e
      | some ks =>
        rw [e1, e2] at e
        cases e
        exact .cons (Rw.nkv r e1) (RwL.nkv t e2)
end
mutual
theorem keyN0_txt : ∀ (w : W) {k : NestedKey}, keyN0 w = some k → txtless k = true
  | .non, _, e => by simp only [keyN0, Option.some.injEq] at e; subst e; rfl
  | .bl _, _, e => by simp only [keyN0, Option.some.injEq] at e; subst e; rfl
  | .int _, _, e => by simp only [keyN0, Option.some.injEq] at e; subst e; rfl
  | .tup ws, _, e => by
    simp only [keyN0, Option.map_eq_some_iff] at e
    obtain ⟨ks, e, rfl⟩ := e
    rw [txtless]
    exact keysN0_txt ws e
  | .str _, _, e => by simp [keyN0] at e
  | .ref _, _, e => by simp [keyN0] at e
  | .lst _, _, e => by simp [keyN0] at e
  | .scr _, _, e => by simp [keyN0] at e
  | .ty _, _, e => by simp [keyN0] at e
  | .ins _ _, _, e => by simp [keyN0] at e
  | .dic _, _, e => by simp [keyN0] at e
  | .exc _ _ _ _, _, e => by simp [keyN0] at e
  | .dcn _, _, e => by simp [keyN0] at e
theorem keysN0_txt : ∀ (ws : List W) {ks : List NestedKey}, keysN0 ws = some ks → txtlesss ks = true
  | [], _, e => by simp only [keysN0, Option.some.injEq] at e; subst e; rfl
  | w :: ws, _, e => by
    simp only [keysN0] at e
    cases e1 : keyN0 w with
    | none => rw [e1] at e; cases e
    | some k =>
      cases e2 : keysN0 ws with
      | none => rw [e1, e2] at e; cases e
      | some ks =>
        rw [e1, e2] at e
        cases e
        rw [txtlesss, keyN0_txt w e1, keysN0_txt ws e2]
        rfl
end
theorem keyN_ex {w : W} {k : NestedKey} (h : keyN w = some k) : ∃ ws, w = .tup ws ∧ keyN0 w = some k ∧ txtless k = true ∧ k.depth ≤ 8 := by
  unfold keyN at h
  split at h
  · rename_i ws
    split at h
    · rename_i k' e
      split at h
      · rename_i l
        cases h
        exact ⟨ws, rfl, e, keyN0_txt _ e, l⟩
      · cases h
    · cases h
  · cases h
/-- a tuple that is a key, at b -/
theorem Rw.key3 {w : W} {v : V} {k : NestedKey} (r : Rw K Z H w v) (h : keyN w = some k) : ∃ b, v = .ref b ∧ NkV K H k (.ref b) ∧ txtless k = true ∧ k.depth ≤ 8 := by
  obtain ⟨ws, rfl, e, t, d⟩ := keyN_ex h
  have n := r.nkv e
  cases r with
  | tup s r => exact ⟨_, rfl, n, t, d⟩
end
section
variable {X : Cx} {pins : List (Addr × Obj)} {σ : SV} {H : Hp} {s : Shared}
mutual
theorem NkV.is (I : Inv X pins σ H s) : ∀ {k : NestedKey} {v : V} {u : Value}, NkV X.K H k v → RelV v u → NestedIs s.heap k u
  | _, _, _, .non, r => by obtain rfl := r; exact .none
  | _, _, _, .bl, r => by obtain rfl := r; exact .bool rfl
  | _, _, _, .int, r => by obtain ⟨t, rfl⟩ := r; exact .int _ _
  | _, _, _, .tup (p := p) hs n, r => by
    obtain rfl := r
    obtain ⟨its, rv, ⟨o, h1, h2, m, h3⟩, _⟩ := I.tuple hs
    exact .tup h1 h2 h3 (by simpa using NkVs.is I n rv)
theorem NkVs.is (I : Inv X pins σ H s) : ∀ {ks : List NestedKey} {vs : List V} {us : List Value}, NkVs X.K H ks vs → Vals vs us → NestedAll s.heap ks us
  | _, _, _, .nil, .nil => .nil
  | _, _, _, .cons n t, .cons r rr => .cons (NkV.is I n r) (NkVs.is I t rr)
end
/-! ### the dict, as the walk's state has it -/
/-- the entries, with the values' readings -/
inductive EnV (K : PySem.W.Frag) (H : Hp) : List (NestedKey × Addr × Value) → List (NestedKey × V) → Prop
  | nil : EnV K H [] []
  | cons {k b u v xs zs} : NkV K H k (.ref b) → txtless k = true → k.depth ≤ 8 → RelV v u → EnV K H xs zs → EnV K H ((k, b, u) :: xs) ((k, v) :: zs)
structure DkA (K : PySem.W.Frag) (H : Hp) (p : Addr) (xs : List (NestedKey × Addr × Value)) (zs : List (NestedKey × V)) : Prop where
  sys : (p == sysModules) = false
  at_ : H p = some (.ext (dknF p xs))
  len : xs.length ≤ sizeLine
  nd : (xs.map (·.1)).Nodup
  en : EnV K H xs zs
theorem EnV.mem {K : PySem.W.Frag} {xs : List (NestedKey × Addr × Value)} {zs : List (NestedKey × V)} (e : EnV K H xs zs) : ∀ x ∈ xs, NkV K H x.1 (.ref x.2.1) ∧ txtless x.1 = true ∧ x.1.depth ≤ 8 := by
  induction e with
  | nil => intro x hx; cases hx
  | cons a b c _ _ ih =>
    intro x hx
    rcases List.mem_cons.mp hx with rfl | hx
    · exact ⟨a, b, c⟩
    · exact ih x hx
theorem EnV.atK {K : PySem.W.Frag} {k : NestedKey} : ∀ {xs : List (NestedKey × Addr × Value)} {zs : List (NestedKey × V)}, EnV K H xs zs → (atKey xs k).isSome = (zs.find? fun z => decide (z.1 = k)).isSome ∧ ∀ v, (zs.find? fun z => decide (z.1 = k)).map (·.2) = some v → ∃ p, atKey xs k = some p ∧ RelV v p.2
  | _, _, .nil => ⟨rfl, fun v h => by simp at h⟩
  | _, _, .cons (k := k2) (b := b) (u := u) (v := v) (xs := xs) (zs := zs) _ _ _ r t => by
    obtain ⟨h1, h2⟩ := EnV.atK (k := k) t
    by_cases c : k2 = k
    · subst c
      refine ⟨by simp [atKey, List.find?_cons], fun w h => ?_⟩
      simp only [List.find?_cons, decide_true, Option.map_some, Option.some.injEq] at h
      subst h
      exact ⟨(b, u), by simp [atKey, List.find?_cons], r⟩
    · have e1 : atKey ((k2, b, u) :: xs) k = atKey xs k := by simp [atKey, List.find?_cons, c]
      have e2 : (((k2, v) :: zs).find? fun z => decide (z.1 = k)) = zs.find? fun z => decide (z.1 = k) := by simp [List.find?_cons, c]
      rw [e1, e2]
      exact ⟨h1, h2⟩
theorem DkA.dict {p : Addr} {xs : List (NestedKey × Addr × Value)} {zs : List (NestedKey × V)} (I : Inv X pins σ H s) (d : DkA X.K H p xs zs) : s.heap.DictOfH (nestedKind X.prog X.w) p xs := by
  have x : ObjOk X.prog X.w H s.heap p (.ext (dknF p xs)) := I.hok p _ d.at_
  obtain ⟨⟨o, es, ep, ho, hc, hd, he⟩, _⟩ := x
  have m := d.en.mem
  refine ⟨o, es, ep, ho, hc, hd, he.trans (List.map_congr_left fun x hx => ?_), fun x hx => ?_, d.nd⟩
  · show (⟨hashN x.1, .ref x.2.1, x.2.2⟩ : DictEntry) = ⟨x.1.hash X.w, .ref x.2.1, x.2.2⟩
    rw [hashN_eq X.w (m x hx).2.1]
  · exact ⟨(m x hx).1.is I rfl, (m x hx).2.2⟩
theorem dkn_ok {P : Program} {w : World} {h : Heap} {p : Addr} {xs : List (NestedKey × Addr × Value)} (hm : dknF p xs h) : ObjOk P w H h p (.ext (dknF p xs)) := by
  obtain ⟨o, es, ep, ho, hc, hd, he⟩ := hm
  exact ⟨⟨o, es, ep, ho, hc, hd, he⟩, ⟨o, ho⟩, fun h1 h2 ⟨o, es, ep, ho, hc, hd, he⟩ k => ⟨o, es, ep, k _ ho, hc, hd, he⟩⟩
end
/-! ### the rules -/
/-- y as a key -/
structure KeyV (K : PySem.W.Frag) (H : Hp) (y : V) (b : Addr) (k : NestedKey) : Prop where
  ref : y = .ref b
  nk : NkV K H k (.ref b)
  tx : txtless k = true
  dp : k.depth ≤ 8
section
variable {X : Cx} {o i value : Expr} {td ty tv : TE} {pos pos' : Pos}
def tNGet (K : PySem.W.Frag) (td ty : TE) : TE := fun σ H Q => td σ H fun x H1 => ty σ H1 fun y H2 => ∃ p xs zs b k v, x = .ref p ∧ DkA K H2 p xs zs ∧ KeyV K H2 y b k ∧ (zs.find? fun z => decide (z.1 = k)).map (·.2) = some v ∧ Q v H2
theorem pe_nget (hu : X.A.units + 64 < cLine) (ho : PE X o td) (hi : PE X i ty) (hs : NoSl i) : PE X (.Subscript o i pos) (tNGet X.K td ty) := by
  refine ⟨fun pins s σ H Q I h => subD_of PySem.F.slot_dict_getitem.lookup hs (thn (ho.run pins s σ H _ I h) fun u s1 ⟨x, H1, I1, rx, q1⟩ => thn (hi.run pins s1 σ H1 _ I1 q1) fun iv s2 ⟨y, H2, I2, ry, p, xs, zs, b, k, v, ex, D, kv, l, q⟩ => ?_)⟩
  subst ex
  obtain rfl : u = Value.ref p := rx
  have ey := kv.ref
  subst ey
  obtain rfl : iv = Value.ref b := ry
  have dd := D.dict I2
  obtain ⟨q1, hq1, hr⟩ := D.en.atK.2 v l
  exact ⟨dd.typeIs, wpAny_getItem_heap (by show X.A.units + 1 + 8 < cLine; omega) (show (nestedKind X.prog X.w).is s2.heap k b from ⟨kv.nk.is I2 rfl, kv.dp⟩) dd hq1 ⟨v, H2, I2.tok _, hr, q⟩⟩
def tNIn (K : PySem.W.Frag) (neg : Bool) (ty td : TE) : TE := fun σ H Q => ty σ H fun y H1 => td σ H1 fun x H2 => ∃ p xs zs b k, x = .ref p ∧ DkA K H2 p xs zs ∧ KeyV K H2 y b k ∧ Q (.bl (if neg = true then !(zs.find? fun z => decide (z.1 = k)).isSome else (zs.find? fun z => decide (z.1 = k)).isSome)) H2
theorem pc_nin (hu : X.A.units + 64 < cLine) (hi : PE X i ty) (ho : PE X o td) : PC X .In i o (tNIn X.K false ty td) := by
  refine ⟨fun pins s σ H Q I h => thn (hi.run pins s σ H _ I h) fun iv s1 ⟨y, H1, I1, ry, q1⟩ => thn (ho.run pins s1 σ H1 _ I1 q1) fun u s2 ⟨x, H2, I2, rx, p, xs, zs, b, k, ex, D, kv, q⟩ => ?_⟩
  subst ex
  obtain rfl : u = Value.ref p := rx
  have ey := kv.ref
  subst ey
  obtain rfl : iv = Value.ref b := ry
  refine wpAny_in_heap (by show X.A.units + 1 + 8 < cLine; omega) (show (nestedKind X.prog X.w).is s2.heap k b from ⟨kv.nk.is I2 rfl, kv.dp⟩) D.sys (D.dict I2) ?_
  rw [D.en.atK.1]
  exact ⟨.bl (zs.find? fun z : NestedKey × V => decide (z.1 = k)).isSome, H2, I2.tok _, rfl, q⟩
theorem pc_nnin (hu : X.A.units + 64 < cLine) (hi : PE X i ty) (ho : PE X o td) : PC X .NotIn i o (tNIn X.K true ty td) := by
  refine ⟨fun pins s σ H Q I h => thn (hi.run pins s σ H _ I h) fun iv s1 ⟨y, H1, I1, ry, q1⟩ => thn (ho.run pins s1 σ H1 _ I1 q1) fun u s2 ⟨x, H2, I2, rx, p, xs, zs, b, k, ex, D, kv, q⟩ => ?_⟩
  subst ex
  obtain rfl : u = Value.ref p := rx
  have ey := kv.ref
  subst ey
  obtain rfl : iv = Value.ref b := ry
  refine notIn_keyed (knd := nestedKind X.prog X.w) (by show X.A.units + 1 + 8 < cLine; omega) (show (nestedKind X.prog X.w).is s2.heap k b from ⟨kv.nk.is I2 rfl, kv.dp⟩) D.sys ⟨xs, D.dict I2, rfl⟩ ?_
  rw [valueAt_pairsH, Option.isSome_map, D.en.atK.1]
  exact ⟨.bl (!(zs.find? fun z : NestedKey × V => decide (z.1 = k)).isSome), H2, I2.tok _, rfl, q⟩
/-- the entries behind a store -/
def tNPut (K : PySem.W.Frag) (td ty tv : TE) : TS := fun D σ H => tv σ H fun v H1 => td σ H1 fun x H2 => ty σ H2 fun y H3 => ∃ p xs zs b k, x = .ref p ∧ DkA K H3 p xs zs ∧ xs.length < sizeLine ∧ KeyV K H3 y b k ∧ ∀ u, RelV v u → D.nx σ (upd H3 p (.ext (dknF p (storedH xs k b u))))
theorem ps_nput (hu : X.A.units + 64 < cLine) (ho : PE X o td) (hi : PE X i ty) (hv : PE X value tv) (hs : swapsWith value (some (.Subscript o i pos')) pos.line X.env = pure false) : PS X (.Assign [.Subscript o i pos'] value pos) (tNPut X.K td ty tv) := by
  refine ⟨fun pins s σ H D I h => wpAny_Assign_Subscript (thn (hv.run pins s σ H _ I h) fun r s1 ⟨v, H1, I1, rv, q1⟩ => thn (ho.run pins s1 σ H1 _ I1 q1) fun u s2 ⟨x, H2, I2, rx, q2⟩ => thn (hi.run pins s2 σ H2 _ I2 q2) fun iv s3 ⟨y, H3, I3, ry, p, xs, zs, b, k, ex, A, l, kv, q3⟩ => ?_) hs⟩
  subst ex
  obtain rfl : u = Value.ref p := rx
  have ey := kv.ref
  subst ey
  obtain rfl : iv = Value.ref b := ry
  refine wpAny_setItem_heap (hsz := A.len) (by show X.A.units + 1 + 8 < cLine; omega) (show (nestedKind X.prog X.w).is s3.heap k b from ⟨kv.nk.is I3 rfl, kv.dp⟩) (A.dict I3) fun h' hm' sb => ?_
  have nm : ∀ x ∈ storedH xs k b r, txtless x.1 = true := fun x hx => by
    have m := A.en.mem
    unfold storedH at hx
    split at hx
    · obtain ⟨z, hz, rfl⟩ := List.mem_map.mp hx
      unfold putAt
      split
      · exact (m z hz).2.1
      · exact (m z hz).2.1
    · rcases List.mem_append.mp hx with hx | hx
      · exact (m x hx).2.1
      · rw [List.mem_singleton.mp hx]; exact kv.tx
  have fm : dknF p (storedH xs k b r) h' := by
    obtain ⟨o, es, ep, ho, hc, hd, he, _⟩ := hm'
    refine ⟨o, es, ep, ho, hc, hd, he.trans (List.map_congr_left fun x hx => ?_)⟩
    show (⟨x.1.hash X.w, .ref x.2.1, x.2.2⟩ : DictEntry) = ⟨hashN x.1, .ref x.2.1, x.2.2⟩
    rw [hashN_eq X.w (nm x hx)]
  refine ⟨σ, _, I3.write (t' := s3.toks + (nestedKind X.prog X.w).draws k) (x := p) (e := p) (by rw [A.at_]; exact True.intro) (.inl rfl) (fun b u hb e => (sb.2 b hb).trans e) ?_ (dkn_ok fm), q3 r rv⟩
  obtain ⟨o, _, _, ho, _⟩ := hm'
  exact ⟨o, ho⟩
def tNNew : TE := fun _ H Q => ∀ p, H p = none → (p == sysModules) = false → Q (.ref p) (upd H p (.ext (dknF p [])))
theorem pe_nnew : PE X (.Dict [] [] pos) tNNew := ⟨fun pins s σ H Q I h => by
  refine wpAny_Dict_empty ⟨.ref s.heap.objs.size, _, I.laid (a := s.heap.objs.size) (o := .ext (dknF s.heap.objs.size [])) (t' := s.toks) (fun _ _ q => Heap.get?_push_of_some _ q) (Nat.le_refl _) (dkn_ok ?_), rfl, h _ (I.hok.fresh (Nat.le_refl _)) ?_⟩
  · obtain ⟨o, es, ep, ho, hc, hd, he, _⟩ := Heap.DictOfH.new (knd := nestedKind X.prog X.w) s.heap
    exact ⟨o, es, ep, ho, hc, hd, he⟩
  · have z := dk_empty (P := X.prog) (w := X.w) (H := upd H s.heap.objs.size (.dK [])) s.heap I.big
    exact z.2.1⟩
end
/-! ### over the small world -/
def dcnOf (G : Gp) : W → Option (List (W × W))
  | .dcn kvs => some kvs
  | .ref p => match G p with
    | some (.dcn q kvs) => if q = p then some kvs else none
    | _ => none
  | _ => none
theorem dcnOf_gup {G : Gp} {p : Addr} {kvs : List (W × W)} : dcnOf (gup G p (.dcn p kvs)) (.ref p) = some kvs := by simp only [dcnOf, gup_same, if_true]
theorem dcnOf_at {G : Gp} {p : Addr} {kvs : List (W × W)} (h : G p = some (.dcn p kvs)) : dcnOf G (.ref p) = some kvs := by simp only [dcnOf, h, if_true]
def valN (kvs : List (W × W)) (k : NestedKey) : Option W := (kvs.find? fun kv => decide (keyN kv.1 = some k)).map (·.2)
def putN (kvs : List (W × W)) (kw : W) (k : NestedKey) (v : W) : List (W × W) := if (valN kvs k).isSome = true then kvs.map fun kv => if keyN kv.1 = some k then (kv.1, v) else kv else kvs ++ [(kw, v)]
section
variable {K : PySem.W.Frag} {Z Z' : Zp} {G G' : Gp} {H H' : Hp}
theorem RwN.env : ∀ {xs : List (NestedKey × Addr × Value)} {kvs : List (W × W)}, RwN K Z H xs kvs → ∃ zs, EnV K H xs zs ∧ (∀ k w, valN kvs k = some w → ∃ v, (zs.find? fun z : NestedKey × V => decide (z.1 = k)).map (·.2) = some v ∧ Rw K Z H w v) ∧ (∀ k, (zs.find? fun z : NestedKey × V => decide (z.1 = k)).isSome = (valN kvs k).isSome)
  | _, _, .nil => ⟨[], .nil, fun k w h => by simp [valN] at h, fun k => rfl⟩
  | _, _, .cons (k := k2) (b := b) (u := u) (kw := kw) (vw := vw) (v := v) (xs := xs) (kvs := kvs) ek ra rb ru t => by
    obtain ⟨zs, e, h1, h2⟩ := RwN.env t
    obtain ⟨b', eb, n, tx, dp⟩ := ra.key3 ek
    cases eb
    refine ⟨(k2, v) :: zs, .cons n tx dp ru e, fun k w h => ?_, fun k => ?_⟩
    · by_cases c : k2 = k
      · subst c
        simp only [valN, List.find?_cons, ek, decide_true, Option.map_some, Option.some.injEq] at h
        subst h
        exact ⟨v, by simp [List.find?_cons], rb⟩
      · have c2 : ¬ keyN kw = some k := fun z => c (by rw [ek] at z; exact Option.some.inj z)
        have e2 : valN ((kw, vw) :: kvs) k = valN kvs k := by simp [valN, List.find?_cons, c2]
        rw [e2] at h
        obtain ⟨v', q1, q2⟩ := h1 k w h
        exact ⟨v', by simp only [List.find?_cons, decide_eq_false c]; exact q1, q2⟩
    · by_cases c : k2 = k
      · subst c
        simp [valN, List.find?_cons, ek]
      · have c2 : ¬ keyN kw = some k := fun z => c (by rw [ek] at z; exact Option.some.inj z)
        have e2 : valN ((kw, vw) :: kvs) k = valN kvs k := by simp [valN, List.find?_cons, c2]
        rw [e2, ← h2 k]
        simp only [List.find?_cons, decide_eq_false c]
theorem RwN.length : ∀ {xs : List (NestedKey × Addr × Value)} {kvs : List (W × W)}, RwN K Z H xs kvs → kvs.length = xs.length
  | _, _, .nil => rfl
  | _, _, .cons _ _ _ _ t => by rw [List.length_cons, List.length_cons, RwN.length t]
theorem RwN.atK {k : NestedKey} {xs : List (NestedKey × Addr × Value)} {kvs : List (W × W)} (r : RwN K Z H xs kvs) : (atKey xs k).isSome = (valN kvs k).isSome := by
  obtain ⟨zs, e, _, h2⟩ := r.env
  rw [e.atK.1, h2]
theorem RwN.repl {k : NestedKey} {w : W} {v : V} {u : Value} (rw' : Rw K Z H w v) (ru : RelV v u) : ∀ {xs : List (NestedKey × Addr × Value)} {kvs : List (W × W)}, RwN K Z H xs kvs → RwN K Z H (xs.map (putAt k u)) (kvs.map fun kv => if keyN kv.1 = some k then (kv.1, w) else kv)
  | _, _, .nil => .nil
  | _, _, .cons (k := k2) (b := b) (u := u2) (kw := kw) (vw := vw) ek ra rb rr t => by
    rw [List.map_cons, List.map_cons]
    by_cases c : k2 = k
    · subst c
      have e1 : putAt k2 u (k2, b, u2) = (k2, b, u) := by simp [putAt]
      simp only [e1, ek, if_true]
      exact .cons ek ra rw' ru (RwN.repl rw' ru t)
    · have c2 : ¬ keyN kw = some k := fun z => c (by rw [ek] at z; exact Option.some.inj z)
      have e1 : putAt k u (k2, b, u2) = (k2, b, u2) := by simp [putAt, c]
      simp only [e1, c2, if_false]
      exact .cons ek ra rb rr (RwN.repl rw' ru t)
theorem RwN.snoc {k : NestedKey} {kw w : W} {v : V} {u : Value} {b : Addr} (ek : keyN kw = some k) (ra : Rw K Z H kw (.ref b)) (rw' : Rw K Z H w v) (ru : RelV v u) : ∀ {xs : List (NestedKey × Addr × Value)} {kvs : List (W × W)}, RwN K Z H xs kvs → RwN K Z H (xs ++ [(k, b, u)]) (kvs ++ [(kw, w)])
  | _, _, .nil => .cons ek ra rw' ru .nil
  | _, _, .cons e a b r t => .cons e a b r (RwN.snoc ek ra rw' ru t)
theorem RwN.put {k : NestedKey} {kw w : W} {v : V} {u : Value} {b : Addr} (ek : keyN kw = some k) (ra : Rw K Z H kw (.ref b)) (rw' : Rw K Z H w v) (ru : RelV v u) {xs : List (NestedKey × Addr × Value)} {kvs : List (W × W)} (r : RwN K Z H xs kvs) : RwN K Z H (storedH xs k b u) (putN kvs kw k w) := by
  unfold storedH putN
  rw [r.atK]
  split
  · exact r.repl rw' ru
  · exact r.snoc ek ra rw' ru
theorem stored_len {xs : List (NestedKey × Addr × Value)} {k : NestedKey} {b : Addr} {u : Value} : (storedH xs k b u).length ≤ xs.length + 1 := by
  unfold storedH
  split
  · rw [List.length_map]; omega
  · rw [List.length_append]; exact Nat.le_refl _
theorem stored_nd {xs : List (NestedKey × Addr × Value)} {k : NestedKey} {b : Addr} {u : Value} (n : (xs.map (·.1)).Nodup) : ((storedH xs k b u).map (·.1)).Nodup := by
  unfold storedH
  split
  · rw [keys_map_putAt]; exact n
  · rename_i h
    rw [List.map_append, List.nodup_append]
    refine ⟨n, by simp, fun a ha c hc => ?_⟩
    rw [List.map_cons, List.map_nil, List.mem_singleton] at hc
    subst hc
    intro e
    subst e
    obtain ⟨x, hx, ex⟩ := List.mem_map.mp ha
    apply h
    unfold atKey
    rw [Option.isSome_map, List.find?_isSome]
    exact ⟨x, hx, by simpa using ex⟩
theorem dcn_at (h : HRel K Z G H) {w : W} {v : V} {kvs : List (W × W)} (r : Rw K Z H w v) (e : dcnOf G w = some kvs) : ∃ p xs, v = .ref p ∧ H p = some (.ext (dknF p xs)) ∧ (p == sysModules) = false ∧ xs.length ≤ sizeLine ∧ (xs.map (·.1)).Nodup ∧ RwN K Z H xs kvs := by
  cases r with
  | dcn z s f n l d r => simp only [dcnOf, Option.some.injEq] at e; subst e; subst f; exact ⟨_, _, rfl, s, n, l, d, r⟩
  | @ref p =>
    simp only [dcnOf] at e
    cases q : G p with
    | none => rw [q] at e; cases e
    | some o =>
      rw [q] at e
      cases o with
      | dcn p' kvs' =>
        simp only at e
        split at e
        · rename_i ep
          subst ep
          cases e
          obtain ⟨u, eu, ru⟩ := h.g p' _ q
          cases ru with
          | dcn f n l d r => subst f; exact ⟨_, _, rfl, eu, n, l, d, r⟩
        · cases e
      | _ => cases e
  | _ => cases e
theorem dka_at (h : HRel K Z G H) {w : W} {v : V} {kvs : List (W × W)} (r : Rw K Z H w v) (e : dcnOf G w = some kvs) : ∃ p xs zs, v = .ref p ∧ DkA K H p xs zs ∧ RwN K Z H xs kvs ∧ (∀ k w, valN kvs k = some w → ∃ v, (zs.find? fun z : NestedKey × V => decide (z.1 = k)).map (·.2) = some v ∧ Rw K Z H w v) ∧ (∀ k, (zs.find? fun z : NestedKey × V => decide (z.1 = k)).isSome = (valN kvs k).isSome) := by
  obtain ⟨p, xs, rfl, s, n, l, d, r⟩ := dcn_at h r e
  obtain ⟨zs, e, h1, h2⟩ := r.env
  exact ⟨p, xs, zs, rfl, ⟨n, s, l, d, e⟩, r, h1, h2⟩
theorem new_dcn (h : HRel K Z G H) {p : Addr} (n : H p = none) (ns : (p == sysModules) = false) : G p = none ∧ HRel K Z (gup G p (.dcn p [])) (upd H p (.ext (dknF p []))) ∧ Ext Z G H Z (gup G p (.dcn p [])) (upd H p (.ext (dknF p []))) := by
  refine ⟨h.fresh n, (h.laid n).track upd_same (h.freshZ n) (.dcn rfl ns (Nat.zero_le _) (by simp) .nil), ⟨fun _ z => z, fun q u e g => ?_, fun _ _ _ z => z⟩⟩
  have c : q ≠ p := ne_of_none e n
  exact ⟨by rw [upd_ne c]; exact e, by rw [gup_ne c]; exact g⟩
theorem chg_dcn (h : HRel K Z G H) {p : Addr} {kvs kvs' : List (W × W)} {xs' : List (NestedKey × Addr × Value)} (e : G p = some (.dcn p kvs)) (ns : (p == sysModules) = false) (l : xs'.length ≤ sizeLine) (nd : (xs'.map (·.1)).Nodup) (r : RwN K Z H xs' kvs') :
    HRel K Z (gup G p (.dcn p kvs')) (upd H p (.ext (dknF p xs'))) ∧ Ext Z G H Z (gup G p (.dcn p kvs')) (upd H p (.ext (dknF p xs'))) := by
  have x : Ext Z G H Z (gup G p (.dcn p kvs')) (upd H p (.ext (dknF p xs'))) := ⟨fun _ z => z, fun q u e' g => by
    have c : q ≠ p := fun c => by rw [c, e] at g; cases g
    exact ⟨by rw [upd_ne c]; exact e', by rw [gup_ne c]; exact g⟩, fun _ _ _ z => z⟩
  refine ⟨⟨fun q z => ?_, fun q g e' => ?_⟩, x⟩
  · have c : q ≠ p := fun c => by
      have := (h.z q z).1
      rw [c, e] at this; cases this
    exact ⟨by rw [gup_ne c]; exact (h.z q z).1, by rw [upd_ne c]; exact (h.z q z).2⟩
  · by_cases d : q = p
    · rw [d, gup_same] at e'; cases e'
      exact ⟨_, by rw [d]; exact upd_same, .dcn rfl ns l nd (r.keep (x.keep h))⟩
    · rw [gup_ne d] at e'
      obtain ⟨u, e2, r2⟩ := h.g q g e'
      exact ⟨u, by rw [upd_ne d]; exact e2, r2.ext h x⟩
end
def wNGet : RW2 := fun x y G Q => isS (dcnOf G x) fun kvs => isS (keyN y) fun k => isS (valN kvs k) fun w => Q w G
def wNIn (neg : Bool) : RW2 := fun y x G Q => isS (dcnOf G x) fun kvs => isS (keyN y) fun k => Q (.bl (if neg then !(valN kvs k).isSome else (valN kvs k).isSome)) G
def wNNew : TEw := fun _ G Q => ∀ p, G p = none → Q (.ref p) (gup G p (.dcn p []))
/-- a dict of the small heap -/
def isN (o : Option GO) (p : Addr) (P : List (W × W) → Prop) : Prop := match o with
  | some (.dcn q kvs) => q = p ∧ P kvs
  | _ => False
theorem isN_dcn {p : Addr} {kvs : List (W × W)} {P : List (W × W) → Prop} : isN (some (.dcn p kvs)) p P = P kvs := by unfold isN; simp
theorem isN_ex {o : Option GO} {p : Addr} {P : List (W × W) → Prop} (h : isN o p P) : ∃ kvs, o = some (.dcn p kvs) ∧ P kvs := by
  unfold isN at h
  split at h
  · obtain ⟨rfl, h⟩ := h; exact ⟨_, rfl, h⟩
  · exact h.elim
def nPut (x y v : W) (G : Gp) (P : Gp → Prop) : Prop := match x with
  | .ref p => isN (G p) p fun kvs => kvs.length < sizeLine ∧ isS (keyN y) fun k => P (gup G p (.dcn p (putN kvs y k v)))
  | _ => False
theorem nPut_ref {p : Addr} {y v : W} {G : Gp} {P : Gp → Prop} : nPut (.ref p) y v G P = isN (G p) p fun kvs => kvs.length < sizeLine ∧ isS (keyN y) fun k => P (gup G p (.dcn p (putN kvs y k v))) := rfl
def wNPut (td ty tv : TEw) : TSw := fun D σ G => tv σ G fun v G1 => td σ G1 fun x G2 => ty σ G2 fun y G3 => nPut x y v G3 fun G4 => D.nx σ G4
section
variable {X : Cx} {a b o i e : Expr} {ta tb td ty tv : TEw} {pos pos' : Pos} {k : Nat}
theorem qnget (hr : Room k X.A) (ha : PEw X a ta) (hb : PEw X b tb) (hs : NoSl b := by intro _ _; rfl) : PEw X (.Subscript a b pos) (wOp wNGet ta tb) :=
  PE.imp (pe_nget (hu64 hr) ha hb hs) fun σ H Q h => by
    obtain ⟨Z, σ', G, Qw, ev, hh, t, kk⟩ := h
    refine ⟨Z, σ', G, _, ev, hh, t, fun Z1 G1 H1 x v x1 h1 r1 t1 => ⟨Z1, σ', G1, _, ev.ext hh x1, h1, t1, fun Z2 G2 H2 y u x2 h2 r2 t2 => ?_⟩⟩
    obtain ⟨kvs, e, t3⟩ := isS_ex t2
    obtain ⟨kk2, ek, t4⟩ := isS_ex t3
    obtain ⟨w, ew, q⟩ := isS_ex t4
    obtain ⟨p, xs, zs, rfl, D, _, hv, _⟩ := dka_at h2 (r1.ext h1 x2) e
    obtain ⟨z, ez, rz⟩ := hv _ _ ew
    obtain ⟨b, rfl, n, tx, dp⟩ := r2.key3 ek
    exact ⟨p, xs, zs, b, kk2, z, rfl, D, ⟨rfl, n, tx, dp⟩, ez, kk Z2 G2 H2 _ _ (x1.trans x2) h2 rz q⟩
theorem lnin {neg : Bool} {σ : SV} {H : Hp} {Q : VK} (h : liftE X.K (wOp (wNIn neg) ta tb) σ H Q) : tNIn X.K neg (liftE X.K ta) (liftE X.K tb) σ H Q := by
  obtain ⟨Z, σ', G, Qw, ev, hh, t, kk⟩ := h
  refine ⟨Z, σ', G, _, ev, hh, t, fun Z1 G1 H1 y u x1 h1 r1 t1 => ⟨Z1, σ', G1, _, ev.ext hh x1, h1, t1, fun Z2 G2 H2 x v x2 h2 r2 t2 => ?_⟩⟩
  obtain ⟨kvs, e, t3⟩ := isS_ex t2
  obtain ⟨kk2, ek, q⟩ := isS_ex t3
  obtain ⟨p, xs, zs, rfl, D, _, _, hs⟩ := dka_at h2 r2 e
  obtain ⟨b, rfl, n, tx, dp⟩ := (r1.ext h1 x2).key3 ek
  refine ⟨p, xs, zs, b, kk2, rfl, D, ⟨rfl, n, tx, dp⟩, ?_⟩
  rw [hs]
  exact kk Z2 G2 H2 _ _ (x1.trans x2) h2 .bl q
theorem qNin (hr : Room k X.A) (ha : PEw X a ta) (hb : PEw X b tb) (hm : behindInMarks .In b = false := by rfl) : PEw X (.Compare a [.In] [b] pos) (wOp (wNIn false) ta tb) := PE.imp (pe_cmp (pc_nin (hu64 hr) ha hb) hm) fun _ _ _ h => lnin h
theorem qNnin (hr : Room k X.A) (ha : PEw X a ta) (hb : PEw X b tb) (hm : behindInMarks .NotIn b = false := by rfl) : PEw X (.Compare a [.NotIn] [b] pos) (wOp (wNIn true) ta tb) := PE.imp (pe_cmp (pc_nnin (hu64 hr) ha hb) hm) fun _ _ _ h => lnin h
theorem qtNin (hr : Room k X.A) (ha : PEw X a ta) (hb : PEw X b tb) (hm : behindInMarks .In b = false := by rfl) : PTw X (.Compare a [.In] [b] pos) (wTest (wOp (wNIn false) ta tb)) := PT.imp (pt_cmp (pc_nin (hu64 hr) ha hb) hm) fun _ _ _ h => ltest (fun _ _ _ => lnin) h
theorem qtNnin (hr : Room k X.A) (ha : PEw X a ta) (hb : PEw X b tb) (hm : behindInMarks .NotIn b = false := by rfl) : PTw X (.Compare a [.NotIn] [b] pos) (wTest (wOp (wNIn true) ta tb)) := PT.imp (pt_cmp (pc_nnin (hu64 hr) ha hb) hm) fun _ _ _ h => ltest (fun _ _ _ => lnin) h
theorem qnnew : PEw X (.Dict [] [] pos) wNNew := PE.imp pe_nnew fun σ H Q h => by
  obtain ⟨Z, σ', G, Qw, ev, hr, t, k⟩ := h
  intro p n ns
  obtain ⟨g, h2, x2⟩ := new_dcn hr n ns
  exact k _ _ _ _ _ x2 h2 .ref (t p g)
theorem qnput (hr : Room k X.A) (hd : PEw X o td) (hi : PEw X i ty) (hv : PEw X e tv) (hs : swapsWith e (some (.Subscript o i pos')) pos.line X.env = pure false := by rfl) : PSw X (.Assign [.Subscript o i pos'] e pos) (wNPut td ty tv) :=
  PS.imp (ps_nput (hu64 hr) hd hi hv hs) fun D σ H h => by
    obtain ⟨Z, σ', G, Dw, ev, hh, t, k⟩ := h
    refine ⟨Z, σ', G, _, ev, hh, t, fun Z1 G1 H1 vw vv x1 h1 r1 t1 => ⟨Z1, σ', G1, _, ev.ext hh x1, h1, t1, fun Z2 G2 H2 xw xv x2 h2 r2 t2 => ⟨Z2, σ', G2, _, (ev.ext hh x1).ext h1 x2, h2, t2, fun Z3 G3 H3 yw yv x3 h3 r3 t3 => ?_⟩⟩⟩
    have r2' := r2.ext h2 x3
    cases r2' with
    | @ref p =>
      obtain ⟨kvs, g, l, t4⟩ := isN_ex t3
      obtain ⟨kk, ek, q⟩ := isS_ex t4
      obtain ⟨p', xs, zs, e1, A, rn, _, _⟩ := dka_at h3 .ref (dcnOf_at g)
      cases e1
      obtain ⟨b, rfl, n, tx, dp⟩ := r3.key3 ek
      refine ⟨p, xs, zs, b, kk, rfl, A, by rw [← rn.length]; exact l, ⟨rfl, n, tx, dp⟩, fun u ru => ?_⟩
      have l1 := stored_len (xs := xs) (k := kk) (b := b) (u := u)
      obtain ⟨h4, x4⟩ := chg_dcn h3 g A.sys (by have := rn.length; omega) (stored_nd (k := kk) (b := b) (u := u) A.nd) (rn.put ek r3 ((r1.ext h1 x2).ext h2 x3) ru)
      have xx := ((x1.trans x2).trans x3).trans x4
      exact k.nx _ _ _ _ _ xx h4 (ev.ext hh xx) q
    | _ => exact False.elim t3
end
/-! ### sorted(d): the keys, in order -/
section
variable {prog : Program} {w : World} {A : Around} {E : Value → Shared → Prop} {s : Shared}
theorem iadd_dict {R : Result → Shared → Prop} {d S : Addr} {es : Array DictEntry} {ep : Nat} (lo : (d == sysModules) = false) (hh : A.handled = none) (hd : s.heap.DictRaw d es ep) (hn : es.size ≤ sizeLine) (hSd : S ≠ d) (c₀ : Nat)
    (hS : s.heap.get? S = some { cls := .type "list", data := .seq #[] c₀ }) (hR : ∀ h' tk acc' c', (∀ b o, b ≠ S → s.heap.get? b = some o → h'.get? b = some o) → h'.get? S = some { cls := .type "list", dict := none, data := .seq acc' c', slots := #[] } →
      ItemsOf (fun i v => ∃ hi : i < es.size, v = es[i].key) acc' es.size → R (.ok (.ret (.ref S))) { s with heap := h', toks := tk }) : codeAny (model prog w) A (.builtin "list.__iadd__" ⟨[.ref S, .ref d], []⟩) R s := by
  refine codeAny_builtin F.entry_list_iadd ?_
  rw [Around.under_plainId F.plain_list_iadd _]
  exact PySem.W.kdl_extend (R := R) (PySem.KdlSrc.rawDict lo) hh hd S hSd hSd (.ref S) c₀ hS hR hn
/-- what walks a dict finds its keys -/
theorem gather_dict {d : Addr} {es : Array DictEntry} {ep : Nat} {Q : List Value → Shared → Prop} (lo : (d == sysModules) = false) (hh : A.handled = none) (hd : s.heap.DictRaw d es ep) (hn : es.size ≤ sizeLine)
    (hQ : ∀ h' tk, (∀ b o, s.heap.get? b = some o → h'.get? b = some o) → s.heap.objs.size < h'.objs.size → Q (es.toList.map (·.key)) { s with heap := h', toks := tk }) : wpAny (model prog w) A (collect (.ref d)) Q E s := by
  unfold collect
  refine wpAny_bind (wpAny_runValue (codeAny_builtin F.entry_proto_collect ?_))
  rw [Around.under_plainId F.plain_proto_collect _]
  have lt := hd.lt_size
  have hS : (s.heap.push (seqObj "list" #[] 0)).get? s.heap.objs.size = some { cls := .type "list", data := .seq #[] 0 } := Heap.get?_push_size _ rfl
  refine wpAny_bind (m := newList []) (wpAny_newList (wpAny_pure ⟨plainId_quiet F.plain_list_iadd _, iadd_dict lo hh (hd.push _) hn (Nat.ne_of_gt lt) 0 hS fun h' tk acc c' hk hS' ha => ?_⟩) (Nat.zero_le _))
  show wpAny (model prog w) A (load s.heap.objs.size >>= _) Q E { s with heap := h', toks := tk }
  refine wpAny_bind (wpAny_load hS' (wpAny_pure ?_))
  have e : acc.toList = es.toList.map (·.key) := by
    refine List.ext_getElem (by rw [List.length_map]; simpa using ha.1) fun i h1 h2 => ?_
    rw [List.getElem_map, Array.getElem_toList]
    have := ha.2 i acc.toList[i] (by simp)
    obtain ⟨_, e⟩ := this
    simpa using e
  rw [e]
  exact hQ h' tk (fun b o hb => hk b o (Nat.ne_of_lt (Heap.lt_size hb)) (Heap.get?_push_of_some _ hb)) (Heap.lt_size hS')
end
section
variable {X : Cx} {K : PySem.W.Frag}
def keysV (xs : List (NestedKey × Addr × Value)) : List V := xs.map fun x => V.ref x.2.1
def rSortedN (K : PySem.W.Frag) : List V → Hp → VK → Prop := fun vs H Q => ∃ (p : Addr) (xs : List (NestedKey × Addr × Value)) (zs : List (NestedKey × V)) (ds : List PyData), vs = [V.ref p] ∧ DkA K H p xs zs ∧ DpAll K H (keysV xs) ds ∧ PySem.W.AllAlike ds ∧ PySem.W.Sortable ds ∧ (∀ d ∈ ds, d.depth ≤ 60) ∧
  ∀ l, H l = none → Q (.ref l) (upd H l (.lst (((keysV xs).zip ds).mergeSort (fun a b => !PySem.W.dataLt b.2 a.2) |>.map Prod.fst)))
theorem keys_vals : ∀ {xs : List (NestedKey × Addr × Value)}, Vals (keysV xs) (xs.map fun x => Value.ref x.2.1)
  | [] => .nil
  | _ :: _ => .cons rfl keys_vals
theorem cr_sortedN (hu : X.A.units + 64 < cLine) (hh : X.A.handled = none) : CallR X (.builtin "sorted") (rSortedN X.K) := by
  intro pins s σ H vs us Q I r h
  obtain ⟨p, xs, zs, ds, rfl, D, dd, hal, hso, hd, q⟩ := h
  rw [Vals.ref1 r]
  obtain ⟨o, es, ep, ho, hc, hdat, he, _, _⟩ := D.dict I
  have hk : es.toList.map (·.key) = xs.map fun x => Value.ref x.2.1 := by rw [he, List.map_map]; rfl
  have hz : es.size ≤ sizeLine := by
    have := congrArg List.length he
    rw [List.length_map, Array.length_toList] at this
    rw [this]; exact D.len
  have rv : Vals (keysV xs) (es.toList.map (·.key)) := by rw [hk]; exact keys_vals
  have ll := dp_len dd
  have lv := rv.length
  have hL : (es.toList.map (·.key)).length ≤ sizeLine := by rw [List.length_map, Array.length_toList]; exact hz
  refine PyProof.Rows.call_function_entry_kw kind_sorted plain_sorted entry_sorted (args_sorted1 _) ?_
  unfold Builtin.«sorted»
  refine wpAny_bind (m := checkCount "sorted" 1 1 _) (wpAny_pure ?_)
  refine wpAny_bind (gather_dict D.sys hh ⟨o, ho, hc, hdat⟩ hz fun h' tk keep big => ?_)
  refine wpAny_bind (wpAny_newList ?_ hL)
  have ho2 : (h'.push (seqObj "list" (es.toList.map (·.key)).toArray 0)).get? h'.objs.size = some (seqObj "list" (es.toList.map (·.key)).toArray 0) := Heap.get?_push_size _ rfl
  have re := readsEach I dd rv
  have old : ∀ b u, s.heap.get? b = some u → (PySem.W.sortingHeap (h'.push (seqObj "list" (es.toList.map (·.key)).toArray 0)) h'.objs.size (es.toList.map (·.key))).get? b = some u := fun b u e => by
    unfold PySem.W.sortingHeap
    refine Heap.get?_push_of_some _ (Heap.get?_push_of_some _ ?_)
    have := Heap.lt_size (keep b u e)
    rw [Heap.get?_update_ne _ _ _ _ (Nat.ne_of_lt this)]
    exact Heap.get?_push_of_some _ (keep b u e)
  have re' : PySem.W.EachIs (fun v d => ∃ as, Reads (PySem.W.sortingHeap (h'.push (seqObj "list" (es.toList.map (·.key)).toArray 0)) h'.objs.size (es.toList.map (·.key))) v d as) (es.toList.map (·.key)) ds := re.mono fun v d ⟨as, r⟩ => ⟨as, Reads.keeps (fun b o e => old b o e) r⟩
  have SA := PySem.W.SortsAt.data (prog := X.prog) (w := X.w) (A := X.A.in1.in1) (s := { s with heap := PySem.W.sortingHeap (h'.push (seqObj "list" (es.toList.map (·.key)).toArray 0)) h'.objs.size (es.toList.map (·.key)), toks := tk }) re' hal hso fun d hm => by
    have := hd d hm
    show X.A.units + 2 + d.depth < cLine
    omega
  refine wpAny_bind (wpAny_holding (PyProof.Rows.wpAny_call_entry_kw slot_list_sort ⟨_, ho2, rfl⟩ entry_list_sort ?_ (args_list_sort _)))
  refine PySem.W.list_sort_vals (s := { s with heap := h'.push (seqObj "list" (es.toList.map (·.key)).toArray 0), toks := tk }) ho2 SA hL ⟨_, rfl, wpAny_pure ⟨_, rfl, ?_⟩⟩
  have ev := PySem.W.sortVals_each (κ := PySem.W.dataKind (PySem.W.sortingHeap (h'.push (seqObj "list" (es.toList.map (·.key)).toArray 0)) h'.objs.size (es.toList.map (·.key))) ds) (rev := false) (k := fun b : V × PyData => PySem.W.keyToks b.2) (each_zip (ds := ds) rv ll) (each_key (xs := keysV xs) hal re' ll fun d hd => hd)
  have vv := vals_fst (R := fun _ => True) ev
  obtain ⟨ee, he'⟩ := PyProof.Rows.sortedHeap_at (out := (PySem.W.sortVals (PySem.W.dataKind (PySem.W.sortingHeap (h'.push (seqObj "list" (es.toList.map (·.key)).toArray 0)) h'.objs.size (es.toList.map (·.key))) ds) false (es.toList.map (·.key)) (es.toList.map (·.key))).toArray) ho2
  have hlen : ((((keysV xs).zip ds).mergeSort fun a b => !PySem.W.dataLt b.2 a.2).map Prod.fst).length ≤ sizeLine := by
    rw [List.length_map, List.length_mergeSort, List.length_zip]
    omega
  refine ⟨.ref h'.objs.size, upd H h'.objs.size (.lst ((((keysV xs).zip ds).mergeSort fun a b => !PySem.W.dataLt b.2 a.2).map Prod.fst)), I.laid (t' := tk) (fun b u e => ?_) (Nat.le_of_lt big) ⟨hlen, _, ee, ?_, he'⟩, rfl, q _ (I.hok.fresh (Nat.le_of_lt big))⟩
  · have := Heap.lt_size (keep b u e)
    rw [PyProof.Rows.sortedHeap_old (Nat.ne_of_lt this) (by rw [PyProof.Rows.size_push']; exact Nat.lt_succ_of_lt this)]
    exact Heap.get?_push_of_some _ (keep b u e)
  · exact vv
end
/-! over the small world -/
def keysW (kvs : List (W × W)) : List W := kvs.map Prod.fst
def wSortedN : List W → Gp → QW → Prop := fun ws G Q => match ws with
  | [x] => isS (dcnOf G x) fun kvs => wpures (keysW kvs) = true ∧ PySem.W.AllAlike (wdats (keysW kvs)) ∧ PySem.W.Sortable (wdats (keysW kvs)) ∧ (∀ d ∈ wdats (keysW kvs), d.depth ≤ 60) ∧ Q (.lst ((keysW kvs).mergeSort leW)) G
  | _ => False
theorem wSortedN_eq {x : W} {G : Gp} {Q : QW} : wSortedN [x] G Q = isS (dcnOf G x) fun kvs => wpures (keysW kvs) = true ∧ PySem.W.AllAlike (wdats (keysW kvs)) ∧ PySem.W.Sortable (wdats (keysW kvs)) ∧ (∀ d ∈ wdats (keysW kvs), d.depth ≤ 60) ∧ Q (.lst ((keysW kvs).mergeSort leW)) G := rfl
theorem RwN.keys {K : PySem.W.Frag} {Z : Zp} {H : Hp} : ∀ {xs : List (NestedKey × Addr × Value)} {kvs : List (W × W)}, RwN K Z H xs kvs → RwL K Z H (keysW kvs) (keysV xs)
  | _, _, .nil => .nil
  | _, _, .cons _ a _ _ t => .cons a (RwN.keys t)
theorem sim_sortedN {K : PySem.W.Frag} : SimN K (rSortedN K) wSortedN := by
  intro Z G H ws vs Qw Q h r t k
  cases r with
  | nil => exact False.elim t
  | cons rx rr =>
    cases rr with
    | cons _ _ => exact False.elim t
    | nil =>
      obtain ⟨kvs, e, h1, h2, h3, h4, q⟩ := isS_ex t
      obtain ⟨p, xs, zs, rfl, D, rn, _, _⟩ := dka_at h rx e
      refine ⟨p, xs, zs, _, rfl, D, rn.keys.dp h1, h2, h3, h4, fun l n => ?_⟩
      obtain ⟨h5, x5, r5⟩ := new_frz h n (sort_RwL rn.keys)
      exact k _ _ _ _ _ x5 h5 r5 q
theorem qsortedN {X : Cx} {e : Expr} {es : List Expr} {t : TAw} {p pos : Pos} {k : Nat} (hr : Room k X.A) (hg : Gl X "sorted") (hm : X.mg "sorted" = none) (ha : PAw X (e :: es) t) (he : starEach (e :: es) X.env = (false, eval e X.env) :: starEach es X.env := by rfl) (hpl : (backTo pos (starEach es X.env)).any (·.1) = false := by rfl) :
    PEw X (.Call (.Name "sorted" p) (e :: es) [] pos) (wCB wSortedN t) := PE.imp (pe_callB (cr_sortedN (hu64 hr) hr.hd) hg hm (by decide +kernel) ha (by decide) (by decide) he hpl) fun _ _ _ h => liftN sim_sortedN h
/-! ### range(i, j, -1) -/
def rangeB (lo : Int) (n : Nat) : List W := (List.range n).map fun i => W.int (lo - (i : Nat))
theorem walkB {K : PySem.W.Frag} {Z : Zp} {G : Gp} {H : Hp} {lo : Int} {n : Nat} : WalkW K (Itc lo (-1) n) Z G H (rangeB lo n) := by
  refine ⟨_, _, by unfold rangeB; rw [List.length_map, List.length_range]; exact walk_rangeC, fun Z' G' H' x h' => ⟨trivial, fun i v H'' hi y => ?_⟩⟩
  obtain ⟨rfl, rfl⟩ := y
  unfold rangeB at hi ⊢
  rw [List.length_map, List.length_range] at hi
  refine ⟨.int (lo - i), by rw [List.getElem?_map, List.getElem?_range hi]; rfl, ?_, Ext.refl, h'⟩
  show Rw K Z' H'' (.int (lo - i)) (.int (lo + (i : Int) * -1))
  rw [show lo + (i : Int) * -1 = lo - i by omega]
  exact .int
def rng3 (ws : List W) (G : Gp) (R : List W → Gp → Prop) : Prop := match ws with
  | [.int i, .int j, .int c] => c = -1 ∧ (-4611686018427387904 ≤ i ∧ i < 4611686018427387904 ∧ -4611686018427387904 ≤ j ∧ j < 4611686018427387904) ∧ R (rangeB i (i - j).toNat) G
  | _ => False
theorem rng3_int {i j c : Int} {G : Gp} {R : List W → Gp → Prop} : rng3 [.int i, .int j, .int c] G R = (c = -1 ∧ (-4611686018427387904 ≤ i ∧ i < 4611686018427387904 ∧ -4611686018427387904 ≤ j ∧ j < 4611686018427387904) ∧ R (rangeB i (i - j).toNat) G) := rfl
def iR3 (ta : TAw) : TIw := fun σ G R => ta σ G fun ws G1 => rng3 ws G1 R
theorem qrange3 {X : Cx} {tg a b c : Expr} {ta : TAw} {p pos : Pos} (hg : Gl X "range") (hm : X.mg "range" = none) (ha : PAw X [a, b, c] ta) (hs : starEach [a, b, c] X.env = (false, eval a X.env) :: starEach [b, c] X.env := by rfl) (hpl : (backTo pos (starEach [b, c] X.env)).any (·.1) = false := by rfl) :
    PIw X tg (.Call (.Name "range" p) [a, b, c] [] pos) (iR3 ta) :=
  PI.imp (pi_range3 hg hm ha hs hpl) fun σ H R h => by
    obtain ⟨Z, σ', G, Qw, e, hr, t, k⟩ := h
    refine ⟨Z, σ', G, _, e, hr, t, fun Z1 G1 H1 ws vs x1 h1 r1 t1 => ?_⟩
    unfold rng3 at t1
    split at t1
    · obtain ⟨rfl, ⟨b1, b2, b3, b4⟩, q⟩ := t1
      cases r1 with
      | cons ra rr =>
        cases rr with
        | cons rb rr =>
          cases rr with
          | cons rc rr =>
            cases rr
            cases ra
            cases rb
            cases rc
            exact ⟨_, _, _, _, rfl, RgC.neg (by omega) (by omega) (by omega) (by omega), k Z1 G1 H1 _ _ x1 h1 walkB q⟩
    · exact False.elim t1
theorem rangeB_get {lo : Int} {n i : Nat} {w : W} (h : (rangeB lo n)[i]? = some w) : i < n ∧ w = .int (lo - i) := by
  unfold rangeB at h
  rw [List.getElem?_map] at h
  by_cases c : i < n
  · rw [List.getElem?_range c] at h
    simp only [Option.map_some, Option.some.injEq] at h
    exact ⟨c, h.symm⟩
  · rw [List.getElem?_eq_none (by rw [List.length_range]; omega)] at h
    cases h
theorem rangeB_length {lo : Int} {n : Nat} : (rangeB lo n).length = n := by unfold rangeB; rw [List.length_map, List.length_range]
end WL
namespace WL
open PySem PySem.Spec PyProof.Rows L2
/-! ### the law's call, the base free of what looks on: then // is plain at any size -/
theorem seer_hid {h : Heap} {H : Hp} (S : h.NoSeer) (hd : ∀ b o es ep, h.get? b = some o → o.data = .dict es ep → H b = none) (hm : ∀ b o d, h.get? b = some o → o.dict = some d → o.cls = .type "module" → H b = none) : (hidT h H).NoSeer := by
  have ns : ∀ {b : Addr} {m : Str → Option Value}, h.Ns b m → (hidT h H).Ns b m := by
    rintro b m ⟨o, es, ep, e, d, r⟩
    exact ⟨o, es, ep, hidT_get e (hd b o es ep e d), d, r⟩
  obtain ⟨⟨c, c1, c2, c3⟩, ⟨m, m1, m2⟩, ⟨i, i1, i2⟩, ⟨g, bm, ob, g1, g2, g3, g4, g5⟩⟩ := S
  exact ⟨⟨c, ns c1, c2, c3⟩, ⟨m, ns m1, m2⟩, ⟨i, ns i1, i2⟩, ⟨g, bm, ob, ns g1, g2, hidT_get g3 (hm bm ob _ g3 g5 g4), g4, g5⟩⟩
/-- the heap that knows the script alone -/
def scrH (K : PySem.W.Frag) (a : Addr) (ob : Obj) (xs : List V) : Hp := fun b => if b = a ∧ (K.lookup a).isSome = false then some (.frz ob (.lst xs)) else none
section
variable {P : Program} {w : World} {K : PySem.W.Frag} {mg mb : Str → Option Value} {k : Nat} {fa a : Addr} {fd : FuncData} {x : Str} {sp : Sp} {s1 : Shared} {vs : List Value} {ns : List Int}
theorem law_run (KX : K.In s1.heap) (gl : s1.heap.Ns mainGlobals mg) (bl : s1.heap.Ns builtinsNs mb) (bb : ∀ x : Str, x ≠ "__name__" → mb x = bootBuiltins x) (lim : s1.heap.NoLimit) (seer : s1.heap.NoSeer) (gens : s1.gens = #[])
    (obj : s1.heap.get? a = some { cls := .type "list", data := .seq vs.toArray }) (iar : IntsAre vs ns) (len : ns.length ≤ sizeLine) (hr : Room k callerA)
    (F : ∀ base : Heap, K.In base → base.Ns mainGlobals mg → base.NoSeer → FnOk P w K mg base CX0 k fa fd [x] sp) (bind : ∀ (s : Shared) (u : Value), BindsTo s fd ⟨[u], []⟩ [(x, u)])
    (want : ∀ H : Hp, Only H → SqL K H a (ns.map V.int) → sp [.ref a] H (fun v _ => v = .bl true) fun _ _ _ => False) :
    codeAny (model P w) callerA (.call (.ref fa) ⟨[.ref a], []⟩) (fun r s' => r = .ok (.ret (.bool true)) ∧ OldK s1.heap s'.heap ∧ s'.os = s1.os ∧ AllBare s'.gens) s1 := by
  let ob : Obj := { cls := .type "list", data := .seq vs.toArray }
  let H : Hp := scrH K a ob (ns.map V.int)
  have rel : Vals (ns.map V.int) vs := vals_ints iar
  have only : Only H := fun b => by
    by_cases c : b = a ∧ (K.lookup a).isSome = false
    · exact .inr ⟨ob, _, if_pos c⟩
    · exact .inl (if_neg c)
  have at_ : ∀ b, H b ≠ none → b = a ∧ (K.lookup a).isSome = false := fun b z => by
    by_cases c : b = a ∧ (K.lookup a).isSome = false
    · exact c
    · exact absurd (if_neg c) z
  have isz : vs.length = ns.length := by
    have e := rel.length
    rw [List.length_map] at e
    exact e.symm
  have sq : SqL K H a (ns.map V.int) := by
    cases q : K.lookup a with
    | none => exact .inl (.inr ⟨ob, if_pos ⟨rfl, by rw [q]; rfl⟩⟩)
    | some o =>
      have e := KX a o q
      rw [obj] at e
      injection e with e
      subst e
      exact .inr ⟨_, vs.toArray, _, q, rfl, rfl, rfl, by rw [List.size_toArray, isz]; exact len, by simpa using rel⟩
  have hok : HOk P w H s1.heap := fun b u z => by
    have ne : H b ≠ none := by rw [z]; simp
    obtain ⟨rfl, q⟩ := at_ b ne
    have z' : some (HO.frz ob (.lst (ns.map V.int))) = some u := (show H b = some (HO.frz ob (.lst (ns.map V.int))) from if_pos ⟨rfl, q⟩).symm.trans z
    injection z' with z'
    subst z'
    exact ⟨obj, by rw [List.length_map]; exact len, vs, _, rel, obj⟩
  have noD : ∀ b o es ep, s1.heap.get? b = some o → o.data = .dict es ep → H b = none := fun b o es ep e d => by
    cases q : H b with
    | none => rfl
    | some u =>
      obtain ⟨rfl, _⟩ := at_ b (by rw [q]; simp)
      rw [obj] at e
      injection e with e
      subst e
      cases d
  have noM : ∀ b o d, s1.heap.get? b = some o → o.dict = some d → o.cls = .type "module" → H b = none := fun b o d e hd _ => by
    cases q : H b with
    | none => rfl
    | some u =>
      obtain ⟨rfl, _⟩ := at_ b (by rw [q]; simp)
      rw [obj] at e
      injection e with e
      subst e
      cases hd
  have ns' : ∀ {b : Addr} {m : Str → Option Value}, s1.heap.Ns b m → (hidT s1.heap H).Ns b m := by
    rintro b m ⟨o, es, ep, e, d, r⟩
    exact ⟨o, es, ep, hidT_get e (noD b o es ep e d), d, r⟩
  have kb : K.In (hidT s1.heap H) := fun b o e => hidT_get (KX b o e) (by
    cases q : H b with
    | none => rfl
    | some u =>
      obtain ⟨rfl, z⟩ := at_ b (by rw [q]; simp)
      rw [e] at z
      cases z)
  have md : Mod K mg (hidT s1.heap H) := by
    obtain ⟨mc, l1, l2⟩ := lim
    exact ⟨kb, ns' gl, ⟨mb, ns' bl, bb⟩, mc, ns' l1, l2⟩
  have e0 : Env0 P w K mg (hidT s1.heap H) callerA [] s1 H := ⟨rfl, md, fun b o e => of_hidT e, Nat.le_of_eq (hidT_size _ _), trivial, fun b hb => (by cases hb), hok, .of_eq gens⟩
  have run := (F _ kb (ns' gl) (seer_hid seer noD noM)).run callerA [] s1 H ⟨[.ref a], []⟩ [.ref a] [.ref a] _ _ hr e0 (bind s1 (.ref a)) (.cons rfl .nil) (want H only sq)
  refine codeAny_mono run fun r s' h => ?_
  match r, h with
  | .ok (.ret u), h =>
    obtain ⟨v, H', os, bare, un, hok', rv, q⟩ := h
    cases (show v = .bl true from q)
    cases (show u = Value.bool true from rv)
    refine ⟨rfl, OldK.of_keep fun b o e => ?_, os, bare⟩
    rcases only b with z | ⟨oz, xz, z⟩
    · exact un.keep b o e z (fun m => (by cases m)) (fun m => (by cases m))
    · obtain ⟨e1, _⟩ := hok b _ z
      obtain ⟨e2, _⟩ := hok' b _ (un.frzs b oz _ z)
      rw [e1] at e
      rw [← e]
      exact e2
/-- the goal that the head leaves -/
theorem walk_deep {l : PySem.W.OpenLaw} {n k : Nat} {q : Program} {loose : List Str} {XP : (Str → Option Value) → Heap → Prop} {YP : World → Heap → Prop} {d : DefRec} {Kf : Params → PySem.W.Frag} {sp : World → Sp} {x : Str}
    (most : l.most = some n) (small : n ≤ sizeLine) (nodef : d.params.defaults = []) (hr : Room k callerA) (noimp : importsNone q = true) (hY : ∀ (w : World) (h : Heap), YP w h → (Kf w.params).In h)
    (F : ∀ (w : World) (mg : Str → Option Value) (fa : Addr) (h : Heap), (Kf w.params).In h → h.Ns mainGlobals mg → mg d.name = some (.ref fa) →
      ∃ fd : FuncData, (∀ (s : Shared) (u : Value), BindsTo s fd ⟨[u], []⟩ [(x, u)]) ∧ ∀ base : Heap, (Kf w.params).In base → base.Ns mainGlobals mg → base.NoSeer → FnOk l.prog w (Kf w.params) mg base CX0 k fa fd [x] (sp w))
    (want : ∀ (w : World) (H : Hp) (a : Addr) (ns : List Int), ns.length ≤ n → Only H → SqL (Kf w.params) H a (ns.map V.int) → sp w [.ref a] H (fun v _ => v = .bl true) fun _ _ _ => False) :
    PySem.W.WalkO q loose XP YP l.row.toRowW d [] (fun f vs => PySem.call f vs) :=
  Att.attach_call most nodef fun w s0 s1 mg mb fa o pm cd doc a vs ns G Y ho hd hcd hmg obj iar len gens => by
    obtain ⟨fd, bind, FF⟩ := F w mg fa _ (hY w _ Y) G.T.g hmg
    exact law_run (hY w _ Y) G.T.g G.T.b G.T.builtins G.T.nolimit (G.T.seer noimp) gens obj iar (Nat.le_trans len small) hr FF bind fun H h1 h2 => want w H a ns len h1 h2
end
/-! ### loops by the turn's number -/
theorem forW_ix {ks : List Bool} {g : TGw} {tb : TSw} {D : EndsW} (P : Nat → SW → Gp → Prop) : ∀ (items : List W) (k : Nat) (σ : SW) (G : Gp), P k σ G →
    (∀ i w, items[i]? = some w → ∀ σ G (N : SW → Gp → Prop), P (k + i) σ G → (∀ σ' G', P (k + i + 1) (skill σ' ks) G' → N σ' G') → g w σ G fun σ1 G1 => tb { nx := N, ct := N, bk := D.nx, rt := D.rt, ex := D.ex } σ1 G1) →
    (∀ σ G, P (k + items.length) σ G → D.nx σ G) → forW ks g tb items D σ G
  | [], k, σ, G, p, _, hd => hd σ G p
  | w :: ws, k, σ, G, p, hs, hd => hs 0 w rfl σ G _ p fun σ' G' p' => forW_ix P ws (k + 1) _ G' p' (fun i w' hw => by
      have h := hs (i + 1) w' hw
      rw [show k + (i + 1) = k + 1 + i by omega] at h
      exact h) (by
      have h := hd
      rw [show k + (w :: ws).length = k + 1 + ws.length by rw [List.length_cons]; omega] at h
      exact h)
theorem rangeW_get {lo : Int} {n i : Nat} {w : W} (h : (rangeW lo n)[i]? = some w) : i < n ∧ w = .int (lo + i) := by
  unfold rangeW at h
  rw [List.getElem?_map] at h
  by_cases c : i < n
  · rw [List.getElem?_range c] at h
    exact ⟨c, (Option.some.inj h).symm⟩
  · rw [List.getElem?_eq_none (by rw [List.length_range]; omega)] at h
    cases h
theorem rangeW_length {lo : Int} {n : Nat} : (rangeW lo n).length = n := by unfold rangeW; rw [List.length_map, List.length_range]
theorem forW_range {ks : List Bool} {g : TGw} {tb : TSw} {D : EndsW} {lo : Int} {n : Nat} {σ : SW} {G : Gp} (P : Nat → SW → Gp → Prop) (h0 : P 0 σ G)
    (hs : ∀ i, i < n → ∀ σ G (N : SW → Gp → Prop), P i σ G → (∀ σ' G', P (i + 1) (skill σ' ks) G' → N σ' G') → g (.int (lo + i)) σ G fun σ1 G1 => tb { nx := N, ct := N, bk := D.nx, rt := D.rt, ex := D.ex } σ1 G1)
    (hd : ∀ σ G, P n σ G → D.nx σ G) : forW ks g tb (rangeW lo n) D σ G := by
  refine forW_ix P (rangeW lo n) 0 σ G h0 (fun i w hw => ?_) (by rw [rangeW_length, Nat.zero_add]; exact hd)
  obtain ⟨hi, rfl⟩ := rangeW_get hw
  rw [Nat.zero_add]
  exact hs i hi
/-! ### == of truths, of None -/
theorem wOk_bl {a : Bool} : wOk (.bl a) := ⟨rfl, by simp [wdat, SeqAt.shaped, PyData.canLay0, PyData.depth]⟩
theorem weqb_bl {a b : Bool} : weqb (.bl a) (.bl b) = (a == b) := by simp [weqb, wdat, PyData.eqv]
theorem wEq_bl {a b : Bool} {G : Gp} {Q : QW} : wEq (.bl a) (.bl b) G Q = Q (.bl (a == b)) G := by
  have e : wEq (.bl a) (.bl b) G Q = (wOk (.bl a) ∧ wOk (.bl b) ∧ Q (.bl (weqb (.bl a) (.bl b))) G) := rfl
  rw [e, weqb_bl]
  exact propext ⟨fun h => h.2.2, fun h => ⟨wOk_bl, wOk_bl, h⟩⟩
theorem wNe_bl {a b : Bool} {G : Gp} {Q : QW} : wNe (.bl a) (.bl b) G Q = Q (.bl (!(a == b))) G := by
  have e : wNe (.bl a) (.bl b) G Q = (wOk (.bl a) ∧ wOk (.bl b) ∧ Q (.bl (!weqb (.bl a) (.bl b))) G) := rfl
  rw [e, weqb_bl]
  exact propext ⟨fun h => h.2.2, fun h => ⟨wOk_bl, wOk_bl, h⟩⟩
/-! ### the readings, fully applied: for simp, from the head on -/
def truO (x : W) (G : Gp) (P : Bool → Gp → Prop) : Prop := ∃ k, x = .bl k ∧ P k G
theorem truO_bl {b : Bool} {G : Gp} {P : Bool → Gp → Prop} : truO (.bl b) G P = P b G := by
  unfold truO
  exact propext ⟨fun ⟨k, e, h⟩ => (by injection e with e; subst e; exact h), fun h => ⟨b, rfl, h⟩⟩
def intO (x : W) (G : Gp) (P : Option Int → Gp → Prop) : Prop := match x with
  | .int i => P (some i) G
  | _ => False
theorem intO_int {i : Int} {G : Gp} {P : Option Int → Gp → Prop} : intO (.int i) G P = P (some i) G := rfl
theorem a_seq {t u : TSw} {D : EndsW} {σ : SW} {G : Gp} : wSeq t u D σ G = t { D with nx := u D } σ G := rfl
theorem a_asg {te : TEw} {g : TGw} {D : EndsW} {σ : SW} {G : Gp} : wAsg te g D σ G = te σ G fun w G1 => g w σ G1 D.nx := rfl
theorem a_ifS {c : TTw} {t u : TSw} {D : EndsW} {σ : SW} {G : Gp} : wIfS c t u D σ G = c σ G fun b G1 => if b = true then t D σ G1 else u D σ G1 := rfl
theorem a_ret {te : TEw} {D : EndsW} {σ : SW} {G : Gp} : wRet te D σ G = te σ G D.rt := rfl
theorem a_retN {D : EndsW} {σ : SW} {G : Gp} : wRetN D σ G = D.rt .non G := rfl
theorem a_next {D : EndsW} {σ : SW} {G : Gp} : wNext D σ G = D.nx σ G := rfl
theorem a_break {D : EndsW} {σ : SW} {G : Gp} : wBreak D σ G = D.bk σ G := rfl
theorem a_cont {D : EndsW} {σ : SW} {G : Gp} : wCont D σ G = D.ct σ G := rfl
theorem a_drop {te : TEw} {D : EndsW} {σ : SW} {G : Gp} : wDrop te D σ G = te σ G fun _ G1 => D.nx σ G1 := rfl
theorem a_for {ks : List Bool} {ti : TIw} {g : TGw} {tb : TSw} {D : EndsW} {σ : SW} {G : Gp} : wFor ks ti g tb D σ G = ti σ G fun ws G1 => forW ks g tb ws D (skill σ ks) G1 := rfl
theorem a_C {w : W} {σ : SW} {G : Gp} {Q : QW} : wC w σ G Q = Q w G := rfl
theorem a_op {wr : RW2} {ta tb : TEw} {σ : SW} {G : Gp} {Q : QW} : wOp wr ta tb σ G Q = ta σ G fun x G1 => tb σ G1 fun y G2 => wr x y G2 Q := rfl
theorem a_un {wr : W → Gp → QW → Prop} {ta : TEw} {σ : SW} {G : Gp} {Q : QW} : wUn wr ta σ G Q = ta σ G fun x G1 => wr x G1 Q := rfl
theorem a_neg {ta : TEw} {σ : SW} {G : Gp} {Q : QW} : wNeg ta σ G Q = ta σ G fun x G1 => wI1 (fun i => .int (-i)) x G1 Q := rfl
theorem a_CB {wr : List W → Gp → QW → Prop} {t : TAw} {σ : SW} {G : Gp} {Q : QW} : wCB wr t σ G Q = t σ G fun ws G1 => wr ws G1 Q := rfl
theorem a_call {sp : Spw} {t : TAw} {σ : SW} {G : Gp} {Q : QW} : wCall sp t σ G Q = t σ G fun ws G1 => sp ws G1 Q E0w := rfl
theorem a_nil {σ : SW} {G : Gp} {P : List W → Gp → Prop} : wNil σ G P = P [] G := rfl
theorem a_cons {ta : TEw} {t : TAw} {σ : SW} {G : Gp} {P : List W → Gp → Prop} : wCons ta t σ G P = ta σ G fun x G1 => t σ G1 fun xs G2 => P (x :: xs) G2 := rfl
theorem a_tup {t : TAw} {σ : SW} {G : Gp} {Q : QW} : wTup t σ G Q = t σ G fun ws G1 => ws.length ≤ sizeLine ∧ Q (.tup ws) G1 := rfl
theorem a_lst {t : TAw} {σ : SW} {G : Gp} {Q : QW} : wLst t σ G Q = t σ G fun ws G1 => ws.length ≤ sizeLine ∧ Q (.lst ws) G1 := rfl
theorem a_lstM {t : TAw} {σ : SW} {G : Gp} {Q : QW} : wLstM t σ G Q = t σ G fun ws G1 => ws.length ≤ sizeLine ∧ ∀ p, G1 p = none → Q (.ref p) (gup G1 p (.lst ws)) := rfl
theorem a_test {t : TEw} {σ : SW} {G : Gp} {P : Bool → Gp → Prop} : wTest t σ G P = t σ G fun x G1 => truO x G1 P := rfl
theorem a_and {t u : TTw} {σ : SW} {G : Gp} {P : Bool → Gp → Prop} : wAnd t u σ G P = t σ G fun c G1 => if c = true then u σ G1 P else P false G1 := rfl
theorem a_or {t u : TTw} {σ : SW} {G : Gp} {P : Bool → Gp → Prop} : wOr t u σ G P = t σ G fun c G1 => if c = true then P true G1 else u σ G1 P := rfl
theorem a_not {t : TTw} {σ : SW} {G : Gp} {P : Bool → Gp → Prop} : wNot t σ G P = t σ G fun c G1 => P (!c) G1 := rfl
theorem a_yes {σ : SW} {G : Gp} {P : Bool → Gp → Prop} : wYes σ G P = P true G := rfl
theorem a_andV {ta tb : TEw} {σ : SW} {G : Gp} {Q : QW} : wAndV ta tb σ G Q = ta σ G fun x G1 => truO x G1 fun c G1 => if c = true then tb σ G1 Q else Q (.bl false) G1 := rfl
theorem a_orV {ta tb : TEw} {σ : SW} {G : Gp} {Q : QW} : wOrV ta tb σ G Q = ta σ G fun x G1 => truO x G1 fun c G1 => if c = true then Q (.bl true) G1 else tb σ G1 Q := rfl
theorem a_notV {ta : TEw} {σ : SW} {G : Gp} {Q : QW} : wNotV ta σ G Q = ta σ G fun x G1 => truO x G1 fun c G1 => Q (.bl (!c)) G1 := rfl
theorem a_if {t : TTw} {ta tb : TEw} {σ : SW} {G : Gp} {Q : QW} : wIf t ta tb σ G Q = t σ G fun c G1 => if c = true then ta σ G1 Q else tb σ G1 Q := rfl
theorem a_isN {ta : TEw} {σ : SW} {G : Gp} {Q : QW} : wIsN ta σ G Q = ta σ G fun x G1 => Q (.bl (isNon x)) G1 := rfl
theorem a_notN {ta : TEw} {σ : SW} {G : Gp} {Q : QW} : wNotN ta σ G Q = ta σ G fun x G1 => Q (.bl (!isNon x)) G1 := rfl
theorem a_chain {r r' : RW2} {ta tb tc : TEw} {σ : SW} {G : Gp} {Q : QW} : wChain r r' ta tb tc σ G Q = ta σ G fun x G1 => tb σ G1 fun y G2 => r x y G2 fun z G3 => truO z G3 fun k G3 => if k = true then tc σ G3 fun w G4 => r' y w G4 Q else Q (.bl false) G3 := rfl
theorem a_BM {wr : RWM} {to : TEw} {t : TAw} {σ : SW} {G : Gp} {Q : QW} : wBM wr to t σ G Q = to σ G fun o G1 => (asL G1 o).isSome = true ∧ t σ G1 fun ws G2 => wr o ws G2 Q := rfl
theorem a_BM0 {wr : RWM} {to : TEw} {σ : SW} {G : Gp} {Q : QW} : wBM0 wr to σ G Q = to σ G fun o G1 => (asL G1 o).isSome = true ∧ wr o [] G1 Q := rfl
theorem a_seqI {te : TEw} {σ : SW} {G : Gp} {P : List W → Gp → Prop} : iSeqW te σ G P = te σ G fun w G1 => seqOf w G1 P := rfl
theorem a_R1 {ta : TAw} {σ : SW} {G : Gp} {P : List W → Gp → Prop} : iR1 ta σ G P = ta σ G fun ws G1 => rng1 ws G1 P := rfl
theorem a_R2 {ta : TAw} {σ : SW} {G : Gp} {P : List W → Gp → Prop} : iR2 ta σ G P = ta σ G fun ws G1 => rng2 ws G1 P := rfl
theorem a_zip2 {ta : TAw} {σ : SW} {G : Gp} {P : List W → Gp → Prop} : i_zip2 ta σ G P = ta σ G fun ws G1 => zipOf ws G1 P := rfl
theorem a_zipG2 {ta : TAw} {σ : SW} {G : Gp} {P : List W → Gp → Prop} : i_zipG2 ta σ G P = ta σ G fun ws G1 => zipG2 ws G1 P := rfl
theorem a_zipG3 {ta : TAw} {σ : SW} {G : Gp} {P : List W → Gp → Prop} : i_zipG3 ta σ G P = ta σ G fun ws G1 => zipG3 ws G1 P := rfl
theorem a_enumG {ta : TAw} {σ : SW} {G : Gp} {P : List W → Gp → Prop} : i_enumG ta σ G P = ta σ G fun ws G1 => enumG ws G1 P := rfl
theorem a_enum {ta : TAw} {σ : SW} {G : Gp} {P : List W → Gp → Prop} : i_enum ta σ G P = ta σ G fun ws G1 => enumOf ws G1 P := rfl
theorem a_lc {vs : List Nat} {ti : TIw} {g : TGw} {tt : TTw} {te : TEw} {σ : SW} {G : Gp} {Q : QW} : wLc vs ti g tt te σ G Q = ti σ G fun ws G1 => ws.length ≤ sizeLine ∧ lcW g tt te (swipe σ vs) ws [] G1 fun us G2 => Q (.lst us) G2 := rfl
theorem a_lcM {vs : List Nat} {ti : TIw} {g : TGw} {tt : TTw} {te : TEw} {σ : SW} {G : Gp} {Q : QW} : wLcM vs ti g tt te σ G Q = ti σ G fun ws G1 => ws.length ≤ sizeLine ∧ lcW g tt te (swipe σ vs) ws [] G1 fun us G2 => ∀ p, G2 p = none → Q (.ref p) (gup G2 p (.lst us)) := rfl
theorem a_lcR {vs : List Nat} {t0 : TEw} {g : TGw} {tt : TTw} {te : TEw} {σ : SW} {G : Gp} {Q : QW} : wLcR vs t0 g tt te σ G Q = t0 σ G fun w G1 => refR w G1 fun p us G1 => us.length ≤ sizeLine ∧ lcR p us g tt te (swipe σ vs) us [] G1 fun zs G2 => Q (.lst zs) G2 := rfl
theorem a_forR {ks : List Bool} {ti : TIr} {g : TGw} {tb : TSw} {D : EndsW} {σ : SW} {G : Gp} : wForR ks ti g tb D σ G = ti σ G fun ws I G1 => forR I ks g tb ws D (skill σ ks) G1 := rfl
theorem a_seqR {te : TEw} {σ : SW} {G : Gp} {P : List W → (Gp → Prop) → Gp → Prop} : iSeqR te σ G P = te σ G fun w G1 => isS (asL G1 w) fun us => P us (pinOf w us) G1 := rfl
theorem a_zip2R {ta : TAw} {σ : SW} {G : Gp} {P : List W → (Gp → Prop) → Gp → Prop} : i_zip2R ta σ G P = ta σ G fun ws G1 => zipR ws G1 P := rfl
theorem a_zipR {a b : W} {G : Gp} {P : List W → (Gp → Prop) → Gp → Prop} : zipR [a, b] G P = isS (asL G a) fun xs => isS (asL G b) fun ys => P (xs.zipWith tup2 ys) (fun G => pinOf a xs G ∧ pinOf b ys G) G := rfl
theorem a_lstRg {te : TEw} {σ : SW} {G : Gp} {Q : QW} : wLstRg te σ G Q = te σ G fun w G1 => rgO w G1 fun us G2 => Q (.lst us) G2 := rfl
theorem a_lstRgM {te : TEw} {σ : SW} {G : Gp} {Q : QW} : wLstRgM te σ G Q = te σ G fun w G1 => rgO w G1 fun us G2 => ∀ p, G2 p = none → Q (.ref p) (gup G2 p (.lst us)) := rfl
theorem a_lcP {vs : List Nat} {t0 : TEw} {g : TGw} {tt : TTw} {te : TEw} {σ : SW} {G : Gp} {Q : QW} : wLcP vs t0 g tt te σ G Q = t0 σ G fun w G1 => isS (asL G1 w) fun us => us.length ≤ sizeLine ∧ lcP (pinOf w us) g tt te (swipe σ vs) us [] G1 fun zs G2 => Q (.lst zs) G2 := rfl
theorem a_lcPM {vs : List Nat} {t0 : TEw} {g : TGw} {tt : TTw} {te : TEw} {σ : SW} {G : Gp} {Q : QW} : wLcPM vs t0 g tt te σ G Q = t0 σ G fun w G1 => isS (asL G1 w) fun us => us.length ≤ sizeLine ∧ lcP (pinOf w us) g tt te (swipe σ vs) us [] G1 fun zs G2 => ∀ p, G2 p = none → Q (.ref p) (gup G2 p (.lst zs)) := rfl
theorem a_zipTR {ta : TAw} {σ : SW} {G : Gp} {P : List W → (Gp → Prop) → Gp → Prop} : i_zipTR ta σ G P = ta σ G fun ws G1 => zipTR ws G1 P := rfl
theorem a_zipTQ {a b : W} {G : Gp} {P : List W → (Gp → Prop) → Gp → Prop} : zipTR [a, b] G P = seqOf a G fun xs G2 => isS (asL G2 b) fun ys => P (xs.zipWith tup2 ys) (fun G => pinOf b ys G) G2 := rfl
theorem a_zip3R {ta : TAw} {σ : SW} {G : Gp} {P : List W → (Gp → Prop) → Gp → Prop} : i_zip3R ta σ G P = ta σ G fun ws G1 => zip3R ws G1 P := rfl
theorem a_zip3Q {a b c : W} {G : Gp} {P : List W → (Gp → Prop) → Gp → Prop} : zip3R [a, b, c] G P = isS (asL G a) fun xs => isS (asL G b) fun ys => isS (asL G c) fun zs => P (zip3W xs ys zs) (fun G => pinOf a xs G ∧ pinOf b ys G ∧ pinOf c zs G) G := rfl
theorem a_lenSetT {t : TEw} {σ : SW} {G : Gp} {Q : QW} : wLenSetT t σ G Q = t σ G fun x G1 => isS (asL G1 x) fun ws => ∃ nss : List (List Int), ws = nss.map tupI ∧ nss.length < 64 ∧ nss.Nodup ∧ Q (.int nss.length) G1 := rfl
theorem a_slice {t : TEw} {lo hi : TOw} {σ : SW} {G : Gp} {Q : QW} : wSlice t lo hi σ G Q = t σ G fun x G1 => lo σ G1 fun l G2 => hi σ G2 fun h G3 => wCut x l h G3 Q := rfl
theorem a_sliceM {t : TEw} {lo hi : TOw} {σ : SW} {G : Gp} {Q : QW} : wSliceM t lo hi σ G Q = t σ G fun x G1 => lo σ G1 fun l G2 => hi σ G2 fun h G3 => wCutM x l h G3 Q := rfl
theorem a_pN {σ : SW} {G : Gp} {P : Option Int → Gp → Prop} : wpNone σ G P = P none G := rfl
theorem a_pS {t : TEw} {σ : SW} {G : Gp} {P : Option Int → Gp → Prop} : wpSome t σ G P = t σ G fun w G1 => intO w G1 P := rfl
theorem a_augIx {to ti te : TEw} {r : RW2} {D : EndsW} {σ : SW} {G : Gp} : wAugIx to ti te r D σ G = to σ G fun o G1 => ti σ G1 fun i G2 => wGet o i G2 fun x G3 => te σ G3 fun y G4 => r x y G4 fun z G5 => setIx o i z G5 fun G6 => D.nx σ G6 := rfl
theorem a_gIx {to ti : TEw} {w : W} {σ : SW} {G : Gp} {P : SW → Gp → Prop} : gIx to ti w σ G P = to σ G fun o G1 => ti σ G1 fun i G2 => setIx o i w G2 (P σ) := rfl
theorem a_par {i j : Nat} {ta tb : TEw} {D : EndsW} {σ : SW} {G : Gp} : wPar i j (wCons ta (wCons tb wNil)) D σ G = ta σ G fun a G1 => tb σ G1 fun b G2 => D.nx (sset (sset σ i a) j b) G2 := rfl
theorem a_setF {nm f : Str} {te to : TEw} {D : EndsW} {σ : SW} {G : Gp} : wSetF nm f te to D σ G = te σ G fun y G1 => to σ G1 fun x G2 => setF nm f y x G2 fun G3 => D.nx σ G3 := rfl
theorem a_meth {nm m : Str} {sp : Spw} {to : TEw} {t : TAw} {σ : SW} {G : Gp} {Q : QW} : wMeth nm m sp to t σ G Q = to σ G fun x G1 => isS (insOf G1 x) fun o => o.1 = nm ∧ o.2.lookup m = none ∧ t σ G1 fun ws G2 => sp (x :: ws) G2 Q E0w := rfl
theorem a_make {nm : Str} {sp : Spw} {t : TAw} {σ : SW} {G : Gp} {Q : QW} : wMake nm sp t σ G Q = t σ G fun ws G1 => ∀ p, G1 p = none → sp (.ref p :: ws) (gup G1 p (.ins nm [])) (fun w G2 => w = .non ∧ Q (.ref p) G2) E0w := rfl
theorem a_makeZ {nm : Str} {sp : Spw} {t : TAw} {σ : SW} {G : Gp} {Q : QW} : wMakeZ nm sp t σ G Q = t σ G fun ws G1 => ∀ p, G1 p = none → sp (.ref p :: ws) (gup G1 p (.ins nm [])) (fun w G2 => w = .non ∧ isI (G2 p) nm fun fs => Q (.ins nm fs) (gdel G2 p)) E0w := rfl
theorem a_dnew {σ : SW} {G : Gp} {Q : QW} : wDNew σ G Q = ∀ p, G p = none → Q (.ref p) (gup G p (.dic [])) := rfl
theorem a_done {tk tv : TEw} {σ : SW} {G : Gp} {Q : QW} : wDOne tk tv σ G Q = ∀ p, G p = none → tk σ (gup G p (.dic [])) fun x G1 => tv σ G1 fun y G2 => G2 p = some (.dic []) ∧ isS (keyOf x) fun k => Q (.ref p) (gup G2 p (.dic [(nk k, y)])) := rfl
theorem a_dput {td ty tv : TEw} {D : EndsW} {σ : SW} {G : Gp} : wDPut td ty tv D σ G = tv σ G fun v G1 => td σ G1 fun x G2 => ty σ G2 fun y G3 => dPut x y v G3 fun G4 => D.nx σ G4 := rfl
theorem a_dget {x y : W} {G : Gp} {Q : QW} : wDGet x y G Q = isS (dicOf G x) fun kvs => isS (keyOf y) fun k => isS (valW kvs (nk k)) fun w => Q w G := rfl
theorem a_din {neg : Bool} {x y : W} {G : Gp} {Q : QW} : wDIn neg y x G Q = isS (dicOf G x) fun kvs => isS (keyOf y) fun k => Q (.bl (if neg then !(valW kvs (nk k)).isSome else (valW kvs (nk k)).isSome)) G := rfl
theorem a_lenD {x : W} {G : Gp} {Q : QW} : wLenD [x] G Q = isS (dicOf G x) fun kvs => Q (.int kvs.length) G := rfl
theorem a_raise {nm : Str} {D : EndsW} {σ : SW} {G : Gp} : wRaise nm D σ G = D.ex nm [] σ G := rfl
theorem a_callX {sp : Spw} {t : TAw} {Ex : EXs} {σ : SW} {G : Gp} {Q : QW} : wCallX sp t Ex σ G Q = t σ G fun ws G1 => sp ws G1 Q fun nm fs G2 => Ex nm fs σ G2 := rfl
theorem a_retX {te : EXs → TEw} {D : EndsW} {σ : SW} {G : Gp} : wRetX te D σ G = te D.ex σ G D.rt := rfl
theorem a_dropX {te : EXs → TEw} {D : EndsW} {σ : SW} {G : Gp} : wDropX te D σ G = te D.ex σ G fun _ G1 => D.nx σ G1 := rfl
theorem a_asgX {te : EXs → TEw} {g : TGw} {D : EndsW} {σ : SW} {G : Gp} : wAsgX te g D σ G = te D.ex σ G fun w G1 => g w σ G1 D.nx := rfl
theorem a_tryAs {i : Nat} {c : Str} {ES : List Str} {t : TSw} {ts : Addr → Option Addr → Str → List (Str × W) → TSw} {D : EndsW} {σ : SW} {G : Gp} : wTryAs i c ES t ts D σ G = t { D with ex := fun nm fs σ1 G1 => nm ∈ ES ∧ (subE nm c = true → ∀ a d, G1 a = none → ts a d nm fs { nx := fun σ2 G2 => D.nx (sdel σ2 i) G2, rt := D.rt, bk := fun σ2 G2 => D.bk (sdel σ2 i) G2, ct := fun σ2 G2 => D.ct (sdel σ2 i) G2 } (sset σ1 i (.exc a d nm fs)) G1) ∧ (subE nm c = false → D.ex nm fs σ1 G1) } σ G := rfl
theorem a_isE {a : Addr} {d : Option Addr} {nm : Str} {T : Str} {te : TEw} {σ : SW} {G : Gp} {Q : QW} : wIsE a d nm T te σ G Q = te σ G fun x G1 => isExc a d nm x fun _ => Q (.bl (subE nm T)) G1 := rfl
theorem a_isET {a : Addr} {d : Option Addr} {nm : Str} {Ts : List Str} {te : TEw} {σ : SW} {G : Gp} {Q : QW} : wIsET a d nm Ts te σ G Q = te σ G fun x G1 => isExc a d nm x fun _ => Q (.bl (Ts.any (subE nm))) G1 := rfl
theorem a_xf {a : Addr} {d : Option Addr} {nm : Str} {f : Str} {te : TEw} {σ : SW} {G : Gp} {Q : QW} : wXf a d nm f te σ G Q = te σ G fun x G1 => isExc a d nm x fun fs => isS (fs.lookup f) fun w => Q w G1 := rfl
theorem a_callE {a : Addr} {d : Option Addr} {nm : Str} {sp : SpE} {t : TAw} {σ : SW} {G : Gp} {Q : QW} : wCallE sp a d nm t σ G Q = t σ G fun ws G1 => sp a d nm ws G1 Q := rfl
theorem a_lstI {te : TEw} {σ : SW} {G : Gp} {P : List W → Gp → Prop} : iLstW te σ G P = te σ G fun w G1 => lstOf w G1 P := rfl
theorem a_ndget {x y : W} {G : Gp} {Q : QW} : wNGet x y G Q = isS (dcnOf G x) fun kvs => isS (keyN y) fun k => isS (valN kvs k) fun w => Q w G := rfl
theorem a_ndin {neg : Bool} {x y : W} {G : Gp} {Q : QW} : wNIn neg y x G Q = isS (dcnOf G x) fun kvs => isS (keyN y) fun k => Q (.bl (if neg then !(valN kvs k).isSome else (valN kvs k).isSome)) G := rfl
theorem a_ndnew {σ : SW} {G : Gp} {Q : QW} : wNNew σ G Q = ∀ p, G p = none → Q (.ref p) (gup G p (.dcn p [])) := rfl
theorem a_ndput {td ty tv : TEw} {D : EndsW} {σ : SW} {G : Gp} : wNPut td ty tv D σ G = tv σ G fun v G1 => td σ G1 fun x G2 => ty σ G2 fun y G3 => nPut x y v G3 fun G4 => D.nx σ G4 := rfl
theorem a_R3 {ta : TAw} {σ : SW} {G : Gp} {P : List W → Gp → Prop} : iR3 ta σ G P = ta σ G fun ws G1 => rng3 ws G1 P := rfl
theorem v_0 {w : W} {G : Gp} {Q : QW} {σ : SW} : wVar 0 (some w :: σ) G Q = Q w G := rfl
theorem g_0 {w : W} {o : Option W} {G : Gp} {P : SW → Gp → Prop} {σ : SW} : gN 0 w (o :: σ) G P = P (some w :: σ) G := rfl
theorem u_0 {te : TEw} {r : RW2} {w : W} {D : EndsW} {G : Gp} {σ : SW} : wAug 0 te r D (some w :: σ) G = te (some w :: σ) G fun y G1 => r w y G1 fun z G2 => D.nx (some z :: σ) G2 := rfl
theorem v_1 {w : W} {G : Gp} {Q : QW} {σ : SW} {a0 : Option W} : wVar 1 (a0 :: some w :: σ) G Q = Q w G := rfl
theorem g_1 {w : W} {o : Option W} {G : Gp} {P : SW → Gp → Prop} {σ : SW} {a0 : Option W} : gN 1 w (a0 :: o :: σ) G P = P (a0 :: some w :: σ) G := rfl
theorem u_1 {te : TEw} {r : RW2} {w : W} {D : EndsW} {G : Gp} {σ : SW} {a0 : Option W} : wAug 1 te r D (a0 :: some w :: σ) G = te (a0 :: some w :: σ) G fun y G1 => r w y G1 fun z G2 => D.nx (a0 :: some z :: σ) G2 := rfl
theorem v_2 {w : W} {G : Gp} {Q : QW} {σ : SW} {a0 a1 : Option W} : wVar 2 (a0 :: a1 :: some w :: σ) G Q = Q w G := rfl
theorem g_2 {w : W} {o : Option W} {G : Gp} {P : SW → Gp → Prop} {σ : SW} {a0 a1 : Option W} : gN 2 w (a0 :: a1 :: o :: σ) G P = P (a0 :: a1 :: some w :: σ) G := rfl
theorem u_2 {te : TEw} {r : RW2} {w : W} {D : EndsW} {G : Gp} {σ : SW} {a0 a1 : Option W} : wAug 2 te r D (a0 :: a1 :: some w :: σ) G = te (a0 :: a1 :: some w :: σ) G fun y G1 => r w y G1 fun z G2 => D.nx (a0 :: a1 :: some z :: σ) G2 := rfl
theorem v_3 {w : W} {G : Gp} {Q : QW} {σ : SW} {a0 a1 a2 : Option W} : wVar 3 (a0 :: a1 :: a2 :: some w :: σ) G Q = Q w G := rfl
theorem g_3 {w : W} {o : Option W} {G : Gp} {P : SW → Gp → Prop} {σ : SW} {a0 a1 a2 : Option W} : gN 3 w (a0 :: a1 :: a2 :: o :: σ) G P = P (a0 :: a1 :: a2 :: some w :: σ) G := rfl
theorem u_3 {te : TEw} {r : RW2} {w : W} {D : EndsW} {G : Gp} {σ : SW} {a0 a1 a2 : Option W} : wAug 3 te r D (a0 :: a1 :: a2 :: some w :: σ) G = te (a0 :: a1 :: a2 :: some w :: σ) G fun y G1 => r w y G1 fun z G2 => D.nx (a0 :: a1 :: a2 :: some z :: σ) G2 := rfl
theorem v_4 {w : W} {G : Gp} {Q : QW} {σ : SW} {a0 a1 a2 a3 : Option W} : wVar 4 (a0 :: a1 :: a2 :: a3 :: some w :: σ) G Q = Q w G := rfl
theorem g_4 {w : W} {o : Option W} {G : Gp} {P : SW → Gp → Prop} {σ : SW} {a0 a1 a2 a3 : Option W} : gN 4 w (a0 :: a1 :: a2 :: a3 :: o :: σ) G P = P (a0 :: a1 :: a2 :: a3 :: some w :: σ) G := rfl
theorem u_4 {te : TEw} {r : RW2} {w : W} {D : EndsW} {G : Gp} {σ : SW} {a0 a1 a2 a3 : Option W} : wAug 4 te r D (a0 :: a1 :: a2 :: a3 :: some w :: σ) G = te (a0 :: a1 :: a2 :: a3 :: some w :: σ) G fun y G1 => r w y G1 fun z G2 => D.nx (a0 :: a1 :: a2 :: a3 :: some z :: σ) G2 := rfl
theorem v_5 {w : W} {G : Gp} {Q : QW} {σ : SW} {a0 a1 a2 a3 a4 : Option W} : wVar 5 (a0 :: a1 :: a2 :: a3 :: a4 :: some w :: σ) G Q = Q w G := rfl
theorem g_5 {w : W} {o : Option W} {G : Gp} {P : SW → Gp → Prop} {σ : SW} {a0 a1 a2 a3 a4 : Option W} : gN 5 w (a0 :: a1 :: a2 :: a3 :: a4 :: o :: σ) G P = P (a0 :: a1 :: a2 :: a3 :: a4 :: some w :: σ) G := rfl
theorem u_5 {te : TEw} {r : RW2} {w : W} {D : EndsW} {G : Gp} {σ : SW} {a0 a1 a2 a3 a4 : Option W} : wAug 5 te r D (a0 :: a1 :: a2 :: a3 :: a4 :: some w :: σ) G = te (a0 :: a1 :: a2 :: a3 :: a4 :: some w :: σ) G fun y G1 => r w y G1 fun z G2 => D.nx (a0 :: a1 :: a2 :: a3 :: a4 :: some z :: σ) G2 := rfl
theorem v_6 {w : W} {G : Gp} {Q : QW} {σ : SW} {a0 a1 a2 a3 a4 a5 : Option W} : wVar 6 (a0 :: a1 :: a2 :: a3 :: a4 :: a5 :: some w :: σ) G Q = Q w G := rfl
theorem g_6 {w : W} {o : Option W} {G : Gp} {P : SW → Gp → Prop} {σ : SW} {a0 a1 a2 a3 a4 a5 : Option W} : gN 6 w (a0 :: a1 :: a2 :: a3 :: a4 :: a5 :: o :: σ) G P = P (a0 :: a1 :: a2 :: a3 :: a4 :: a5 :: some w :: σ) G := rfl
theorem u_6 {te : TEw} {r : RW2} {w : W} {D : EndsW} {G : Gp} {σ : SW} {a0 a1 a2 a3 a4 a5 : Option W} : wAug 6 te r D (a0 :: a1 :: a2 :: a3 :: a4 :: a5 :: some w :: σ) G = te (a0 :: a1 :: a2 :: a3 :: a4 :: a5 :: some w :: σ) G fun y G1 => r w y G1 fun z G2 => D.nx (a0 :: a1 :: a2 :: a3 :: a4 :: a5 :: some z :: σ) G2 := rfl
theorem v_7 {w : W} {G : Gp} {Q : QW} {σ : SW} {a0 a1 a2 a3 a4 a5 a6 : Option W} : wVar 7 (a0 :: a1 :: a2 :: a3 :: a4 :: a5 :: a6 :: some w :: σ) G Q = Q w G := rfl
theorem g_7 {w : W} {o : Option W} {G : Gp} {P : SW → Gp → Prop} {σ : SW} {a0 a1 a2 a3 a4 a5 a6 : Option W} : gN 7 w (a0 :: a1 :: a2 :: a3 :: a4 :: a5 :: a6 :: o :: σ) G P = P (a0 :: a1 :: a2 :: a3 :: a4 :: a5 :: a6 :: some w :: σ) G := rfl
theorem u_7 {te : TEw} {r : RW2} {w : W} {D : EndsW} {G : Gp} {σ : SW} {a0 a1 a2 a3 a4 a5 a6 : Option W} : wAug 7 te r D (a0 :: a1 :: a2 :: a3 :: a4 :: a5 :: a6 :: some w :: σ) G = te (a0 :: a1 :: a2 :: a3 :: a4 :: a5 :: a6 :: some w :: σ) G fun y G1 => r w y G1 fun z G2 => D.nx (a0 :: a1 :: a2 :: a3 :: a4 :: a5 :: a6 :: some z :: σ) G2 := rfl
theorem v_8 {w : W} {G : Gp} {Q : QW} {σ : SW} {a0 a1 a2 a3 a4 a5 a6 a7 : Option W} : wVar 8 (a0 :: a1 :: a2 :: a3 :: a4 :: a5 :: a6 :: a7 :: some w :: σ) G Q = Q w G := rfl
theorem g_8 {w : W} {o : Option W} {G : Gp} {P : SW → Gp → Prop} {σ : SW} {a0 a1 a2 a3 a4 a5 a6 a7 : Option W} : gN 8 w (a0 :: a1 :: a2 :: a3 :: a4 :: a5 :: a6 :: a7 :: o :: σ) G P = P (a0 :: a1 :: a2 :: a3 :: a4 :: a5 :: a6 :: a7 :: some w :: σ) G := rfl
theorem u_8 {te : TEw} {r : RW2} {w : W} {D : EndsW} {G : Gp} {σ : SW} {a0 a1 a2 a3 a4 a5 a6 a7 : Option W} : wAug 8 te r D (a0 :: a1 :: a2 :: a3 :: a4 :: a5 :: a6 :: a7 :: some w :: σ) G = te (a0 :: a1 :: a2 :: a3 :: a4 :: a5 :: a6 :: a7 :: some w :: σ) G fun y G1 => r w y G1 fun z G2 => D.nx (a0 :: a1 :: a2 :: a3 :: a4 :: a5 :: a6 :: a7 :: some z :: σ) G2 := rfl
theorem v_9 {w : W} {G : Gp} {Q : QW} {σ : SW} {a0 a1 a2 a3 a4 a5 a6 a7 a8 : Option W} : wVar 9 (a0 :: a1 :: a2 :: a3 :: a4 :: a5 :: a6 :: a7 :: a8 :: some w :: σ) G Q = Q w G := rfl
theorem g_9 {w : W} {o : Option W} {G : Gp} {P : SW → Gp → Prop} {σ : SW} {a0 a1 a2 a3 a4 a5 a6 a7 a8 : Option W} : gN 9 w (a0 :: a1 :: a2 :: a3 :: a4 :: a5 :: a6 :: a7 :: a8 :: o :: σ) G P = P (a0 :: a1 :: a2 :: a3 :: a4 :: a5 :: a6 :: a7 :: a8 :: some w :: σ) G := rfl
theorem u_9 {te : TEw} {r : RW2} {w : W} {D : EndsW} {G : Gp} {σ : SW} {a0 a1 a2 a3 a4 a5 a6 a7 a8 : Option W} : wAug 9 te r D (a0 :: a1 :: a2 :: a3 :: a4 :: a5 :: a6 :: a7 :: a8 :: some w :: σ) G = te (a0 :: a1 :: a2 :: a3 :: a4 :: a5 :: a6 :: a7 :: a8 :: some w :: σ) G fun y G1 => r w y G1 fun z G2 => D.nx (a0 :: a1 :: a2 :: a3 :: a4 :: a5 :: a6 :: a7 :: a8 :: some z :: σ) G2 := rfl
theorem v_10 {w : W} {G : Gp} {Q : QW} {σ : SW} {a0 a1 a2 a3 a4 a5 a6 a7 a8 a9 : Option W} : wVar 10 (a0 :: a1 :: a2 :: a3 :: a4 :: a5 :: a6 :: a7 :: a8 :: a9 :: some w :: σ) G Q = Q w G := rfl
theorem g_10 {w : W} {o : Option W} {G : Gp} {P : SW → Gp → Prop} {σ : SW} {a0 a1 a2 a3 a4 a5 a6 a7 a8 a9 : Option W} : gN 10 w (a0 :: a1 :: a2 :: a3 :: a4 :: a5 :: a6 :: a7 :: a8 :: a9 :: o :: σ) G P = P (a0 :: a1 :: a2 :: a3 :: a4 :: a5 :: a6 :: a7 :: a8 :: a9 :: some w :: σ) G := rfl
theorem u_10 {te : TEw} {r : RW2} {w : W} {D : EndsW} {G : Gp} {σ : SW} {a0 a1 a2 a3 a4 a5 a6 a7 a8 a9 : Option W} : wAug 10 te r D (a0 :: a1 :: a2 :: a3 :: a4 :: a5 :: a6 :: a7 :: a8 :: a9 :: some w :: σ) G = te (a0 :: a1 :: a2 :: a3 :: a4 :: a5 :: a6 :: a7 :: a8 :: a9 :: some w :: σ) G fun y G1 => r w y G1 fun z G2 => D.nx (a0 :: a1 :: a2 :: a3 :: a4 :: a5 :: a6 :: a7 :: a8 :: a9 :: some z :: σ) G2 := rfl
theorem v_11 {w : W} {G : Gp} {Q : QW} {σ : SW} {a0 a1 a2 a3 a4 a5 a6 a7 a8 a9 a10 : Option W} : wVar 11 (a0 :: a1 :: a2 :: a3 :: a4 :: a5 :: a6 :: a7 :: a8 :: a9 :: a10 :: some w :: σ) G Q = Q w G := rfl
theorem g_11 {w : W} {o : Option W} {G : Gp} {P : SW → Gp → Prop} {σ : SW} {a0 a1 a2 a3 a4 a5 a6 a7 a8 a9 a10 : Option W} : gN 11 w (a0 :: a1 :: a2 :: a3 :: a4 :: a5 :: a6 :: a7 :: a8 :: a9 :: a10 :: o :: σ) G P = P (a0 :: a1 :: a2 :: a3 :: a4 :: a5 :: a6 :: a7 :: a8 :: a9 :: a10 :: some w :: σ) G := rfl
theorem u_11 {te : TEw} {r : RW2} {w : W} {D : EndsW} {G : Gp} {σ : SW} {a0 a1 a2 a3 a4 a5 a6 a7 a8 a9 a10 : Option W} : wAug 11 te r D (a0 :: a1 :: a2 :: a3 :: a4 :: a5 :: a6 :: a7 :: a8 :: a9 :: a10 :: some w :: σ) G = te (a0 :: a1 :: a2 :: a3 :: a4 :: a5 :: a6 :: a7 :: a8 :: a9 :: a10 :: some w :: σ) G fun y G1 => r w y G1 fun z G2 => D.nx (a0 :: a1 :: a2 :: a3 :: a4 :: a5 :: a6 :: a7 :: a8 :: a9 :: a10 :: some z :: σ) G2 := rfl
theorem v_12 {w : W} {G : Gp} {Q : QW} {σ : SW} {a0 a1 a2 a3 a4 a5 a6 a7 a8 a9 a10 a11 : Option W} : wVar 12 (a0 :: a1 :: a2 :: a3 :: a4 :: a5 :: a6 :: a7 :: a8 :: a9 :: a10 :: a11 :: some w :: σ) G Q = Q w G := rfl
theorem g_12 {w : W} {o : Option W} {G : Gp} {P : SW → Gp → Prop} {σ : SW} {a0 a1 a2 a3 a4 a5 a6 a7 a8 a9 a10 a11 : Option W} : gN 12 w (a0 :: a1 :: a2 :: a3 :: a4 :: a5 :: a6 :: a7 :: a8 :: a9 :: a10 :: a11 :: o :: σ) G P = P (a0 :: a1 :: a2 :: a3 :: a4 :: a5 :: a6 :: a7 :: a8 :: a9 :: a10 :: a11 :: some w :: σ) G := rfl
theorem u_12 {te : TEw} {r : RW2} {w : W} {D : EndsW} {G : Gp} {σ : SW} {a0 a1 a2 a3 a4 a5 a6 a7 a8 a9 a10 a11 : Option W} : wAug 12 te r D (a0 :: a1 :: a2 :: a3 :: a4 :: a5 :: a6 :: a7 :: a8 :: a9 :: a10 :: a11 :: some w :: σ) G = te (a0 :: a1 :: a2 :: a3 :: a4 :: a5 :: a6 :: a7 :: a8 :: a9 :: a10 :: a11 :: some w :: σ) G fun y G1 => r w y G1 fun z G2 => D.nx (a0 :: a1 :: a2 :: a3 :: a4 :: a5 :: a6 :: a7 :: a8 :: a9 :: a10 :: a11 :: some z :: σ) G2 := rfl
theorem v_13 {w : W} {G : Gp} {Q : QW} {σ : SW} {a0 a1 a2 a3 a4 a5 a6 a7 a8 a9 a10 a11 a12 : Option W} : wVar 13 (a0 :: a1 :: a2 :: a3 :: a4 :: a5 :: a6 :: a7 :: a8 :: a9 :: a10 :: a11 :: a12 :: some w :: σ) G Q = Q w G := rfl
theorem g_13 {w : W} {o : Option W} {G : Gp} {P : SW → Gp → Prop} {σ : SW} {a0 a1 a2 a3 a4 a5 a6 a7 a8 a9 a10 a11 a12 : Option W} : gN 13 w (a0 :: a1 :: a2 :: a3 :: a4 :: a5 :: a6 :: a7 :: a8 :: a9 :: a10 :: a11 :: a12 :: o :: σ) G P = P (a0 :: a1 :: a2 :: a3 :: a4 :: a5 :: a6 :: a7 :: a8 :: a9 :: a10 :: a11 :: a12 :: some w :: σ) G := rfl
theorem u_13 {te : TEw} {r : RW2} {w : W} {D : EndsW} {G : Gp} {σ : SW} {a0 a1 a2 a3 a4 a5 a6 a7 a8 a9 a10 a11 a12 : Option W} : wAug 13 te r D (a0 :: a1 :: a2 :: a3 :: a4 :: a5 :: a6 :: a7 :: a8 :: a9 :: a10 :: a11 :: a12 :: some w :: σ) G = te (a0 :: a1 :: a2 :: a3 :: a4 :: a5 :: a6 :: a7 :: a8 :: a9 :: a10 :: a11 :: a12 :: some w :: σ) G fun y G1 => r w y G1 fun z G2 => D.nx (a0 :: a1 :: a2 :: a3 :: a4 :: a5 :: a6 :: a7 :: a8 :: a9 :: a10 :: a11 :: a12 :: some z :: σ) G2 := rfl
theorem v_14 {w : W} {G : Gp} {Q : QW} {σ : SW} {a0 a1 a2 a3 a4 a5 a6 a7 a8 a9 a10 a11 a12 a13 : Option W} : wVar 14 (a0 :: a1 :: a2 :: a3 :: a4 :: a5 :: a6 :: a7 :: a8 :: a9 :: a10 :: a11 :: a12 :: a13 :: some w :: σ) G Q = Q w G := rfl
theorem g_14 {w : W} {o : Option W} {G : Gp} {P : SW → Gp → Prop} {σ : SW} {a0 a1 a2 a3 a4 a5 a6 a7 a8 a9 a10 a11 a12 a13 : Option W} : gN 14 w (a0 :: a1 :: a2 :: a3 :: a4 :: a5 :: a6 :: a7 :: a8 :: a9 :: a10 :: a11 :: a12 :: a13 :: o :: σ) G P = P (a0 :: a1 :: a2 :: a3 :: a4 :: a5 :: a6 :: a7 :: a8 :: a9 :: a10 :: a11 :: a12 :: a13 :: some w :: σ) G := rfl
theorem u_14 {te : TEw} {r : RW2} {w : W} {D : EndsW} {G : Gp} {σ : SW} {a0 a1 a2 a3 a4 a5 a6 a7 a8 a9 a10 a11 a12 a13 : Option W} : wAug 14 te r D (a0 :: a1 :: a2 :: a3 :: a4 :: a5 :: a6 :: a7 :: a8 :: a9 :: a10 :: a11 :: a12 :: a13 :: some w :: σ) G = te (a0 :: a1 :: a2 :: a3 :: a4 :: a5 :: a6 :: a7 :: a8 :: a9 :: a10 :: a11 :: a12 :: a13 :: some w :: σ) G fun y G1 => r w y G1 fun z G2 => D.nx (a0 :: a1 :: a2 :: a3 :: a4 :: a5 :: a6 :: a7 :: a8 :: a9 :: a10 :: a11 :: a12 :: a13 :: some z :: σ) G2 := rfl
theorem v_15 {w : W} {G : Gp} {Q : QW} {σ : SW} {a0 a1 a2 a3 a4 a5 a6 a7 a8 a9 a10 a11 a12 a13 a14 : Option W} : wVar 15 (a0 :: a1 :: a2 :: a3 :: a4 :: a5 :: a6 :: a7 :: a8 :: a9 :: a10 :: a11 :: a12 :: a13 :: a14 :: some w :: σ) G Q = Q w G := rfl
theorem g_15 {w : W} {o : Option W} {G : Gp} {P : SW → Gp → Prop} {σ : SW} {a0 a1 a2 a3 a4 a5 a6 a7 a8 a9 a10 a11 a12 a13 a14 : Option W} : gN 15 w (a0 :: a1 :: a2 :: a3 :: a4 :: a5 :: a6 :: a7 :: a8 :: a9 :: a10 :: a11 :: a12 :: a13 :: a14 :: o :: σ) G P = P (a0 :: a1 :: a2 :: a3 :: a4 :: a5 :: a6 :: a7 :: a8 :: a9 :: a10 :: a11 :: a12 :: a13 :: a14 :: some w :: σ) G := rfl
theorem u_15 {te : TEw} {r : RW2} {w : W} {D : EndsW} {G : Gp} {σ : SW} {a0 a1 a2 a3 a4 a5 a6 a7 a8 a9 a10 a11 a12 a13 a14 : Option W} : wAug 15 te r D (a0 :: a1 :: a2 :: a3 :: a4 :: a5 :: a6 :: a7 :: a8 :: a9 :: a10 :: a11 :: a12 :: a13 :: a14 :: some w :: σ) G = te (a0 :: a1 :: a2 :: a3 :: a4 :: a5 :: a6 :: a7 :: a8 :: a9 :: a10 :: a11 :: a12 :: a13 :: a14 :: some w :: σ) G fun y G1 => r w y G1 fun z G2 => D.nx (a0 :: a1 :: a2 :: a3 :: a4 :: a5 :: a6 :: a7 :: a8 :: a9 :: a10 :: a11 :: a12 :: a13 :: a14 :: some z :: σ) G2 := rfl
theorem v_16 {w : W} {G : Gp} {Q : QW} {σ : SW} {a0 a1 a2 a3 a4 a5 a6 a7 a8 a9 a10 a11 a12 a13 a14 a15 : Option W} : wVar 16 (a0 :: a1 :: a2 :: a3 :: a4 :: a5 :: a6 :: a7 :: a8 :: a9 :: a10 :: a11 :: a12 :: a13 :: a14 :: a15 :: some w :: σ) G Q = Q w G := rfl
theorem g_16 {w : W} {o : Option W} {G : Gp} {P : SW → Gp → Prop} {σ : SW} {a0 a1 a2 a3 a4 a5 a6 a7 a8 a9 a10 a11 a12 a13 a14 a15 : Option W} : gN 16 w (a0 :: a1 :: a2 :: a3 :: a4 :: a5 :: a6 :: a7 :: a8 :: a9 :: a10 :: a11 :: a12 :: a13 :: a14 :: a15 :: o :: σ) G P = P (a0 :: a1 :: a2 :: a3 :: a4 :: a5 :: a6 :: a7 :: a8 :: a9 :: a10 :: a11 :: a12 :: a13 :: a14 :: a15 :: some w :: σ) G := rfl
theorem u_16 {te : TEw} {r : RW2} {w : W} {D : EndsW} {G : Gp} {σ : SW} {a0 a1 a2 a3 a4 a5 a6 a7 a8 a9 a10 a11 a12 a13 a14 a15 : Option W} : wAug 16 te r D (a0 :: a1 :: a2 :: a3 :: a4 :: a5 :: a6 :: a7 :: a8 :: a9 :: a10 :: a11 :: a12 :: a13 :: a14 :: a15 :: some w :: σ) G = te (a0 :: a1 :: a2 :: a3 :: a4 :: a5 :: a6 :: a7 :: a8 :: a9 :: a10 :: a11 :: a12 :: a13 :: a14 :: a15 :: some w :: σ) G fun y G1 => r w y G1 fun z G2 => D.nx (a0 :: a1 :: a2 :: a3 :: a4 :: a5 :: a6 :: a7 :: a8 :: a9 :: a10 :: a11 :: a12 :: a13 :: a14 :: a15 :: some z :: σ) G2 := rfl
theorem v_17 {w : W} {G : Gp} {Q : QW} {σ : SW} {a0 a1 a2 a3 a4 a5 a6 a7 a8 a9 a10 a11 a12 a13 a14 a15 a16 : Option W} : wVar 17 (a0 :: a1 :: a2 :: a3 :: a4 :: a5 :: a6 :: a7 :: a8 :: a9 :: a10 :: a11 :: a12 :: a13 :: a14 :: a15 :: a16 :: some w :: σ) G Q = Q w G := rfl
theorem g_17 {w : W} {o : Option W} {G : Gp} {P : SW → Gp → Prop} {σ : SW} {a0 a1 a2 a3 a4 a5 a6 a7 a8 a9 a10 a11 a12 a13 a14 a15 a16 : Option W} : gN 17 w (a0 :: a1 :: a2 :: a3 :: a4 :: a5 :: a6 :: a7 :: a8 :: a9 :: a10 :: a11 :: a12 :: a13 :: a14 :: a15 :: a16 :: o :: σ) G P = P (a0 :: a1 :: a2 :: a3 :: a4 :: a5 :: a6 :: a7 :: a8 :: a9 :: a10 :: a11 :: a12 :: a13 :: a14 :: a15 :: a16 :: some w :: σ) G := rfl
theorem u_17 {te : TEw} {r : RW2} {w : W} {D : EndsW} {G : Gp} {σ : SW} {a0 a1 a2 a3 a4 a5 a6 a7 a8 a9 a10 a11 a12 a13 a14 a15 a16 : Option W} : wAug 17 te r D (a0 :: a1 :: a2 :: a3 :: a4 :: a5 :: a6 :: a7 :: a8 :: a9 :: a10 :: a11 :: a12 :: a13 :: a14 :: a15 :: a16 :: some w :: σ) G = te (a0 :: a1 :: a2 :: a3 :: a4 :: a5 :: a6 :: a7 :: a8 :: a9 :: a10 :: a11 :: a12 :: a13 :: a14 :: a15 :: a16 :: some w :: σ) G fun y G1 => r w y G1 fun z G2 => D.nx (a0 :: a1 :: a2 :: a3 :: a4 :: a5 :: a6 :: a7 :: a8 :: a9 :: a10 :: a11 :: a12 :: a13 :: a14 :: a15 :: a16 :: some z :: σ) G2 := rfl
theorem v_18 {w : W} {G : Gp} {Q : QW} {σ : SW} {a0 a1 a2 a3 a4 a5 a6 a7 a8 a9 a10 a11 a12 a13 a14 a15 a16 a17 : Option W} : wVar 18 (a0 :: a1 :: a2 :: a3 :: a4 :: a5 :: a6 :: a7 :: a8 :: a9 :: a10 :: a11 :: a12 :: a13 :: a14 :: a15 :: a16 :: a17 :: some w :: σ) G Q = Q w G := rfl
theorem g_18 {w : W} {o : Option W} {G : Gp} {P : SW → Gp → Prop} {σ : SW} {a0 a1 a2 a3 a4 a5 a6 a7 a8 a9 a10 a11 a12 a13 a14 a15 a16 a17 : Option W} : gN 18 w (a0 :: a1 :: a2 :: a3 :: a4 :: a5 :: a6 :: a7 :: a8 :: a9 :: a10 :: a11 :: a12 :: a13 :: a14 :: a15 :: a16 :: a17 :: o :: σ) G P = P (a0 :: a1 :: a2 :: a3 :: a4 :: a5 :: a6 :: a7 :: a8 :: a9 :: a10 :: a11 :: a12 :: a13 :: a14 :: a15 :: a16 :: a17 :: some w :: σ) G := rfl
theorem u_18 {te : TEw} {r : RW2} {w : W} {D : EndsW} {G : Gp} {σ : SW} {a0 a1 a2 a3 a4 a5 a6 a7 a8 a9 a10 a11 a12 a13 a14 a15 a16 a17 : Option W} : wAug 18 te r D (a0 :: a1 :: a2 :: a3 :: a4 :: a5 :: a6 :: a7 :: a8 :: a9 :: a10 :: a11 :: a12 :: a13 :: a14 :: a15 :: a16 :: a17 :: some w :: σ) G = te (a0 :: a1 :: a2 :: a3 :: a4 :: a5 :: a6 :: a7 :: a8 :: a9 :: a10 :: a11 :: a12 :: a13 :: a14 :: a15 :: a16 :: a17 :: some w :: σ) G fun y G1 => r w y G1 fun z G2 => D.nx (a0 :: a1 :: a2 :: a3 :: a4 :: a5 :: a6 :: a7 :: a8 :: a9 :: a10 :: a11 :: a12 :: a13 :: a14 :: a15 :: a16 :: a17 :: some z :: σ) G2 := rfl
theorem v_19 {w : W} {G : Gp} {Q : QW} {σ : SW} {a0 a1 a2 a3 a4 a5 a6 a7 a8 a9 a10 a11 a12 a13 a14 a15 a16 a17 a18 : Option W} : wVar 19 (a0 :: a1 :: a2 :: a3 :: a4 :: a5 :: a6 :: a7 :: a8 :: a9 :: a10 :: a11 :: a12 :: a13 :: a14 :: a15 :: a16 :: a17 :: a18 :: some w :: σ) G Q = Q w G := rfl
theorem g_19 {w : W} {o : Option W} {G : Gp} {P : SW → Gp → Prop} {σ : SW} {a0 a1 a2 a3 a4 a5 a6 a7 a8 a9 a10 a11 a12 a13 a14 a15 a16 a17 a18 : Option W} : gN 19 w (a0 :: a1 :: a2 :: a3 :: a4 :: a5 :: a6 :: a7 :: a8 :: a9 :: a10 :: a11 :: a12 :: a13 :: a14 :: a15 :: a16 :: a17 :: a18 :: o :: σ) G P = P (a0 :: a1 :: a2 :: a3 :: a4 :: a5 :: a6 :: a7 :: a8 :: a9 :: a10 :: a11 :: a12 :: a13 :: a14 :: a15 :: a16 :: a17 :: a18 :: some w :: σ) G := rfl
theorem u_19 {te : TEw} {r : RW2} {w : W} {D : EndsW} {G : Gp} {σ : SW} {a0 a1 a2 a3 a4 a5 a6 a7 a8 a9 a10 a11 a12 a13 a14 a15 a16 a17 a18 : Option W} : wAug 19 te r D (a0 :: a1 :: a2 :: a3 :: a4 :: a5 :: a6 :: a7 :: a8 :: a9 :: a10 :: a11 :: a12 :: a13 :: a14 :: a15 :: a16 :: a17 :: a18 :: some w :: σ) G = te (a0 :: a1 :: a2 :: a3 :: a4 :: a5 :: a6 :: a7 :: a8 :: a9 :: a10 :: a11 :: a12 :: a13 :: a14 :: a15 :: a16 :: a17 :: a18 :: some w :: σ) G fun y G1 => r w y G1 fun z G2 => D.nx (a0 :: a1 :: a2 :: a3 :: a4 :: a5 :: a6 :: a7 :: a8 :: a9 :: a10 :: a11 :: a12 :: a13 :: a14 :: a15 :: a16 :: a17 :: a18 :: some z :: σ) G2 := rfl
theorem v_20 {w : W} {G : Gp} {Q : QW} {σ : SW} {a0 a1 a2 a3 a4 a5 a6 a7 a8 a9 a10 a11 a12 a13 a14 a15 a16 a17 a18 a19 : Option W} : wVar 20 (a0 :: a1 :: a2 :: a3 :: a4 :: a5 :: a6 :: a7 :: a8 :: a9 :: a10 :: a11 :: a12 :: a13 :: a14 :: a15 :: a16 :: a17 :: a18 :: a19 :: some w :: σ) G Q = Q w G := rfl
theorem g_20 {w : W} {o : Option W} {G : Gp} {P : SW → Gp → Prop} {σ : SW} {a0 a1 a2 a3 a4 a5 a6 a7 a8 a9 a10 a11 a12 a13 a14 a15 a16 a17 a18 a19 : Option W} : gN 20 w (a0 :: a1 :: a2 :: a3 :: a4 :: a5 :: a6 :: a7 :: a8 :: a9 :: a10 :: a11 :: a12 :: a13 :: a14 :: a15 :: a16 :: a17 :: a18 :: a19 :: o :: σ) G P = P (a0 :: a1 :: a2 :: a3 :: a4 :: a5 :: a6 :: a7 :: a8 :: a9 :: a10 :: a11 :: a12 :: a13 :: a14 :: a15 :: a16 :: a17 :: a18 :: a19 :: some w :: σ) G := rfl
theorem u_20 {te : TEw} {r : RW2} {w : W} {D : EndsW} {G : Gp} {σ : SW} {a0 a1 a2 a3 a4 a5 a6 a7 a8 a9 a10 a11 a12 a13 a14 a15 a16 a17 a18 a19 : Option W} : wAug 20 te r D (a0 :: a1 :: a2 :: a3 :: a4 :: a5 :: a6 :: a7 :: a8 :: a9 :: a10 :: a11 :: a12 :: a13 :: a14 :: a15 :: a16 :: a17 :: a18 :: a19 :: some w :: σ) G = te (a0 :: a1 :: a2 :: a3 :: a4 :: a5 :: a6 :: a7 :: a8 :: a9 :: a10 :: a11 :: a12 :: a13 :: a14 :: a15 :: a16 :: a17 :: a18 :: a19 :: some w :: σ) G fun y G1 => r w y G1 fun z G2 => D.nx (a0 :: a1 :: a2 :: a3 :: a4 :: a5 :: a6 :: a7 :: a8 :: a9 :: a10 :: a11 :: a12 :: a13 :: a14 :: a15 :: a16 :: a17 :: a18 :: a19 :: some z :: σ) G2 := rfl
theorem v_21 {w : W} {G : Gp} {Q : QW} {σ : SW} {a0 a1 a2 a3 a4 a5 a6 a7 a8 a9 a10 a11 a12 a13 a14 a15 a16 a17 a18 a19 a20 : Option W} : wVar 21 (a0 :: a1 :: a2 :: a3 :: a4 :: a5 :: a6 :: a7 :: a8 :: a9 :: a10 :: a11 :: a12 :: a13 :: a14 :: a15 :: a16 :: a17 :: a18 :: a19 :: a20 :: some w :: σ) G Q = Q w G := rfl
theorem g_21 {w : W} {o : Option W} {G : Gp} {P : SW → Gp → Prop} {σ : SW} {a0 a1 a2 a3 a4 a5 a6 a7 a8 a9 a10 a11 a12 a13 a14 a15 a16 a17 a18 a19 a20 : Option W} : gN 21 w (a0 :: a1 :: a2 :: a3 :: a4 :: a5 :: a6 :: a7 :: a8 :: a9 :: a10 :: a11 :: a12 :: a13 :: a14 :: a15 :: a16 :: a17 :: a18 :: a19 :: a20 :: o :: σ) G P = P (a0 :: a1 :: a2 :: a3 :: a4 :: a5 :: a6 :: a7 :: a8 :: a9 :: a10 :: a11 :: a12 :: a13 :: a14 :: a15 :: a16 :: a17 :: a18 :: a19 :: a20 :: some w :: σ) G := rfl
theorem u_21 {te : TEw} {r : RW2} {w : W} {D : EndsW} {G : Gp} {σ : SW} {a0 a1 a2 a3 a4 a5 a6 a7 a8 a9 a10 a11 a12 a13 a14 a15 a16 a17 a18 a19 a20 : Option W} : wAug 21 te r D (a0 :: a1 :: a2 :: a3 :: a4 :: a5 :: a6 :: a7 :: a8 :: a9 :: a10 :: a11 :: a12 :: a13 :: a14 :: a15 :: a16 :: a17 :: a18 :: a19 :: a20 :: some w :: σ) G = te (a0 :: a1 :: a2 :: a3 :: a4 :: a5 :: a6 :: a7 :: a8 :: a9 :: a10 :: a11 :: a12 :: a13 :: a14 :: a15 :: a16 :: a17 :: a18 :: a19 :: a20 :: some w :: σ) G fun y G1 => r w y G1 fun z G2 => D.nx (a0 :: a1 :: a2 :: a3 :: a4 :: a5 :: a6 :: a7 :: a8 :: a9 :: a10 :: a11 :: a12 :: a13 :: a14 :: a15 :: a16 :: a17 :: a18 :: a19 :: a20 :: some z :: σ) G2 := rfl
theorem v_22 {w : W} {G : Gp} {Q : QW} {σ : SW} {a0 a1 a2 a3 a4 a5 a6 a7 a8 a9 a10 a11 a12 a13 a14 a15 a16 a17 a18 a19 a20 a21 : Option W} : wVar 22 (a0 :: a1 :: a2 :: a3 :: a4 :: a5 :: a6 :: a7 :: a8 :: a9 :: a10 :: a11 :: a12 :: a13 :: a14 :: a15 :: a16 :: a17 :: a18 :: a19 :: a20 :: a21 :: some w :: σ) G Q = Q w G := rfl
theorem g_22 {w : W} {o : Option W} {G : Gp} {P : SW → Gp → Prop} {σ : SW} {a0 a1 a2 a3 a4 a5 a6 a7 a8 a9 a10 a11 a12 a13 a14 a15 a16 a17 a18 a19 a20 a21 : Option W} : gN 22 w (a0 :: a1 :: a2 :: a3 :: a4 :: a5 :: a6 :: a7 :: a8 :: a9 :: a10 :: a11 :: a12 :: a13 :: a14 :: a15 :: a16 :: a17 :: a18 :: a19 :: a20 :: a21 :: o :: σ) G P = P (a0 :: a1 :: a2 :: a3 :: a4 :: a5 :: a6 :: a7 :: a8 :: a9 :: a10 :: a11 :: a12 :: a13 :: a14 :: a15 :: a16 :: a17 :: a18 :: a19 :: a20 :: a21 :: some w :: σ) G := rfl
theorem u_22 {te : TEw} {r : RW2} {w : W} {D : EndsW} {G : Gp} {σ : SW} {a0 a1 a2 a3 a4 a5 a6 a7 a8 a9 a10 a11 a12 a13 a14 a15 a16 a17 a18 a19 a20 a21 : Option W} : wAug 22 te r D (a0 :: a1 :: a2 :: a3 :: a4 :: a5 :: a6 :: a7 :: a8 :: a9 :: a10 :: a11 :: a12 :: a13 :: a14 :: a15 :: a16 :: a17 :: a18 :: a19 :: a20 :: a21 :: some w :: σ) G = te (a0 :: a1 :: a2 :: a3 :: a4 :: a5 :: a6 :: a7 :: a8 :: a9 :: a10 :: a11 :: a12 :: a13 :: a14 :: a15 :: a16 :: a17 :: a18 :: a19 :: a20 :: a21 :: some w :: σ) G fun y G1 => r w y G1 fun z G2 => D.nx (a0 :: a1 :: a2 :: a3 :: a4 :: a5 :: a6 :: a7 :: a8 :: a9 :: a10 :: a11 :: a12 :: a13 :: a14 :: a15 :: a16 :: a17 :: a18 :: a19 :: a20 :: a21 :: some z :: σ) G2 := rfl
theorem v_23 {w : W} {G : Gp} {Q : QW} {σ : SW} {a0 a1 a2 a3 a4 a5 a6 a7 a8 a9 a10 a11 a12 a13 a14 a15 a16 a17 a18 a19 a20 a21 a22 : Option W} : wVar 23 (a0 :: a1 :: a2 :: a3 :: a4 :: a5 :: a6 :: a7 :: a8 :: a9 :: a10 :: a11 :: a12 :: a13 :: a14 :: a15 :: a16 :: a17 :: a18 :: a19 :: a20 :: a21 :: a22 :: some w :: σ) G Q = Q w G := rfl
theorem g_23 {w : W} {o : Option W} {G : Gp} {P : SW → Gp → Prop} {σ : SW} {a0 a1 a2 a3 a4 a5 a6 a7 a8 a9 a10 a11 a12 a13 a14 a15 a16 a17 a18 a19 a20 a21 a22 : Option W} : gN 23 w (a0 :: a1 :: a2 :: a3 :: a4 :: a5 :: a6 :: a7 :: a8 :: a9 :: a10 :: a11 :: a12 :: a13 :: a14 :: a15 :: a16 :: a17 :: a18 :: a19 :: a20 :: a21 :: a22 :: o :: σ) G P = P (a0 :: a1 :: a2 :: a3 :: a4 :: a5 :: a6 :: a7 :: a8 :: a9 :: a10 :: a11 :: a12 :: a13 :: a14 :: a15 :: a16 :: a17 :: a18 :: a19 :: a20 :: a21 :: a22 :: some w :: σ) G := rfl
theorem u_23 {te : TEw} {r : RW2} {w : W} {D : EndsW} {G : Gp} {σ : SW} {a0 a1 a2 a3 a4 a5 a6 a7 a8 a9 a10 a11 a12 a13 a14 a15 a16 a17 a18 a19 a20 a21 a22 : Option W} : wAug 23 te r D (a0 :: a1 :: a2 :: a3 :: a4 :: a5 :: a6 :: a7 :: a8 :: a9 :: a10 :: a11 :: a12 :: a13 :: a14 :: a15 :: a16 :: a17 :: a18 :: a19 :: a20 :: a21 :: a22 :: some w :: σ) G = te (a0 :: a1 :: a2 :: a3 :: a4 :: a5 :: a6 :: a7 :: a8 :: a9 :: a10 :: a11 :: a12 :: a13 :: a14 :: a15 :: a16 :: a17 :: a18 :: a19 :: a20 :: a21 :: a22 :: some w :: σ) G fun y G1 => r w y G1 fun z G2 => D.nx (a0 :: a1 :: a2 :: a3 :: a4 :: a5 :: a6 :: a7 :: a8 :: a9 :: a10 :: a11 :: a12 :: a13 :: a14 :: a15 :: a16 :: a17 :: a18 :: a19 :: a20 :: a21 :: a22 :: some z :: σ) G2 := rfl
theorem v_24 {w : W} {G : Gp} {Q : QW} {σ : SW} {a0 a1 a2 a3 a4 a5 a6 a7 a8 a9 a10 a11 a12 a13 a14 a15 a16 a17 a18 a19 a20 a21 a22 a23 : Option W} : wVar 24 (a0 :: a1 :: a2 :: a3 :: a4 :: a5 :: a6 :: a7 :: a8 :: a9 :: a10 :: a11 :: a12 :: a13 :: a14 :: a15 :: a16 :: a17 :: a18 :: a19 :: a20 :: a21 :: a22 :: a23 :: some w :: σ) G Q = Q w G := rfl
theorem g_24 {w : W} {o : Option W} {G : Gp} {P : SW → Gp → Prop} {σ : SW} {a0 a1 a2 a3 a4 a5 a6 a7 a8 a9 a10 a11 a12 a13 a14 a15 a16 a17 a18 a19 a20 a21 a22 a23 : Option W} : gN 24 w (a0 :: a1 :: a2 :: a3 :: a4 :: a5 :: a6 :: a7 :: a8 :: a9 :: a10 :: a11 :: a12 :: a13 :: a14 :: a15 :: a16 :: a17 :: a18 :: a19 :: a20 :: a21 :: a22 :: a23 :: o :: σ) G P = P (a0 :: a1 :: a2 :: a3 :: a4 :: a5 :: a6 :: a7 :: a8 :: a9 :: a10 :: a11 :: a12 :: a13 :: a14 :: a15 :: a16 :: a17 :: a18 :: a19 :: a20 :: a21 :: a22 :: a23 :: some w :: σ) G := rfl
theorem u_24 {te : TEw} {r : RW2} {w : W} {D : EndsW} {G : Gp} {σ : SW} {a0 a1 a2 a3 a4 a5 a6 a7 a8 a9 a10 a11 a12 a13 a14 a15 a16 a17 a18 a19 a20 a21 a22 a23 : Option W} : wAug 24 te r D (a0 :: a1 :: a2 :: a3 :: a4 :: a5 :: a6 :: a7 :: a8 :: a9 :: a10 :: a11 :: a12 :: a13 :: a14 :: a15 :: a16 :: a17 :: a18 :: a19 :: a20 :: a21 :: a22 :: a23 :: some w :: σ) G = te (a0 :: a1 :: a2 :: a3 :: a4 :: a5 :: a6 :: a7 :: a8 :: a9 :: a10 :: a11 :: a12 :: a13 :: a14 :: a15 :: a16 :: a17 :: a18 :: a19 :: a20 :: a21 :: a22 :: a23 :: some w :: σ) G fun y G1 => r w y G1 fun z G2 => D.nx (a0 :: a1 :: a2 :: a3 :: a4 :: a5 :: a6 :: a7 :: a8 :: a9 :: a10 :: a11 :: a12 :: a13 :: a14 :: a15 :: a16 :: a17 :: a18 :: a19 :: a20 :: a21 :: a22 :: a23 :: some z :: σ) G2 := rfl
theorem v_25 {w : W} {G : Gp} {Q : QW} {σ : SW} {a0 a1 a2 a3 a4 a5 a6 a7 a8 a9 a10 a11 a12 a13 a14 a15 a16 a17 a18 a19 a20 a21 a22 a23 a24 : Option W} : wVar 25 (a0 :: a1 :: a2 :: a3 :: a4 :: a5 :: a6 :: a7 :: a8 :: a9 :: a10 :: a11 :: a12 :: a13 :: a14 :: a15 :: a16 :: a17 :: a18 :: a19 :: a20 :: a21 :: a22 :: a23 :: a24 :: some w :: σ) G Q = Q w G := rfl
theorem g_25 {w : W} {o : Option W} {G : Gp} {P : SW → Gp → Prop} {σ : SW} {a0 a1 a2 a3 a4 a5 a6 a7 a8 a9 a10 a11 a12 a13 a14 a15 a16 a17 a18 a19 a20 a21 a22 a23 a24 : Option W} : gN 25 w (a0 :: a1 :: a2 :: a3 :: a4 :: a5 :: a6 :: a7 :: a8 :: a9 :: a10 :: a11 :: a12 :: a13 :: a14 :: a15 :: a16 :: a17 :: a18 :: a19 :: a20 :: a21 :: a22 :: a23 :: a24 :: o :: σ) G P = P (a0 :: a1 :: a2 :: a3 :: a4 :: a5 :: a6 :: a7 :: a8 :: a9 :: a10 :: a11 :: a12 :: a13 :: a14 :: a15 :: a16 :: a17 :: a18 :: a19 :: a20 :: a21 :: a22 :: a23 :: a24 :: some w :: σ) G := rfl
theorem u_25 {te : TEw} {r : RW2} {w : W} {D : EndsW} {G : Gp} {σ : SW} {a0 a1 a2 a3 a4 a5 a6 a7 a8 a9 a10 a11 a12 a13 a14 a15 a16 a17 a18 a19 a20 a21 a22 a23 a24 : Option W} : wAug 25 te r D (a0 :: a1 :: a2 :: a3 :: a4 :: a5 :: a6 :: a7 :: a8 :: a9 :: a10 :: a11 :: a12 :: a13 :: a14 :: a15 :: a16 :: a17 :: a18 :: a19 :: a20 :: a21 :: a22 :: a23 :: a24 :: some w :: σ) G = te (a0 :: a1 :: a2 :: a3 :: a4 :: a5 :: a6 :: a7 :: a8 :: a9 :: a10 :: a11 :: a12 :: a13 :: a14 :: a15 :: a16 :: a17 :: a18 :: a19 :: a20 :: a21 :: a22 :: a23 :: a24 :: some w :: σ) G fun y G1 => r w y G1 fun z G2 => D.nx (a0 :: a1 :: a2 :: a3 :: a4 :: a5 :: a6 :: a7 :: a8 :: a9 :: a10 :: a11 :: a12 :: a13 :: a14 :: a15 :: a16 :: a17 :: a18 :: a19 :: a20 :: a21 :: a22 :: a23 :: a24 :: some z :: σ) G2 := rfl
theorem f_0 {t : TSw} {p : Addr} {D : EndsW} {G : Gp} {σ : SW} : wFz 0 t D (some (.ref p) :: σ) G = isG (G p) fun ws => t D (some (.lst ws) :: σ) (gdel G p) := rfl
theorem fl_0 {t : TSw} {ws : List W} {D : EndsW} {G : Gp} {σ : SW} : wFz 0 t D (some (.lst ws) :: σ) G = t D (some (.lst ws) :: σ) G := rfl
theorem fn_0 {t : TSw} {ws : List W} {D : EndsW} {G : Gp} {σ : SW} : wFzN 0 t D (some (.lst ws) :: σ) G = fzL ws G fun zs G' => t D (some (.lst zs) :: σ) G' := rfl
theorem f_1 {t : TSw} {p : Addr} {D : EndsW} {G : Gp} {σ : SW} {a0 : Option W} : wFz 1 t D (a0 :: some (.ref p) :: σ) G = isG (G p) fun ws => t D (a0 :: some (.lst ws) :: σ) (gdel G p) := rfl
theorem fl_1 {t : TSw} {ws : List W} {D : EndsW} {G : Gp} {σ : SW} {a0 : Option W} : wFz 1 t D (a0 :: some (.lst ws) :: σ) G = t D (a0 :: some (.lst ws) :: σ) G := rfl
theorem fn_1 {t : TSw} {ws : List W} {D : EndsW} {G : Gp} {σ : SW} {a0 : Option W} : wFzN 1 t D (a0 :: some (.lst ws) :: σ) G = fzL ws G fun zs G' => t D (a0 :: some (.lst zs) :: σ) G' := rfl
theorem f_2 {t : TSw} {p : Addr} {D : EndsW} {G : Gp} {σ : SW} {a0 a1 : Option W} : wFz 2 t D (a0 :: a1 :: some (.ref p) :: σ) G = isG (G p) fun ws => t D (a0 :: a1 :: some (.lst ws) :: σ) (gdel G p) := rfl
theorem fl_2 {t : TSw} {ws : List W} {D : EndsW} {G : Gp} {σ : SW} {a0 a1 : Option W} : wFz 2 t D (a0 :: a1 :: some (.lst ws) :: σ) G = t D (a0 :: a1 :: some (.lst ws) :: σ) G := rfl
theorem fn_2 {t : TSw} {ws : List W} {D : EndsW} {G : Gp} {σ : SW} {a0 a1 : Option W} : wFzN 2 t D (a0 :: a1 :: some (.lst ws) :: σ) G = fzL ws G fun zs G' => t D (a0 :: a1 :: some (.lst zs) :: σ) G' := rfl
theorem f_3 {t : TSw} {p : Addr} {D : EndsW} {G : Gp} {σ : SW} {a0 a1 a2 : Option W} : wFz 3 t D (a0 :: a1 :: a2 :: some (.ref p) :: σ) G = isG (G p) fun ws => t D (a0 :: a1 :: a2 :: some (.lst ws) :: σ) (gdel G p) := rfl
theorem fl_3 {t : TSw} {ws : List W} {D : EndsW} {G : Gp} {σ : SW} {a0 a1 a2 : Option W} : wFz 3 t D (a0 :: a1 :: a2 :: some (.lst ws) :: σ) G = t D (a0 :: a1 :: a2 :: some (.lst ws) :: σ) G := rfl
theorem fn_3 {t : TSw} {ws : List W} {D : EndsW} {G : Gp} {σ : SW} {a0 a1 a2 : Option W} : wFzN 3 t D (a0 :: a1 :: a2 :: some (.lst ws) :: σ) G = fzL ws G fun zs G' => t D (a0 :: a1 :: a2 :: some (.lst zs) :: σ) G' := rfl
theorem f_4 {t : TSw} {p : Addr} {D : EndsW} {G : Gp} {σ : SW} {a0 a1 a2 a3 : Option W} : wFz 4 t D (a0 :: a1 :: a2 :: a3 :: some (.ref p) :: σ) G = isG (G p) fun ws => t D (a0 :: a1 :: a2 :: a3 :: some (.lst ws) :: σ) (gdel G p) := rfl
theorem fl_4 {t : TSw} {ws : List W} {D : EndsW} {G : Gp} {σ : SW} {a0 a1 a2 a3 : Option W} : wFz 4 t D (a0 :: a1 :: a2 :: a3 :: some (.lst ws) :: σ) G = t D (a0 :: a1 :: a2 :: a3 :: some (.lst ws) :: σ) G := rfl
theorem fn_4 {t : TSw} {ws : List W} {D : EndsW} {G : Gp} {σ : SW} {a0 a1 a2 a3 : Option W} : wFzN 4 t D (a0 :: a1 :: a2 :: a3 :: some (.lst ws) :: σ) G = fzL ws G fun zs G' => t D (a0 :: a1 :: a2 :: a3 :: some (.lst zs) :: σ) G' := rfl
theorem f_5 {t : TSw} {p : Addr} {D : EndsW} {G : Gp} {σ : SW} {a0 a1 a2 a3 a4 : Option W} : wFz 5 t D (a0 :: a1 :: a2 :: a3 :: a4 :: some (.ref p) :: σ) G = isG (G p) fun ws => t D (a0 :: a1 :: a2 :: a3 :: a4 :: some (.lst ws) :: σ) (gdel G p) := rfl
theorem fl_5 {t : TSw} {ws : List W} {D : EndsW} {G : Gp} {σ : SW} {a0 a1 a2 a3 a4 : Option W} : wFz 5 t D (a0 :: a1 :: a2 :: a3 :: a4 :: some (.lst ws) :: σ) G = t D (a0 :: a1 :: a2 :: a3 :: a4 :: some (.lst ws) :: σ) G := rfl
theorem fn_5 {t : TSw} {ws : List W} {D : EndsW} {G : Gp} {σ : SW} {a0 a1 a2 a3 a4 : Option W} : wFzN 5 t D (a0 :: a1 :: a2 :: a3 :: a4 :: some (.lst ws) :: σ) G = fzL ws G fun zs G' => t D (a0 :: a1 :: a2 :: a3 :: a4 :: some (.lst zs) :: σ) G' := rfl
theorem f_6 {t : TSw} {p : Addr} {D : EndsW} {G : Gp} {σ : SW} {a0 a1 a2 a3 a4 a5 : Option W} : wFz 6 t D (a0 :: a1 :: a2 :: a3 :: a4 :: a5 :: some (.ref p) :: σ) G = isG (G p) fun ws => t D (a0 :: a1 :: a2 :: a3 :: a4 :: a5 :: some (.lst ws) :: σ) (gdel G p) := rfl
theorem fl_6 {t : TSw} {ws : List W} {D : EndsW} {G : Gp} {σ : SW} {a0 a1 a2 a3 a4 a5 : Option W} : wFz 6 t D (a0 :: a1 :: a2 :: a3 :: a4 :: a5 :: some (.lst ws) :: σ) G = t D (a0 :: a1 :: a2 :: a3 :: a4 :: a5 :: some (.lst ws) :: σ) G := rfl
theorem fn_6 {t : TSw} {ws : List W} {D : EndsW} {G : Gp} {σ : SW} {a0 a1 a2 a3 a4 a5 : Option W} : wFzN 6 t D (a0 :: a1 :: a2 :: a3 :: a4 :: a5 :: some (.lst ws) :: σ) G = fzL ws G fun zs G' => t D (a0 :: a1 :: a2 :: a3 :: a4 :: a5 :: some (.lst zs) :: σ) G' := rfl
theorem f_7 {t : TSw} {p : Addr} {D : EndsW} {G : Gp} {σ : SW} {a0 a1 a2 a3 a4 a5 a6 : Option W} : wFz 7 t D (a0 :: a1 :: a2 :: a3 :: a4 :: a5 :: a6 :: some (.ref p) :: σ) G = isG (G p) fun ws => t D (a0 :: a1 :: a2 :: a3 :: a4 :: a5 :: a6 :: some (.lst ws) :: σ) (gdel G p) := rfl
theorem fl_7 {t : TSw} {ws : List W} {D : EndsW} {G : Gp} {σ : SW} {a0 a1 a2 a3 a4 a5 a6 : Option W} : wFz 7 t D (a0 :: a1 :: a2 :: a3 :: a4 :: a5 :: a6 :: some (.lst ws) :: σ) G = t D (a0 :: a1 :: a2 :: a3 :: a4 :: a5 :: a6 :: some (.lst ws) :: σ) G := rfl
theorem fn_7 {t : TSw} {ws : List W} {D : EndsW} {G : Gp} {σ : SW} {a0 a1 a2 a3 a4 a5 a6 : Option W} : wFzN 7 t D (a0 :: a1 :: a2 :: a3 :: a4 :: a5 :: a6 :: some (.lst ws) :: σ) G = fzL ws G fun zs G' => t D (a0 :: a1 :: a2 :: a3 :: a4 :: a5 :: a6 :: some (.lst zs) :: σ) G' := rfl
theorem f_8 {t : TSw} {p : Addr} {D : EndsW} {G : Gp} {σ : SW} {a0 a1 a2 a3 a4 a5 a6 a7 : Option W} : wFz 8 t D (a0 :: a1 :: a2 :: a3 :: a4 :: a5 :: a6 :: a7 :: some (.ref p) :: σ) G = isG (G p) fun ws => t D (a0 :: a1 :: a2 :: a3 :: a4 :: a5 :: a6 :: a7 :: some (.lst ws) :: σ) (gdel G p) := rfl
theorem fl_8 {t : TSw} {ws : List W} {D : EndsW} {G : Gp} {σ : SW} {a0 a1 a2 a3 a4 a5 a6 a7 : Option W} : wFz 8 t D (a0 :: a1 :: a2 :: a3 :: a4 :: a5 :: a6 :: a7 :: some (.lst ws) :: σ) G = t D (a0 :: a1 :: a2 :: a3 :: a4 :: a5 :: a6 :: a7 :: some (.lst ws) :: σ) G := rfl
theorem fn_8 {t : TSw} {ws : List W} {D : EndsW} {G : Gp} {σ : SW} {a0 a1 a2 a3 a4 a5 a6 a7 : Option W} : wFzN 8 t D (a0 :: a1 :: a2 :: a3 :: a4 :: a5 :: a6 :: a7 :: some (.lst ws) :: σ) G = fzL ws G fun zs G' => t D (a0 :: a1 :: a2 :: a3 :: a4 :: a5 :: a6 :: a7 :: some (.lst zs) :: σ) G' := rfl
theorem f_9 {t : TSw} {p : Addr} {D : EndsW} {G : Gp} {σ : SW} {a0 a1 a2 a3 a4 a5 a6 a7 a8 : Option W} : wFz 9 t D (a0 :: a1 :: a2 :: a3 :: a4 :: a5 :: a6 :: a7 :: a8 :: some (.ref p) :: σ) G = isG (G p) fun ws => t D (a0 :: a1 :: a2 :: a3 :: a4 :: a5 :: a6 :: a7 :: a8 :: some (.lst ws) :: σ) (gdel G p) := rfl
theorem fl_9 {t : TSw} {ws : List W} {D : EndsW} {G : Gp} {σ : SW} {a0 a1 a2 a3 a4 a5 a6 a7 a8 : Option W} : wFz 9 t D (a0 :: a1 :: a2 :: a3 :: a4 :: a5 :: a6 :: a7 :: a8 :: some (.lst ws) :: σ) G = t D (a0 :: a1 :: a2 :: a3 :: a4 :: a5 :: a6 :: a7 :: a8 :: some (.lst ws) :: σ) G := rfl
theorem fn_9 {t : TSw} {ws : List W} {D : EndsW} {G : Gp} {σ : SW} {a0 a1 a2 a3 a4 a5 a6 a7 a8 : Option W} : wFzN 9 t D (a0 :: a1 :: a2 :: a3 :: a4 :: a5 :: a6 :: a7 :: a8 :: some (.lst ws) :: σ) G = fzL ws G fun zs G' => t D (a0 :: a1 :: a2 :: a3 :: a4 :: a5 :: a6 :: a7 :: a8 :: some (.lst zs) :: σ) G' := rfl
theorem f_10 {t : TSw} {p : Addr} {D : EndsW} {G : Gp} {σ : SW} {a0 a1 a2 a3 a4 a5 a6 a7 a8 a9 : Option W} : wFz 10 t D (a0 :: a1 :: a2 :: a3 :: a4 :: a5 :: a6 :: a7 :: a8 :: a9 :: some (.ref p) :: σ) G = isG (G p) fun ws => t D (a0 :: a1 :: a2 :: a3 :: a4 :: a5 :: a6 :: a7 :: a8 :: a9 :: some (.lst ws) :: σ) (gdel G p) := rfl
theorem fl_10 {t : TSw} {ws : List W} {D : EndsW} {G : Gp} {σ : SW} {a0 a1 a2 a3 a4 a5 a6 a7 a8 a9 : Option W} : wFz 10 t D (a0 :: a1 :: a2 :: a3 :: a4 :: a5 :: a6 :: a7 :: a8 :: a9 :: some (.lst ws) :: σ) G = t D (a0 :: a1 :: a2 :: a3 :: a4 :: a5 :: a6 :: a7 :: a8 :: a9 :: some (.lst ws) :: σ) G := rfl
theorem fn_10 {t : TSw} {ws : List W} {D : EndsW} {G : Gp} {σ : SW} {a0 a1 a2 a3 a4 a5 a6 a7 a8 a9 : Option W} : wFzN 10 t D (a0 :: a1 :: a2 :: a3 :: a4 :: a5 :: a6 :: a7 :: a8 :: a9 :: some (.lst ws) :: σ) G = fzL ws G fun zs G' => t D (a0 :: a1 :: a2 :: a3 :: a4 :: a5 :: a6 :: a7 :: a8 :: a9 :: some (.lst zs) :: σ) G' := rfl
theorem f_11 {t : TSw} {p : Addr} {D : EndsW} {G : Gp} {σ : SW} {a0 a1 a2 a3 a4 a5 a6 a7 a8 a9 a10 : Option W} : wFz 11 t D (a0 :: a1 :: a2 :: a3 :: a4 :: a5 :: a6 :: a7 :: a8 :: a9 :: a10 :: some (.ref p) :: σ) G = isG (G p) fun ws => t D (a0 :: a1 :: a2 :: a3 :: a4 :: a5 :: a6 :: a7 :: a8 :: a9 :: a10 :: some (.lst ws) :: σ) (gdel G p) := rfl
theorem fl_11 {t : TSw} {ws : List W} {D : EndsW} {G : Gp} {σ : SW} {a0 a1 a2 a3 a4 a5 a6 a7 a8 a9 a10 : Option W} : wFz 11 t D (a0 :: a1 :: a2 :: a3 :: a4 :: a5 :: a6 :: a7 :: a8 :: a9 :: a10 :: some (.lst ws) :: σ) G = t D (a0 :: a1 :: a2 :: a3 :: a4 :: a5 :: a6 :: a7 :: a8 :: a9 :: a10 :: some (.lst ws) :: σ) G := rfl
theorem fn_11 {t : TSw} {ws : List W} {D : EndsW} {G : Gp} {σ : SW} {a0 a1 a2 a3 a4 a5 a6 a7 a8 a9 a10 : Option W} : wFzN 11 t D (a0 :: a1 :: a2 :: a3 :: a4 :: a5 :: a6 :: a7 :: a8 :: a9 :: a10 :: some (.lst ws) :: σ) G = fzL ws G fun zs G' => t D (a0 :: a1 :: a2 :: a3 :: a4 :: a5 :: a6 :: a7 :: a8 :: a9 :: a10 :: some (.lst zs) :: σ) G' := rfl
theorem f_12 {t : TSw} {p : Addr} {D : EndsW} {G : Gp} {σ : SW} {a0 a1 a2 a3 a4 a5 a6 a7 a8 a9 a10 a11 : Option W} : wFz 12 t D (a0 :: a1 :: a2 :: a3 :: a4 :: a5 :: a6 :: a7 :: a8 :: a9 :: a10 :: a11 :: some (.ref p) :: σ) G = isG (G p) fun ws => t D (a0 :: a1 :: a2 :: a3 :: a4 :: a5 :: a6 :: a7 :: a8 :: a9 :: a10 :: a11 :: some (.lst ws) :: σ) (gdel G p) := rfl
theorem fl_12 {t : TSw} {ws : List W} {D : EndsW} {G : Gp} {σ : SW} {a0 a1 a2 a3 a4 a5 a6 a7 a8 a9 a10 a11 : Option W} : wFz 12 t D (a0 :: a1 :: a2 :: a3 :: a4 :: a5 :: a6 :: a7 :: a8 :: a9 :: a10 :: a11 :: some (.lst ws) :: σ) G = t D (a0 :: a1 :: a2 :: a3 :: a4 :: a5 :: a6 :: a7 :: a8 :: a9 :: a10 :: a11 :: some (.lst ws) :: σ) G := rfl
theorem fn_12 {t : TSw} {ws : List W} {D : EndsW} {G : Gp} {σ : SW} {a0 a1 a2 a3 a4 a5 a6 a7 a8 a9 a10 a11 : Option W} : wFzN 12 t D (a0 :: a1 :: a2 :: a3 :: a4 :: a5 :: a6 :: a7 :: a8 :: a9 :: a10 :: a11 :: some (.lst ws) :: σ) G = fzL ws G fun zs G' => t D (a0 :: a1 :: a2 :: a3 :: a4 :: a5 :: a6 :: a7 :: a8 :: a9 :: a10 :: a11 :: some (.lst zs) :: σ) G' := rfl
theorem f_13 {t : TSw} {p : Addr} {D : EndsW} {G : Gp} {σ : SW} {a0 a1 a2 a3 a4 a5 a6 a7 a8 a9 a10 a11 a12 : Option W} : wFz 13 t D (a0 :: a1 :: a2 :: a3 :: a4 :: a5 :: a6 :: a7 :: a8 :: a9 :: a10 :: a11 :: a12 :: some (.ref p) :: σ) G = isG (G p) fun ws => t D (a0 :: a1 :: a2 :: a3 :: a4 :: a5 :: a6 :: a7 :: a8 :: a9 :: a10 :: a11 :: a12 :: some (.lst ws) :: σ) (gdel G p) := rfl
theorem fl_13 {t : TSw} {ws : List W} {D : EndsW} {G : Gp} {σ : SW} {a0 a1 a2 a3 a4 a5 a6 a7 a8 a9 a10 a11 a12 : Option W} : wFz 13 t D (a0 :: a1 :: a2 :: a3 :: a4 :: a5 :: a6 :: a7 :: a8 :: a9 :: a10 :: a11 :: a12 :: some (.lst ws) :: σ) G = t D (a0 :: a1 :: a2 :: a3 :: a4 :: a5 :: a6 :: a7 :: a8 :: a9 :: a10 :: a11 :: a12 :: some (.lst ws) :: σ) G := rfl
theorem fn_13 {t : TSw} {ws : List W} {D : EndsW} {G : Gp} {σ : SW} {a0 a1 a2 a3 a4 a5 a6 a7 a8 a9 a10 a11 a12 : Option W} : wFzN 13 t D (a0 :: a1 :: a2 :: a3 :: a4 :: a5 :: a6 :: a7 :: a8 :: a9 :: a10 :: a11 :: a12 :: some (.lst ws) :: σ) G = fzL ws G fun zs G' => t D (a0 :: a1 :: a2 :: a3 :: a4 :: a5 :: a6 :: a7 :: a8 :: a9 :: a10 :: a11 :: a12 :: some (.lst zs) :: σ) G' := rfl
theorem f_14 {t : TSw} {p : Addr} {D : EndsW} {G : Gp} {σ : SW} {a0 a1 a2 a3 a4 a5 a6 a7 a8 a9 a10 a11 a12 a13 : Option W} : wFz 14 t D (a0 :: a1 :: a2 :: a3 :: a4 :: a5 :: a6 :: a7 :: a8 :: a9 :: a10 :: a11 :: a12 :: a13 :: some (.ref p) :: σ) G = isG (G p) fun ws => t D (a0 :: a1 :: a2 :: a3 :: a4 :: a5 :: a6 :: a7 :: a8 :: a9 :: a10 :: a11 :: a12 :: a13 :: some (.lst ws) :: σ) (gdel G p) := rfl
theorem fl_14 {t : TSw} {ws : List W} {D : EndsW} {G : Gp} {σ : SW} {a0 a1 a2 a3 a4 a5 a6 a7 a8 a9 a10 a11 a12 a13 : Option W} : wFz 14 t D (a0 :: a1 :: a2 :: a3 :: a4 :: a5 :: a6 :: a7 :: a8 :: a9 :: a10 :: a11 :: a12 :: a13 :: some (.lst ws) :: σ) G = t D (a0 :: a1 :: a2 :: a3 :: a4 :: a5 :: a6 :: a7 :: a8 :: a9 :: a10 :: a11 :: a12 :: a13 :: some (.lst ws) :: σ) G := rfl
theorem fn_14 {t : TSw} {ws : List W} {D : EndsW} {G : Gp} {σ : SW} {a0 a1 a2 a3 a4 a5 a6 a7 a8 a9 a10 a11 a12 a13 : Option W} : wFzN 14 t D (a0 :: a1 :: a2 :: a3 :: a4 :: a5 :: a6 :: a7 :: a8 :: a9 :: a10 :: a11 :: a12 :: a13 :: some (.lst ws) :: σ) G = fzL ws G fun zs G' => t D (a0 :: a1 :: a2 :: a3 :: a4 :: a5 :: a6 :: a7 :: a8 :: a9 :: a10 :: a11 :: a12 :: a13 :: some (.lst zs) :: σ) G' := rfl
theorem f_15 {t : TSw} {p : Addr} {D : EndsW} {G : Gp} {σ : SW} {a0 a1 a2 a3 a4 a5 a6 a7 a8 a9 a10 a11 a12 a13 a14 : Option W} : wFz 15 t D (a0 :: a1 :: a2 :: a3 :: a4 :: a5 :: a6 :: a7 :: a8 :: a9 :: a10 :: a11 :: a12 :: a13 :: a14 :: some (.ref p) :: σ) G = isG (G p) fun ws => t D (a0 :: a1 :: a2 :: a3 :: a4 :: a5 :: a6 :: a7 :: a8 :: a9 :: a10 :: a11 :: a12 :: a13 :: a14 :: some (.lst ws) :: σ) (gdel G p) := rfl
theorem fl_15 {t : TSw} {ws : List W} {D : EndsW} {G : Gp} {σ : SW} {a0 a1 a2 a3 a4 a5 a6 a7 a8 a9 a10 a11 a12 a13 a14 : Option W} : wFz 15 t D (a0 :: a1 :: a2 :: a3 :: a4 :: a5 :: a6 :: a7 :: a8 :: a9 :: a10 :: a11 :: a12 :: a13 :: a14 :: some (.lst ws) :: σ) G = t D (a0 :: a1 :: a2 :: a3 :: a4 :: a5 :: a6 :: a7 :: a8 :: a9 :: a10 :: a11 :: a12 :: a13 :: a14 :: some (.lst ws) :: σ) G := rfl
theorem fn_15 {t : TSw} {ws : List W} {D : EndsW} {G : Gp} {σ : SW} {a0 a1 a2 a3 a4 a5 a6 a7 a8 a9 a10 a11 a12 a13 a14 : Option W} : wFzN 15 t D (a0 :: a1 :: a2 :: a3 :: a4 :: a5 :: a6 :: a7 :: a8 :: a9 :: a10 :: a11 :: a12 :: a13 :: a14 :: some (.lst ws) :: σ) G = fzL ws G fun zs G' => t D (a0 :: a1 :: a2 :: a3 :: a4 :: a5 :: a6 :: a7 :: a8 :: a9 :: a10 :: a11 :: a12 :: a13 :: a14 :: some (.lst zs) :: σ) G' := rfl
theorem f_16 {t : TSw} {p : Addr} {D : EndsW} {G : Gp} {σ : SW} {a0 a1 a2 a3 a4 a5 a6 a7 a8 a9 a10 a11 a12 a13 a14 a15 : Option W} : wFz 16 t D (a0 :: a1 :: a2 :: a3 :: a4 :: a5 :: a6 :: a7 :: a8 :: a9 :: a10 :: a11 :: a12 :: a13 :: a14 :: a15 :: some (.ref p) :: σ) G = isG (G p) fun ws => t D (a0 :: a1 :: a2 :: a3 :: a4 :: a5 :: a6 :: a7 :: a8 :: a9 :: a10 :: a11 :: a12 :: a13 :: a14 :: a15 :: some (.lst ws) :: σ) (gdel G p) := rfl
theorem fl_16 {t : TSw} {ws : List W} {D : EndsW} {G : Gp} {σ : SW} {a0 a1 a2 a3 a4 a5 a6 a7 a8 a9 a10 a11 a12 a13 a14 a15 : Option W} : wFz 16 t D (a0 :: a1 :: a2 :: a3 :: a4 :: a5 :: a6 :: a7 :: a8 :: a9 :: a10 :: a11 :: a12 :: a13 :: a14 :: a15 :: some (.lst ws) :: σ) G = t D (a0 :: a1 :: a2 :: a3 :: a4 :: a5 :: a6 :: a7 :: a8 :: a9 :: a10 :: a11 :: a12 :: a13 :: a14 :: a15 :: some (.lst ws) :: σ) G := rfl
theorem fn_16 {t : TSw} {ws : List W} {D : EndsW} {G : Gp} {σ : SW} {a0 a1 a2 a3 a4 a5 a6 a7 a8 a9 a10 a11 a12 a13 a14 a15 : Option W} : wFzN 16 t D (a0 :: a1 :: a2 :: a3 :: a4 :: a5 :: a6 :: a7 :: a8 :: a9 :: a10 :: a11 :: a12 :: a13 :: a14 :: a15 :: some (.lst ws) :: σ) G = fzL ws G fun zs G' => t D (a0 :: a1 :: a2 :: a3 :: a4 :: a5 :: a6 :: a7 :: a8 :: a9 :: a10 :: a11 :: a12 :: a13 :: a14 :: a15 :: some (.lst zs) :: σ) G' := rfl
theorem f_17 {t : TSw} {p : Addr} {D : EndsW} {G : Gp} {σ : SW} {a0 a1 a2 a3 a4 a5 a6 a7 a8 a9 a10 a11 a12 a13 a14 a15 a16 : Option W} : wFz 17 t D (a0 :: a1 :: a2 :: a3 :: a4 :: a5 :: a6 :: a7 :: a8 :: a9 :: a10 :: a11 :: a12 :: a13 :: a14 :: a15 :: a16 :: some (.ref p) :: σ) G = isG (G p) fun ws => t D (a0 :: a1 :: a2 :: a3 :: a4 :: a5 :: a6 :: a7 :: a8 :: a9 :: a10 :: a11 :: a12 :: a13 :: a14 :: a15 :: a16 :: some (.lst ws) :: σ) (gdel G p) := rfl
theorem fl_17 {t : TSw} {ws : List W} {D : EndsW} {G : Gp} {σ : SW} {a0 a1 a2 a3 a4 a5 a6 a7 a8 a9 a10 a11 a12 a13 a14 a15 a16 : Option W} : wFz 17 t D (a0 :: a1 :: a2 :: a3 :: a4 :: a5 :: a6 :: a7 :: a8 :: a9 :: a10 :: a11 :: a12 :: a13 :: a14 :: a15 :: a16 :: some (.lst ws) :: σ) G = t D (a0 :: a1 :: a2 :: a3 :: a4 :: a5 :: a6 :: a7 :: a8 :: a9 :: a10 :: a11 :: a12 :: a13 :: a14 :: a15 :: a16 :: some (.lst ws) :: σ) G := rfl
theorem fn_17 {t : TSw} {ws : List W} {D : EndsW} {G : Gp} {σ : SW} {a0 a1 a2 a3 a4 a5 a6 a7 a8 a9 a10 a11 a12 a13 a14 a15 a16 : Option W} : wFzN 17 t D (a0 :: a1 :: a2 :: a3 :: a4 :: a5 :: a6 :: a7 :: a8 :: a9 :: a10 :: a11 :: a12 :: a13 :: a14 :: a15 :: a16 :: some (.lst ws) :: σ) G = fzL ws G fun zs G' => t D (a0 :: a1 :: a2 :: a3 :: a4 :: a5 :: a6 :: a7 :: a8 :: a9 :: a10 :: a11 :: a12 :: a13 :: a14 :: a15 :: a16 :: some (.lst zs) :: σ) G' := rfl
theorem f_18 {t : TSw} {p : Addr} {D : EndsW} {G : Gp} {σ : SW} {a0 a1 a2 a3 a4 a5 a6 a7 a8 a9 a10 a11 a12 a13 a14 a15 a16 a17 : Option W} : wFz 18 t D (a0 :: a1 :: a2 :: a3 :: a4 :: a5 :: a6 :: a7 :: a8 :: a9 :: a10 :: a11 :: a12 :: a13 :: a14 :: a15 :: a16 :: a17 :: some (.ref p) :: σ) G = isG (G p) fun ws => t D (a0 :: a1 :: a2 :: a3 :: a4 :: a5 :: a6 :: a7 :: a8 :: a9 :: a10 :: a11 :: a12 :: a13 :: a14 :: a15 :: a16 :: a17 :: some (.lst ws) :: σ) (gdel G p) := rfl
theorem fl_18 {t : TSw} {ws : List W} {D : EndsW} {G : Gp} {σ : SW} {a0 a1 a2 a3 a4 a5 a6 a7 a8 a9 a10 a11 a12 a13 a14 a15 a16 a17 : Option W} : wFz 18 t D (a0 :: a1 :: a2 :: a3 :: a4 :: a5 :: a6 :: a7 :: a8 :: a9 :: a10 :: a11 :: a12 :: a13 :: a14 :: a15 :: a16 :: a17 :: some (.lst ws) :: σ) G = t D (a0 :: a1 :: a2 :: a3 :: a4 :: a5 :: a6 :: a7 :: a8 :: a9 :: a10 :: a11 :: a12 :: a13 :: a14 :: a15 :: a16 :: a17 :: some (.lst ws) :: σ) G := rfl
theorem fn_18 {t : TSw} {ws : List W} {D : EndsW} {G : Gp} {σ : SW} {a0 a1 a2 a3 a4 a5 a6 a7 a8 a9 a10 a11 a12 a13 a14 a15 a16 a17 : Option W} : wFzN 18 t D (a0 :: a1 :: a2 :: a3 :: a4 :: a5 :: a6 :: a7 :: a8 :: a9 :: a10 :: a11 :: a12 :: a13 :: a14 :: a15 :: a16 :: a17 :: some (.lst ws) :: σ) G = fzL ws G fun zs G' => t D (a0 :: a1 :: a2 :: a3 :: a4 :: a5 :: a6 :: a7 :: a8 :: a9 :: a10 :: a11 :: a12 :: a13 :: a14 :: a15 :: a16 :: a17 :: some (.lst zs) :: σ) G' := rfl
theorem f_19 {t : TSw} {p : Addr} {D : EndsW} {G : Gp} {σ : SW} {a0 a1 a2 a3 a4 a5 a6 a7 a8 a9 a10 a11 a12 a13 a14 a15 a16 a17 a18 : Option W} : wFz 19 t D (a0 :: a1 :: a2 :: a3 :: a4 :: a5 :: a6 :: a7 :: a8 :: a9 :: a10 :: a11 :: a12 :: a13 :: a14 :: a15 :: a16 :: a17 :: a18 :: some (.ref p) :: σ) G = isG (G p) fun ws => t D (a0 :: a1 :: a2 :: a3 :: a4 :: a5 :: a6 :: a7 :: a8 :: a9 :: a10 :: a11 :: a12 :: a13 :: a14 :: a15 :: a16 :: a17 :: a18 :: some (.lst ws) :: σ) (gdel G p) := rfl
theorem fl_19 {t : TSw} {ws : List W} {D : EndsW} {G : Gp} {σ : SW} {a0 a1 a2 a3 a4 a5 a6 a7 a8 a9 a10 a11 a12 a13 a14 a15 a16 a17 a18 : Option W} : wFz 19 t D (a0 :: a1 :: a2 :: a3 :: a4 :: a5 :: a6 :: a7 :: a8 :: a9 :: a10 :: a11 :: a12 :: a13 :: a14 :: a15 :: a16 :: a17 :: a18 :: some (.lst ws) :: σ) G = t D (a0 :: a1 :: a2 :: a3 :: a4 :: a5 :: a6 :: a7 :: a8 :: a9 :: a10 :: a11 :: a12 :: a13 :: a14 :: a15 :: a16 :: a17 :: a18 :: some (.lst ws) :: σ) G := rfl
theorem fn_19 {t : TSw} {ws : List W} {D : EndsW} {G : Gp} {σ : SW} {a0 a1 a2 a3 a4 a5 a6 a7 a8 a9 a10 a11 a12 a13 a14 a15 a16 a17 a18 : Option W} : wFzN 19 t D (a0 :: a1 :: a2 :: a3 :: a4 :: a5 :: a6 :: a7 :: a8 :: a9 :: a10 :: a11 :: a12 :: a13 :: a14 :: a15 :: a16 :: a17 :: a18 :: some (.lst ws) :: σ) G = fzL ws G fun zs G' => t D (a0 :: a1 :: a2 :: a3 :: a4 :: a5 :: a6 :: a7 :: a8 :: a9 :: a10 :: a11 :: a12 :: a13 :: a14 :: a15 :: a16 :: a17 :: a18 :: some (.lst zs) :: σ) G' := rfl
theorem f_20 {t : TSw} {p : Addr} {D : EndsW} {G : Gp} {σ : SW} {a0 a1 a2 a3 a4 a5 a6 a7 a8 a9 a10 a11 a12 a13 a14 a15 a16 a17 a18 a19 : Option W} : wFz 20 t D (a0 :: a1 :: a2 :: a3 :: a4 :: a5 :: a6 :: a7 :: a8 :: a9 :: a10 :: a11 :: a12 :: a13 :: a14 :: a15 :: a16 :: a17 :: a18 :: a19 :: some (.ref p) :: σ) G = isG (G p) fun ws => t D (a0 :: a1 :: a2 :: a3 :: a4 :: a5 :: a6 :: a7 :: a8 :: a9 :: a10 :: a11 :: a12 :: a13 :: a14 :: a15 :: a16 :: a17 :: a18 :: a19 :: some (.lst ws) :: σ) (gdel G p) := rfl
theorem fl_20 {t : TSw} {ws : List W} {D : EndsW} {G : Gp} {σ : SW} {a0 a1 a2 a3 a4 a5 a6 a7 a8 a9 a10 a11 a12 a13 a14 a15 a16 a17 a18 a19 : Option W} : wFz 20 t D (a0 :: a1 :: a2 :: a3 :: a4 :: a5 :: a6 :: a7 :: a8 :: a9 :: a10 :: a11 :: a12 :: a13 :: a14 :: a15 :: a16 :: a17 :: a18 :: a19 :: some (.lst ws) :: σ) G = t D (a0 :: a1 :: a2 :: a3 :: a4 :: a5 :: a6 :: a7 :: a8 :: a9 :: a10 :: a11 :: a12 :: a13 :: a14 :: a15 :: a16 :: a17 :: a18 :: a19 :: some (.lst ws) :: σ) G := rfl
theorem fn_20 {t : TSw} {ws : List W} {D : EndsW} {G : Gp} {σ : SW} {a0 a1 a2 a3 a4 a5 a6 a7 a8 a9 a10 a11 a12 a13 a14 a15 a16 a17 a18 a19 : Option W} : wFzN 20 t D (a0 :: a1 :: a2 :: a3 :: a4 :: a5 :: a6 :: a7 :: a8 :: a9 :: a10 :: a11 :: a12 :: a13 :: a14 :: a15 :: a16 :: a17 :: a18 :: a19 :: some (.lst ws) :: σ) G = fzL ws G fun zs G' => t D (a0 :: a1 :: a2 :: a3 :: a4 :: a5 :: a6 :: a7 :: a8 :: a9 :: a10 :: a11 :: a12 :: a13 :: a14 :: a15 :: a16 :: a17 :: a18 :: a19 :: some (.lst zs) :: σ) G' := rfl
theorem f_21 {t : TSw} {p : Addr} {D : EndsW} {G : Gp} {σ : SW} {a0 a1 a2 a3 a4 a5 a6 a7 a8 a9 a10 a11 a12 a13 a14 a15 a16 a17 a18 a19 a20 : Option W} : wFz 21 t D (a0 :: a1 :: a2 :: a3 :: a4 :: a5 :: a6 :: a7 :: a8 :: a9 :: a10 :: a11 :: a12 :: a13 :: a14 :: a15 :: a16 :: a17 :: a18 :: a19 :: a20 :: some (.ref p) :: σ) G = isG (G p) fun ws => t D (a0 :: a1 :: a2 :: a3 :: a4 :: a5 :: a6 :: a7 :: a8 :: a9 :: a10 :: a11 :: a12 :: a13 :: a14 :: a15 :: a16 :: a17 :: a18 :: a19 :: a20 :: some (.lst ws) :: σ) (gdel G p) := rfl
theorem fl_21 {t : TSw} {ws : List W} {D : EndsW} {G : Gp} {σ : SW} {a0 a1 a2 a3 a4 a5 a6 a7 a8 a9 a10 a11 a12 a13 a14 a15 a16 a17 a18 a19 a20 : Option W} : wFz 21 t D (a0 :: a1 :: a2 :: a3 :: a4 :: a5 :: a6 :: a7 :: a8 :: a9 :: a10 :: a11 :: a12 :: a13 :: a14 :: a15 :: a16 :: a17 :: a18 :: a19 :: a20 :: some (.lst ws) :: σ) G = t D (a0 :: a1 :: a2 :: a3 :: a4 :: a5 :: a6 :: a7 :: a8 :: a9 :: a10 :: a11 :: a12 :: a13 :: a14 :: a15 :: a16 :: a17 :: a18 :: a19 :: a20 :: some (.lst ws) :: σ) G := rfl
theorem fn_21 {t : TSw} {ws : List W} {D : EndsW} {G : Gp} {σ : SW} {a0 a1 a2 a3 a4 a5 a6 a7 a8 a9 a10 a11 a12 a13 a14 a15 a16 a17 a18 a19 a20 : Option W} : wFzN 21 t D (a0 :: a1 :: a2 :: a3 :: a4 :: a5 :: a6 :: a7 :: a8 :: a9 :: a10 :: a11 :: a12 :: a13 :: a14 :: a15 :: a16 :: a17 :: a18 :: a19 :: a20 :: some (.lst ws) :: σ) G = fzL ws G fun zs G' => t D (a0 :: a1 :: a2 :: a3 :: a4 :: a5 :: a6 :: a7 :: a8 :: a9 :: a10 :: a11 :: a12 :: a13 :: a14 :: a15 :: a16 :: a17 :: a18 :: a19 :: a20 :: some (.lst zs) :: σ) G' := rfl
theorem f_22 {t : TSw} {p : Addr} {D : EndsW} {G : Gp} {σ : SW} {a0 a1 a2 a3 a4 a5 a6 a7 a8 a9 a10 a11 a12 a13 a14 a15 a16 a17 a18 a19 a20 a21 : Option W} : wFz 22 t D (a0 :: a1 :: a2 :: a3 :: a4 :: a5 :: a6 :: a7 :: a8 :: a9 :: a10 :: a11 :: a12 :: a13 :: a14 :: a15 :: a16 :: a17 :: a18 :: a19 :: a20 :: a21 :: some (.ref p) :: σ) G = isG (G p) fun ws => t D (a0 :: a1 :: a2 :: a3 :: a4 :: a5 :: a6 :: a7 :: a8 :: a9 :: a10 :: a11 :: a12 :: a13 :: a14 :: a15 :: a16 :: a17 :: a18 :: a19 :: a20 :: a21 :: some (.lst ws) :: σ) (gdel G p) := rfl
theorem fl_22 {t : TSw} {ws : List W} {D : EndsW} {G : Gp} {σ : SW} {a0 a1 a2 a3 a4 a5 a6 a7 a8 a9 a10 a11 a12 a13 a14 a15 a16 a17 a18 a19 a20 a21 : Option W} : wFz 22 t D (a0 :: a1 :: a2 :: a3 :: a4 :: a5 :: a6 :: a7 :: a8 :: a9 :: a10 :: a11 :: a12 :: a13 :: a14 :: a15 :: a16 :: a17 :: a18 :: a19 :: a20 :: a21 :: some (.lst ws) :: σ) G = t D (a0 :: a1 :: a2 :: a3 :: a4 :: a5 :: a6 :: a7 :: a8 :: a9 :: a10 :: a11 :: a12 :: a13 :: a14 :: a15 :: a16 :: a17 :: a18 :: a19 :: a20 :: a21 :: some (.lst ws) :: σ) G := rfl
theorem fn_22 {t : TSw} {ws : List W} {D : EndsW} {G : Gp} {σ : SW} {a0 a1 a2 a3 a4 a5 a6 a7 a8 a9 a10 a11 a12 a13 a14 a15 a16 a17 a18 a19 a20 a21 : Option W} : wFzN 22 t D (a0 :: a1 :: a2 :: a3 :: a4 :: a5 :: a6 :: a7 :: a8 :: a9 :: a10 :: a11 :: a12 :: a13 :: a14 :: a15 :: a16 :: a17 :: a18 :: a19 :: a20 :: a21 :: some (.lst ws) :: σ) G = fzL ws G fun zs G' => t D (a0 :: a1 :: a2 :: a3 :: a4 :: a5 :: a6 :: a7 :: a8 :: a9 :: a10 :: a11 :: a12 :: a13 :: a14 :: a15 :: a16 :: a17 :: a18 :: a19 :: a20 :: a21 :: some (.lst zs) :: σ) G' := rfl
theorem f_23 {t : TSw} {p : Addr} {D : EndsW} {G : Gp} {σ : SW} {a0 a1 a2 a3 a4 a5 a6 a7 a8 a9 a10 a11 a12 a13 a14 a15 a16 a17 a18 a19 a20 a21 a22 : Option W} : wFz 23 t D (a0 :: a1 :: a2 :: a3 :: a4 :: a5 :: a6 :: a7 :: a8 :: a9 :: a10 :: a11 :: a12 :: a13 :: a14 :: a15 :: a16 :: a17 :: a18 :: a19 :: a20 :: a21 :: a22 :: some (.ref p) :: σ) G = isG (G p) fun ws => t D (a0 :: a1 :: a2 :: a3 :: a4 :: a5 :: a6 :: a7 :: a8 :: a9 :: a10 :: a11 :: a12 :: a13 :: a14 :: a15 :: a16 :: a17 :: a18 :: a19 :: a20 :: a21 :: a22 :: some (.lst ws) :: σ) (gdel G p) := rfl
theorem fl_23 {t : TSw} {ws : List W} {D : EndsW} {G : Gp} {σ : SW} {a0 a1 a2 a3 a4 a5 a6 a7 a8 a9 a10 a11 a12 a13 a14 a15 a16 a17 a18 a19 a20 a21 a22 : Option W} : wFz 23 t D (a0 :: a1 :: a2 :: a3 :: a4 :: a5 :: a6 :: a7 :: a8 :: a9 :: a10 :: a11 :: a12 :: a13 :: a14 :: a15 :: a16 :: a17 :: a18 :: a19 :: a20 :: a21 :: a22 :: some (.lst ws) :: σ) G = t D (a0 :: a1 :: a2 :: a3 :: a4 :: a5 :: a6 :: a7 :: a8 :: a9 :: a10 :: a11 :: a12 :: a13 :: a14 :: a15 :: a16 :: a17 :: a18 :: a19 :: a20 :: a21 :: a22 :: some (.lst ws) :: σ) G := rfl
theorem fn_23 {t : TSw} {ws : List W} {D : EndsW} {G : Gp} {σ : SW} {a0 a1 a2 a3 a4 a5 a6 a7 a8 a9 a10 a11 a12 a13 a14 a15 a16 a17 a18 a19 a20 a21 a22 : Option W} : wFzN 23 t D (a0 :: a1 :: a2 :: a3 :: a4 :: a5 :: a6 :: a7 :: a8 :: a9 :: a10 :: a11 :: a12 :: a13 :: a14 :: a15 :: a16 :: a17 :: a18 :: a19 :: a20 :: a21 :: a22 :: some (.lst ws) :: σ) G = fzL ws G fun zs G' => t D (a0 :: a1 :: a2 :: a3 :: a4 :: a5 :: a6 :: a7 :: a8 :: a9 :: a10 :: a11 :: a12 :: a13 :: a14 :: a15 :: a16 :: a17 :: a18 :: a19 :: a20 :: a21 :: a22 :: some (.lst zs) :: σ) G' := rfl
theorem f_24 {t : TSw} {p : Addr} {D : EndsW} {G : Gp} {σ : SW} {a0 a1 a2 a3 a4 a5 a6 a7 a8 a9 a10 a11 a12 a13 a14 a15 a16 a17 a18 a19 a20 a21 a22 a23 : Option W} : wFz 24 t D (a0 :: a1 :: a2 :: a3 :: a4 :: a5 :: a6 :: a7 :: a8 :: a9 :: a10 :: a11 :: a12 :: a13 :: a14 :: a15 :: a16 :: a17 :: a18 :: a19 :: a20 :: a21 :: a22 :: a23 :: some (.ref p) :: σ) G = isG (G p) fun ws => t D (a0 :: a1 :: a2 :: a3 :: a4 :: a5 :: a6 :: a7 :: a8 :: a9 :: a10 :: a11 :: a12 :: a13 :: a14 :: a15 :: a16 :: a17 :: a18 :: a19 :: a20 :: a21 :: a22 :: a23 :: some (.lst ws) :: σ) (gdel G p) := rfl
theorem fl_24 {t : TSw} {ws : List W} {D : EndsW} {G : Gp} {σ : SW} {a0 a1 a2 a3 a4 a5 a6 a7 a8 a9 a10 a11 a12 a13 a14 a15 a16 a17 a18 a19 a20 a21 a22 a23 : Option W} : wFz 24 t D (a0 :: a1 :: a2 :: a3 :: a4 :: a5 :: a6 :: a7 :: a8 :: a9 :: a10 :: a11 :: a12 :: a13 :: a14 :: a15 :: a16 :: a17 :: a18 :: a19 :: a20 :: a21 :: a22 :: a23 :: some (.lst ws) :: σ) G = t D (a0 :: a1 :: a2 :: a3 :: a4 :: a5 :: a6 :: a7 :: a8 :: a9 :: a10 :: a11 :: a12 :: a13 :: a14 :: a15 :: a16 :: a17 :: a18 :: a19 :: a20 :: a21 :: a22 :: a23 :: some (.lst ws) :: σ) G := rfl
theorem fn_24 {t : TSw} {ws : List W} {D : EndsW} {G : Gp} {σ : SW} {a0 a1 a2 a3 a4 a5 a6 a7 a8 a9 a10 a11 a12 a13 a14 a15 a16 a17 a18 a19 a20 a21 a22 a23 : Option W} : wFzN 24 t D (a0 :: a1 :: a2 :: a3 :: a4 :: a5 :: a6 :: a7 :: a8 :: a9 :: a10 :: a11 :: a12 :: a13 :: a14 :: a15 :: a16 :: a17 :: a18 :: a19 :: a20 :: a21 :: a22 :: a23 :: some (.lst ws) :: σ) G = fzL ws G fun zs G' => t D (a0 :: a1 :: a2 :: a3 :: a4 :: a5 :: a6 :: a7 :: a8 :: a9 :: a10 :: a11 :: a12 :: a13 :: a14 :: a15 :: a16 :: a17 :: a18 :: a19 :: a20 :: a21 :: a22 :: a23 :: some (.lst zs) :: σ) G' := rfl
theorem f_25 {t : TSw} {p : Addr} {D : EndsW} {G : Gp} {σ : SW} {a0 a1 a2 a3 a4 a5 a6 a7 a8 a9 a10 a11 a12 a13 a14 a15 a16 a17 a18 a19 a20 a21 a22 a23 a24 : Option W} : wFz 25 t D (a0 :: a1 :: a2 :: a3 :: a4 :: a5 :: a6 :: a7 :: a8 :: a9 :: a10 :: a11 :: a12 :: a13 :: a14 :: a15 :: a16 :: a17 :: a18 :: a19 :: a20 :: a21 :: a22 :: a23 :: a24 :: some (.ref p) :: σ) G = isG (G p) fun ws => t D (a0 :: a1 :: a2 :: a3 :: a4 :: a5 :: a6 :: a7 :: a8 :: a9 :: a10 :: a11 :: a12 :: a13 :: a14 :: a15 :: a16 :: a17 :: a18 :: a19 :: a20 :: a21 :: a22 :: a23 :: a24 :: some (.lst ws) :: σ) (gdel G p) := rfl
theorem fl_25 {t : TSw} {ws : List W} {D : EndsW} {G : Gp} {σ : SW} {a0 a1 a2 a3 a4 a5 a6 a7 a8 a9 a10 a11 a12 a13 a14 a15 a16 a17 a18 a19 a20 a21 a22 a23 a24 : Option W} : wFz 25 t D (a0 :: a1 :: a2 :: a3 :: a4 :: a5 :: a6 :: a7 :: a8 :: a9 :: a10 :: a11 :: a12 :: a13 :: a14 :: a15 :: a16 :: a17 :: a18 :: a19 :: a20 :: a21 :: a22 :: a23 :: a24 :: some (.lst ws) :: σ) G = t D (a0 :: a1 :: a2 :: a3 :: a4 :: a5 :: a6 :: a7 :: a8 :: a9 :: a10 :: a11 :: a12 :: a13 :: a14 :: a15 :: a16 :: a17 :: a18 :: a19 :: a20 :: a21 :: a22 :: a23 :: a24 :: some (.lst ws) :: σ) G := rfl
theorem fn_25 {t : TSw} {ws : List W} {D : EndsW} {G : Gp} {σ : SW} {a0 a1 a2 a3 a4 a5 a6 a7 a8 a9 a10 a11 a12 a13 a14 a15 a16 a17 a18 a19 a20 a21 a22 a23 a24 : Option W} : wFzN 25 t D (a0 :: a1 :: a2 :: a3 :: a4 :: a5 :: a6 :: a7 :: a8 :: a9 :: a10 :: a11 :: a12 :: a13 :: a14 :: a15 :: a16 :: a17 :: a18 :: a19 :: a20 :: a21 :: a22 :: a23 :: a24 :: some (.lst ws) :: σ) G = fzL ws G fun zs G' => t D (a0 :: a1 :: a2 :: a3 :: a4 :: a5 :: a6 :: a7 :: a8 :: a9 :: a10 :: a11 :: a12 :: a13 :: a14 :: a15 :: a16 :: a17 :: a18 :: a19 :: a20 :: a21 :: a22 :: a23 :: a24 :: some (.lst zs) :: σ) G' := rfl
end WL
namespace WL
open PySem PySem.Spec PyProof.Rows L2
local macro_rules | `(tactic| walk_at "w") => `(tactic| try simp only [↓a_seq, ↓a_asg, ↓a_ifS, ↓a_ret, ↓a_retN, ↓a_next, ↓a_break, ↓a_cont, ↓a_drop, ↓a_for, ↓a_C, ↓a_op, ↓a_un, ↓a_neg, ↓a_CB, ↓a_call, ↓a_nil, ↓a_cons, ↓a_tup, ↓a_lst, ↓a_lstM, ↓a_test, ↓a_and, ↓a_or, ↓a_not, ↓a_yes, ↓a_andV, ↓a_orV, ↓a_notV, ↓a_if, ↓a_isN, ↓a_notN, ↓a_chain, ↓a_BM, ↓a_BM0, ↓a_seqI, ↓a_R1, ↓a_R2, ↓a_zip2, ↓a_zipG2, ↓a_zipG3, ↓a_enumG, ↓a_enum, ↓a_lc, ↓a_lcM, ↓a_lcR, ↓a_forR, ↓a_seqR, ↓a_zip2R, ↓a_zipR, ↓a_lstRg, ↓a_lstRgM, ↓a_lcP, ↓a_lcPM, ↓a_zipTR, ↓a_zipTQ, ↓a_zip3R, ↓a_zip3Q, ↓a_lenSetT, ↓a_slice, ↓a_sliceM, ↓a_pN, ↓a_pS, ↓a_augIx, ↓a_gIx, ↓a_par, ↓a_setF, ↓a_meth, ↓a_make, ↓a_makeZ, ↓a_dnew, ↓a_done, ↓a_dput, ↓a_dget, ↓a_din, ↓a_lenD, ↓a_raise, ↓a_callX, ↓a_retX, ↓a_dropX, ↓a_asgX, ↓a_tryAs, ↓a_isE, ↓a_isET, ↓a_xf, ↓a_callE, ↓a_lstI, ↓a_ndget, ↓a_ndin, ↓a_ndnew, ↓a_ndput, ↓a_R3, ↓v_0, ↓g_0, ↓u_0, ↓v_1, ↓g_1, ↓u_1, ↓v_2, ↓g_2, ↓u_2, ↓v_3, ↓g_3, ↓u_3, ↓v_4, ↓g_4, ↓u_4, ↓v_5, ↓g_5, ↓u_5, ↓v_6, ↓g_6, ↓u_6, ↓v_7, ↓g_7, ↓u_7, ↓v_8, ↓g_8, ↓u_8, ↓v_9, ↓g_9, ↓u_9, ↓v_10, ↓g_10, ↓u_10, ↓v_11, ↓g_11, ↓u_11, ↓v_12, ↓g_12, ↓u_12, ↓v_13, ↓g_13, ↓u_13, ↓v_14, ↓g_14, ↓u_14, ↓v_15, ↓g_15, ↓u_15, ↓v_16, ↓g_16, ↓u_16, ↓v_17, ↓g_17, ↓u_17, ↓v_18, ↓g_18, ↓u_18, ↓v_19, ↓g_19, ↓u_19, ↓v_20, ↓g_20, ↓u_20, ↓v_21, ↓g_21, ↓u_21, ↓v_22, ↓g_22, ↓u_22, ↓v_23, ↓g_23, ↓u_23, ↓v_24, ↓g_24, ↓u_24, ↓v_25, ↓g_25, ↓u_25, ↓f_0, ↓fl_0, ↓fn_0, ↓f_1, ↓fl_1, ↓fn_1, ↓f_2, ↓fl_2, ↓fn_2, ↓f_3, ↓fl_3, ↓fn_3, ↓f_4, ↓fl_4, ↓fn_4, ↓f_5, ↓fl_5, ↓fn_5, ↓f_6, ↓fl_6, ↓fn_6, ↓f_7, ↓fl_7, ↓fn_7, ↓f_8, ↓fl_8, ↓fn_8, ↓f_9, ↓fl_9, ↓fn_9, ↓f_10, ↓fl_10, ↓fn_10, ↓f_11, ↓fl_11, ↓fn_11, ↓f_12, ↓fl_12, ↓fn_12, ↓f_13, ↓fl_13, ↓fn_13, ↓f_14, ↓fl_14, ↓fn_14, ↓f_15, ↓fl_15, ↓fn_15, ↓f_16, ↓fl_16, ↓fn_16, ↓f_17, ↓fl_17, ↓fn_17, ↓f_18, ↓fl_18, ↓fn_18, ↓f_19, ↓fl_19, ↓fn_19, ↓f_20, ↓fl_20, ↓fn_20, ↓f_21, ↓fl_21, ↓fn_21, ↓f_22, ↓fl_22, ↓fn_22, ↓f_23, ↓fl_23, ↓fn_23, ↓f_24, ↓fl_24, ↓fn_24, ↓f_25, ↓fl_25, ↓fn_25, ↓nPut_ref, ↓dcnOf_gup, ↓rng3_int, ↓wSortedN_eq, ↓isN_dcn, ↓asL_lst, ↓asL_scr, ↓asL_gup, ↓wIx_tup, ↓wIx_lst, ↓wIx_scr, ↓wIx_ref, ↓wIx_str, ↓wAdd_int, ↓wAdd_str, ↓wAdd_tup, ↓wAdd_lst, ↓wII_int, ↓wI2_int, ↓wI1_int, ↓wI1N_int, ↓wI2N_int, ↓wLen_tup, ↓wLen_lst, ↓wLen_scr, ↓wLen_ref, ↓wLen_str, ↓wInt_int, ↓wInt_bl, ↓wStrI_int, ↓wEq_int, ↓wEq_str, ↓wEq_bl, ↓wNe_bl, ↓wNe_int, ↓wNe_str, ↓wEq_tup, ↓wNe_tup, ↓wEq_lst, ↓wNe_lst, ↓setIx_ref, ↓gT_tup, ↓gT_lst, ↓gT_ref, ↓gsC_cons, ↓gsN_nil, ↓wAppend_ref, ↓wPop_ref, ↓wExtend_ref, ↓rgO_int, ↓wAddM_lst, ↓wIsB_bl, ↓wReverse_ref, ↓wRepT_tup, ↓wNotB_bl, ↓wInD_lst, ↓wPopAt_ref, ↓wInsert_ref, ↓refR_ref, ↓seqOf_tup, ↓seqOf_lst, ↓seqOf_scr, ↓seqOf_ref, ↓rng1_int, ↓rng2_int, ↓wIsi_non, ↓wIsi_bl, ↓wIsi_int, ↓wIsi_str, ↓wIsi_tup, ↓wIsi_lst, ↓wIsi_ref, ↓wAll_lst, ↓wAny_lst, ↓wSum_lst, ↓wTuple_tup, ↓wTuple_lst, ↓wTuple_ref, ↓wList_tup, ↓wList_lst, ↓wList_ref, ↓wListM_tup, ↓wListM_lst, ↓wCut_tup, ↓wCut_lst, ↓wCut_ref, ↓wCut_str, ↓wRep_lst, ↓wRepM_lst, ↓zipOf_tup, ↓zipOf_lst, ↓enumOf_lst, ↓enumOf_scr, ↓zipG2_eq, ↓zipG3_eq, ↓enumG_eq, ↓wSorted_eq, ↓wSortedM_eq, ↓wClear_ref, ↓wGet_ref, ↓truO_bl, ↓intO_int, ↓isS_some, ↓isG_lst, ↓setF_ref, ↓isI_ins, ↓dPut_ref, ↓isD_dic, ↓insOf_gup, ↓dicOf_gup, ↓isExc_exc, ↓lstOf_lst, ↓gT'_tup, sdel, keyOf, nk, rangeW_length, sset, skill, swipe, swipe.sforget, lcW, wIn, seqs, inW, eqW, flatW, kdIs, isNon, gup_same, gup_gup, at0, at1, at2, at3, at4, at5, at6, at7, ix0, ix1, ix2, ix3, ix4, ix5, W.bl.injEq, exists_eq_left', List.length_cons, List.length_nil, List.length_map, Nat.zero_add, Nat.reduceAdd, List.set, List.map_cons, List.map_nil, Option.isSome_some, List.all_cons, List.all_nil, List.any_cons, List.any_nil, List.cons_append, List.nil_append, Bool.and_true, Bool.and_self, Bool.or_false, Bool.true_and, Bool.false_and, Bool.and_false, true_and, decide_true, decide_false, Bool.not_true, Bool.not_false, Bool.not_not, Bool.false_eq_true, if_true, if_false, ite_self, beq_self_eq_true])

/-- slots: _law_bag_here 0, _law_many 1, _law_digit 2 -/
def t__law_take : TSw := (wSeq (wIfS (wTest (wOp wGt (wOp wIx (wVar 0) (wC (.int 0))) (wC (.int 0)))) (wSeq (wAsg (wOp wMod (wOp wIx (wVar 0) (wC (.int 0))) (wVar 1)) (gN 2))
    (wSeq (wAsg (wOp wFdiv (wOp wIx (wVar 0) (wC (.int 0))) (wVar 1)) (gIx (wVar 0) (wC (.int 0))))
    (wRet (wVar 2)))) wNext)
    (wSeq (wAsg (wOp wMod (wOp wAdd (wOp wMul (wOp wIx (wVar 0) (wC (.int 1))) (wC (.int 48271))) (wC (.int 7919))) (wC (.int 2147483647))) (gIx (wVar 0) (wC (.int 1))))
    (wRet (wOp wMod (wOp wMod (wOp wMul (wOp wFdiv (wOp wMod (wOp wPow (wOp wIx (wVar 0) (wC (.int 1))) (wC (.int 3))) (wC (.int 2147483587))) (wC (.int 7))) (wC (.int 69621))) (wC (.int 1073741789))) (wVar 1)))))
theorem rd__law_take (ws : List W) (G : Gp) (Q : QW) (E) (h : sp__law_take ws G Q E) : t__law_take { nx := fun _ G' => Q .non G', rt := Cl Q } (startW ["_law_bag_here", "_law_many", "_law_digit"] ws) G := by
  obtain ⟨p, m, c, x, rfl, g, hc, hx, hx2, hm, q⟩ := h
  show t__law_take _ [some (.ref p), some (.int m), none] G
  rw [show G = gup G p (bagO c x) from (gup_self g).symm]
  unfold t__law_take
  walk_at "w"
  split
  · rename_i hp
    rw [fmodP (by omega), fdivP (by omega)]
    exact ⟨by omega, by omega, .inl (q _ _ _ (Int.emod_nonneg _ (by omega)) (Int.emod_lt_of_pos _ hm) (Int.ediv_nonneg hc (by omega)) hx hx2)⟩
  · rw [fmodP (j := 2147483647), fmodP (j := 2147483587), fmodP (j := 1073741789), fmodP (by omega), fdivP]
    have b1 := Int.emod_nonneg (x * 48271 + 7919) (show (2147483647 : Int) ≠ 0 by decide)
    have b2 := Int.emod_lt_of_pos (x * 48271 + 7919) (show (0 : Int) < 2147483647 by decide)
    generalize (x * 48271 + 7919) % 2147483647 = y at b1 b2 ⊢
    have b3 := Int.emod_nonneg (y ^ (3 : Int).toNat) (show (2147483587 : Int) ≠ 0 by decide)
    have b4 := Int.emod_lt_of_pos (y ^ (3 : Int).toNat) (show (0 : Int) < 2147483587 by decide)
    generalize (y ^ (3 : Int).toNat) % 2147483587 = z at b3 b4 ⊢
    refine ⟨cm64 (by omega) (by omega), by decide, cp64 (by omega) (by omega), by decide, by decide, cm64 (by omega) (by omega), by decide, by omega, .inl (q _ _ _ (Int.emod_nonneg _ (by omega)) (Int.emod_lt_of_pos _ hm) hc b1 (by omega))⟩
/-- slots: _law_script 0, _law_at 1, _law_cell 2, _law_mix 3, _law_k 4 -/
def t__law_bag_b1 : TSw := (wAsg (wOp wMod (wOp wAdd (wOp wAdd (wOp wMul (wVar 3) (wC (.int 48271))) (wOp wMul (wOp wMod (wOp wIx (wVar 0) (wVar 4)) (wC (.int 2147483587))) (wOp wAdd (wVar 4) (wC (.int 3))))) (wVar 4)) (wC (.int 2147483629))) (gN 3))
def t__law_bag_r1 : TSw := (wRet (wLstM (wCons (wVar 2) (wCons (wVar 3) wNil))))
def t__law_bag_r2 : TSw := (wSeq (wIfS (wTest (wOp wLt (wVar 2) (wOp wPow (wC (.int 10)) (wC (.int 18))))) (wAsg (wC (.int 0)) (gN 2)) wNext)
    t__law_bag_r1)
def t__law_bag_r3 : TSw := (wSeq (wAsg (wOp wMod (wOp wPow (wOp wAdd (wOp wAdd (wOp wMod (wVar 2) (wC (.int 2147483629))) (wOp wMul (wC (.int 104729)) (wVar 1))) (wC (.int 17))) (wC (.int 5))) (wC (.int 2147483647))) (gN 3))
    (wSeq (wFor [false, true, false, false, true] (iR1 (wCons (wCB (wI2N fun i j => .int (if j < i then j else i)) (wCons (wCB wLen (wCons (wVar 0) wNil)) (wCons (wC (.int 60)) wNil))) wNil)) (gN 4) t__law_bag_b1)
    t__law_bag_r2))
def t__law_bag : TSw := (wSeq (wAsg (wC (.int 0)) (gN 2))
    (wSeq (wIfS (wTest (wOp wLt (wVar 1) (wCB wLen (wCons (wVar 0) wNil)))) (wAsg (wCB (wI1N fun i => .int (if i < 0 then -i else i)) (wCons (wOp wIx (wVar 0) (wVar 1)) wNil)) (gN 2)) wNext)
    t__law_bag_r3))
theorem rd__law_bag (ws : List W) (G : Gp) (Q : QW) (E) (h : sp__law_bag ws G Q E) : t__law_bag { nx := fun _ G' => Q .non G', rt := Cl Q } (startW ["_law_script", "_law_at", "_law_cell", "_law_mix", "_law_k"] ws) G := by
  obtain ⟨ns, k, rfl, hl, hk0, hk1, q⟩ := h
  show t__law_bag _ [some (.scr (ns.map W.int)), some (.int k), none, none, none] G
  have ll : ((ns.map W.int).length : Int) = ns.length := by rw [List.length_map]
  have rest2 : ∀ c x, 0 ≤ c → 0 ≤ x → x < 2147483648 → t__law_bag_r2 { nx := fun _ G' => Q .non G', rt := Cl Q } [some (.scr (ns.map W.int)), none, some (.int c), some (.int x), none] G := by
    intro c x hc hx hx2
    unfold t__law_bag_r2 t__law_bag_r1
    walk_at "w"
    refine ⟨cp64 (by omega) (by omega), ?_⟩
    split
    · exact ⟨by decide, fun p hp => .inl (q p _ _ hp (Int.le_refl 0) hx hx2)⟩
    · exact ⟨by decide, fun p hp => .inl (q p _ _ hp hc hx hx2)⟩
  have rest3 : ∀ c, 0 ≤ c → t__law_bag_r3 { nx := fun _ G' => Q .non G', rt := Cl Q } [some (.scr (ns.map W.int)), some (.int k), some (.int c), none, none] G := by
    intro c hc
    unfold t__law_bag_r3
    walk_at "w"
    rw [fmodP (j := 2147483629), fmodP (j := 2147483647)]
    have b1 := Int.emod_nonneg c (show (2147483629 : Int) ≠ 0 by decide)
    have b2 := Int.emod_lt_of_pos c (show (0 : Int) < 2147483629 by decide)
    refine ⟨by decide, cm64 (by omega) (by omega), cp64 (by omega) (by omega), by decide, ?_, ?_, ?_⟩
    · split <;> omega
    · split <;> omega
    generalize (c % 2147483629 + 104729 * k + 17) ^ (5 : Int).toNat = y
    have b3 := Int.emod_nonneg y (show (2147483647 : Int) ≠ 0 by decide)
    have b4 := Int.emod_lt_of_pos y (show (0 : Int) < 2147483647 by decide)
    refine forW_inv (fun σ G1 => G1 = G ∧ ∃ x, 0 ≤ x ∧ x < 2147483648 ∧ σ = [some (.scr (ns.map W.int)), none, some (.int c), some (.int x), none]) _ _ _ ⟨rfl, _, b3, by omega, rfl⟩ ?_ ?_
    · rintro w hw σ G1 N ⟨rfl, x, hx, hx2, rfl⟩ hN
      obtain ⟨i, hi, rfl⟩ := rangeW_mem hw
      have hi2 : i < ns.length ∧ i < 60 := by
        by_cases h6 : (60 : Int) < ns.length
        · rw [if_pos h6] at hi; omega
        · rw [if_neg h6] at hi; omega
      have ea : atI (ns.map W.int) (0 + (i : Int)) = some (.int ns[i]) := by
        rw [Int.zero_add]
        exact at_nat (by rw [List.getElem?_map, List.getElem?_eq_getElem hi2.1]; rfl)
      unfold t__law_bag_b1
      walk_at "w"
      rw [ea]
      walk_at "w"
      rw [fmodP (j := 2147483587), fmodP (j := 2147483629)]
      have c1 := Int.emod_nonneg ns[i] (show (2147483587 : Int) ≠ 0 by decide)
      have c2 := Int.emod_lt_of_pos ns[i] (show (0 : Int) < 2147483587 by decide)
      generalize ns[i] % 2147483587 = z at c1 c2 ⊢
      refine ⟨cm64 (by omega) (by omega), by decide, cm64 (by omega) (by omega), by decide, hN _ _ ⟨rfl, _, Int.emod_nonneg _ (by decide), Int.lt_trans (Int.emod_lt_of_pos _ (by decide)) (by decide), rfl⟩⟩
    · rintro σ G1 ⟨rfl, x, hx, hx2, rfl⟩
      exact rest2 c x hc hx hx2
  unfold t__law_bag
  walk_at "w"
  split
  · rename_i hlt
    have hlt := of_decide_eq_true hlt
    obtain ⟨v, ev, mv⟩ := at_in (l := ns.map W.int) hk0 (by rw [ll]; exact hlt)
    obtain ⟨i, _, rfl⟩ := List.mem_map.mp mv
    rw [ev]
    walk_at "w"
    exact rest3 _ (by split <;> omega)
  · exact rest3 0 (Int.le_refl 0)
theorem len__law_take (ws G Q E) (h : sp__law_take ws G Q E) : ws.length = 2 := by obtain ⟨_, _, _, _, rfl, _⟩ := h; rfl
theorem len__law_bag (ws G Q E) (h : sp__law_bag ws G Q E) : ws.length = 2 := by obtain ⟨_, _, rfl, _⟩ := h; rfl
theorem len_law (ws G Q E) (h : sp_law ws G Q E) : ws.length = 1 := by obtain ⟨_, rfl, _⟩ := h; rfl
/-! ### fractions: the rationals -/
abbrev fr (q : Rat) : W := .tup [.int q.num, .int (q.den : Int)]
theorem natAbs_fmod_lt (u : Int) {v : Int} (h : v ≠ 0) : (u.fmod v).natAbs < v.natAbs := by
  rw [Int.fmod_eq_emod]
  have h1 := Int.emod_nonneg u h
  have h2 : u % v < v.natAbs := Int.emod_lt u h
  by_cases c : 0 ≤ v ∨ v ∣ u
  · rw [if_pos c]; omega
  · rw [if_neg c]
    have h3 : u % v ≠ 0 := fun z => c (.inr (Int.dvd_of_emod_eq_zero z))
    omega
theorem gcd_fmod (u v : Int) : Int.gcd v (u.fmod v) = Int.gcd u v := by
  rw [Int.fmod_def, Int.gcd_sub_mul_left_right, Int.gcd_comm]
/-- the quotients by a sign's greatest common divisor -/
theorem fdiv_exact {a b : Int} (h : b ∣ a) : a.fdiv b = a / b := by rw [Int.fdiv_eq_ediv, if_pos (.inr h)]; omega
theorem divInt_parts {a b : Int} (hb : b ≠ 0) (p : Int) (hp : p = if b < 0 then -((Int.gcd a b : Nat) : Int) else ((Int.gcd a b : Nat) : Int)) :
    p ≠ 0 ∧ a.fdiv p = (Rat.divInt a b).num ∧ b.fdiv p = ((Rat.divInt a b).den : Int) := by
  have g0 : 0 < Int.gcd a b := Int.gcd_pos_of_ne_zero_right a hb
  have da : ((Int.gcd a b : Nat) : Int) ∣ a := Int.gcd_dvd_left a b
  have db : ((Int.gcd a b : Nat) : Int) ∣ b := Int.gcd_dvd_right a b
  have hn := Rat.num_divInt a b
  have hd := Rat.den_divInt a b
  rw [if_neg hb] at hd
  rw [hn, hd, Int.gcd_comm b a]
  by_cases c : b < 0
  · rw [if_pos c] at hp
    subst hp
    refine ⟨by omega, ?_, ?_⟩
    · rw [fdiv_exact (Int.neg_dvd.mpr da), Int.sign_eq_neg_one_of_neg c, Int.ediv_neg, show -1 * a = -a by omega, Int.neg_ediv_of_dvd da]
    · rw [fdiv_exact (Int.neg_dvd.mpr db), Int.ediv_neg, Int.natCast_ediv, ← Int.neg_ediv_of_dvd db]
      rw [show ((b.natAbs : Nat) : Int) = -b by omega]
  · rw [if_neg c] at hp
    subst hp
    refine ⟨by omega, ?_, ?_⟩
    · rw [fdiv_exact da, Int.sign_eq_one_of_pos (by omega), Int.one_mul]
    · rw [fdiv_exact db, Int.natCast_ediv, show ((b.natAbs : Nat) : Int) = b by omega]
/-! ### sums, differences, products, quotients -/
/-- of so many bits -/
def sz (n : Nat) (q : Rat) : Prop := q.num.natAbs < 2 ^ n ∧ q.den < 2 ^ n
theorem sz_mono {n m : Nat} {q : Rat} (h : sz n q) (hm : n ≤ m) : sz m q :=
  ⟨Nat.lt_of_lt_of_le h.1 (Nat.pow_le_pow_right (by decide) hm), Nat.lt_of_lt_of_le h.2 (Nat.pow_le_pow_right (by decide) hm)⟩
theorem sz_pos {n : Nat} {q : Rat} (h : sz n q) : 0 < n := by
  have h1 := h.2
  have h2 := q.den_pos
  cases n with
  | zero => rw [Nat.pow_zero] at h1; omega
  | succ n => exact Nat.succ_pos n
theorem sz_divInt {a b : Int} {n : Nat} (hb : b ≠ 0) (ha : a.natAbs < 2 ^ n) (hb2 : b.natAbs < 2 ^ n) : sz n (Rat.divInt a b) := by
  obtain ⟨h0, h1, h2⟩ := divInt_parts (a := a) hb _ rfl
  have da : (if b < 0 then -((Int.gcd a b : Nat) : Int) else ((Int.gcd a b : Nat) : Int)) ∣ a := by
    split
    · exact Int.neg_dvd.mpr (Int.gcd_dvd_left a b)
    · exact Int.gcd_dvd_left a b
  have db : (if b < 0 then -((Int.gcd a b : Nat) : Int) else ((Int.gcd a b : Nat) : Int)) ∣ b := by
    split
    · exact Int.neg_dvd.mpr (Int.gcd_dvd_right a b)
    · exact Int.gcd_dvd_right a b
  rw [fdiv_exact da] at h1
  rw [fdiv_exact db] at h2
  have e1 := Int.natAbs_ediv_le_natAbs a (if b < 0 then -((Int.gcd a b : Nat) : Int) else ((Int.gcd a b : Nat) : Int))
  have e2 := Int.natAbs_ediv_le_natAbs b (if b < 0 then -((Int.gcd a b : Nat) : Int) else ((Int.gcd a b : Nat) : Int))
  rw [h1] at e1
  rw [h2] at e2
  exact ⟨by omega, by omega⟩
theorem natAbs_mul_lt {i j : Int} {a b : Nat} (ha : i.natAbs < 2 ^ a) (hb : j.natAbs < 2 ^ b) : (i * j).natAbs < 2 ^ (a + b) := by
  rw [Int.natAbs_mul, Nat.pow_add]
  exact Nat.mul_lt_mul'' ha hb
theorem sz_num {n : Nat} {q : Rat} (h : sz n q) : q.num.natAbs < 2 ^ n := h.1
theorem sz_den {n : Nat} {q : Rat} (h : sz n q) : (q.den : Int).natAbs < 2 ^ n := h.2
theorem add_divInt (u v : Rat) : u + v = Rat.divInt (u.num * v.den + v.num * u.den) (u.den * v.den) := by
  have hu : (u.den : Int) ≠ 0 := by have := u.den_pos; omega
  have hv : (v.den : Int) ≠ 0 := by have := v.den_pos; omega
  have e := Rat.divInt_add_divInt u.num v.num hu hv
  rw [Rat.num_divInt_den, Rat.num_divInt_den] at e
  exact e
theorem sub_divInt (u v : Rat) : u - v = Rat.divInt (u.num * v.den - v.num * u.den) (u.den * v.den) := by
  have hu : (u.den : Int) ≠ 0 := by have := u.den_pos; omega
  have hv : (v.den : Int) ≠ 0 := by have := v.den_pos; omega
  have e := Rat.divInt_sub_divInt u.num v.num hu hv
  rw [Rat.num_divInt_den, Rat.num_divInt_den] at e
  exact e
theorem mul_divInt (u v : Rat) : u * v = Rat.divInt (u.num * v.num) (u.den * v.den) := by
  have e := Rat.divInt_mul_divInt u.num v.num (d₁ := u.den) (d₂ := v.den)
  rw [Rat.num_divInt_den, Rat.num_divInt_den] at e
  exact e
theorem div_divInt (u v : Rat) : u / v = Rat.divInt (u.num * v.den) (u.den * v.num) := by
  have e := Rat.divInt_mul_divInt u.num v.den (d₁ := u.den) (d₂ := v.num)
  rw [← Rat.inv_divInt v.num v.den, Rat.num_divInt_den, Rat.num_divInt_den, ← Rat.div_def] at e
  exact e
/-- so many bits, of a sum, a difference, a product, a quotient -/
theorem natAbs_add_lt {i j : Int} {n : Nat} (ha : i.natAbs < 2 ^ n) (hb : j.natAbs < 2 ^ n) : (i + j).natAbs < 2 ^ (n + 1) := by
  rw [Nat.pow_succ]; omega
theorem natAbs_sub_lt {i j : Int} {n : Nat} (ha : i.natAbs < 2 ^ n) (hb : j.natAbs < 2 ^ n) : (i - j).natAbs < 2 ^ (n + 1) := by
  rw [Nat.pow_succ]; omega
theorem pow_up {i : Int} {n m : Nat} (h : i.natAbs < 2 ^ n) (e : n ≤ m) : i.natAbs < 2 ^ m := Nat.lt_of_lt_of_le h (Nat.pow_le_pow_right (by decide) e)
theorem den_ne (u v : Rat) : (u.den : Int) * v.den ≠ 0 := Int.mul_ne_zero (by have := u.den_pos; omega) (by have := v.den_pos; omega)
theorem sz_add {u v : Rat} {a b : Nat} (hu : sz a u) (hv : sz b v) : sz (a + b + 1) (u + v) := by
  rw [add_divInt]
  refine sz_divInt (den_ne u v) (natAbs_add_lt (natAbs_mul_lt (sz_num hu) (sz_den hv)) ?_) (pow_up (natAbs_mul_lt (sz_den hu) (sz_den hv)) (by omega))
  rw [Nat.add_comm a b]
  exact natAbs_mul_lt (sz_num hv) (sz_den hu)
theorem sz_sub {u v : Rat} {a b : Nat} (hu : sz a u) (hv : sz b v) : sz (a + b + 1) (u - v) := by
  rw [sub_divInt]
  refine sz_divInt (den_ne u v) (natAbs_sub_lt (natAbs_mul_lt (sz_num hu) (sz_den hv)) ?_) (pow_up (natAbs_mul_lt (sz_den hu) (sz_den hv)) (by omega))
  rw [Nat.add_comm a b]
  exact natAbs_mul_lt (sz_num hv) (sz_den hu)
theorem sz_mul {u v : Rat} {a b : Nat} (hu : sz a u) (hv : sz b v) : sz (a + b) (u * v) := by
  rw [mul_divInt]
  exact sz_divInt (den_ne u v) (natAbs_mul_lt (sz_num hu) (sz_num hv)) (natAbs_mul_lt (sz_den hu) (sz_den hv))
theorem num_ne {v : Rat} (h : v ≠ 0) : v.num ≠ 0 := fun e => h (Rat.num_eq_zero.mp e)
theorem sz_div {u v : Rat} {a b : Nat} (h : v ≠ 0) (hu : sz a u) (hv : sz b v) : sz (a + b) (u / v) := by
  rw [div_divInt]
  exact sz_divInt (Int.mul_ne_zero (by have := u.den_pos; omega) (num_ne h)) (natAbs_mul_lt (sz_num hu) (sz_den hv)) (natAbs_mul_lt (sz_den hu) (sz_num hv))
/-- two fractions of so many bits together -/
def sz2 (u v : Rat) : Prop := ∃ a b, sz a u ∧ sz b v ∧ a + b ≤ 134000000
theorem sz2.m1 {u v : Rat} (h : sz2 u v) : CMulX u.num v.den := by obtain ⟨a, b, h1, h2, h3⟩ := h; exact cmX (sz_num h1) (sz_den h2) (sz_pos h1) (sz_pos h2) (by omega)
theorem sz2.m2 {u v : Rat} (h : sz2 u v) : CMulX v.num u.den := by obtain ⟨a, b, h1, h2, h3⟩ := h; exact cmX (sz_num h2) (sz_den h1) (sz_pos h2) (sz_pos h1) (by omega)
theorem sz2.m3 {u v : Rat} (h : sz2 u v) : CMulX u.den v.den := by obtain ⟨a, b, h1, h2, h3⟩ := h; exact cmX (sz_den h1) (sz_den h2) (sz_pos h1) (sz_pos h2) (by omega)
theorem sz2.m4 {u v : Rat} (h : sz2 u v) : CMulX u.num v.num := by obtain ⟨a, b, h1, h2, h3⟩ := h; exact cmX (sz_num h1) (sz_num h2) (sz_pos h1) (sz_pos h2) (by omega)
theorem sz2.m5 {u v : Rat} (h : sz2 u v) : CMulX u.den v.num := by obtain ⟨a, b, h1, h2, h3⟩ := h; exact cmX (sz_den h1) (sz_num h2) (sz_pos h1) (sz_pos h2) (by omega)
end WL
namespace WL
open PySem PySem.Spec PyProof.Rows L2

/-! ### data that may be compared -/
def wD (d : Nat) (w : W) : Prop := wpure w = true ∧ (wdat w).canLay0 = true ∧ (wdat w).depth ≤ d
theorem wD_int {i : Int} : wD 0 (.int i) := ⟨rfl, by simp [wdat, PyData.canLay0], by simp [wdat, PyData.depth]⟩
theorem wD_bl {b : Bool} : wD 0 (.bl b) := ⟨rfl, by simp [wdat, PyData.canLay0], by simp [wdat, PyData.depth]⟩
theorem wD_non : wD 0 .non := ⟨rfl, by simp [wdat, PyData.canLay0], by simp [wdat, PyData.depth]⟩
theorem wD_mono {d e : Nat} {w : W} (h : wD d w) (l : d ≤ e) : wD e w := ⟨h.1, h.2.1, Nat.le_trans h.2.2 l⟩
theorem wDs {d : Nat} : ∀ {ws : List W}, (∀ w ∈ ws, wD d w) → wpures ws = true ∧ PyData.canLayAll0 (wdats ws) = true ∧ PyData.depthAll (wdats ws) ≤ d
  | [], _ => ⟨rfl, by simp [wdats, PyData.canLayAll0], by simp [wdats, PyData.depthAll]⟩
  | w :: ws, h => by
    obtain ⟨a, b, c⟩ := h w (.head _)
    obtain ⟨a', b', c'⟩ := wDs (d := d) (ws := ws) fun v m => h v (.tail _ m)
    refine ⟨by simp [wpures, a, a'], by simp [wdats, PyData.canLayAll0, b, b'], ?_⟩
    simp only [wdats, PyData.depthAll]
    omega
theorem wD_tup {d : Nat} {ws : List W} (h : ∀ w ∈ ws, wD d w) : wD (d + 1) (.tup ws) := by
  obtain ⟨a, b, c⟩ := wDs h
  exact ⟨by simpa [wpure] using a, by simpa [wdat, PyData.canLay0] using b, by simpa [wdat, PyData.depth] using c⟩
theorem wD_lst {d : Nat} {ws : List W} (h : ∀ w ∈ ws, wD d w) : wD (d + 1) (.lst ws) := by
  obtain ⟨a, b, c⟩ := wDs h
  exact ⟨by simpa [wpure] using a, by simpa [wdat, PyData.canLay0] using b, by simpa [wdat, PyData.depth] using c⟩
theorem wOk_of {d : Nat} {w : W} (h : wD d w) (l : d ≤ 64) : wOk w := ⟨h.1, by unfold SeqAt.shaped; rw [h.2.1, Bool.true_and]; exact decide_eq_true (Nat.le_trans h.2.2 l)⟩
theorem weqb_self {d : Nat} {w : W} (h : wD d w) : weqb w w = true := SeqAt.eqv_refl _ h.2.1
theorem wD_fr (u : Rat) : wD 1 (fr u) := wD_tup fun w h => by
  simp only [List.mem_cons, List.not_mem_nil, or_false] at h
  rcases h with rfl | rfl <;> exact wD_int
theorem wNe_lref {p : Addr} {ws us : List W} {G : Gp} {Q : QW} (h : G p = some (.lst ws)) : wNe (.ref p) (.lst us) G Q = (wOk (.lst ws) ∧ wOk (.lst us) ∧ Q (.bl (!weqb (.lst ws) (.lst us))) G) := by
  have e : wder G (.ref p) = .lst ws := by show (match G p with | some (.lst ws) => W.lst ws | _ => .ref p) = .lst ws; rw [h]
  have f : wNe (.ref p) (.lst us) G Q = (wOk (wder G (.ref p)) ∧ wOk (wder G (.lst us)) ∧ Q (.bl (!weqb (wder G (.ref p)) (wder G (.lst us)))) G) := rfl
  rw [f, e]
  rfl
theorem wEq_lref {p : Addr} {ws us : List W} {G : Gp} {Q : QW} (h : G p = some (.lst ws)) : wEq (.ref p) (.lst us) G Q = (wOk (.lst ws) ∧ wOk (.lst us) ∧ Q (.bl (weqb (.lst ws) (.lst us))) G) := by
  have e : wder G (.ref p) = .lst ws := by show (match G p with | some (.lst ws) => W.lst ws | _ => .ref p) = .lst ws; rw [h]
  have f : wEq (.ref p) (.lst us) G Q = (wOk (wder G (.ref p)) ∧ wOk (wder G (.lst us)) ∧ Q (.bl (weqb (wder G (.ref p)) (wder G (.lst us)))) G) := rfl
  rw [f, e]
  rfl
/-! ### two things in the small heap -/
theorem wNe_lrr {p : Addr} {ws us : List W} {G : Gp} {Q : QW} (h : G p = some (.lst ws)) : wNe (.lst us) (.ref p) G Q = (wOk (.lst us) ∧ wOk (.lst ws) ∧ Q (.bl (!weqb (.lst us) (.lst ws))) G) := by
  show (wOk (wder G (.lst us)) ∧ wOk (wder G (.ref p)) ∧ Q (.bl (!weqb (wder G (.lst us)) (wder G (.ref p)))) G) = _
  have e : wder G (.ref p) = .lst ws := by simp only [wder, h]
  rw [e]
  rfl
theorem wEq_lrr {p : Addr} {ws us : List W} {G : Gp} {Q : QW} (h : G p = some (.lst ws)) : wEq (.lst us) (.ref p) G Q = (wOk (.lst us) ∧ wOk (.lst ws) ∧ Q (.bl (weqb (.lst us) (.lst ws))) G) := by
  show (wOk (wder G (.lst us)) ∧ wOk (wder G (.ref p)) ∧ Q (.bl (weqb (wder G (.lst us)) (wder G (.ref p)))) G) = _
  have e : wder G (.ref p) = .lst ws := by simp only [wder, h]
  rw [e]
  rfl
theorem gup_in {G : Gp} {p q : Addr} {a b r : GO} (h : p ≠ q) : gup (gup (gup G p a) q r) p b = gup (gup G p b) q r := by
  funext x
  unfold gup
  by_cases c : x = p
  · subst c; rw [if_pos rfl, if_neg h, if_pos rfl]
  · rw [if_neg c, if_neg c, if_neg c]
theorem gup_fresh {G : Gp} {p q : Addr} {a : GO} (h : gup G p a q = none) : q ≠ p ∧ G q = none := by
  unfold gup at h
  split at h
  · cases h
  · exact ⟨by assumption, h⟩
/-! ### cuts -/
theorem cut_from {α : Type} (f : α → W) (xs : List α) {k : Nat} (h : k ≤ xs.length) : cutW (xs.map f) (some ((k : Nat) : Int)) none = (xs.drop k).map f := by
  unfold cutW
  rw [HT.sIx_nat, HT.sIx_none, List.length_map, Nat.min_eq_left h, List.map_drop]
  rw [List.take_of_length_le (by rw [List.length_drop, List.length_map]; omega)]
theorem cut_1 {α : Type} (f : α → W) (xs : List α) (h : 1 ≤ xs.length) : cutW (xs.map f) (some 1) none = (xs.drop 1).map f := cut_from f xs (k := 1) h
theorem cut_to {α : Type} (f : α → W) (xs : List α) {k : Nat} (h : k ≤ xs.length) : cutW (xs.map f) none (some ((k : Nat) : Int)) = (xs.take k).map f := by
  unfold cutW
  rw [HT.sIx_nat, HT.sIx_none, List.length_map, Nat.min_eq_left h, List.map_take, Nat.sub_zero, List.drop_zero]
/-! ### comprehensions -/
theorem lcW_mapA {α : Type} {gw : TGw} {te : TEw} {σ : SW} {G : Gp} (g h : α → W) : ∀ (xs : List α) (acc : List W) (Q : List W → Gp → Prop),
    (∀ x ∈ xs, ∀ P : QW, P (h x) G → gw (g x) σ G fun σ1 G1 => te σ1 G1 P) → Q (acc ++ xs.map h) G → lcW gw wYes te σ (xs.map g) acc G Q
  | [], acc, Q, _, q => by simpa [lcW] using q
  | x :: xs, acc, Q, hh, q => by
    have h1 := hh x (.head _) (fun y G3 => lcW gw wYes te σ (xs.map g) (acc ++ [y]) G3 Q) (lcW_mapA g h xs (acc ++ [h x]) Q (fun w' hw => hh w' (.tail _ hw)) (by simpa using q))
    simpa only [List.map_cons, lcW, wYes, if_true] using h1
theorem lcW_m {α : Type} {gw : TGw} {te : TEw} {σ : SW} {G : Gp} (g h : α → W) (xs : List α) (Q : List W → Gp → Prop) (hs : ∀ x ∈ xs, ∀ P : QW, P (h x) G → gw (g x) σ G fun σ1 G1 => te σ1 G1 P) (hd : Q (xs.map h) G) : lcW gw wYes te σ (xs.map g) [] G Q :=
  lcW_mapA g h xs [] Q hs (by rw [List.nil_append]; exact hd)
theorem lcR_mapA {α : Type} {p : Addr} {us : List W} {gw : TGw} {te : TEw} {σ : SW} {G : Gp} (hp : G p = some (.lst us)) (g h : α → W) : ∀ (xs : List α) (acc : List W) (Q : List W → Gp → Prop),
    (∀ x ∈ xs, ∀ P : QW, P (h x) G → gw (g x) σ G fun σ1 G1 => te σ1 G1 P) → Q (acc ++ xs.map h) G → lcR p us gw wYes te σ (xs.map g) acc G Q
  | [], acc, Q, _, q => ⟨hp, by simpa using q⟩
  | x :: xs, acc, Q, hh, q => ⟨hp, hh x (.head _) (fun y G3 => lcR p us gw wYes te σ (xs.map g) (acc ++ [y]) G3 Q) (lcR_mapA hp g h xs (acc ++ [h x]) Q (fun w' hw => hh w' (.tail _ hw)) (by simpa using q))⟩
/-- a comprehension that draws: P by what was told and the heap -/
theorem lcW_step {gw : TGw} {te : TEw} {σ : SW} (P : Nat → List W → Gp → Prop) : ∀ (items : List W) (k : Nat) (acc : List W) (G : Gp) (Q : List W → Gp → Prop), P k acc G →
    (∀ w ∈ items, ∀ k acc G (N : QW), P k acc G → (∀ y G', P (k + 1) (acc ++ [y]) G' → N y G') → gw w σ G fun σ1 G1 => te σ1 G1 N) → (∀ acc G, P (k + items.length) acc G → Q acc G) → lcW gw wYes te σ items acc G Q
  | [], k, acc, G, Q, p, _, q => by simpa [lcW] using q acc G p
  | w :: ws, k, acc, G, Q, p, hh, q => by
    have h1 := hh w (.head _) k acc G (fun y G3 => lcW gw wYes te σ ws (acc ++ [y]) G3 Q) p fun y G' p' => lcW_step P ws (k + 1) _ G' Q p' (fun w' m => hh w' (.tail _ m)) fun acc G p2 => q acc G (by rw [List.length_cons]; rw [show k + (ws.length + 1) = k + 1 + ws.length by omega]; exact p2)
    simpa only [lcW, wYes, if_true] using h1
/-! ### the bag stands -/
abbrev BagAt (p : Addr) (G : Gp) : Prop := ∃ c x, G p = some (bagO c x) ∧ 0 ≤ c ∧ 0 ≤ x ∧ x < 2147483648
theorem asL_at {G : Gp} {p : Addr} {ws : List W} (h : G p = some (.lst ws)) : asL G (.ref p) = some ws := by
  show (match G p with | some (.lst ws) => some ws | _ => none) = _
  rw [h]
theorem isG_at {G : Gp} {p : Addr} {ws : List W} {P : List W → Prop} (h : G p = some (.lst ws)) : isG (G p) P = P ws := by rw [h, isG_lst]
theorem BagAt.up {p q : Addr} {G : Gp} {o : GO} (h : BagAt p G) (ne : p ≠ q) : BagAt p (gup G q o) := by
  obtain ⟨c, x, g, r⟩ := h
  exact ⟨c, x, by rw [gup_ne ne]; exact g, r⟩
theorem BagAt.del {p q : Addr} {G : Gp} (h : BagAt p G) (ne : p ≠ q) : BagAt p (gdel G q) := by
  obtain ⟨c, x, g, r⟩ := h
  exact ⟨c, x, by rw [gdel_ne ne]; exact g, r⟩
theorem BagAt.ne {p q : Addr} {G : Gp} (h : BagAt p G) (n : G q = none) : p ≠ q := fun z => by
  obtain ⟨c, x, g, r⟩ := h
  rw [← z, g] at n; cases n
/-! ### a thing put in -/
def insL {α : Type} (k : Nat) (x : α) (xs : List α) : List α := xs.take k ++ [x] ++ xs.drop k
theorem ins_len {α : Type} {k : Nat} {x : α} {xs : List α} : (insL k x xs).length = xs.length + 1 := by
  unfold insL
  rw [List.length_append, List.length_append, List.length_take, List.length_drop, List.length_singleton]
  omega
theorem ins_mem {α : Type} {k : Nat} {x y : α} {xs : List α} (h : y ∈ insL k x xs) : y = x ∨ y ∈ xs := by
  unfold insL at h
  rcases List.mem_append.mp h with h | h
  · rcases List.mem_append.mp h with h | h
    · exact .inr (List.mem_of_mem_take h)
    · exact .inl (List.mem_singleton.mp h)
  · exact .inr (List.mem_of_mem_drop h)
theorem ins_map {α β : Type} (f : α → β) {k : Nat} {x : α} {xs : List α} : (xs.map f).take k ++ [f x] ++ (xs.map f).drop k = (insL k x xs).map f := by
  unfold insL
  rw [List.map_append, List.map_append, List.map_take, List.map_drop]
  rfl
theorem ins_mem' {α : Type} {k : Nat} {x y : α} {xs : List α} (h : y = x ∨ y ∈ xs) : y ∈ insL k x xs := by
  unfold insL
  rcases h with h | h
  · rw [h]; simp
  · rw [← List.take_append_drop k xs] at h
    rcases List.mem_append.mp h with h | h
    · exact List.mem_append.mpr (.inl (List.mem_append.mpr (.inl h)))
    · exact List.mem_append.mpr (.inr h)
theorem lcW_filterA {α : Type} {gw : TGw} {tt : TTw} {te : TEw} {σ : SW} {G : Gp} (g h : α → W) (c : α → Bool) : ∀ (xs : List α) (acc : List W) (Q : List W → Gp → Prop),
    (∀ x ∈ xs, ∀ (R : QW) (P : Gp → Prop), (c x = true → R (h x) G) → (c x = false → P G) → gw (g x) σ G fun σ1 G1 => tt σ1 G1 fun b G2 => if b = true then te σ1 G2 R else P G2) → Q (acc ++ (xs.filter c).map h) G → lcW gw tt te σ (xs.map g) acc G Q
  | [], acc, Q, _, q => by simpa [lcW] using q
  | x :: xs, acc, Q, hh, q => by
    have h1 := hh x (.head _) (fun y G3 => lcW gw tt te σ (xs.map g) (acc ++ [y]) G3 Q) (fun G2 => lcW gw tt te σ (xs.map g) acc G2 Q)
      (fun e => lcW_filterA g h c xs (acc ++ [h x]) Q (fun w' hw => hh w' (.tail _ hw)) (by simpa [List.filter_cons, e] using q))
      (fun e => lcW_filterA g h c xs acc Q (fun w' hw => hh w' (.tail _ hw)) (by simpa [List.filter_cons, e] using q))
    simpa only [List.map_cons, lcW] using h1
theorem lcP_mapA {α : Type} {I : Gp → Prop} {gw : TGw} {te : TEw} {σ : SW} {G : Gp} (hI : I G) (g h : α → W) : ∀ (xs : List α) (acc : List W) (Q : List W → Gp → Prop),
    (∀ x ∈ xs, ∀ P : QW, P (h x) G → gw (g x) σ G fun σ1 G1 => te σ1 G1 P) → Q (acc ++ xs.map h) G → lcP I gw wYes te σ (xs.map g) acc G Q
  | [], acc, Q, _, q => ⟨hI, by simpa using q⟩
  | x :: xs, acc, Q, hh, q => ⟨hI, hh x (.head _) (fun y G3 => lcP I gw wYes te σ (xs.map g) (acc ++ [y]) G3 Q) (lcP_mapA hI g h xs (acc ++ [h x]) Q (fun w' hw => hh w' (.tail _ hw)) (by simpa using q))⟩
theorem gdel_in {G : Gp} {p r : Addr} {o u : GO} (hp : G p = none) (ne : r ≠ p) : gdel (gup (gup G p o) r u) p = gup G r u := by
  funext c
  unfold gdel gup
  by_cases c1 : c = p
  · subst c1; rw [if_pos rfl, if_neg (Ne.symm ne), hp]
  · rw [if_neg c1]
    by_cases c2 : c = r
    · rw [if_pos c2, if_pos c2]
    · rw [if_neg c2, if_neg c2, if_neg c1]
/-- a list told, another one forgotten -/
theorem tell_drop {ws : List W} {Q : QW} {G : Gp} {p r : Addr} {o : GO} (h : tellL ws Q G) (hp : G p = none) (hr : gup G p o r = none) : Cl Q (.ref r) (gup (gup G p o) r (.lst ws)) := by
  obtain ⟨ne, hr'⟩ := gup_fresh hr
  have e := gdel_in (o := o) (u := .lst ws) hp ne
  rcases h with h | h
  · refine .inr ⟨[p], .inr ⟨r, ws, rfl, ?_, ?_⟩⟩
    · show gdel _ p r = _
      rw [e, gup_same]
    · show Q _ (gdel (gdel _ p) r)
      rw [e, gdel_gup hr']; exact h
  · refine .inr ⟨[p], .inl ?_⟩
    show Q _ (gdel _ p)
    rw [e]; exact h r hr'
end WL
namespace WL
open PySem PySem.Spec PyProof.Rows L2

/-! ### texts: signs one by one, join, split, a sign in a text, int(text) -/
def signsW (z : Str) : List W := z.cps.toList.map fun c => W.str ⟨#[c]⟩
def strI (w : W) (G : Gp) (R : List W → Gp → Prop) : Prop := match w with
  | .str z => R (signsW z) G
  | _ => False
theorem strI_str {z : Str} {G : Gp} {R : List W → Gp → Prop} : strI (.str z) G R = R (signsW z) G := rfl
def iStrW (te : TEw) : TIw := fun σ G R => te σ G fun w G1 => strI w G1 R
theorem a_iStr {te : TEw} {σ : SW} {G : Gp} {R : List W → Gp → Prop} : iStrW te σ G R = te σ G fun w G1 => strI w G1 R := rfl
def joinO (x y : W) (G : Gp) (Q : QW) : Prop := match x with
  | .str a => isS (seqs G y) fun ws => ∃ ys : List Str, ws = ys.map W.str ∧ (ys.map (·.length)).sum + ys.length * a.length ≤ 16777216 ∧ Q (.str (Txt.join a ys)) G
  | _ => False
def wJoinT : RW2 := joinO
def splitO (x y : W) (G : Gp) (Q : QW) : Prop := match x, y with
  | .str a, .str b => (b.length == 0) = false ∧ a.length + 2 ≤ sizeLine ∧ Q (.lst ((Txt.split a b).map W.str)) G
  | _, _ => False
def wSplitT : RW2 := splitO
theorem wSplitT_eq {a b : Str} {G : Gp} {Q : QW} : wSplitT (.str a) (.str b) G Q = ((b.length == 0) = false ∧ a.length + 2 ≤ sizeLine ∧ Q (.lst ((Txt.split a b).map W.str)) G) := rfl
theorem wJoinT_eq {a : Str} {y : W} {G : Gp} {Q : QW} : wJoinT (.str a) y G Q = isS (seqs G y) fun ws => ∃ ys : List Str, ws = ys.map W.str ∧ (ys.map (·.length)).sum + ys.length * a.length ≤ 16777216 ∧ Q (.str (Txt.join a ys)) G := rfl
def wInSg : RW2 := fun x y G Q => ∃ (c : Nat) (z : Str), x = .str ⟨#[c]⟩ ∧ y = .str z ∧ Q (.bl (decide (c ∈ z.cps.toList))) G
def wIntT : List W → Gp → QW → Prop := fun ws G Q => ∃ a n, ws = [.str a] ∧ PySem.intText? a = some n ∧ a.length ≤ 640 ∧ Q (.int n) G
section
variable {X : Cx} {K : PySem.W.Frag} {Z : Zp} {G : Gp} {H : Hp}
theorem walkTx {z : Str} (h : HRel K Z G H) : WalkW K (Its z) Z G H (signsW z) := by
  refine ⟨_, _, by unfold signsW; rw [List.length_map, Array.length_toList]; exact walk_str, fun Z' G' H' x h' => ⟨trivial, fun i v H'' hi y => ?_⟩⟩
  obtain ⟨rfl, c, ec, rfl⟩ := y
  refine ⟨.str ⟨#[c]⟩, ?_, .str, Ext.refl, h'⟩
  unfold signsW
  rw [List.getElem?_map, Array.getElem?_toList, ec]; rfl
theorem qistr {tg l : Expr} {te : TEw} (hl : PEw X l te) : PIw X tg l (iStrW te) := PI.imp (pi_str hl) fun σ H R h => by
  obtain ⟨Z, σ', G, Qw, e, hr, t, k⟩ := h
  refine ⟨Z, σ', G, _, e, hr, t, fun Z1 G1 H1 w v x1 h1 r1 t1 => ?_⟩
  cases r1 with
  | str => exact ⟨_, rfl, k Z1 G1 H1 _ _ x1 h1 (walkTx h1) t1⟩
  | _ => exact False.elim t1
theorem RwL.strs : ∀ {ys : List Str} {vs : List V}, RwL K Z H (ys.map W.str) vs → vs = ys.map V.str
  | [], _, .nil => rfl
  | y :: ys, _, .cons r t => by
    cases r
    rw [RwL.strs t]; rfl
theorem strs_RwL : ∀ (ys : List Str), RwL K Z H (ys.map W.str) (ys.map V.str)
  | [] => .nil
  | _ :: ys => .cons .str (strs_RwL ys)
theorem sim_inSg : Sim2 K (fun x y H Q => ∃ (c : Nat) (z : Str), x = V.str ⟨#[c]⟩ ∧ y = V.str z ∧ Q (.bl (decide (c ∈ z.cps.toList))) H) wInSg := by
  intro Z G H x y v u Qw Q h rx ry t k
  obtain ⟨c, z, rfl, rfl, q⟩ := t
  cases rx
  cases ry
  exact ⟨c, z, rfl, rfl, k.at h .bl q⟩
theorem qinSg {a b : Expr} {ta tb : TEw} {pos : Pos} (ha : PEw X a ta) (hb : PEw X b tb) (hm : behindInMarks .In b = false := by rfl) : PEw X (.Compare a [.In] [b] pos) (wOp wInSg ta tb) := qcmp op_in_sign sim_inSg ha hb hm
def isTx (x : W) (P : Prop) : Prop := match x with
  | .str _ => P
  | _ => False
theorem isTx_str {z : Str} {P : Prop} : isTx (.str z) P = P := rfl
def wTx (r : RW2) (to te : TEw) : TEw := fun σ G Q => to σ G fun x G1 => isTx x (te σ G1 fun y G2 => r x y G2 Q)
theorem a_wTx {r : RW2} {to te : TEw} {σ : SW} {Q : QW} : wTx r to te σ G Q = to σ G fun x G1 => isTx x (te σ G1 fun y G2 => r x y G2 Q) := rfl
theorem ltx {to te : TEw} {wr : RW2} {r : V → List V → Hp → VK → Prop} (hs : ∀ Z G H x v y u Qw Q, HRel K Z G H → Rw K Z H x v → Rw K Z H y u → wr x y G Qw → KE K Z G H Qw Q → r v [u] H Q) {σ : SV} {Q : VK}
    (h : liftE K (wTx wr to te) σ H Q) : tM1 r (liftE K to) (liftE K te) σ H Q := by
  obtain ⟨Z, σ', G, Qw, ev, hr, t, k⟩ := h
  refine ⟨Z, σ', G, _, ev, hr, t, fun Z1 G1 H1 w v x1 h1 r1 t1 => ?_⟩
  cases r1 with
  | @str z =>
    refine ⟨⟨_, rfl⟩, Z1, σ', G1, _, ev.ext hr x1, h1, t1, fun Z2 G2 H2 w2 v2 x2 h2 r2 t2 => ?_⟩
    exact hs Z2 G2 H2 (.str z) _ w2 v2 Qw Q h2 .str r2 t2 (k.mono (x1.trans x2))
  | _ => exact False.elim t1
theorem qsplit {o e : Expr} {to te : TEw} {apos pos : Pos} (ho : PEw X o to) (he : PEw X e te) (hs : starEach [e] X.env = [(false, eval e X.env)] := by rfl) (hb : attributeBase o "split" X.env (eval o X.env) = eval o X.env := by rfl) (hl : (apos.endLine == pos.line) = true := by rfl) :
    PEw X (.Call (.Attribute o "split" apos) [e] [] pos) (wTx wSplitT to te) :=
  PE.imp (pe_split ho he hs hb hl) fun σ H Q h => ltx (fun Z G H x v y u Qw Q h rx ry t k => by
    cases rx with
    | str => cases ry with
      | str =>
        obtain ⟨t1, t2, t3⟩ := t
        refine ⟨_, _, rfl, rfl, t1, t2, fun p n => ?_⟩
        obtain ⟨h2, x2, r2⟩ := new_frz h n (strs_RwL _)
        exact k _ _ _ _ _ x2 h2 r2 t3
      | _ => exact False.elim t
    | _ => cases ry <;> exact False.elim t) h
theorem qjoin {o e : Expr} {to te : TEw} {apos pos : Pos} (ho : PEw X o to) (he : PEw X e te) (hs : starEach [e] X.env = [(false, eval e X.env)] := by rfl) (hb : attributeBase o "join" X.env (eval o X.env) = eval o X.env := by rfl) (hl : (apos.endLine == pos.line) = true := by rfl) :
    PEw X (.Call (.Attribute o "join" apos) [e] [] pos) (wTx wJoinT to te) :=
  PE.imp (pe_join ho he hs hb hl) fun σ H Q h => ltx (fun Z G H x v y u Qw Q h rx ry t k => by
    cases rx with
    | str =>
      obtain ⟨ws, e, t⟩ := isS_ex t
      obtain ⟨ys, rfl, t1, t2⟩ := t
      cases ry with
      | @tup p ws' vs s r =>
        have e : some ws' = some (ys.map W.str) := e
        injection e with e
        rw [e] at r
        rw [RwL.strs r] at s
        exact ⟨_, p, ys, rfl, rfl, .inr s, t1, k.at h .str t2⟩
      | lst z s r =>
        have e : some _ = some (ys.map W.str) := e
        injection e with e
        rw [e] at r
        rw [RwL.strs r] at s
        exact ⟨_, _, ys, rfl, rfl, .inl (SqL.of s), t1, k.at h .str t2⟩
      | @ref p =>
        obtain ⟨q, vs, e2, s, r⟩ := asL_sq h (w := .ref p) .ref e
        injection e2 with e2
        subst e2
        rw [RwL.strs r] at s
        exact ⟨_, _, ys, rfl, rfl, .inl s, t1, k.at h .str t2⟩
      | scr s r =>
        have e : some _ = some (ys.map W.str) := e
        injection e with e
        rw [e] at r
        have s := s.sq
        rw [RwL.strs r] at s
        exact ⟨_, _, ys, rfl, rfl, .inl s, t1, k.at h .str t2⟩
      | _ => cases e
    | _ => exact False.elim t) h
theorem sim_intT : SimN K (fun xs H Q => ∃ a n, xs = [V.str a] ∧ PySem.intText? a = some n ∧ a.length ≤ 640 ∧ Q (V.int n) H) wIntT := by
  intro Z G H ws vs Qw Q h r t k
  obtain ⟨a, n, rfl, e, l, q⟩ := t
  cases r with
  | cons r1 r2 =>
    cases r2
    cases r1
    exact ⟨a, n, rfl, e, l, k.at h .int q⟩
theorem qintT {e : Expr} {es : List Expr} {t : TAw} {p pos : Pos} (hg : Gl X "int") (hm : X.mg "int" = none) (ha : PAw X (e :: es) t) (he : starEach (e :: es) X.env = (false, eval e X.env) :: starEach es X.env := by rfl) (hpl : (backTo pos (starEach es X.env)).any (·.1) = false := by rfl) :
    PEw X (.Call (.Name "int" p) (e :: es) [] pos) (wCB wIntT t) := PE.imp (pe_callTy call_int_str hg hm (by decide +kernel) ha (by decide) (by decide) he hpl) fun _ _ _ h => liftN sim_intT h
end
end WL
namespace WL
open PySem PySem.Spec PyProof.Rows L2

/-! ### what hangs together (plain) -/
/-- a set that no line leaves -/
def Shut (es : List (Nat × Nat)) (S : Nat → Prop) : Prop := ∀ e ∈ es, S e.1 ↔ S e.2
def Conn (n : Nat) (es : List (Nat × Nat)) : Prop := ∀ S : Nat → Prop, S 0 → Shut es S → ∀ v, v < n → S v
theorem full_of_nodup : ∀ (n : Nat) (l : List Nat), l.Nodup → (∀ x ∈ l, x < n) → l.length ≤ n ∧ (l.length = n → ∀ v, v < n → v ∈ l)
  | 0, [], _, _ => ⟨Nat.le_refl _, fun _ v hv => absurd hv (by omega)⟩
  | 0, x :: l, _, h => absurd (h x (.head _)) (by omega)
  | n + 1, l, nd, h => by
    by_cases c : n ∈ l
    · have nd2 := nd.erase n
      have len := List.length_erase_of_mem c
      have h2 : ∀ x ∈ l.erase n, x < n := fun x hx => by
        have h3 := h x (List.mem_of_mem_erase hx)
        have h4 : x ≠ n := fun z => by rw [z] at hx; exact (nd.not_mem_erase) hx
        omega
      obtain ⟨a, b⟩ := full_of_nodup n (l.erase n) nd2 h2
      have pos : 0 < l.length := List.length_pos_of_mem c
      refine ⟨by omega, fun e v hv => ?_⟩
      by_cases d : v = n
      · rw [d]; exact c
      · exact List.mem_of_mem_erase (b (by omega) v (by omega))
    · have h2 : ∀ x ∈ l, x < n := fun x hx => by
        have := h x hx
        have : x ≠ n := fun z => c (z ▸ hx)
        omega
      obtain ⟨a, b⟩ := full_of_nodup n l nd h2
      exact ⟨by omega, fun e => absurd e (by omega)⟩
/-- what was met from 0 on, and nothing beyond, is all: then it hangs together -/
theorem met_conn {n : Nat} {es : List (Nat × Nat)} {met : List Nat} (nd : met.Nodup) (lt : ∀ x ∈ met, x < n) (h0 : 0 ∈ met) (sh : Shut es (· ∈ met)) (all : ∀ S : Nat → Prop, S 0 → Shut es S → ∀ v ∈ met, S v) : met.length = n ↔ Conn n es := by
  obtain ⟨a, b⟩ := full_of_nodup n met nd lt
  constructor
  · intro e S s0 sS v hv
    exact all S s0 sS v (b e v hv)
  · intro c
    have f := c (· ∈ met) h0 sh
    have g := List.nodup_range.length_le_of_subset (l₁ := List.range n) (l₂ := met) fun v hv => f v (List.mem_range.mp hv)
    rw [List.length_range] at g
    omega
/-- what was met, what is left to look from; done: p alone is still looked from, along the first k lines -/
structure Seek (n : Nat) (es : List (Nat × Nat)) (met left : List Nat) : Prop where
  nd : met.Nodup
  lt : ∀ x ∈ met, x < n
  h0 : 0 ∈ met
  sub : ∀ x ∈ left, x ∈ met
  all : ∀ S : Nat → Prop, S 0 → Shut es S → ∀ v ∈ met, S v
def DoneAt (es : List (Nat × Nat)) (met : List Nat) (v : Nat) : Prop := ∀ e ∈ es, (e.1 = v → e.2 ∈ met) ∧ (e.2 = v → e.1 ∈ met)
theorem DoneAt.mono {es : List (Nat × Nat)} {met met' : List Nat} {v : Nat} (h : DoneAt es met v) (m : ∀ x ∈ met, x ∈ met') : DoneAt es met' v := fun e he => ⟨fun z => m _ ((h e he).1 z), fun z => m _ ((h e he).2 z)⟩
theorem seek_start {n : Nat} {es : List (Nat × Nat)} (hn : 0 < n) : Seek n es [0] [0] :=
  ⟨by simp, fun x hx => by rw [List.mem_singleton.mp hx]; exact hn, .head _, fun _ h => h, fun S s0 _ v hv => by rw [List.mem_singleton.mp hv]; exact s0⟩
theorem seek_add {n : Nat} {es : List (Nat × Nat)} {met left : List Nat} {p t : Nat} (h : Seek n es met left) (hp : p ∈ met) (ht : t ∉ met) (tn : t < n) (e : (p, t) ∈ es ∨ (t, p) ∈ es) : Seek n es (met ++ [t]) (left ++ [t]) := by
  refine ⟨?_, fun x hx => ?_, List.mem_append.mpr (.inl h.h0), fun x hx => ?_, fun S s0 sS v hv => ?_⟩
  · rw [List.nodup_append]
    refine ⟨h.nd, by simp, fun a ha b hb => ?_⟩
    rw [List.mem_singleton.mp hb]
    exact fun z => ht (z ▸ ha)
  · rcases List.mem_append.mp hx with hx | hx
    · exact h.lt x hx
    · rw [List.mem_singleton.mp hx]; exact tn
  · rcases List.mem_append.mp hx with hx | hx
    · exact List.mem_append.mpr (.inl (h.sub x hx))
    · exact List.mem_append.mpr (.inr hx)
  · rcases List.mem_append.mp hv with hv | hv
    · exact h.all S s0 sS v hv
    · rw [List.mem_singleton.mp hv]
      have sp := h.all S s0 sS p hp
      rcases e with e | e
      · exact (sS _ e).mp sp
      · exact (sS _ e).mpr sp
theorem seek_end {n : Nat} {es : List (Nat × Nat)} {met : List Nat} (h : Seek n es met []) (d : ∀ v ∈ met, DoneAt es met v) : met.length = n ↔ Conn n es :=
  met_conn h.nd h.lt h.h0 (fun e he => ⟨fun z => (d _ z e he).1 rfl, fun z => (d _ z e he).2 rfl⟩) h.all
theorem seek_len {n : Nat} {es : List (Nat × Nat)} {met left : List Nat} (h : Seek n es met left) : met.length ≤ n := (full_of_nodup n met h.nd h.lt).1
/-! the law's way: labels -/
structure Lab (n : Nat) (es : List (Nat × Nat)) (f : Nat → Nat) : Prop where
  z : f 0 = 0
  same : ∀ e ∈ es, f e.1 = f e.2
  set : ∀ S : Nat → Prop, Shut es S → ∀ v, v < n → (S v ↔ S (f v))
  lt : ∀ v, v < n → f v < n
theorem lab_start {n : Nat} : Lab n [] (fun v => v) := ⟨rfl, fun e he => (by cases he), fun _ _ _ _ => Iff.rfl, fun _ h => h⟩
def relab (f : Nat → Nat) (a b : Nat) : Nat → Nat := fun v => if f v = max (f a) (f b) then min (f a) (f b) else f v
theorem lab_step {n a b : Nat} {es : List (Nat × Nat)} {f : Nat → Nat} (h : Lab n es f) (ha : a < n) (hb : b < n) : Lab n (es ++ [(a, b)]) (relab f a b) := by
  have hfa := h.lt a ha
  have hfb := h.lt b hb
  refine ⟨?_, fun e he => ?_, fun S sS v hv => ?_, fun v hv => ?_⟩
  · unfold relab; rw [h.z]; split <;> omega
  · rcases List.mem_append.mp he with he | he
    · unfold relab; rw [h.same e he]
    · rw [List.mem_singleton.mp he]
      show relab f a b a = relab f a b b
      unfold relab
      split <;> split <;> omega
  · have sE : Shut es S := fun e he => sS e (List.mem_append.mpr (.inl he))
    have sab : S a ↔ S b := sS (a, b) (List.mem_append.mpr (.inr (.head _)))
    have s1 := h.set S sE a ha
    have s2 := h.set S sE b hb
    have s3 := h.set S sE v hv
    unfold relab
    by_cases c : f v = max (f a) (f b)
    · rw [if_pos c, s3, c]
      by_cases d : f a ≤ f b
      · rw [Nat.max_eq_right d, Nat.min_eq_left d, ← s2, ← s1]; exact sab.symm
      · rw [Nat.max_eq_left (by omega), Nat.min_eq_right (by omega), ← s2, ← s1]; exact sab
    · rw [if_neg c]; exact s3
  · have := h.lt v hv
    unfold relab
    split <;> omega
theorem lab_end {n : Nat} {es : List (Nat × Nat)} {f : Nat → Nat} (h : Lab n es f) : (∀ v, v < n → f v = 0) ↔ Conn n es := by
  constructor
  · intro z S s0 sS v hv
    have := h.set S sS v hv
    rw [z v hv] at this
    exact this.mpr s0
  · intro c v hv
    exact c (fun v => f v = 0) h.z (fun e he => by show f e.1 = 0 ↔ f e.2 = 0; rw [h.same e he]) v hv
noncomputable def connB (n : Nat) (es : List (Nat × Nat)) : Bool := @decide (Conn n es) (Classical.propDecidable _)
theorem connB_of {n : Nat} {es : List (Nat × Nat)} {p : Prop} [Decidable p] (h : p ↔ Conn n es) : decide p = connB n es := by
  unfold connB
  by_cases c : p
  · rw [decide_eq_true c]; symm; exact @decide_eq_true _ (Classical.propDecidable _) (h.mp c)
  · rw [decide_eq_false c]; symm; exact @decide_eq_false _ (Classical.propDecidable _) fun z => c (h.mpr z)
theorem connB_iff {n : Nat} {es : List (Nat × Nat)} : connB n es = true ↔ Conn n es := by
  unfold connB
  exact @decide_eq_true_iff _ (Classical.propDecidable _)
/-! lines -/
structure Ln where
  a : Nat
  b : Nat
  s : Nat
  m : Nat
def Ln.e (l : Ln) : Nat × Nat := (l.a, l.b)
structure LnOk (n : Nat) (l : Ln) : Prop where
  a : l.a < n
  b : l.b < n
  ne : l.a ≠ l.b
  s : 1 ≤ l.s ∧ l.s ≤ 9
  m : l.m ≤ 99
abbrev lineW (l : Ln) : W := .tup [.int ((l.a : Nat) : Int), .int ((l.b : Nat) : Int), .int ((l.s : Nat) : Int), .int ((l.m : Nat) : Int)]
abbrev linesW (ls : List Ln) : List W := ls.map fun l => lineW l
abbrev netW (n : Nat) (ls : List Ln) : W := .tup [.int ((n : Nat) : Int), .tup (linesW ls)]
abbrev edges (ls : List Ln) : List (Nat × Nat) := ls.map Ln.e
def dropL (ls : List Ln) (k : Nat) : List Ln := ls.take k ++ ls.drop (k + 1)
end WL
namespace WL
open PySem PySem.Spec PyProof.Rows L2
local macro_rules | `(tactic| walk_at "w") => `(tactic| try simp only [↓a_seq, ↓a_asg, ↓a_ifS, ↓a_ret, ↓a_retN, ↓a_next, ↓a_break, ↓a_cont, ↓a_drop, ↓a_for, ↓a_C, ↓a_op, ↓a_un, ↓a_neg, ↓a_CB, ↓a_call, ↓a_nil, ↓a_cons, ↓a_tup, ↓a_lst, ↓a_lstM, ↓a_test, ↓a_and, ↓a_or, ↓a_not, ↓a_yes, ↓a_andV, ↓a_orV, ↓a_notV, ↓a_if, ↓a_isN, ↓a_notN, ↓a_chain, ↓a_BM, ↓a_BM0, ↓a_seqI, ↓a_R1, ↓a_R2, ↓a_zip2, ↓a_zipG2, ↓a_zipG3, ↓a_enumG, ↓a_enum, ↓a_lc, ↓a_lcM, ↓a_lcR, ↓a_forR, ↓a_seqR, ↓a_zip2R, ↓a_zipR, ↓a_lstRg, ↓a_lstRgM, ↓a_lcP, ↓a_lcPM, ↓a_zipTR, ↓a_zipTQ, ↓a_zip3R, ↓a_zip3Q, ↓a_lenSetT, ↓a_slice, ↓a_sliceM, ↓a_pN, ↓a_pS, ↓a_augIx, ↓a_gIx, ↓a_par, ↓a_setF, ↓a_meth, ↓a_make, ↓a_makeZ, ↓a_dnew, ↓a_done, ↓a_dput, ↓a_dget, ↓a_din, ↓a_lenD, ↓a_raise, ↓a_callX, ↓a_retX, ↓a_dropX, ↓a_asgX, ↓a_tryAs, ↓a_isE, ↓a_isET, ↓a_xf, ↓a_callE, ↓a_lstI, ↓a_ndget, ↓a_ndin, ↓a_ndnew, ↓a_ndput, ↓a_R3, ↓v_0, ↓g_0, ↓u_0, ↓v_1, ↓g_1, ↓u_1, ↓v_2, ↓g_2, ↓u_2, ↓v_3, ↓g_3, ↓u_3, ↓v_4, ↓g_4, ↓u_4, ↓v_5, ↓g_5, ↓u_5, ↓v_6, ↓g_6, ↓u_6, ↓v_7, ↓g_7, ↓u_7, ↓v_8, ↓g_8, ↓u_8, ↓v_9, ↓g_9, ↓u_9, ↓v_10, ↓g_10, ↓u_10, ↓v_11, ↓g_11, ↓u_11, ↓v_12, ↓g_12, ↓u_12, ↓v_13, ↓g_13, ↓u_13, ↓v_14, ↓g_14, ↓u_14, ↓v_15, ↓g_15, ↓u_15, ↓v_16, ↓g_16, ↓u_16, ↓v_17, ↓g_17, ↓u_17, ↓v_18, ↓g_18, ↓u_18, ↓v_19, ↓g_19, ↓u_19, ↓v_20, ↓g_20, ↓u_20, ↓v_21, ↓g_21, ↓u_21, ↓v_22, ↓g_22, ↓u_22, ↓v_23, ↓g_23, ↓u_23, ↓v_24, ↓g_24, ↓u_24, ↓v_25, ↓g_25, ↓u_25, ↓f_0, ↓fl_0, ↓fn_0, ↓f_1, ↓fl_1, ↓fn_1, ↓f_2, ↓fl_2, ↓fn_2, ↓f_3, ↓fl_3, ↓fn_3, ↓f_4, ↓fl_4, ↓fn_4, ↓f_5, ↓fl_5, ↓fn_5, ↓f_6, ↓fl_6, ↓fn_6, ↓f_7, ↓fl_7, ↓fn_7, ↓f_8, ↓fl_8, ↓fn_8, ↓f_9, ↓fl_9, ↓fn_9, ↓f_10, ↓fl_10, ↓fn_10, ↓f_11, ↓fl_11, ↓fn_11, ↓f_12, ↓fl_12, ↓fn_12, ↓f_13, ↓fl_13, ↓fn_13, ↓f_14, ↓fl_14, ↓fn_14, ↓f_15, ↓fl_15, ↓fn_15, ↓f_16, ↓fl_16, ↓fn_16, ↓f_17, ↓fl_17, ↓fn_17, ↓f_18, ↓fl_18, ↓fn_18, ↓f_19, ↓fl_19, ↓fn_19, ↓f_20, ↓fl_20, ↓fn_20, ↓f_21, ↓fl_21, ↓fn_21, ↓f_22, ↓fl_22, ↓fn_22, ↓f_23, ↓fl_23, ↓fn_23, ↓f_24, ↓fl_24, ↓fn_24, ↓f_25, ↓fl_25, ↓fn_25, ↓nPut_ref, ↓dcnOf_gup, ↓rng3_int, ↓wSortedN_eq, ↓isN_dcn, ↓asL_lst, ↓asL_scr, ↓asL_gup, ↓wIx_tup, ↓wIx_lst, ↓wIx_scr, ↓wIx_ref, ↓wIx_str, ↓wAdd_int, ↓wAdd_str, ↓wAdd_tup, ↓wAdd_lst, ↓wII_int, ↓wI2_int, ↓wI1_int, ↓wI1N_int, ↓wI2N_int, ↓wLen_tup, ↓wLen_lst, ↓wLen_scr, ↓wLen_ref, ↓wLen_str, ↓wInt_int, ↓wInt_bl, ↓wStrI_int, ↓wEq_int, ↓wEq_str, ↓wEq_bl, ↓wNe_bl, ↓wNe_int, ↓wNe_str, ↓wEq_tup, ↓wNe_tup, ↓wEq_lst, ↓wNe_lst, ↓setIx_ref, ↓gT_tup, ↓gT_lst, ↓gT_ref, ↓gsC_cons, ↓gsN_nil, ↓wAppend_ref, ↓wPop_ref, ↓wExtend_ref, ↓rgO_int, ↓wAddM_lst, ↓wIsB_bl, ↓wReverse_ref, ↓wRepT_tup, ↓wNotB_bl, ↓wInD_lst, ↓wPopAt_ref, ↓wInsert_ref, ↓refR_ref, ↓seqOf_tup, ↓seqOf_lst, ↓seqOf_scr, ↓seqOf_ref, ↓rng1_int, ↓rng2_int, ↓wIsi_non, ↓wIsi_bl, ↓wIsi_int, ↓wIsi_str, ↓wIsi_tup, ↓wIsi_lst, ↓wIsi_ref, ↓wAll_lst, ↓wAny_lst, ↓wSum_lst, ↓wTuple_tup, ↓wTuple_lst, ↓wTuple_ref, ↓wList_tup, ↓wList_lst, ↓wList_ref, ↓wListM_tup, ↓wListM_lst, ↓wCut_tup, ↓wCut_lst, ↓wCut_ref, ↓wCut_str, ↓wRep_lst, ↓wRepM_lst, ↓zipOf_tup, ↓zipOf_lst, ↓enumOf_lst, ↓enumOf_scr, ↓zipG2_eq, ↓zipG3_eq, ↓enumG_eq, ↓wSorted_eq, ↓wSortedM_eq, ↓wClear_ref, ↓wGet_ref, ↓truO_bl, ↓intO_int, ↓isS_some, ↓isG_lst, ↓setF_ref, ↓isI_ins, ↓dPut_ref, ↓isD_dic, ↓insOf_gup, ↓dicOf_gup, ↓isExc_exc, ↓lstOf_lst, ↓gT'_tup, sdel, keyOf, nk, rangeW_length, sset, skill, swipe, swipe.sforget, lcW, wIn, seqs, inW, eqW, flatW, kdIs, isNon, gup_same, gup_gup, at0, at1, at2, at3, at4, at5, at6, at7, ix0, ix1, ix2, ix3, ix4, ix5, W.bl.injEq, exists_eq_left', List.length_cons, List.length_nil, List.length_map, Nat.zero_add, Nat.reduceAdd, List.set, List.map_cons, List.map_nil, Option.isSome_some, List.all_cons, List.all_nil, List.any_cons, List.any_nil, List.cons_append, List.nil_append, Bool.and_true, Bool.and_self, Bool.or_false, Bool.true_and, Bool.false_and, Bool.and_false, true_and, decide_true, decide_false, Bool.not_true, Bool.not_false, Bool.not_not, Bool.false_eq_true, if_true, if_false, ite_self, beq_self_eq_true])

/-! ### lines, walked -/
abbrev natsW (xs : List Nat) : List W := xs.map fun v => W.int ((v : Nat) : Int)
theorem wD_nats (xs : List Nat) : wD 1 (.lst (natsW xs)) := wD_lst fun w h => by
  obtain ⟨q, _, rfl⟩ := List.mem_map.mp h
  exact wD_int
theorem nats_mem {v : Nat} {xs : List Nat} : (natsW xs).any (fun y => eqW y (.int ((v : Nat) : Int))) = decide (v ∈ xs) := by
  induction xs with
  | nil => rfl
  | cons x xs ih =>
    show (eqW _ _ || (natsW xs).any _) = _
    rw [ih]
    show (decide ((x : Int) = (v : Int)) || decide (v ∈ xs)) = _
    by_cases c : v = x
    · subst c; simp
    · have c' : ¬ ((x : Int) = (v : Int)) := by omega
      simp [c, c']
theorem bag_at {G : Gp} {p q : Addr} {a r : GO} (h : q ≠ p) : gup (gup G p a) q r p = some a := by rw [gup_ne (Ne.symm h), gup_same]
def AsLines (lw : W) (ls : List Ln) : Prop := lw = .tup (linesW ls) ∨ lw = .lst (linesW ls)
def sp_hangs_together : Spw := fun ws G Q _ => ∃ (n : Nat) (lw : W) (ls : List Ln), ws = [.int ((n : Nat) : Int), lw] ∧ AsLines lw ls ∧ 1 ≤ n ∧ n ≤ 1000 ∧ (∀ l ∈ ls, LnOk n l) ∧ Q (.bl (connB n (edges ls))) G
theorem len_hangs_together (ws G Q E) (h : sp_hangs_together ws G Q E) : ws.length = 2 := by obtain ⟨_, _, _, rfl, _⟩ := h; rfl
/-- slots: many 0, lines 1, met 2, left 3, place 4, one 5, other 6, stiffness 7, most 8, there 9 -/
def t_hangs_together_b1 : TSw := (wIfS (wTest (wOp (wIn false) (wVar 4) (wTup (wCons (wVar 5) (wCons (wVar 6) wNil))))) (wSeq (wAsg (wOp wSub (wOp wAdd (wVar 5) (wVar 6)) (wVar 4)) (gN 9))
    (wIfS (wTest (wOp (wIn true) (wVar 9) (wVar 2))) (wSeq (wDrop (wBM wM_append (wVar 2) (wCons (wVar 9) wNil)))
    (wDrop (wBM wM_append (wVar 3) (wCons (wVar 9) wNil)))) wNext)) wNext)
def t_hangs_together_b2 : TSw := (wSeq (wAsg (wBM0 wM_pop (wVar 3)) (gN 4))
    (wFor [false, false, false, false, false, true, true, true, true, true] (iSeqW (wVar 1)) (gT 4 (gsC (gN 5) (gsC (gN 6) (gsC (gN 7) (gsC (gN 8) gsN))))) t_hangs_together_b1))
def t_hangs_together_r1 : TSw := (wRet (wOp wEq (wCB wLen (wCons (wVar 2) wNil)) (wVar 0)))
def t_hangs_together : TSw := (wSeq (wAsg (wLstM (wCons (wC (.int 0)) wNil)) (gN 2))
    (wSeq (wAsg (wLstM (wCons (wC (.int 0)) wNil)) (gN 3))
    (wSeq (wWhile [false, false, false, false, true, true, true, true, true, true] (wTest (wOp wNe (wVar 3) (wLst wNil))) t_hangs_together_b2)
    t_hangs_together_r1)))
theorem rd_hangs_together (ws : List W) (G : Gp) (Q : QW) (E) (h : sp_hangs_together ws G Q E) : t_hangs_together { nx := fun _ G' => Q .non G', rt := Cl Q } (startW ["many", "lines", "met", "left", "place", "one", "other", "stiffness", "most", "there"] ws) G := by
  obtain ⟨n, lw, ls, rfl, hlw, n1, n2, ok, q⟩ := h
  show t_hangs_together _ [some (.int n), some lw, none, none, none, none, none, none, none, none] G
  have big : 2000 < sizeLine := by decide
  have hseq : ∀ (G : Gp) (R : List W → Gp → Prop), seqOf lw G R = R (linesW ls) G := by rcases hlw with rfl | rfl <;> exact fun _ _ => rfl
  unfold t_hangs_together
  walk_at "w"
  refine ⟨by decide, fun p1 hp1 => ⟨by decide, fun p2 hp2 => ?_⟩⟩
  obtain ⟨ne, hp2⟩ := gup_fresh hp2
  refine ⟨fun m σ G1 => ∃ met left, G1 = gup (gup G p1 (.lst (natsW met))) p2 (.lst (natsW left)) ∧ σ = [some (.int n), some lw, some (.ref p1), some (.ref p2), none, none, none, none, none, none] ∧ Seek n (edges ls) met left ∧ (∀ v ∈ met, v ∉ left → DoneAt (edges ls) met v) ∧ m = 2 * (n - met.length) + left.length ∧ m ≤ 2 * n, ⟨_, [0], [0], rfl, rfl, seek_start (by omega), fun v h1 h2 => absurd h1 h2, rfl, by simp; omega⟩, ?_⟩
  rintro m σ G1 ⟨met, left, rfl, rfl, sk, dn, rfl, bnd⟩
  walk_at "w"
  rw [wNe_lref gup_same]
  refine ⟨by decide, wOk_of (wD_nats left) (by decide), wOk_of (wD_nats []) (by decide), ?_⟩
  walk_at "w"
  rcases List.eq_nil_or_concat left with rfl | ⟨left, p, rfl⟩
  · rw [show weqb (W.lst (natsW [])) (W.lst []) = true from weqb_self (wD_nats [])]
    unfold t_hangs_together_r1
    walk_at "w"
    rw [asL_at (bag_at ne)]
    walk_at "w"
    have e : decide (((met.length : Nat) : Int) = ((n : Nat) : Int)) = connB n (edges ls) := connB_of (by
      rw [← seek_end sk fun v hv => dn v hv (by simp)]
      omega)
    rw [e]
    refine .inr ⟨[p2, p1], .inl ?_⟩
    show Q _ (gdel (gdel (gup (gup G p1 _) p2 _) p2) p1)
    rw [gdel_gup (by rw [gup_ne ne]; exact hp2), gdel_gup hp1]
    exact q
  · rw [List.concat_eq_append] at *
    have en : natsW (left ++ [p]) = natsW left ++ [.int (p : Int)] := by unfold natsW; rw [List.map_append]; rfl
    have e0 : weqb (W.lst (natsW (left ++ [p]))) (W.lst []) = false := by
      cases left <;> simp [weqb, wdat, wdats, PyData.eqv, PyData.eqvAll]
    rw [e0]
    unfold t_hangs_together_b2
    walk_at "w"
    rw [en]
    rw [show (natsW left ++ [W.int (p : Int)])[(left ++ [p]).length - 1]? = some (.int (p : Int)) by simp]
    walk_at "w"
    rw [hseq, List.dropLast_concat]
    have hpm : p ∈ met := sk.sub p (List.mem_append.mpr (.inr (.head _)))
    have sk1 : Seek n (edges ls) met left := ⟨sk.nd, sk.lt, sk.h0, fun x hx => sk.sub x (List.mem_append.mpr (.inl hx)), sk.all⟩
    have dn1 : ∀ v ∈ met, v ≠ p → v ∉ left → DoneAt (edges ls) met v := fun v hv ne hl => dn v hv fun z => by
      rcases List.mem_append.mp z with z | z
      · exact hl z
      · exact ne (List.mem_singleton.mp z)
    have lm := seek_len sk
    rw [List.length_append, List.length_singleton] at bnd
    refine forW_ix (fun k σ G1 => ∃ met' left', G1 = gup (gup G p1 (.lst (natsW met'))) p2 (.lst (natsW left')) ∧ σ = [some (.int n), some lw, some (.ref p1), some (.ref p2), some (.int p), none, none, none, none, none] ∧ Seek n (edges ls) met' left' ∧ p ∈ met' ∧ (∀ v ∈ met', v ≠ p → v ∉ left' → DoneAt (edges ls) met' v) ∧ DoneAt ((edges ls).take k) met' p ∧ 2 * (n - met'.length) + left'.length ≤ 2 * (n - met.length) + left.length) _ 0 _ _ ⟨met, left, rfl, rfl, sk1, hpm, dn1, fun e he => (by simp at he), Nat.le_refl _⟩ ?_ ?_
    · rintro k w hw σ G1 N ⟨met', left', rfl, rfl, sk', hp', dn', dp', lm'⟩ hN
      rw [Nat.zero_add] at hN dp'
      rw [List.getElem?_map] at hw
      by_cases hk : k < ls.length
      · rw [List.getElem?_eq_getElem hk] at hw
        injection hw with hw
        subst hw
        have okl := ok _ (List.getElem_mem hk)
        have hke : k < (edges ls).length := by rw [List.length_map]; exact hk
        have ee : (edges ls).take (k + 1) = (edges ls).take k ++ [(ls[k].a, ls[k].b)] := by
          rw [List.take_succ_eq_append_getElem hke, List.getElem_map]
          rfl
        have em : (ls[k].a, ls[k].b) ∈ edges ls := List.mem_map.mpr ⟨_, List.getElem_mem hk, rfl⟩
        rw [ee] at hN
        generalize ls[k] = l at okl em hN ⊢
        unfold t_hangs_together_b1
        walk_at "w"
        refine ⟨by decide, ?_⟩
        by_cases hp : p = l.a ∨ p = l.b
        · obtain ⟨t, et, tn, ed, e1, e2⟩ : ∃ t : Nat, (l.a : Int) + (l.b : Int) - (p : Int) = (t : Int) ∧ t < n ∧ ((p, t) ∈ edges ls ∨ (t, p) ∈ edges ls) ∧ (l.a = p → l.b = t) ∧ (l.b = p → l.a = t) := by
            rcases hp with h | h
            · exact ⟨l.b, by omega, okl.b, .inl (by rw [h]; exact em), fun _ => rfl, fun z => by omega⟩
            · exact ⟨l.a, by omega, okl.a, .inr (by rw [h]; exact em), fun z => by omega, fun _ => rfl⟩
          rw [et]
          rw [if_pos (by rcases hp with h | h <;> simp [h])]
          rw [asL_at (bag_at ne)]
          walk_at "w"
          have fl : (natsW met').all flatW = true := by simp [flatW]
          have key := nats_mem (v := t) (xs := met')
          unfold eqW at key
          rw [key]
          refine ⟨fl, ?_⟩
          by_cases tm : t ∈ met'
          · rw [decide_eq_true tm, if_neg (by decide)]
            refine hN _ _ ⟨met', left', rfl, rfl, sk', hp', dn', fun e he => ?_, lm'⟩
            rcases List.mem_append.mp he with he | he
            · exact dp' e he
            · rw [List.mem_singleton.mp he]
              exact ⟨fun z => by rw [e1 z]; exact tm, fun z => by rw [e2 z]; exact tm⟩
          · rw [decide_eq_false tm, if_pos (by decide)]
            have sk2 := seek_add sk' hp' tm tn ed
            have l2 := seek_len sk2
            rw [List.length_append, List.length_singleton] at l2
            rw [isG_at (bag_at ne)]
            rw [gup_in (Ne.symm ne), asL_at gup_same]
            have lw1 : met'.length ≤ 1000 := by omega
            have lw2 : left'.length ≤ 2000 := by omega
            refine ⟨by rw [List.length_map]; omega, rfl, ?_⟩
            rw [isG_at gup_same, gup_gup]
            have e3 : natsW met' ++ [.int (t : Int)] = natsW (met' ++ [t]) := by unfold natsW; rw [List.map_append]; rfl
            have e4 : natsW left' ++ [.int (t : Int)] = natsW (left' ++ [t]) := by unfold natsW; rw [List.map_append]; rfl
            rw [e3, e4]
            have mm : ∀ x ∈ met', x ∈ met' ++ [t] := fun x hx => List.mem_append.mpr (.inl hx)
            refine ⟨by rw [List.length_map]; omega, hN _ _ ⟨met' ++ [t], left' ++ [t], rfl, rfl, sk2, mm _ hp', fun v hv vp vl => ?_, fun e he => ?_, ?_⟩⟩
            · rcases List.mem_append.mp hv with hv | hv
              · exact (dn' v hv vp fun z => vl (List.mem_append.mpr (.inl z))).mono mm
              · exact absurd (List.mem_append.mpr (.inr hv)) vl
            · rcases List.mem_append.mp he with he | he
              · exact dp'.mono mm e he
              · rw [List.mem_singleton.mp he]
                exact ⟨fun z => by rw [e1 z]; exact List.mem_append.mpr (.inr (.head _)), fun z => by rw [e2 z]; exact List.mem_append.mpr (.inr (.head _))⟩
            · rw [List.length_append, List.length_append, List.length_singleton]; omega
        · rw [if_neg (by simp only [not_or] at hp; simp; omega)]
          refine hN _ _ ⟨met', left', rfl, rfl, sk', hp', dn', fun e he => ?_, lm'⟩
          rcases List.mem_append.mp he with he | he
          · exact dp' e he
          · rw [List.mem_singleton.mp he]
            exact ⟨fun z => absurd (.inl z.symm) hp, fun z => absurd (.inr z.symm) hp⟩
      · rw [List.getElem?_eq_none (by omega)] at hw; cases hw
    · rintro σ G1 ⟨met', left', rfl, rfl, sk', hp', dn', dp', lm'⟩
      rw [Nat.zero_add, List.length_map, ← List.length_map (f := Ln.e), List.take_length] at dp'
      refine ⟨_, ?_, met', left', rfl, rfl, sk', fun v hv hl => ?_, rfl, by omega⟩
      · rw [List.length_append, List.length_singleton]; omega
      · by_cases c : v = p
        · rw [c]; exact dp'
        · exact dn' v hv c hl
/-! ### the law's way -/
theorem weqb_nats : ∀ (xs ys : List Nat), weqb (.lst (natsW xs)) (.lst (natsW ys)) = decide (xs = ys)
  | [], [] => by simp [weqb, wdat, wdats, PyData.eqv, PyData.eqvAll]
  | [], _ :: _ => by simp [weqb, wdat, wdats, PyData.eqv, PyData.eqvAll]
  | _ :: _, [] => by simp [weqb, wdat, wdats, PyData.eqv, PyData.eqvAll]
  | x :: xs, y :: ys => by
    have ih := weqb_nats xs ys
    simp only [weqb, wdat, wdats, PyData.eqv, PyData.eqvAll, List.map_cons] at ih ⊢
    rw [ih]
    by_cases c : x = y
    · subst c; simp
    · have c' : ¬ ((x : Int) = (y : Int)) := by omega
      simp [c, c']
theorem atI_nats {xs : List Nat} {k : Nat} (h : k < xs.length) : L2.atI (natsW xs) ((k : Nat) : Int) = some (.int ((xs[k] : Nat) : Int)) := by
  unfold L2.atI
  simp [L2.ixN, h]
/-! ### nets, drawn -/
theorem conn_more {n : Nat} {es es' : List (Nat × Nat)} (h : Conn n es) (m : ∀ e ∈ es, e ∈ es') : Conn n es' := fun S s0 sS => h S s0 fun e he => sS e (m e he)
theorem conn_next {n v : Nat} {es : List (Nat × Nat)} {e : Nat × Nat} (h : Conn n es) (hv : v < n) (he : e = (n, v) ∨ e = (v, n)) : Conn (n + 1) (es ++ [e]) := fun S s0 sS u hu => by
  have c := h S s0 fun e he => sS e (List.mem_append.mpr (.inl he))
  by_cases d : u = n
  · have z := sS e (List.mem_append.mpr (.inr (.head _)))
    rcases he with he | he
    · rw [he] at z; rw [d]; exact z.mpr (c v hv)
    · rw [he] at z; rw [d]; exact z.mp (c v hv)
  · exact c u (by omega)
structure Net (n : Nat) (ls : List Ln) : Prop where
  n1 : 1 ≤ n
  n4 : n ≤ 4
  few : ls.length ≤ 6
  ok : ∀ l ∈ ls, LnOk n l
  conn : Conn n (edges ls)
/-! ### things of any kind -/
mutual
def datB : W → Bool
  | .non => true
  | .bl _ => true
  | .int _ => true
  | .str _ => true
  | .tup ws => datsB ws
  | .lst ws => datsB ws
  | _ => false
def datsB : List W → Bool
  | [] => true
  | w :: ws => datB w && datsB ws
end
theorem dats_all : ∀ {ws : List W}, datsB ws = true ↔ ∀ w ∈ ws, datB w = true
  | [] => by simp [datsB]
  | w :: ws => by
    simp only [datsB, Bool.and_eq_true, dats_all (ws := ws), List.mem_cons, forall_eq_or_imp]
def wholeB : W → Bool
  | .int _ => true
  | _ => false
def fromB (w : W) (lo hi : Int) : Bool := match w with
  | .int i => decide (lo ≤ i) && decide (i ≤ hi)
  | _ => false
theorem from_int {w : W} {lo hi : Int} (h : fromB w lo hi = true) : ∃ i, w = .int i ∧ lo ≤ i ∧ i ≤ hi := by
  cases w with
  | int i =>
    have h' : (decide (lo ≤ i) && decide (i ≤ hi)) = true := h
    rw [Bool.and_eq_true] at h'
    exact ⟨i, rfl, of_decide_eq_true h'.1, of_decide_eq_true h'.2⟩
  | _ => cases h
def sp_is_whole : Spw := fun ws G Q _ => ∃ w, ws = [w] ∧ datB w = true ∧ Q (.bl (wholeB w)) G
theorem len_is_whole (ws G Q E) (h : sp_is_whole ws G Q E) : ws.length = 1 := by obtain ⟨_, rfl, _⟩ := h; rfl
/-- slots: thing 0 -/
def t_is_whole : TSw := (wRet (wAndV (wUn (wIsi .int) (wVar 0)) (wNotV (wUn (wIsi .bool) (wVar 0)))))
theorem rd_is_whole (ws : List W) (G : Gp) (Q : QW) (E) (h : sp_is_whole ws G Q E) : t_is_whole { nx := fun _ G' => Q .non G', rt := Cl Q } (startW ["thing"] ws) G := by
  obtain ⟨w, rfl, d, q⟩ := h
  show t_is_whole _ [some w] G
  unfold t_is_whole
  cases w <;> first | (walk_at "w"; exact .inl q) | (simp [datB] at d)
def sp_is_from : Spw := fun ws G Q _ => ∃ w lo hi, ws = [w, .int lo, .int hi] ∧ datB w = true ∧ Q (.bl (fromB w lo hi)) G
theorem len_is_from (ws G Q E) (h : sp_is_from ws G Q E) : ws.length = 3 := by obtain ⟨_, _, _, rfl, _⟩ := h; rfl
/-- slots: thing 0, least 1, most 2 -/
def t_is_from : TSw := (wRet (wAndV (wCall sp_is_whole (wCons (wVar 0) wNil)) (wChain wLe wLe (wVar 1) (wVar 0) (wVar 2))))
theorem rd_is_from (ws : List W) (G : Gp) (Q : QW) (E) (h : sp_is_from ws G Q E) : t_is_from { nx := fun _ G' => Q .non G', rt := Cl Q } (startW ["thing", "least", "most"] ws) G := by
  obtain ⟨w, lo, hi, rfl, d, q⟩ := h
  show t_is_from _ [some w, some (.int lo), some (.int hi)] G
  unfold t_is_from
  walk_at "w"
  refine ⟨w, rfl, d, ?_⟩
  cases w with
  | int i =>
    have q' : Q (.bl (decide (lo ≤ i) && decide (i ≤ hi))) G := q
    rw [show wholeB (.int i) = true from rfl]
    walk_at "w"
    split
    · rename_i c
      rw [c] at q'
      exact .inl q'
    · rename_i c
      rw [Bool.not_eq_true] at c
      rw [c] at q'
      exact .inl q'
  | _ =>
    first
    | (rw [show wholeB _ = false from rfl]; walk_at "w"; exact .inl q)
    | (simp [datB] at d)
/-! ### lines and nets, of things of any kind -/
def intEqB : W → W → Bool
  | .int a, .int b => decide (a = b)
  | _, _ => false
def lineB (n : Int) : W → Bool
  | .tup [a, b, s, m] => fromB a 0 (n - 1) && (fromB b 0 (n - 1) && (!intEqB a b && (fromB s 1 9 && fromB m 0 99)))
  | _ => false
def natOf : W → Nat
  | .int i => i.toNat
  | _ => 0
def lnOf : W → Ln
  | .tup [a, b, s, m] => ⟨natOf a, natOf b, natOf s, natOf m⟩
  | _ => ⟨0, 0, 0, 0⟩
theorem line_of {n : Nat} {w : W} (h : lineB n w = true) : w = lineW (lnOf w) ∧ LnOk n (lnOf w) := by
  match w, h with
  | .tup [a, b, s, m], h =>
    simp only [lineB, Bool.and_eq_true, Bool.not_eq_true'] at h
    obtain ⟨h1, h2, h3, h4, h5⟩ := h
    obtain ⟨a, rfl, a0, a1⟩ := from_int h1
    obtain ⟨b, rfl, b0, b1⟩ := from_int h2
    obtain ⟨s, rfl, s0, s1⟩ := from_int h4
    obtain ⟨m, rfl, m0, m1⟩ := from_int h5
    have h3' : decide (a = b) = false := h3
    have ne := of_decide_eq_false h3'
    refine ⟨?_, ⟨by show a.toNat < n; omega, by show b.toNat < n; omega, by show a.toNat ≠ b.toNat; omega, ⟨by show 1 ≤ s.toNat; omega, by show s.toNat ≤ 9; omega⟩, by show m.toNat ≤ 99; omega⟩⟩
    show W.tup [.int a, .int b, .int s, .int m] = .tup [.int ((a.toNat : Nat) : Int), .int ((b.toNat : Nat) : Int), .int ((s.toNat : Nat) : Int), .int ((m.toNat : Nat) : Int)]
    rw [Int.toNat_of_nonneg a0, Int.toNat_of_nonneg b0, Int.toNat_of_nonneg (by omega : 0 ≤ s), Int.toNat_of_nonneg m0]
theorem lines_of {n : Nat} : ∀ {ws : List W}, ws.all (lineB n) = true → ws = linesW (ws.map lnOf) ∧ ∀ l ∈ ws.map lnOf, LnOk n l
  | [], _ => ⟨rfl, by simp⟩
  | w :: ws, h => by
    simp only [List.all_cons, Bool.and_eq_true] at h
    obtain ⟨h1, h2⟩ := line_of h.1
    obtain ⟨h3, h4⟩ := lines_of h.2
    refine ⟨?_, fun l hl => ?_⟩
    · show w :: ws = lineW (lnOf w) :: linesW (ws.map lnOf)
      rw [← h1, ← h3]
    · rcases List.mem_cons.mp hl with rfl | hl
      · exact h2
      · exact h4 l hl
noncomputable def netB : W → Bool
  | .tup [m, .tup lines] => fromB m 1 4 && (decide (lines.length ≤ 6) && (lines.all (lineB (natOf m)) && connB (natOf m) (edges (lines.map lnOf))))
  | _ => false
def sp_is_line : Spw := fun ws G Q _ => ∃ (n : Int) (w : W), ws = [.int n, w] ∧ datB w = true ∧ Q (.bl (lineB n w)) G
theorem len_is_line (ws G Q E) (h : sp_is_line ws G Q E) : ws.length = 2 := by obtain ⟨_, _, rfl, _⟩ := h; rfl
/-- slots: many 0, thing 1, one 2, other 3, stiffness 4, most 5 -/
def t_is_line : TSw := (wSeq (wIfS (wOr (wNot (wTest (wUn (wIsi .tuple) (wVar 1)))) (wTest (wOp wNe (wCB wLen (wCons (wVar 1) wNil)) (wC (.int 4))))) (wRet (wC (.bl false))) wNext)
    (wSeq (wAsg (wVar 1) (gT 4 (gsC (gN 2) (gsC (gN 3) (gsC (gN 4) (gsC (gN 5) gsN))))))
    (wSeq (wIfS (wOr (wNot (wTest (wCall sp_is_from (wCons (wVar 2) (wCons (wC (.int 0)) (wCons (wOp wSub (wVar 0) (wC (.int 1))) wNil)))))) (wOr (wNot (wTest (wCall sp_is_from (wCons (wVar 3) (wCons (wC (.int 0)) (wCons (wOp wSub (wVar 0) (wC (.int 1))) wNil)))))) (wTest (wOp wEq (wVar 2) (wVar 3))))) (wRet (wC (.bl false))) wNext)
    (wRet (wAndV (wCall sp_is_from (wCons (wVar 4) (wCons (wC (.int 1)) (wCons (wC (.int 9)) wNil)))) (wCall sp_is_from (wCons (wVar 5) (wCons (wC (.int 0)) (wCons (wC (.int 99)) wNil)))))))))
theorem rd_is_line (ws : List W) (G : Gp) (Q : QW) (E) (h : sp_is_line ws G Q E) : t_is_line { nx := fun _ G' => Q .non G', rt := Cl Q } (startW ["many", "thing", "one", "other", "stiffness", "most"] ws) G := by
  obtain ⟨n, w, rfl, d, q⟩ := h
  show t_is_line _ [some (.int n), some w, none, none, none, none] G
  unfold t_is_line
  cases w with
  | tup us =>
    by_cases h4 : us.length = 4
    · match us, h4 with
      | [a, b, s, m], _ =>
        have dd := dats_all.mp (show datsB [a, b, s, m] = true by simpa [datB] using d)
        have da := dd a (by simp)
        have db := dd b (by simp)
        have ds := dd s (by simp)
        have dm := dd m (by simp)
        have q' : Q (.bl (fromB a 0 (n - 1) && (fromB b 0 (n - 1) && (!intEqB a b && (fromB s 1 9 && fromB m 0 99))))) G := q
        walk_at "w"
        rw [if_neg (by decide)]
        refine ⟨a, 0, n - 1, rfl, da, ?_⟩
        cases hA : fromB a 0 (n - 1) with
        | false => rw [hA] at q'; walk_at "w"; exact .inl q'
        | true =>
          rw [hA] at q'
          walk_at "w"
          refine ⟨b, 0, n - 1, rfl, db, ?_⟩
          cases hB : fromB b 0 (n - 1) with
          | false => rw [hB] at q'; walk_at "w"; exact .inl q'
          | true =>
            rw [hB] at q'
            obtain ⟨a, rfl, _⟩ := from_int hA
            obtain ⟨b, rfl, _⟩ := from_int hB
            walk_at "w"
            by_cases hE : a = b
            · rw [decide_eq_true hE, if_pos rfl]
              rw [show intEqB (.int a) (.int b) = true from decide_eq_true hE] at q'
              exact .inl q'
            · rw [decide_eq_false hE, if_neg (by decide)]
              rw [show intEqB (.int a) (.int b) = false from decide_eq_false hE] at q'
              refine ⟨s, 1, 9, rfl, ds, ?_⟩
              cases hS : fromB s 1 9 with
              | false => rw [hS] at q'; walk_at "w"; exact .inl q'
              | true =>
                rw [hS] at q'
                walk_at "w"
                exact ⟨m, 0, 99, rfl, dm, .inl q'⟩
    · walk_at "w"
      rw [decide_eq_false (show ¬ ((us.length : Nat) : Int) = 4 by omega), if_pos (by decide)]
      refine .inl ?_
      have e : lineB n (.tup us) = false := by
        match us, h4 with
        | [], _ => rfl
        | [_], _ => rfl
        | [_, _], _ => rfl
        | [_, _, _], _ => rfl
        | [_, _, _, _], h => exact absurd rfl h
        | _ :: _ :: _ :: _ :: _ :: _, _ => rfl
      rw [e] at q
      exact q
  | _ => first | (walk_at "w"; exact .inl q) | (simp [datB] at d)
def sp_is_net : Spw := fun ws G Q _ => ∃ (w : W), ws = [w] ∧ datB w = true ∧ (∀ m us, w = .tup [m, .tup us] → us.length ≤ 1000) ∧ Q (.bl (netB w)) G
theorem len_is_net (ws G Q E) (h : sp_is_net ws G Q E) : ws.length = 1 := by obtain ⟨_, rfl, _⟩ := h; rfl
theorem net_not2 {us : List W} (h : us.length ≠ 2) : netB (.tup us) = false := by
  match us, h with
  | [], _ => rfl
  | [_], _ => rfl
  | [_, _], h => exact absurd rfl h
  | _ :: b :: _ :: _, _ => cases b <;> rfl
/-- slots: thing 0, many 1, lines 2, line 3 -/
def t_is_net : TSw := (wSeq (wIfS (wOr (wNot (wTest (wUn (wIsi .tuple) (wVar 0)))) (wOr (wTest (wOp wNe (wCB wLen (wCons (wVar 0) wNil)) (wC (.int 2)))) (wNot (wTest (wCall sp_is_from (wCons (wOp wIx (wVar 0) (wC (.int 0))) (wCons (wC (.int 1)) (wCons (wC (.int 4)) wNil)))))))) (wRet (wC (.bl false))) wNext)
    (wSeq (wAsg (wVar 0) (gT 2 (gsC (gN 1) (gsC (gN 2) gsN))))
    (wSeq (wIfS (wOr (wNot (wTest (wUn (wIsi .tuple) (wVar 2)))) (wTest (wOp wGt (wCB wLen (wCons (wVar 2) wNil)) (wC (.int 6))))) (wRet (wC (.bl false))) wNext)
    (wRet (wAndV (wCB wAll (wCons (wLc [3] (iSeqW (wVar 2)) (gN 3) wYes (wCall sp_is_line (wCons (wVar 1) (wCons (wVar 3) wNil)))) wNil)) (wCall sp_hangs_together (wCons (wVar 1) (wCons (wVar 2) wNil))))))))
theorem rd_is_net (ws : List W) (G : Gp) (Q : QW) (E) (h : sp_is_net ws G Q E) : t_is_net { nx := fun _ G' => Q .non G', rt := Cl Q } (startW ["thing", "many", "lines", "line"] ws) G := by
  obtain ⟨w, rfl, d, len, q⟩ := h
  show t_is_net _ [some w, none, none, none] G
  have big : 1000 < sizeLine := by decide
  unfold t_is_net
  cases w with
  | tup us =>
    by_cases h2 : us.length = 2
    · match us, h2 with
      | [m, l], _ =>
        have dd := dats_all.mp (show datsB [m, l] = true by simpa [datB] using d)
        have dm := dd m (by simp)
        have dl := dd l (by simp)
        walk_at "w"
        rw [if_neg (by decide)]
        refine ⟨m, 1, 4, rfl, dm, ?_⟩
        cases hM : fromB m 1 4 with
        | false =>
          walk_at "w"
          have e : netB (.tup [m, l]) = false := by
            cases l <;> first | rfl | (show (fromB m 1 4 && _) = false; rw [hM]; rfl)
          rw [e] at q
          exact .inl q
        | true =>
          obtain ⟨n, rfl, n1, n4⟩ := from_int hM
          obtain ⟨n, rfl⟩ : ∃ k : Nat, n = (k : Int) := ⟨n.toNat, by omega⟩
          walk_at "w"
          cases l with
          | tup us =>
            have dus := dats_all.mp (show datsB us = true by simpa [datB] using dl)
            have lus := len _ us rfl
            have q' : Q (.bl (fromB (.int n) 1 4 && (decide (us.length ≤ 6) && (us.all (lineB n) && connB n (edges (us.map lnOf)))))) G := q
            rw [hM] at q'
            walk_at "w"
            by_cases h6 : us.length ≤ 6
            · rw [decide_eq_true h6] at q'
              rw [decide_eq_false (show ¬ (6 : Int) < ((us.length : Nat) : Int) by omega), if_neg (by decide)]
              refine ⟨by omega, ?_⟩
              rw [show us = us.map (fun w => w) by simp]
              refine lcW_mapA (fun w : W => w) (fun w => .bl (lineB n w)) _ _ _ ?_ ?_
              · intro w hw P hP
                walk_at "w"
                exact ⟨n, w, rfl, dus w hw, hP⟩
              · refine ⟨us.map (lineB n), by rw [List.nil_append, List.map_map]; rfl, ?_⟩
                rw [List.all_map]
                cases hA : us.all (lineB n) with
                | false =>
                  rw [hA] at q'
                  rw [show us.all (id ∘ lineB n) = us.all (lineB n) from rfl, hA]
                  walk_at "w"
                  exact .inl q'
                | true =>
                  rw [hA] at q'
                  rw [show us.all (id ∘ lineB n) = us.all (lineB n) from rfl, hA]
                  walk_at "w"
                  obtain ⟨e1, e2⟩ := lines_of hA
                  refine ⟨n, _, us.map lnOf, rfl, .inl (by simp only [List.map_id']; rw [← e1]), by omega, by omega, e2, .inl q'⟩
            · rw [decide_eq_false h6] at q'
              rw [decide_eq_true (show (6 : Int) < ((us.length : Nat) : Int) by omega), if_pos rfl]
              exact .inl q'
          | _ => first | (walk_at "w"; exact .inl q) | (simp [datB] at dl)
    · walk_at "w"
      rw [decide_eq_false (show ¬ ((us.length : Nat) : Int) = 2 by omega), if_pos (by decide)]
      rw [net_not2 h2] at q
      exact .inl q
  | _ => first | (walk_at "w"; exact .inl q) | (simp [datB] at d)
/-! ### a line lost -/
noncomputable def dueL (n : Nat) (ls : List Ln) : List Nat := (List.range ls.length).filter fun k => connB n (edges (dropL ls k))
theorem drop_mem {ls : List Ln} {k : Nat} {l : Ln} (h : l ∈ dropL ls k) : l ∈ ls := by
  rcases List.mem_append.mp h with h | h
  · exact List.mem_of_mem_take h
  · exact List.mem_of_mem_drop h
theorem drop_len {ls : List Ln} {k : Nat} (h : k < ls.length) : (dropL ls k).length + 1 = ls.length := by
  unfold dropL
  rw [List.length_append, List.length_take, List.length_drop]
  omega
theorem drop_len' {ls : List Ln} {k : Nat} : (dropL ls k).length ≤ ls.length := by
  unfold dropL
  rw [List.length_append, List.length_take, List.length_drop]
  omega
theorem due_mem {n k : Nat} {ls : List Ln} (h : k ∈ dueL n ls) : k < ls.length ∧ connB n (edges (dropL ls k)) = true := by
  unfold dueL at h
  rw [List.mem_filter, List.mem_range] at h
  exact h
theorem net_drop {n k : Nat} {ls : List Ln} (h : Net n ls) (m : k ∈ dueL n ls) : Net n (dropL ls k) :=
  ⟨h.n1, h.n4, Nat.le_trans drop_len' h.few, fun l hl => h.ok l (drop_mem hl), connB_iff.mp (due_mem m).2⟩
theorem cut_lines {ls : List Ln} {k : Nat} (h : k < ls.length) : cutW (linesW ls) none (some ((k : Nat) : Int)) ++ cutW (linesW ls) (some (((k + 1 : Nat)) : Int)) none = linesW (dropL ls k) := by
  rw [cut_to _ _ (by omega), cut_from _ _ (by omega), ← List.map_append]
  rfl
theorem wD_net (n : Nat) (ls : List Ln) : wD 3 (netW n ls) := wD_tup fun w h => by
  simp only [List.mem_cons, List.not_mem_nil, or_false] at h
  rcases h with rfl | rfl
  · exact wD_mono wD_int (by decide)
  · refine wD_tup fun w h => ?_
    obtain ⟨l, _, rfl⟩ := List.mem_map.mp h
    refine wD_tup fun w h => ?_
    simp only [List.mem_cons, List.not_mem_nil, or_false] at h
    rcases h with rfl | rfl | rfl | rfl <;> exact wD_int
theorem lnOf_line (l : Ln) : lnOf (lineW l) = l := rfl
theorem line_ok {n : Nat} {l : Ln} (h : LnOk n l) : lineB n (lineW l) = true := by
  have h1 := h.a
  have h2 := h.b
  have h3 := h.ne
  have h4 := h.s
  have h5 := h.m
  show (fromB _ _ _ && (fromB _ _ _ && (!intEqB _ _ && (fromB _ _ _ && fromB _ _ _)))) = true
  simp only [fromB, intEqB, Bool.and_eq_true, decide_eq_true_eq, Bool.not_eq_true', decide_eq_false_iff_not]
  omega
theorem net_ok {n : Nat} {ls : List Ln} (h : Net n ls) : netB (netW n ls) = true := by
  have e : (linesW ls).map lnOf = ls := by rw [List.map_map]; simp [Function.comp_def, lnOf_line]
  show (fromB _ 1 4 && (decide ((linesW ls).length ≤ 6) && ((linesW ls).all (lineB n) && connB n (edges ((linesW ls).map lnOf))))) = true
  rw [e, connB_iff.mpr h.conn, decide_eq_true (show (linesW ls).length ≤ 6 by rw [List.length_map]; exact h.few)]
  have h1 := h.n1
  have h4 := h.n4
  have a : (linesW ls).all (lineB n) = true := List.all_eq_true.mpr fun w hw => by
    obtain ⟨l, hl, rfl⟩ := List.mem_map.mp hw
    exact line_ok (h.ok l hl)
  rw [a]
  simp [fromB]
  omega
theorem net_dat (n : Nat) (ls : List Ln) : datB (netW n ls) = true := by
  have a : datsB (linesW ls) = true := dats_all.mpr fun w hw => by
    obtain ⟨l, _, rfl⟩ := List.mem_map.mp hw
    rfl
  show (true && (datsB (linesW ls) && true)) = true
  rw [a]; rfl
theorem due_len {n : Nat} {ls : List Ln} : (dueL n ls).length ≤ ls.length := by
  unfold dueL
  exact Nat.le_trans (List.length_filter_le _ _) (by rw [List.length_range]; exact Nat.le_refl _)
/-- a list told by a def as its caller's frozen one -/
theorem TL.cl {Q : QW} {G : Gp} {p : Addr} {ws : List W} (n : G p = none) (h : Q (.lst ws) G) : Cl Q (.ref p) (gup G p (.lst ws)) := (show tellL ws Q G from .inl h).cl n
/-! ### drawing -/
/-- only the bag has changed -/
def BagUp (p : Addr) (G G' : Gp) : Prop := ∃ c x, G' = gup G p (bagO c x) ∧ 0 ≤ c ∧ 0 ≤ x ∧ x < 2147483648
theorem BagUp.at {p : Addr} {G G' : Gp} (h : BagUp p G G') : BagAt p G' := by
  obtain ⟨c, x, rfl, r⟩ := h
  exact ⟨c, x, gup_same, r⟩
theorem BagUp.ne {p q : Addr} {G G' : Gp} (h : BagUp p G G') (ne : q ≠ p) : G' q = G q := by
  obtain ⟨c, x, rfl, r⟩ := h
  exact gup_ne ne
theorem BagUp.refl {p : Addr} {G : Gp} (h : BagAt p G) : BagUp p G G := by
  obtain ⟨c, x, g, r⟩ := h
  exact ⟨c, x, (gup_self g).symm, r⟩
theorem BagUp.trans {p : Addr} {G G' G'' : Gp} (h : BagUp p G G') (h' : BagUp p G' G'') : BagUp p G G'' := by
  obtain ⟨c, x, rfl, r⟩ := h
  obtain ⟨c', x', rfl, r'⟩ := h'
  exact ⟨c', x', gup_gup, r'⟩
theorem take_up {p : Addr} {m : Int} {G : Gp} {Q : QW} {E} (h : BagAt p G) (hm : 0 < m) (q : ∀ (d : Nat) G', (d : Int) < m → BagUp p G G' → Q (.int ((d : Nat) : Int)) G') : sp__law_take [.ref p, .int m] G Q E := by
  obtain ⟨c, x, g, hc, hx, hx2⟩ := h
  refine ⟨p, m, c, x, rfl, g, hc, hx, hx2, hm, fun d c' x' d0 d1 hc' hx' hx2' => ?_⟩
  obtain ⟨k, rfl⟩ : ∃ k : Nat, d = (k : Int) := ⟨d.toNat, by omega⟩
  exact q k _ d1 ⟨c', x', rfl, hc', hx', hx2'⟩
theorem bag_up {ns : List Int} {k : Int} {G : Gp} {Q : QW} {E} (hl : ns.length ≤ 63) (h0 : 0 ≤ k) (h1 : k < 1000) (q : ∀ p G', G p = none → BagAt p G' → (∀ r, r ≠ p → G' r = G r) → Q (.ref p) G') : sp__law_bag [.scr (ns.map W.int), .int k] G Q E :=
  ⟨ns, k, rfl, hl, h0, h1, fun p c x hp hc hx hx2 => q p _ hp ⟨c, x, gup_same, hc, hx, hx2⟩ fun r hr => gup_ne hr⟩
theorem isS_at {l : List W} {d : Nat} {P : W → Prop} (h : d < l.length) (q : ∀ w ∈ l, P w) : isS (L2.atI l ((d : Nat) : Int)) P := by
  rw [L2.atI_nat (List.getElem?_eq_getElem h)]
  exact q _ (List.getElem_mem h)
/-! ### houses, drawn (as the laws from k60 on have them) -/
structure Wk where
  p : Nat
  least : Nat
  keep : Nat
  pieces : List (Nat × Nat)
  start : Nat
  e1 : Nat
  e2 : Nat
  on : Bool
abbrev pieceW (v : Nat × Nat) : W := .tup [.int ((v.1 : Nat) : Int), .int ((v.2 : Nat) : Int)]
abbrev workW (k : Wk) : W := .tup [.int ((k.p : Nat) : Int), .int ((k.least : Nat) : Int), .int ((k.keep : Nat) : Int), .tup (k.pieces.map fun v => pieceW v), .int ((k.start : Nat) : Int), .int ((k.e1 : Nat) : Int), .int ((k.e2 : Nat) : Int), .bl k.on]
structure WkOk (n : Nat) (k : Wk) : Prop where
  p : k.p < n
  least : k.least ≤ 20
  keep : k.keep ≤ 99
  few : 1 ≤ k.pieces.length ∧ k.pieces.length ≤ 2
  pieces : ∀ v ∈ k.pieces, 1 ≤ v.1 ∧ v.1 ≤ 20 ∧ v.2 ≤ 99
  start : k.start ≤ 99
  e1 : k.e1 = 1 ∨ k.e1 = 2
  e2 : k.e2 = 1 ∨ k.e2 = 2
  ord : (k.pieces.headD (0, 0)).2 ≤ (k.pieces.getLastD (0, 0)).2
structure Sto where
  p : Nat
  top : Nat
  lev : Nat
  taken : Nat
  given : Nat
abbrev stoW (s : Sto) : W := .tup [.int ((s.p : Nat) : Int), .int ((s.top : Nat) : Int), .int ((s.lev : Nat) : Int), .int ((s.taken : Nat) : Int), .int ((s.given : Nat) : Int)]
def storeW : Option Sto → W
  | none => .non
  | some s => stoW s
structure StoOk (n : Nat) (s : Sto) : Prop where
  p : s.p < n
  top : 1 ≤ s.top ∧ s.top ≤ 2
  lev : s.lev ≤ s.top
  taken : 1 ≤ s.taken ∧ s.taken ≤ 20
  given : s.given ≤ s.taken
abbrev Wnt := Nat × Nat × Nat
abbrev wantW (v : Wnt) : W := .tup [.int ((v.1 : Nat) : Int), .int ((v.2.1 : Nat) : Int), .int ((v.2.2 : Nat) : Int)]
def WntOk (n : Nat) (v : Wnt) : Prop := v.1 < n ∧ v.2.1 ≤ 30 ∧ v.2.2 ≤ 100
abbrev wantsW (vs : List Wnt) : W := .tup (vs.map fun v => wantW v)
structure House (n : Nat) (ls : List Ln) (ks : List Wk) (s : Option Sto) (hs : List (List Wnt)) : Prop where
  net : Net n ls
  works : ∀ k ∈ ks, WkOk n k
  store : ∀ t, s = some t → StoOk n t
  wants : ∀ vs ∈ hs, vs.length ≤ 3 ∧ ∀ v ∈ vs, WntOk n v
  few : ks.length ≤ 3 ∧ 1 ≤ hs.length ∧ hs.length ≤ 3
abbrev houseW (n : Nat) (ls : List Ln) (ks : List Wk) (s : Option Sto) (hs : List (List Wnt)) : W := .tup [netW n ls, .tup (ks.map fun k => workW k), storeW s, .tup (hs.map fun vs => wantsW vs)]
theorem bag_over {p t : Addr} {G G2 : Gp} {o : GO} (pt : p ≠ t) (u : BagUp p (gup G t o) G2) : ∃ G', BagUp p G G' ∧ G2 = gup G' t o := by
  obtain ⟨c, x, rfl, r⟩ := u
  refine ⟨gup G p (bagO c x), ⟨c, x, rfl, r⟩, ?_⟩
  funext q
  unfold gup
  by_cases h1 : q = p
  · subst h1; simp [pt]
  · simp [h1]
theorem isS_nat {l : List W} {d : Nat} {P : W → Prop} {ms : List Nat} (e : l = ms.map fun m => W.int ((m : Nat) : Int)) (h : d < l.length) (q : ∀ m ∈ ms, P (.int ((m : Nat) : Int))) : isS (L2.atI l ((d : Nat) : Int)) P :=
  isS_at h fun w hw => by
    rw [e] at hw
    obtain ⟨m, hm, rfl⟩ := List.mem_map.mp hw
    exact q m hm
theorem wTuple_rf {p : Addr} {G : Gp} {Q : QW} : wTuple [.ref p] G Q = isS (asL G (.ref p)) fun us => Q (.tup us) G := rfl
theorem lcW_ix {gw : TGw} {te : TEw} {σ : SW} (P : Nat → List W → Gp → Prop) : ∀ (items : List W) (k : Nat) (acc : List W) (G : Gp) (Q : List W → Gp → Prop), P k acc G →
    (∀ i w, items[i]? = some w → ∀ acc G (N : QW), P (k + i) acc G → (∀ y G', P (k + i + 1) (acc ++ [y]) G' → N y G') → gw w σ G fun σ1 G1 => te σ1 G1 N) → (∀ acc G, P (k + items.length) acc G → Q acc G) → lcW gw wYes te σ items acc G Q
  | [], k, acc, G, Q, p, _, q => by simpa [lcW] using q acc G p
  | w :: ws, k, acc, G, Q, p, hh, q => by
    have h1 := hh 0 w rfl acc G (fun y G3 => lcW gw wYes te σ ws (acc ++ [y]) G3 Q) p fun y G' p' => lcW_ix P ws (k + 1) _ G' Q p' (fun i w' m acc G N pp nn => hh (i + 1) w' m acc G N (by rw [show k + (i + 1) = k + 1 + i by omega]; exact pp) fun y G' p2 => nn y G' (by rw [show k + 1 + i + 1 = k + (i + 1) + 1 by omega]; exact p2)) fun acc G p2 => q acc G (by rw [List.length_cons]; rw [show k + (ws.length + 1) = k + 1 + ws.length by omega]; exact p2)
    simpa only [lcW, wYes, if_true] using h1
abbrev prW (e : Nat × Nat) : W := .tup [.int ((e.1 : Nat) : Int), .int ((e.2 : Nat) : Int)]
def sp__law_net : Spw := fun ws G Q E => ∃ (p : Addr) (n : Nat), ws = [.ref p, .int ((n : Nat) : Int)] ∧ (BagAt p G) ∧ (1 ≤ n) ∧ (n ≤ 4) ∧ ∀ ls G', Net n ls → BagUp p G G' → Q (netW n ls) G'
theorem len__law_net (ws G Q E) (h : sp__law_net ws G Q E) : ws.length = 2 := by obtain ⟨_, _, rfl, _⟩ := h; rfl
/-- slots: _law_bag_here 0, _law_many 1, _law_lines 2, _law_place 3, _law_k 4, _law_one 5, _law_high 6, _law_other 7 -/
def t__law_net_b1 : TSw := (wDrop (wBM wM_append (wVar 2) (wCons (wTup (wCons (wCall sp__law_take (wCons (wVar 0) (wCons (wVar 3) wNil))) (wCons (wVar 3) wNil))) wNil)))
def t__law_net_b2 : TSw := (wSeq (wAsg (wCall sp__law_take (wCons (wVar 0) (wCons (wVar 1) wNil))) (gN 5))
    (wDrop (wBM wM_append (wVar 2) (wCons (wTup (wCons (wVar 5) (wCons (wOp wMod (wOp wAdd (wOp wAdd (wVar 5) (wC (.int 1))) (wCall sp__law_take (wCons (wVar 0) (wCons (wOp wSub (wVar 1) (wC (.int 1))) wNil)))) (wVar 1)) wNil))) wNil))))
def t__law_net_r1 : TSw := (wSeq (wFz 2 (wAsg (wOp wIx (wLst (wCons (wC (.int 99)) (wCons (wC (.int 60)) (wCons (wC (.int 25)) (wCons (wC (.int 12)) wNil))))) (wCall sp__law_take (wCons (wVar 0) (wCons (wC (.int 4)) wNil)))) (gN 6)))
    (wRet (wTup (wCons (wVar 1) (wCons (wCB wTuple (wCons (wLc [5, 7] (iSeqW (wVar 2)) (gT 2 (gsC (gN 5) (gsC (gN 7) gsN))) wYes (wTup (wCons (wVar 5) (wCons (wVar 7) (wCons (wOp wAdd (wC (.int 1)) (wCall sp__law_take (wCons (wVar 0) (wCons (wC (.int 9)) wNil)))) (wCons (wCall sp__law_take (wCons (wVar 0) (wCons (wOp wAdd (wVar 6) (wC (.int 1))) wNil))) wNil)))))) wNil)) wNil)))))
def t__law_net_r2 : TSw := (wSeq (wFor [false, false, false, true, true, true, true, true] (iR1 (wCons (wOp wMul (wCall sp__law_take (wCons (wVar 0) (wCons (wOp wSub (wC (.int 8)) (wVar 1)) wNil))) (wCB wInt (wCons (wOp wGt (wVar 1) (wC (.int 1))) wNil))) wNil)) (gN 4) t__law_net_b2)
    t__law_net_r1)
def t__law_net : TSw := (wSeq (wAsg (wLstM wNil) (gN 2))
    (wSeq (wFor [false, false, false, true, true, true, true, true] (iR2 (wCons (wC (.int 1)) (wCons (wVar 1) wNil))) (gN 3) t__law_net_b1)
    t__law_net_r2))
theorem rd__law_net (ws : List W) (G : Gp) (Q : QW) (E) (h : sp__law_net ws G Q E) : t__law_net { nx := fun _ G' => Q .non G', rt := Cl Q } (startW ["_law_bag_here", "_law_many", "_law_lines", "_law_place", "_law_k", "_law_one", "_law_high", "_law_other"] ws) G := by
  obtain ⟨p, n, rfl, bag, n1, n4, q⟩ := h
  show t__law_net _ [some (.ref p), some (.int ((n : Nat) : Int)), none, none, none, none, none, none] G
  unfold t__law_net
  walk_at "w"
  have big : 1000 < sizeLine := by decide
  refine ⟨by decide, fun t ht => ?_⟩
  have pt : p ≠ t := bag.ne ht
  have ht0 : ∀ G', BagUp p G G' → G' t = none := fun G' u => by rw [u.ne (Ne.symm pt)]; exact ht
  refine ⟨by omega, ?_⟩
  refine forW_range (fun i σ G1 => ∃ (es : List (Nat × Nat)) (K : Gp), BagUp p G K ∧ G1 = gup K t (.lst (es.map fun e => prW e)) ∧ es.length = i ∧ (∀ e ∈ es, e.1 < n ∧ e.2 < n ∧ e.1 ≠ e.2) ∧ Conn (i + 1) es ∧ σ = [some (.ref p), some (.int ((n : Nat) : Int)), some (.ref t), none, none, none, none, none]) ⟨[], G, BagUp.refl bag, rfl, rfl, by simp, fun S s0 _ v hv => by rw [show v = 0 by omega]; exact s0, rfl⟩ ?_ ?_
  · rintro i hi σ G1 N ⟨es, K, u, rfl, le, oe, cn, rfl⟩ hN
    have hin : i + 1 < n := by omega
    unfold t__law_net_b1
    walk_at "w"
    rw [show (1 : Int) + (i : Int) = ((i + 1 : Nat) : Int) by omega]
    refine take_up (u.at.up pt) (by omega) fun v G2 hv u2 => ?_
    obtain ⟨K2, v2, rfl⟩ := bag_over pt u2
    walk_at "w"
    refine ⟨by decide, by omega, ?_⟩
    refine hN _ _ ⟨es ++ [(v, i + 1)], K2, u.trans v2, by rw [List.map_append]; rfl, by simp [le], fun e he => ?_, conn_next cn (show v < i + 1 by omega) (.inr rfl), rfl⟩
    rcases List.mem_append.mp he with h | h
    · exact oe e h
    · rw [List.mem_singleton.mp h]
      exact ⟨by show v < n; omega, by show i + 1 < n; omega, by show v ≠ i + 1; omega⟩
  · rintro σ G1 ⟨es, K, u, rfl, le, oe, cn, rfl⟩
    have e1 : (((n : Nat) : Int) - 1).toNat = n - 1 := by omega
    rw [e1] at le cn
    rw [show n - 1 + 1 = n by omega] at cn
    unfold t__law_net_r2
    walk_at "w"
    refine take_up (u.at.up pt) (by omega) fun d G2 hd u2 => ?_
    obtain ⟨K2, v2, rfl⟩ := bag_over pt u2
    walk_at "w"
    have ed : ∃ m : Nat, ((d : Nat) : Int) * (if decide ((1 : Int) < ((n : Nat) : Int)) = true then 1 else 0) = ((m : Nat) : Int) ∧ m + n ≤ 7 ∧ (0 < m → 1 < n) := by
      by_cases c : (1 : Int) < ((n : Nat) : Int)
      · rw [if_pos (decide_eq_true c)]
        exact ⟨d, by omega, by omega, fun _ => by omega⟩
      · rw [if_neg (by rw [decide_eq_true_eq]; exact c)]
        exact ⟨0, by omega, by omega, fun h => by omega⟩
    obtain ⟨m, em, m7, mn⟩ := ed
    rw [em]
    refine ⟨cmX (a := 4) (b := 1) (by omega) (by split <;> decide) (by decide) (by decide) (by decide), by omega, by omega, ?_⟩
    rw [show ((m : Nat) : Int).toNat = m by omega]
    refine forW_range (fun i σ G1 => ∃ (es' : List (Nat × Nat)) (K : Gp), BagUp p G K ∧ G1 = gup K t (.lst (es'.map fun e => prW e)) ∧ es'.length = n - 1 + i ∧ (∀ e ∈ es', e.1 < n ∧ e.2 < n ∧ e.1 ≠ e.2) ∧ Conn n es' ∧ σ = [some (.ref p), some (.int ((n : Nat) : Int)), some (.ref t), none, none, none, none, none]) ⟨es, K2, u.trans v2, rfl, by omega, oe, cn, rfl⟩ ?_ ?_
    · rintro i hi σ G1 N ⟨es', K3, u3, rfl, le', oe', cn', rfl⟩ hN
      have n2 := mn (by omega)
      unfold t__law_net_b2
      walk_at "w"
      refine take_up (u3.at.up pt) (by omega) fun a G4 ha u4 => ?_
      obtain ⟨K4, v4, rfl⟩ := bag_over pt u4
      walk_at "w"
      refine take_up (v4.at.up pt) (by omega) fun b G5 hb u5 => ?_
      obtain ⟨K5, v5, rfl⟩ := bag_over pt u5
      walk_at "w"
      rw [fmodP (by omega)]
      have m0 := Int.emod_nonneg (((a : Nat) : Int) + 1 + ((b : Nat) : Int)) (show (n : Int) ≠ 0 by omega)
      have m1 := Int.emod_lt_of_pos (((a : Nat) : Int) + 1 + ((b : Nat) : Int)) (show (0 : Int) < n by omega)
      have m2 : (((a : Nat) : Int) + 1 + ((b : Nat) : Int)) % (n : Int) ≠ a := by
        by_cases h : ((a : Nat) : Int) + 1 + ((b : Nat) : Int) < n
        · rw [Int.emod_eq_of_lt (by omega) h]; omega
        · have : (((a : Nat) : Int) + 1 + ((b : Nat) : Int)) % (n : Int) = ((a : Nat) : Int) + 1 + ((b : Nat) : Int) - n := by
            rw [← Int.sub_emod_right, Int.emod_eq_of_lt (by omega) (by omega)]
          omega
      generalize (((a : Nat) : Int) + 1 + ((b : Nat) : Int)) % (n : Int) = o at m0 m1 m2 ⊢
      obtain ⟨o, rfl⟩ : ∃ k : Nat, o = (k : Int) := ⟨o.toNat, by omega⟩
      refine ⟨by omega, by decide, by omega, ?_⟩
      refine hN _ _ ⟨es' ++ [(a, o)], K5, (u3.trans v4).trans v5, by rw [List.map_append]; rfl, by simp [le']; omega, fun e he => ?_, conn_more cn' fun e he => List.mem_append.mpr (.inl he), rfl⟩
      rcases List.mem_append.mp he with h | h
      · exact oe' e h
      · rw [List.mem_singleton.mp h]
        exact ⟨by show a < n; omega, by show o < n; omega, by show a ≠ o; omega⟩
    · rintro σ G1 ⟨es', K3, u3, rfl, le', oe', cn', rfl⟩
      unfold t__law_net_r1
      walk_at "w"
      rw [gdel_gup (ht0 _ u3)]
      refine ⟨by decide, ?_⟩
      refine take_up u3.at (by decide) fun hh G4 hhh u4 => ?_
      refine isS_nat (ms := [99, 60, 25, 12]) rfl (by show hh < 4; omega) fun high hm => ?_
      have hb : high ≤ 99 := by simp at hm; omega
      walk_at "w"
      refine ⟨by omega, ?_⟩
      refine lcW_ix (fun k acc G' => ∃ ls : List Ln, acc = linesW ls ∧ ls.length = k ∧ edges ls = es'.take k ∧ (∀ l ∈ ls, LnOk n l) ∧ BagUp p G G') _ 0 _ _ _ ⟨[], rfl, rfl, rfl, by simp, u3.trans u4⟩ ?_ ?_
      · rintro j w hw acc G5 N ⟨ls, rfl, lk, ee, ok, u5⟩ hN
        rw [Nat.zero_add] at lk ee hN
        rw [List.getElem?_map] at hw
        by_cases hj : j < es'.length
        · rw [List.getElem?_eq_getElem hj] at hw
          injection hw with hw
          subst hw
          obtain ⟨o1, o2, o3⟩ := oe' _ (List.getElem_mem hj)
          walk_at "w"
          refine take_up u5.at (by decide) fun s G6 hs u6 => ?_
          walk_at "w"
          refine take_up u6.at (by omega) fun mm G7 hm7 u7 => ?_
          walk_at "w"
          rw [show (1 : Int) + ((s : Nat) : Int) = ((1 + s : Nat) : Int) by omega]
          refine ⟨by decide, hN _ _ ⟨ls ++ [⟨es'[j].1, es'[j].2, 1 + s, mm⟩], by unfold linesW; rw [List.map_append]; rfl, by simp [lk], ?_, fun l hl => ?_, (u5.trans u6).trans u7⟩⟩
          · rw [List.take_succ_eq_append_getElem hj]
            unfold edges at ee ⊢
            rw [List.map_append, ee]
            rfl
          · rcases List.mem_append.mp hl with h | h
            · exact ok l h
            · rw [List.mem_singleton.mp h]
              exact ⟨o1, o2, o3, ⟨by show 1 ≤ 1 + s; omega, by show 1 + s ≤ 9; omega⟩, by show mm ≤ 99; omega⟩
        · rw [List.getElem?_eq_none (by omega)] at hw; cases hw
      · rintro acc G5 ⟨ls, rfl, lk, ee, ok, u5⟩
        rw [Nat.zero_add, List.length_map] at lk ee
        rw [List.take_length] at ee
        walk_at "w"
        refine ⟨by decide, .inl (q ls G5 ⟨n1, n4, by omega, ok, by rw [ee]; exact cn'⟩ u5)⟩
def sp__law_work : Spw := fun ws G Q E => ∃ (p : Addr) (n : Nat), ws = [.ref p, .int ((n : Nat) : Int)] ∧ (BagAt p G) ∧ (1 ≤ n) ∧ ∀ k G', WkOk n k → BagUp p G G' → Q (workW k) G'
theorem len__law_work (ws G Q E) (h : sp__law_work ws G Q E) : ws.length = 2 := by obtain ⟨_, _, rfl, _⟩ := h; rfl
/-- slots: _law_bag_here 0, _law_many 1, _law_place 2, _law_least 3, _law_pieces 4, _law_keep 5, _law_start 6, _law_was 7 -/
def t__law_work_r1 : TSw := (wSeq (wAsg (wCall sp__law_take (wCons (wVar 0) (wCons (wC (.int 100)) wNil))) (gN 5))
    (wSeq (wAsg (wCall sp__law_take (wCons (wVar 0) (wCons (wC (.int 100)) wNil))) (gN 6))
    (wSeq (wAsg (wOp wEq (wCall sp__law_take (wCons (wVar 0) (wCons (wC (.int 2)) wNil))) (wC (.int 0))) (gN 7))
    (wRet (wTup (wCons (wVar 2) (wCons (wVar 3) (wCons (wVar 5) (wCons (wCB wTuple (wCons (wVar 4) wNil)) (wCons (wVar 6) (wCons (wOp wAdd (wC (.int 1)) (wCall sp__law_take (wCons (wVar 0) (wCons (wC (.int 2)) wNil)))) (wCons (wOp wAdd (wC (.int 1)) (wCall sp__law_take (wCons (wVar 0) (wCons (wC (.int 2)) wNil)))) (wCons (wVar 7) wNil)))))))))))))
def t__law_work : TSw := (wSeq (wAsg (wCall sp__law_take (wCons (wVar 0) (wCons (wVar 1) wNil))) (gN 2))
    (wSeq (wAsg (wOp wIx (wLst (wCons (wC (.int 0)) (wCons (wCall sp__law_take (wCons (wVar 0) (wCons (wC (.int 21)) wNil))) (wCons (wCall sp__law_take (wCons (wVar 0) (wCons (wC (.int 6)) wNil))) wNil)))) (wCall sp__law_take (wCons (wVar 0) (wCons (wC (.int 3)) wNil)))) (gN 3))
    (wSeq (wAsg (wLstM (wCons (wTup (wCons (wOp wAdd (wC (.int 1)) (wCall sp__law_take (wCons (wVar 0) (wCons (wC (.int 20)) wNil)))) (wCons (wCall sp__law_take (wCons (wVar 0) (wCons (wC (.int 60)) wNil))) wNil))) wNil)) (gN 4))
    (wSeq (wIfS (wTest (wOp wEq (wCall sp__law_take (wCons (wVar 0) (wCons (wC (.int 2)) wNil))) (wC (.int 0)))) (wDrop (wBM wM_append (wVar 4) (wCons (wTup (wCons (wOp wAdd (wC (.int 1)) (wCall sp__law_take (wCons (wVar 0) (wCons (wC (.int 20)) wNil)))) (wCons (wOp wAdd (wOp wIx (wOp wIx (wVar 4) (wC (.int 0))) (wC (.int 1))) (wCall sp__law_take (wCons (wVar 0) (wCons (wC (.int 40)) wNil)))) wNil))) wNil))) wNext)
    t__law_work_r1))))
theorem rd__law_work (ws : List W) (G : Gp) (Q : QW) (E) (h : sp__law_work ws G Q E) : t__law_work { nx := fun _ G' => Q .non G', rt := Cl Q } (startW ["_law_bag_here", "_law_many", "_law_place", "_law_least", "_law_pieces", "_law_keep", "_law_start", "_law_was"] ws) G := by
  obtain ⟨p, n, rfl, bag, n1, q⟩ := h
  show t__law_work _ [some (.ref p), some (.int ((n : Nat) : Int)), none, none, none, none, none, none] G
  unfold t__law_work
  walk_at "w"
  have big : 1000 < sizeLine := by decide
  refine take_up bag (by omega) fun pl G1 hpl u1 => ?_
  walk_at "w"
  refine take_up u1.at (by decide) fun l1 G2 hl1 u2 => ?_
  walk_at "w"
  refine take_up u2.at (by decide) fun l2 G3 hl2 u3 => ?_
  walk_at "w"
  refine ⟨by decide, ?_⟩
  refine take_up u3.at (by decide) fun l3 G4 hl3 u4 => ?_
  refine isS_nat (ms := [0, l1, l2]) rfl (by show l3 < 3; omega) fun least hls => ?_
  have bl : least ≤ 20 := by simp at hls; omega
  walk_at "w"
  refine take_up u4.at (by decide) fun w1 G5 hw1 u5 => ?_
  walk_at "w"
  refine take_up u5.at (by decide) fun p1 G6 hp1 u6 => ?_
  walk_at "w"
  have U := ((((u1.trans u2).trans u3).trans u4).trans u5).trans u6
  refine ⟨by decide, by decide, fun t ht => ?_⟩
  have pt : p ≠ t := U.at.ne ht
  have ht0 : ∀ G', BagUp p G G' → G' t = none := fun G' u => by rw [u.ne (Ne.symm pt), ← U.ne (Ne.symm pt)]; exact ht
  rw [show (1 : Int) + ((w1 : Nat) : Int) = ((1 + w1 : Nat) : Int) by omega]
  have rest : ∀ (ps : List (Nat × Nat)) (K : Gp), 1 ≤ ps.length ∧ ps.length ≤ 2 → (∀ v ∈ ps, 1 ≤ v.1 ∧ v.1 ≤ 20 ∧ v.2 ≤ 99) → (ps.headD (0, 0)).2 ≤ (ps.getLastD (0, 0)).2 → BagUp p G K →
      t__law_work_r1 { nx := fun x G' => Q W.non G', rt := Cl Q } [some (W.ref p), some (W.int ((n : Nat) : Int)), some (W.int ((pl : Nat) : Int)), some (W.int ((least : Nat) : Int)), some (W.ref t), none, none, none] (gup K t (.lst (ps.map fun v => pieceW v))) := by
    intro ps K hps hv ho u
    unfold t__law_work_r1
    walk_at "w"
    refine take_up (u.at.up pt) (by decide) fun keep G7 hk u7 => ?_
    obtain ⟨K7, v7, rfl⟩ := bag_over pt u7
    walk_at "w"
    refine take_up (v7.at.up pt) (by decide) fun start G8 hs u8 => ?_
    obtain ⟨K8, v8, rfl⟩ := bag_over pt u8
    walk_at "w"
    refine take_up (v8.at.up pt) (by decide) fun on G9 hon u9 => ?_
    obtain ⟨K9, v9, rfl⟩ := bag_over pt u9
    walk_at "w"
    refine take_up (v9.at.up pt) (by decide) fun x1 G10 hx1 u10 => ?_
    obtain ⟨K10, v10, rfl⟩ := bag_over pt u10
    walk_at "w"
    refine take_up (v10.at.up pt) (by decide) fun x2 G11 hx2 u11 => ?_
    obtain ⟨K11, v11, rfl⟩ := bag_over pt u11
    walk_at "w"
    rw [show (1 : Int) + ((x1 : Nat) : Int) = ((1 + x1 : Nat) : Int) by omega, show (1 : Int) + ((x2 : Nat) : Int) = ((1 + x2 : Nat) : Int) by omega]
    have uu := ((((u.trans v7).trans v8).trans v9).trans v10).trans v11
    exact ⟨by decide, Cl.drop (ht0 _ uu) (q ⟨pl, least, keep, ps, start, 1 + x1, 1 + x2, decide (((on : Nat) : Int) = 0)⟩ K11 ⟨by show pl < n; omega, bl, by show keep ≤ 99; omega, hps, hv, by show start ≤ 99; omega, by show 1 + x1 = 1 ∨ 1 + x1 = 2; omega, by show 1 + x2 = 1 ∨ 1 + x2 = 2; omega, ho⟩ uu)⟩
  refine take_up (U.at.up pt) (by decide) fun yes G7 hy u7 => ?_
  obtain ⟨K7, v7, rfl⟩ := bag_over pt u7
  walk_at "w"
  have o1 : 1 ≤ 1 + w1 ∧ 1 + w1 ≤ 20 ∧ p1 ≤ 99 := by omega
  by_cases c : yes = 0
  · rw [decide_eq_true (by omega), if_pos rfl]
    refine take_up (v7.at.up pt) (by decide) fun w2 G8 hw2 u8 => ?_
    obtain ⟨K8, v8, rfl⟩ := bag_over pt u8
    walk_at "w"
    refine take_up (v8.at.up pt) (by decide) fun p2 G9 hp2 u9 => ?_
    obtain ⟨K9, v9, rfl⟩ := bag_over pt u9
    walk_at "w"
    rw [show (1 : Int) + ((w2 : Nat) : Int) = ((1 + w2 : Nat) : Int) by omega, show ((p1 : Nat) : Int) + ((p2 : Nat) : Int) = ((p1 + p2 : Nat) : Int) by omega]
    refine ⟨by decide, by decide, rest [(1 + w1, p1), (1 + w2, p1 + p2)] K9 ⟨by simp, by simp⟩ (fun v hv => ?_) (show p1 ≤ p1 + p2 by omega) (((U.trans v7).trans v8).trans v9)⟩
    simp only [List.mem_cons, List.not_mem_nil, or_false] at hv
    rcases hv with rfl | rfl
    · exact o1
    · exact ⟨by show 1 ≤ 1 + w2; omega, by show 1 + w2 ≤ 20; omega, by show p1 + p2 ≤ 99; omega⟩
  · rw [decide_eq_false (by omega), if_neg (by decide)]
    refine rest [(1 + w1, p1)] K7 ⟨by simp, by simp⟩ (fun v hv => ?_) (Nat.le_refl _) (U.trans v7)
    rw [List.mem_singleton.mp hv]
    exact o1
def sp__law_wants : Spw := fun ws G Q E => ∃ (p : Addr) (n : Nat), ws = [.ref p, .int ((n : Nat) : Int)] ∧ (BagAt p G) ∧ (1 ≤ n) ∧ ∀ vs G', vs.length ≤ 3 → (∀ v ∈ vs, WntOk n v) → BagUp p G G' → Q (wantsW vs) G'
theorem len__law_wants (ws G Q E) (h : sp__law_wants ws G Q E) : ws.length = 2 := by obtain ⟨_, _, rfl, _⟩ := h; rfl
/-- slots: _law_bag_here 0, _law_many 1, _law_found 2, _law_k 3, _law_worth 4 -/
def t__law_wants_b1 : TSw := (wSeq (wAsg (wOp wIx (wLst (wCons (wCall sp__law_take (wCons (wVar 0) (wCons (wC (.int 101)) wNil))) (wCons (wC (.int 100)) wNil))) (wCB wInt (wCons (wOp wEq (wCall sp__law_take (wCons (wVar 0) (wCons (wC (.int 6)) wNil))) (wC (.int 0))) wNil))) (gN 4))
    (wDrop (wBM wM_append (wVar 2) (wCons (wTup (wCons (wCall sp__law_take (wCons (wVar 0) (wCons (wVar 1) wNil))) (wCons (wCall sp__law_take (wCons (wVar 0) (wCons (wC (.int 31)) wNil))) (wCons (wVar 4) wNil)))) wNil))))
def t__law_wants_r1 : TSw := (wRet (wCB wTuple (wCons (wVar 2) wNil)))
def t__law_wants : TSw := (wSeq (wAsg (wLstM wNil) (gN 2))
    (wSeq (wFor [false, false, false, true, true] (iR1 (wCons (wCall sp__law_take (wCons (wVar 0) (wCons (wC (.int 4)) wNil))) wNil)) (gN 3) t__law_wants_b1)
    t__law_wants_r1))
theorem rd__law_wants (ws : List W) (G : Gp) (Q : QW) (E) (h : sp__law_wants ws G Q E) : t__law_wants { nx := fun _ G' => Q .non G', rt := Cl Q } (startW ["_law_bag_here", "_law_many", "_law_found", "_law_k", "_law_worth"] ws) G := by
  obtain ⟨p, n, rfl, bag, n1, q⟩ := h
  show t__law_wants _ [some (.ref p), some (.int ((n : Nat) : Int)), none, none, none] G
  unfold t__law_wants
  walk_at "w"
  have big : 1000 < sizeLine := by decide
  refine ⟨by decide, fun t ht => ?_⟩
  have pt : p ≠ t := bag.ne ht
  have ht0 : ∀ G', BagUp p G G' → G' t = none := fun G' u => by rw [u.ne (Ne.symm pt)]; exact ht
  refine take_up (bag.up pt) (by decide) fun c G1 hc u1 => ?_
  obtain ⟨K1, v1, rfl⟩ := bag_over pt u1
  walk_at "w"
  refine ⟨by omega, by omega, ?_⟩
  rw [show ((c : Nat) : Int).toNat = c by omega]
  refine forW_range (fun i σ H => ∃ (vs : List Wnt) (K : Gp), BagUp p G K ∧ H = gup K t (.lst (vs.map fun v => wantW v)) ∧ vs.length = i ∧ (∀ v ∈ vs, WntOk n v) ∧ σ = [some (.ref p), some (.int ((n : Nat) : Int)), some (.ref t), none, none]) ⟨[], K1, v1, rfl, rfl, by simp, rfl⟩ ?_ ?_
  · rintro i hi σ H N ⟨vs, K, u, rfl, lv, ov, rfl⟩ hN
    unfold t__law_wants_b1
    walk_at "w"
    refine take_up (u.at.up pt) (by decide) fun w1 G2 hw1 u2 => ?_
    obtain ⟨K2, v2, rfl⟩ := bag_over pt u2
    walk_at "w"
    refine ⟨by decide, ?_⟩
    refine take_up (v2.at.up pt) (by decide) fun w2 G3 hw2 u3 => ?_
    obtain ⟨K3, v3, rfl⟩ := bag_over pt u3
    walk_at "w"
    obtain ⟨worth, hworth, ew⟩ : ∃ worth : Nat, worth ≤ 100 ∧ L2.atI [W.int ((w1 : Nat) : Int), .int 100] (if decide (((w2 : Nat) : Int) = 0) = true then 1 else 0) = some (.int ((worth : Nat) : Int)) := by
      by_cases c : w2 = 0
      · rw [if_pos (decide_eq_true (by omega))]; exact ⟨100, by decide, rfl⟩
      · rw [if_neg (by rw [decide_eq_true_eq]; omega)]; exact ⟨w1, by omega, rfl⟩
    rw [ew]
    walk_at "w"
    refine take_up (v3.at.up pt) (by omega) fun pl G4 hpl u4 => ?_
    obtain ⟨K4, v4, rfl⟩ := bag_over pt u4
    walk_at "w"
    refine take_up (v4.at.up pt) (by decide) fun sz G5 hsz u5 => ?_
    obtain ⟨K5, v5, rfl⟩ := bag_over pt u5
    walk_at "w"
    refine ⟨by decide, by omega, hN _ _ ⟨vs ++ [(pl, sz, worth)], K5, (((u.trans v2).trans v3).trans v4).trans v5, by rw [List.map_append]; rfl, by simp [lv], fun v hv => ?_, rfl⟩⟩
    rcases List.mem_append.mp hv with h | h
    · exact ov v h
    · rw [List.mem_singleton.mp h]
      exact ⟨by show pl < n; omega, by show sz ≤ 30; omega, hworth⟩
  · rintro σ H ⟨vs, K, u, rfl, lv, ov, rfl⟩
    unfold t__law_wants_r1
    walk_at "w"
    exact Cl.drop (ht0 _ u) (q vs K (by omega) ov u)
def sp__law_store : Spw := fun ws G Q E => ∃ (p : Addr) (n : Nat), ws = [.ref p, .int ((n : Nat) : Int)] ∧ (BagAt p G) ∧ (1 ≤ n) ∧ ∀ s G', (∀ t, s = some t → StoOk n t) → BagUp p G G' → Q (storeW s) G'
theorem len__law_store (ws G Q E) (h : sp__law_store ws G Q E) : ws.length = 2 := by obtain ⟨_, _, rfl, _⟩ := h; rfl
/-- slots: _law_bag_here 0, _law_many 1, _law_top 2, _law_taken 3 -/
def t__law_store : TSw := (wSeq (wIfS (wTest (wOp wEq (wCall sp__law_take (wCons (wVar 0) (wCons (wC (.int 2)) wNil))) (wC (.int 0)))) (wRet (wC .non)) wNext)
    (wSeq (wAsg (wOp wAdd (wC (.int 1)) (wCall sp__law_take (wCons (wVar 0) (wCons (wC (.int 2)) wNil)))) (gN 2))
    (wSeq (wAsg (wOp wAdd (wC (.int 1)) (wCall sp__law_take (wCons (wVar 0) (wCons (wC (.int 20)) wNil)))) (gN 3))
    (wRet (wTup (wCons (wCall sp__law_take (wCons (wVar 0) (wCons (wVar 1) wNil))) (wCons (wVar 2) (wCons (wCall sp__law_take (wCons (wVar 0) (wCons (wOp wAdd (wVar 2) (wC (.int 1))) wNil))) (wCons (wVar 3) (wCons (wCall sp__law_take (wCons (wVar 0) (wCons (wOp wAdd (wVar 3) (wC (.int 1))) wNil))) wNil))))))))))
theorem rd__law_store (ws : List W) (G : Gp) (Q : QW) (E) (h : sp__law_store ws G Q E) : t__law_store { nx := fun _ G' => Q .non G', rt := Cl Q } (startW ["_law_bag_here", "_law_many", "_law_top", "_law_taken"] ws) G := by
  obtain ⟨p, n, rfl, bag, n1, q⟩ := h
  show t__law_store _ [some (.ref p), some (.int ((n : Nat) : Int)), none, none] G
  unfold t__law_store
  walk_at "w"
  refine take_up bag (by decide) fun y G1 hy u1 => ?_
  walk_at "w"
  by_cases c : y = 0
  · rw [decide_eq_true (by omega), if_pos rfl]
    exact .inl (q none G1 (fun _ e => by cases e) u1)
  · rw [decide_eq_false (by omega), if_neg (by decide)]
    refine take_up u1.at (by decide) fun top G2 htop u2 => ?_
    walk_at "w"
    refine take_up u2.at (by decide) fun taken G3 htk u3 => ?_
    walk_at "w"
    refine take_up u3.at (by omega) fun pl G4 hpl u4 => ?_
    walk_at "w"
    refine take_up u4.at (by omega) fun lev G5 hlev u5 => ?_
    walk_at "w"
    refine take_up u5.at (by omega) fun given G6 hg u6 => ?_
    walk_at "w"
    rw [show (1 : Int) + ((top : Nat) : Int) = ((1 + top : Nat) : Int) by omega, show (1 : Int) + ((taken : Nat) : Int) = ((1 + taken : Nat) : Int) by omega]
    refine ⟨by decide, .inl (q (some ⟨pl, 1 + top, lev, 1 + taken, given⟩) G6 (fun t e => ?_) (((((u1.trans u2).trans u3).trans u4).trans u5).trans u6))⟩
    injection e with e
    subst e
    exact ⟨by show pl < n; omega, ⟨by show 1 ≤ 1 + top; omega, by show 1 + top ≤ 2; omega⟩, by show lev ≤ 1 + top; omega, ⟨by show 1 ≤ 1 + taken; omega, by show 1 + taken ≤ 20; omega⟩, by show given ≤ 1 + taken; omega⟩
def sp__law_house : Spw := fun ws G Q E => ∃ (p : Addr), ws = [.ref p] ∧ (BagAt p G) ∧ ∀ n ls ks s hs G', House n ls ks s hs → BagUp p G G' → Q (houseW n ls ks s hs) G'
theorem len__law_house (ws G Q E) (h : sp__law_house ws G Q E) : ws.length = 1 := by obtain ⟨_, rfl, _⟩ := h; rfl
/-- slots: _law_bag_here 0, _law_many 1, _law_hours 2, _law_works 3, _law_net_here 4, _law_some 5, _law_store_here 6, _law_k 7 -/
def t__law_house_r1 : TSw := (wSeq (wAsg (wCall sp__law_net (wCons (wVar 0) (wCons (wVar 1) wNil))) (gN 4))
    (wSeq (wAsg (wCB wTuple (wCons (wLc [7] (iR1 (wCons (wVar 3) wNil)) (gN 7) wYes (wCall sp__law_work (wCons (wVar 0) (wCons (wVar 1) wNil)))) wNil)) (gN 5))
    (wSeq (wAsg (wCall sp__law_store (wCons (wVar 0) (wCons (wVar 1) wNil))) (gN 6))
    (wRet (wTup (wCons (wVar 4) (wCons (wVar 5) (wCons (wVar 6) (wCons (wCB wTuple (wCons (wLc [7] (iR1 (wCons (wVar 2) wNil)) (gN 7) wYes (wCall sp__law_wants (wCons (wVar 0) (wCons (wVar 1) wNil)))) wNil)) wNil)))))))))
def t__law_house : TSw := (wSeq (wAsg (wOp wAdd (wC (.int 1)) (wCall sp__law_take (wCons (wVar 0) (wCons (wC (.int 4)) wNil)))) (gN 1))
    (wSeq (wAsg (wOp wAdd (wC (.int 1)) (wCall sp__law_take (wCons (wVar 0) (wCons (wC (.int 3)) wNil)))) (gN 2))
    (wSeq (wAsg (wCall sp__law_take (wCons (wVar 0) (wCons (wC (.int 3)) wNil))) (gN 3))
    (wSeq (wIfS (wTest (wOp wEq (wCall sp__law_take (wCons (wVar 0) (wCons (wC (.int 8)) wNil))) (wC (.int 0)))) (wSeq (wAsg (wC (.int 3)) (gN 3))
    (wAsg (wOp wAdd (wC (.int 1)) (wCall sp__law_take (wCons (wVar 0) (wCons (wC (.int 2)) wNil)))) (gN 2))) wNext)
    t__law_house_r1))))
theorem rd__law_house (ws : List W) (G : Gp) (Q : QW) (E) (h : sp__law_house ws G Q E) : t__law_house { nx := fun _ G' => Q .non G', rt := Cl Q } (startW ["_law_bag_here", "_law_many", "_law_hours", "_law_works", "_law_net_here", "_law_some", "_law_store_here", "_law_k"] ws) G := by
  obtain ⟨p, rfl, bag, q⟩ := h
  show t__law_house _ [some (.ref p), none, none, none, none, none, none, none] G
  unfold t__law_house
  walk_at "w"
  have big : 1000 < sizeLine := by decide
  refine take_up bag (by decide) fun n0 G1 hn u1 => ?_
  walk_at "w"
  rw [show (1 : Int) + ((n0 : Nat) : Int) = ((1 + n0 : Nat) : Int) by omega]
  have n1 : 1 ≤ 1 + n0 := by omega
  have n4 : 1 + n0 ≤ 4 := by omega
  generalize 1 + n0 = n at n1 n4 ⊢
  refine take_up u1.at (by decide) fun h0 G2 hh0 u2 => ?_
  walk_at "w"
  refine take_up u2.at (by decide) fun w0 G3 hw0 u3 => ?_
  walk_at "w"
  refine take_up u3.at (by decide) fun e0 G4 he0 u4 => ?_
  walk_at "w"
  have U := ((u1.trans u2).trans u3).trans u4
  have rest : ∀ (hm wm : Nat) (K : Gp), 1 ≤ hm ∧ hm ≤ 3 → wm ≤ 3 → BagUp p G K →
      t__law_house_r1 { nx := fun x G' => Q W.non G', rt := Cl Q } [some (W.ref p), some (W.int ((n : Nat) : Int)), some (W.int ((hm : Nat) : Int)), some (W.int ((wm : Nat) : Int)), none, none, none, none] K := by
    intro hm wm K hh hw u
    unfold t__law_house_r1
    walk_at "w"
    refine ⟨p, n, rfl, u.at, n1, n4, fun ls G5 net u5 => ?_⟩
    walk_at "w"
    refine ⟨by omega, by omega, by omega, ?_⟩
    refine lcW_step (fun k acc G' => ∃ ks, acc = (ks.map fun k => workW k) ∧ ks.length = k ∧ (∀ k ∈ ks, WkOk n k) ∧ BagUp p G G') _ 0 _ _ _ ⟨[], rfl, rfl, by simp, u.trans u5⟩ ?_ ?_
    · rintro w hw k acc G3 N ⟨ks, rfl, lk, ok, u3⟩ hN
      walk_at "w"
      refine ⟨p, n, rfl, u3.at, n1, fun k G4 kok u4 => ?_⟩
      refine hN _ _ ⟨ks ++ [k], by simp, by rw [List.length_append, lk]; rfl, fun y hy => ?_, u3.trans u4⟩
      rcases List.mem_append.mp hy with hy | hy
      · exact ok y hy
      · rw [List.mem_singleton.mp hy]; exact kok
    · rintro acc G6 ⟨ks, rfl, lk, okk, u6⟩
      rw [rangeW_length, Nat.zero_add] at lk
      walk_at "w"
      refine ⟨p, n, rfl, u6.at, n1, fun s G7 oks u7 => ?_⟩
      walk_at "w"
      refine ⟨by omega, by omega, by omega, ?_⟩
      refine lcW_step (fun k acc G' => ∃ hs, acc = (hs.map fun vs => wantsW vs) ∧ hs.length = k ∧ (∀ vs ∈ hs, vs.length ≤ 3 ∧ ∀ v ∈ vs, WntOk n v) ∧ BagUp p G G') _ 0 _ _ _ ⟨[], rfl, rfl, by simp, u6.trans u7⟩ ?_ ?_
      · rintro w hw k acc G6 N ⟨hs, rfl, lh, ok, u6⟩ hN
        walk_at "w"
        refine ⟨p, n, rfl, u6.at, n1, fun vs G7 lv okv u7 => ?_⟩
        refine hN _ _ ⟨hs ++ [vs], by simp, by rw [List.length_append, lh]; rfl, fun y hy => ?_, u6.trans u7⟩
        rcases List.mem_append.mp hy with hy | hy
        · exact ok y hy
        · rw [List.mem_singleton.mp hy]; exact ⟨lv, okv⟩
      · rintro acc G8 ⟨hs, rfl, lh, okh, u8⟩
        rw [rangeW_length, Nat.zero_add] at lh
        walk_at "w"
        exact ⟨by decide, .inl (q n ls ks s hs G8 ⟨net, okk, oks, okh, by omega, by omega, by omega⟩ u8)⟩
  by_cases c : e0 = 0
  · rw [decide_eq_true (by omega), if_pos rfl]
    refine take_up u4.at (by decide) fun h1 G5 hh1 u5 => ?_
    walk_at "w"
    rw [show (1 : Int) + ((h1 : Nat) : Int) = ((1 + h1 : Nat) : Int) by omega]
    exact rest (1 + h1) 3 G5 (by omega) (by omega) (U.trans u5)
  · rw [decide_eq_false (by omega), if_neg (by decide)]
    rw [show (1 : Int) + ((h0 : Nat) : Int) = ((1 + h0 : Nat) : Int) by omega]
    exact rest (1 + h0) w0 G4 (by omega) (by omega) U
/-! ### houses of any thing: the looks -/
def rowB (w : W) (lo hi : Int) : Bool := match w with
  | .tup us => decide (lo ≤ ((us.length : Nat) : Int)) && decide (((us.length : Nat) : Int) ≤ hi)
  | _ => false
def itemsW : W → List W
  | .tup us => us
  | _ => []
def itW (w : W) (i : Nat) : W := (itemsW w).getD i .non
def leB : W → W → Bool
  | .int i, .int j => decide (i ≤ j)
  | _, _ => false
def isBlB : W → Bool
  | .bl _ => true
  | _ => false
def intOf : W → Int
  | .int i => i
  | _ => 0
def isNonB : W → Bool
  | .non => true
  | _ => false
def pieceB (w : W) : Bool := rowB w 2 2 && (fromB (itW w 0) 1 20 && fromB (itW w 1) 0 99)
def piecesB (w : W) : Bool := rowB w 1 2 && ((itemsW w).all pieceB && leB (itW (itW w 0) 1) (itW (itW w ((itemsW w).length - 1)) 1))
def workB (n : Int) (w : W) : Bool := rowB w 8 8 && (fromB (itW w 0) 0 (n - 1) && (fromB (itW w 1) 0 20 && (fromB (itW w 2) 0 99 && (piecesB (itW w 3) && (fromB (itW w 4) 0 99 && (fromB (itW w 5) 1 2 && (fromB (itW w 6) 1 2 && isBlB (itW w 7))))))))
def storeB (n : Int) (w : W) : Bool := isNonB w || (rowB w 5 5 && (fromB (itW w 0) 0 (n - 1) && (fromB (itW w 1) 1 2 && (fromB (itW w 2) 0 (intOf (itW w 1)) && (fromB (itW w 3) 1 20 && fromB (itW w 4) 0 (intOf (itW w 3)))))))
def wantB (n : Int) (w : W) : Bool := rowB w 3 3 && (fromB (itW w 0) 0 (n - 1) && (fromB (itW w 1) 0 30 && fromB (itW w 2) 0 100))
def wantsB (n : Int) (w : W) : Bool := rowB w 0 3 && (itemsW w).all (wantB n)
noncomputable def houseB (w : W) : Bool := rowB w 4 4 && (netB (itW w 0) && (rowB (itW w 1) 0 3 && ((itemsW (itW w 1)).all (workB (intOf (itW (itW w 0) 0))) && (storeB (intOf (itW (itW w 0) 0)) (itW w 2) && (rowB (itW w 3) 1 3 && (itemsW (itW w 3)).all (wantsB (intOf (itW (itW w 0) 0))))))))
theorem row_of {w : W} {lo hi : Int} (h : rowB w lo hi = true) : ∃ us, w = .tup us ∧ lo ≤ ((us.length : Nat) : Int) ∧ ((us.length : Nat) : Int) ≤ hi := by
  cases w with
  | tup us =>
    have h' : (decide (lo ≤ ((us.length : Nat) : Int)) && decide (((us.length : Nat) : Int) ≤ hi)) = true := h
    rw [Bool.and_eq_true] at h'
    exact ⟨us, rfl, of_decide_eq_true h'.1, of_decide_eq_true h'.2⟩
  | _ => cases h
theorem net_parts {w : W} (h : netB w = true) : ∃ (n : Int) (l : W), w = .tup [.int n, l] := by
  cases w with
  | tup us =>
    by_cases h2 : us.length = 2
    · match us, h2 with
      | [m, l], _ =>
        have hM : fromB m 1 4 = true := by
          cases hM : fromB m 1 4 with
          | true => rfl
          | false =>
            have e : netB (.tup [m, l]) = false := by
              cases l <;> first | rfl | (show (fromB m 1 4 && _) = false; rw [hM]; rfl)
            rw [e] at h; cases h
        obtain ⟨n, rfl, _⟩ := from_int hM
        exact ⟨n, l, rfl⟩
    · rw [net_not2 h2] at h; cases h
  | _ => cases h
theorem piece_of {w : W} (h : pieceB w = true) : ∃ x y : Int, w = .tup [.int x, .int y] := by
  unfold pieceB at h
  rw [Bool.and_eq_true, Bool.and_eq_true] at h
  obtain ⟨us, rfl, l1, l2⟩ := row_of h.1
  have hl : us.length = 2 := by omega
  match us, hl with
  | [a, b], _ =>
    obtain ⟨x, rfl, _⟩ := from_int (show fromB a 1 20 = true from h.2.1)
    obtain ⟨y, rfl, _⟩ := from_int (show fromB b 0 99 = true from h.2.2)
    exact ⟨x, y, rfl⟩
def sp_is_row_of : Spw := fun ws G Q E => ∃ (w : W) (lo hi : Int), ws = [w, .int lo, .int hi] ∧ (datB w = true) ∧ Q (.bl (rowB w lo hi)) G
theorem len_is_row_of (ws G Q E) (h : sp_is_row_of ws G Q E) : ws.length = 3 := by obtain ⟨_, _, _, rfl, _⟩ := h; rfl
/-- slots: thing 0, least 1, most 2 -/
def t_is_row_of : TSw := (wRet (wAndV (wUn (wIsi .tuple) (wVar 0)) (wChain wLe wLe (wVar 1) (wCB wLen (wCons (wVar 0) wNil)) (wVar 2))))
theorem rd_is_row_of (ws : List W) (G : Gp) (Q : QW) (E) (h : sp_is_row_of ws G Q E) : t_is_row_of { nx := fun _ G' => Q .non G', rt := Cl Q } (startW ["thing", "least", "most"] ws) G := by
  obtain ⟨w, lo, hi, rfl, d, q⟩ := h
  show t_is_row_of _ [some (w), some (.int lo), some (.int hi)] G
  unfold t_is_row_of
  walk_at "w"
  cases w with
  | tup us =>
    have q' : Q (.bl (decide (lo ≤ ((us.length : Nat) : Int)) && decide (((us.length : Nat) : Int) ≤ hi))) G := q
    walk_at "w"
    by_cases c : lo ≤ ((us.length : Nat) : Int)
    · rw [decide_eq_true c] at q' ⊢
      walk_at "w"
      exact .inl q'
    · rw [decide_eq_false c] at q' ⊢
      walk_at "w"
      exact .inl q'
  | _ => first | (walk_at "w"; exact .inl q) | (simp [datB] at d)
def sp_is_piece : Spw := fun ws G Q E => ∃ (w : W), ws = [w] ∧ (datB w = true) ∧ Q (.bl (pieceB w)) G
theorem len_is_piece (ws G Q E) (h : sp_is_piece ws G Q E) : ws.length = 1 := by obtain ⟨_, rfl, _⟩ := h; rfl
/-- slots: thing 0 -/
def t_is_piece : TSw := (wRet (wAndV (wCall sp_is_row_of (wCons (wVar 0) (wCons (wC (.int 2)) (wCons (wC (.int 2)) wNil)))) (wAndV (wCall sp_is_from (wCons (wOp wIx (wVar 0) (wC (.int 0))) (wCons (wC (.int 1)) (wCons (wC (.int 20)) wNil)))) (wCall sp_is_from (wCons (wOp wIx (wVar 0) (wC (.int 1))) (wCons (wC (.int 0)) (wCons (wC (.int 99)) wNil)))))))
theorem rd_is_piece (ws : List W) (G : Gp) (Q : QW) (E) (h : sp_is_piece ws G Q E) : t_is_piece { nx := fun _ G' => Q .non G', rt := Cl Q } (startW ["thing"] ws) G := by
  obtain ⟨w, rfl, d, q⟩ := h
  show t_is_piece _ [some (w)] G
  unfold t_is_piece
  walk_at "w"
  have q' := q
  unfold pieceB at q'
  refine ⟨w, 2, 2, rfl, d, ?_⟩
  rcases Bool.eq_false_or_eq_true (rowB w 2 2) with hT | hT
  rotate_left
  · rw [hT] at q' ⊢
    walk_at "w"
    first | exact .inl q' | (simp only [Bool.and_false, Bool.false_and] at q'; exact .inl q')
  rw [hT] at q' ⊢
  walk_at "w"
  obtain ⟨us, rfl, l1, l2⟩ := row_of hT
  have hl : us.length = 2 := by omega
  match us, hl with
  | [a, b], _ =>
    have dd := dats_all.mp (show datsB [a, b] = true from d)
    walk_at "w"
    refine ⟨a, 1, 20, rfl, dd a (by simp), ?_⟩
    replace q' : Q (.bl (true && (fromB a 1 20 && fromB b 0 99))) G := q'
    rcases Bool.eq_false_or_eq_true (fromB a 1 20) with hT | hT
    rotate_left
    · rw [hT] at q' ⊢
      walk_at "w"
      first | exact .inl q' | (simp only [Bool.and_false, Bool.false_and] at q'; exact .inl q')
    rw [hT] at q' ⊢
    walk_at "w"
    exact ⟨b, 0, 99, rfl, dd b (by simp), .inl q'⟩
theorem all_map' {us : List W} {p : W → Bool} : (us.map fun w => W.bl (p w)) = (us.map p).map W.bl := by rw [List.map_map]; rfl
theorem all_id {us : List W} {p : W → Bool} : (us.map p).all id = us.all p := by rw [List.all_map]; rfl
def sp_are_pieces : Spw := fun ws G Q E => ∃ (w : W), ws = [w] ∧ (datB w = true) ∧ Q (.bl (piecesB w)) G
theorem len_are_pieces (ws G Q E) (h : sp_are_pieces ws G Q E) : ws.length = 1 := by obtain ⟨_, rfl, _⟩ := h; rfl
/-- slots: thing 0, piece 1 -/
def t_are_pieces : TSw := (wSeq (wIfS (wOr (wNot (wTest (wCall sp_is_row_of (wCons (wVar 0) (wCons (wC (.int 1)) (wCons (wC (.int 2)) wNil)))))) (wNot (wTest (wCB wAll (wCons (wLc [1] (iSeqW (wVar 0)) (gN 1) wYes (wCall sp_is_piece (wCons (wVar 1) wNil))) wNil))))) (wRet (wC (.bl false))) wNext)
    (wRet (wOp wLe (wOp wIx (wOp wIx (wVar 0) (wC (.int 0))) (wC (.int 1))) (wOp wIx (wOp wIx (wVar 0) (wNeg (wC (.int 1)))) (wC (.int 1))))))
theorem rd_are_pieces (ws : List W) (G : Gp) (Q : QW) (E) (h : sp_are_pieces ws G Q E) : t_are_pieces { nx := fun _ G' => Q .non G', rt := Cl Q } (startW ["thing", "piece"] ws) G := by
  obtain ⟨w, rfl, d, q⟩ := h
  show t_are_pieces _ [some (w), none] G
  unfold t_are_pieces
  walk_at "w"
  have big : 1000 < sizeLine := by decide
  have q' := q
  unfold piecesB at q'
  refine ⟨w, 1, 2, rfl, d, ?_⟩
  rcases Bool.eq_false_or_eq_true (rowB w 1 2) with hT | hT
  rotate_left
  · rw [hT] at q' ⊢
    walk_at "w"
    first | exact .inl q' | (simp only [Bool.and_false, Bool.false_and] at q'; exact .inl q')
  rw [hT] at q' ⊢
  walk_at "w"
  obtain ⟨us, rfl, l1, l2⟩ := row_of hT
  have dd := dats_all.mp (show datsB us = true from d)
  walk_at "w"
  refine ⟨by omega, ?_⟩
  replace q' : Q (.bl (true && (us.all pieceB && leB (itW (us.getD 0 .non) 1) (itW (us.getD (us.length - 1) .non) 1)))) G := q'
  rw [show us = us.map (fun w => w) by simp]
  refine lcW_m (fun w : W => w) (fun w => .bl (pieceB w)) _ _ ?_ ?_
  · intro w hw P hP
    walk_at "w"
    exact ⟨w, rfl, dd w hw, hP⟩
  refine ⟨us.map pieceB, all_map', ?_⟩
  rw [all_id]
  simp only [List.map_id']
  rcases Bool.eq_false_or_eq_true (us.all pieceB) with hT | hT
  rotate_left
  · rw [hT] at q' ⊢
    walk_at "w"
    first | exact .inl q' | (simp only [Bool.and_false, Bool.false_and] at q'; exact .inl q')
  rw [hT] at q' ⊢
  walk_at "w"
  rw [List.all_eq_true] at hT
  rcases (by omega : us.length = 1 ∨ us.length = 2) with hl | hl
  · match us, hl with
    | [a], _ =>
      obtain ⟨x, y, rfl⟩ := piece_of (hT a (by simp))
      exact .inl q'
  · match us, hl with
    | [a, b], _ =>
      obtain ⟨x, y, rfl⟩ := piece_of (hT a (by simp))
      obtain ⟨x2, y2, rfl⟩ := piece_of (hT b (by simp))
      exact .inl q'
def sp_is_work : Spw := fun ws G Q E => ∃ (w : W) (n : Int), ws = [w, .int n] ∧ (datB w = true) ∧ Q (.bl (workB n w)) G
theorem len_is_work (ws G Q E) (h : sp_is_work ws G Q E) : ws.length = 2 := by obtain ⟨_, _, rfl, _⟩ := h; rfl
/-- slots: thing 0, many 1, place 2, least 3, keep 4, pieces 5, start 6, stay 7, rest 8, was 9 -/
def t_is_work : TSw := (wSeq (wIfS (wNot (wTest (wCall sp_is_row_of (wCons (wVar 0) (wCons (wC (.int 8)) (wCons (wC (.int 8)) wNil)))))) (wRet (wC (.bl false))) wNext)
    (wSeq (wAsg (wVar 0) (gT 8 (gsC (gN 2) (gsC (gN 3) (gsC (gN 4) (gsC (gN 5) (gsC (gN 6) (gsC (gN 7) (gsC (gN 8) (gsC (gN 9) gsN))))))))))
    (wSeq (wIfS (wOr (wNot (wTest (wCall sp_is_from (wCons (wVar 2) (wCons (wC (.int 0)) (wCons (wOp wSub (wVar 1) (wC (.int 1))) wNil)))))) (wOr (wNot (wTest (wCall sp_is_from (wCons (wVar 3) (wCons (wC (.int 0)) (wCons (wC (.int 20)) wNil)))))) (wNot (wTest (wCall sp_is_from (wCons (wVar 4) (wCons (wC (.int 0)) (wCons (wC (.int 99)) wNil)))))))) (wRet (wC (.bl false))) wNext)
    (wSeq (wIfS (wOr (wNot (wTest (wCall sp_are_pieces (wCons (wVar 5) wNil)))) (wNot (wTest (wCall sp_is_from (wCons (wVar 6) (wCons (wC (.int 0)) (wCons (wC (.int 99)) wNil))))))) (wRet (wC (.bl false))) wNext)
    (wRet (wAndV (wCall sp_is_from (wCons (wVar 7) (wCons (wC (.int 1)) (wCons (wC (.int 2)) wNil)))) (wAndV (wCall sp_is_from (wCons (wVar 8) (wCons (wC (.int 1)) (wCons (wC (.int 2)) wNil)))) (wUn (wIsi .bool) (wVar 9)))))))))
theorem rd_is_work (ws : List W) (G : Gp) (Q : QW) (E) (h : sp_is_work ws G Q E) : t_is_work { nx := fun _ G' => Q .non G', rt := Cl Q } (startW ["thing", "many", "place", "least", "keep", "pieces", "start", "stay", "rest", "was"] ws) G := by
  obtain ⟨w, n, rfl, d, q⟩ := h
  show t_is_work _ [some (w), some (.int n), none, none, none, none, none, none, none, none] G
  unfold t_is_work
  walk_at "w"
  have q' := q
  unfold workB at q'
  refine ⟨w, 8, 8, rfl, d, ?_⟩
  rcases Bool.eq_false_or_eq_true (rowB w 8 8) with hT | hT
  rotate_left
  · rw [hT] at q' ⊢
    walk_at "w"
    first | exact .inl q' | (simp only [Bool.and_false, Bool.false_and] at q'; exact .inl q')
  rw [hT] at q' ⊢
  walk_at "w"
  obtain ⟨us, rfl, l1, l2⟩ := row_of hT
  have hl : us.length = 8 := by omega
  match us, hl with
  | [a, b, c, e, f, g, h, i], _ =>
    have dd := dats_all.mp (show datsB [a, b, c, e, f, g, h, i] = true from d)
    replace q' : Q (.bl (true && (fromB a 0 (n - 1) && (fromB b 0 20 && (fromB c 0 99 && (piecesB e && (fromB f 0 99 && (fromB g 1 2 && (fromB h 1 2 && isBlB i))))))))) G := q'
    walk_at "w"
    refine ⟨a, 0, n - 1, rfl, dd a (by simp), ?_⟩
    rcases Bool.eq_false_or_eq_true (fromB a 0 (n - 1)) with hT | hT
    rotate_left
    · rw [hT] at q' ⊢
      walk_at "w"
      first | exact .inl q' | (simp only [Bool.and_false, Bool.false_and] at q'; exact .inl q')
    rw [hT] at q' ⊢
    walk_at "w"
    refine ⟨b, 0, 20, rfl, dd b (by simp), ?_⟩
    rcases Bool.eq_false_or_eq_true (fromB b 0 20) with hT | hT
    rotate_left
    · rw [hT] at q' ⊢
      walk_at "w"
      first | exact .inl q' | (simp only [Bool.and_false, Bool.false_and] at q'; exact .inl q')
    rw [hT] at q' ⊢
    walk_at "w"
    refine ⟨c, 0, 99, rfl, dd c (by simp), ?_⟩
    rcases Bool.eq_false_or_eq_true (fromB c 0 99) with hT | hT
    rotate_left
    · rw [hT] at q' ⊢
      walk_at "w"
      first | exact .inl q' | (simp only [Bool.and_false, Bool.false_and] at q'; exact .inl q')
    rw [hT] at q' ⊢
    walk_at "w"
    refine ⟨e, rfl, dd e (by simp), ?_⟩
    rcases Bool.eq_false_or_eq_true (piecesB e) with hT | hT
    rotate_left
    · rw [hT] at q' ⊢
      walk_at "w"
      first | exact .inl q' | (simp only [Bool.and_false, Bool.false_and] at q'; exact .inl q')
    rw [hT] at q' ⊢
    walk_at "w"
    refine ⟨f, 0, 99, rfl, dd f (by simp), ?_⟩
    rcases Bool.eq_false_or_eq_true (fromB f 0 99) with hT | hT
    rotate_left
    · rw [hT] at q' ⊢
      walk_at "w"
      first | exact .inl q' | (simp only [Bool.and_false, Bool.false_and] at q'; exact .inl q')
    rw [hT] at q' ⊢
    walk_at "w"
    refine ⟨g, 1, 2, rfl, dd g (by simp), ?_⟩
    rcases Bool.eq_false_or_eq_true (fromB g 1 2) with hT | hT
    rotate_left
    · rw [hT] at q' ⊢
      walk_at "w"
      first | exact .inl q' | (simp only [Bool.and_false, Bool.false_and] at q'; exact .inl q')
    rw [hT] at q' ⊢
    walk_at "w"
    refine ⟨h, 1, 2, rfl, dd h (by simp), ?_⟩
    rcases Bool.eq_false_or_eq_true (fromB h 1 2) with hT | hT
    rotate_left
    · rw [hT] at q' ⊢
      walk_at "w"
      first | exact .inl q' | (simp only [Bool.and_false, Bool.false_and] at q'; exact .inl q')
    rw [hT] at q' ⊢
    walk_at "w"
    have di := dd i (by simp)
    cases i <;> first | (walk_at "w"; exact .inl q') | (simp [datB] at di)
def sp_is_store : Spw := fun ws G Q E => ∃ (w : W) (n : Int), ws = [w, .int n] ∧ (datB w = true) ∧ Q (.bl (storeB n w)) G
theorem len_is_store (ws G Q E) (h : sp_is_store ws G Q E) : ws.length = 2 := by obtain ⟨_, _, rfl, _⟩ := h; rfl
/-- slots: thing 0, many 1, place 2, top 3, level 4, taken 5, given 6 -/
def t_is_store : TSw := (wSeq (wIfS (wTest (wIsN (wVar 0))) (wRet (wC (.bl true))) wNext)
    (wSeq (wIfS (wNot (wTest (wCall sp_is_row_of (wCons (wVar 0) (wCons (wC (.int 5)) (wCons (wC (.int 5)) wNil)))))) (wRet (wC (.bl false))) wNext)
    (wSeq (wAsg (wVar 0) (gT 5 (gsC (gN 2) (gsC (gN 3) (gsC (gN 4) (gsC (gN 5) (gsC (gN 6) gsN)))))))
    (wSeq (wIfS (wOr (wNot (wTest (wCall sp_is_from (wCons (wVar 2) (wCons (wC (.int 0)) (wCons (wOp wSub (wVar 1) (wC (.int 1))) wNil)))))) (wOr (wNot (wTest (wCall sp_is_from (wCons (wVar 3) (wCons (wC (.int 1)) (wCons (wC (.int 2)) wNil)))))) (wNot (wTest (wCall sp_is_from (wCons (wVar 4) (wCons (wC (.int 0)) (wCons (wVar 3) wNil)))))))) (wRet (wC (.bl false))) wNext)
    (wRet (wAndV (wCall sp_is_from (wCons (wVar 5) (wCons (wC (.int 1)) (wCons (wC (.int 20)) wNil)))) (wCall sp_is_from (wCons (wVar 6) (wCons (wC (.int 0)) (wCons (wVar 5) wNil))))))))))
theorem rd_is_store (ws : List W) (G : Gp) (Q : QW) (E) (h : sp_is_store ws G Q E) : t_is_store { nx := fun _ G' => Q .non G', rt := Cl Q } (startW ["thing", "many", "place", "top", "level", "taken", "given"] ws) G := by
  obtain ⟨w, n, rfl, d, q⟩ := h
  show t_is_store _ [some (w), some (.int n), none, none, none, none, none] G
  unfold t_is_store
  walk_at "w"
  by_cases hn : w = .non
  · subst hn
    walk_at "w"
    exact .inl q
  have q' : Q (.bl (rowB w 5 5 && (fromB (itW w 0) 0 (n - 1) && (fromB (itW w 1) 1 2 && (fromB (itW w 2) 0 (intOf (itW w 1)) && (fromB (itW w 3) 1 20 && fromB (itW w 4) 0 (intOf (itW w 3)))))))) G := by
    have e : isNonB w = false := by cases w <;> first | rfl | exact absurd rfl hn
    unfold storeB at q
    rw [e] at q
    exact q
  have e2 : isNon w = false := by cases w <;> first | rfl | exact absurd rfl hn
  refine Eq.mpr (if_neg (show ¬ isNon w = true by rw [e2]; decide)) ?_
  walk_at "w"
  refine ⟨w, 5, 5, rfl, d, ?_⟩
  rcases Bool.eq_false_or_eq_true (rowB w 5 5) with hT | hT
  rotate_left
  · rw [hT] at q' ⊢
    walk_at "w"
    first | exact .inl q' | (simp only [Bool.and_false, Bool.false_and] at q'; exact .inl q')
  rw [hT] at q' ⊢
  walk_at "w"
  obtain ⟨us, rfl, l1, l2⟩ := row_of hT
  have hl : us.length = 5 := by omega
  match us, hl with
  | [a, b, c, e, f], _ =>
    have dd := dats_all.mp (show datsB [a, b, c, e, f] = true from d)
    replace q' : Q (.bl (true && (fromB a 0 (n - 1) && (fromB b 1 2 && (fromB c 0 (intOf b) && (fromB e 1 20 && fromB f 0 (intOf e))))))) G := q'
    walk_at "w"
    refine ⟨a, 0, n - 1, rfl, dd a (by simp), ?_⟩
    rcases Bool.eq_false_or_eq_true (fromB a 0 (n - 1)) with hT | hT
    rotate_left
    · rw [hT] at q' ⊢
      walk_at "w"
      first | exact .inl q' | (simp only [Bool.and_false, Bool.false_and] at q'; exact .inl q')
    rw [hT] at q' ⊢
    walk_at "w"
    refine ⟨b, 1, 2, rfl, dd b (by simp), ?_⟩
    rcases Bool.eq_false_or_eq_true (fromB b 1 2) with hT | hT
    rotate_left
    · rw [hT] at q' ⊢
      walk_at "w"
      first | exact .inl q' | (simp only [Bool.and_false, Bool.false_and] at q'; exact .inl q')
    rw [hT] at q' ⊢
    walk_at "w"
    obtain ⟨t, rfl, _⟩ := from_int hT
    refine ⟨c, 0, t, rfl, dd c (by simp), ?_⟩
    rw [show intOf (.int t) = t from rfl] at q'
    rcases Bool.eq_false_or_eq_true (fromB c 0 t) with hT | hT
    rotate_left
    · rw [hT] at q' ⊢
      walk_at "w"
      first | exact .inl q' | (simp only [Bool.and_false, Bool.false_and] at q'; exact .inl q')
    rw [hT] at q' ⊢
    walk_at "w"
    refine ⟨e, 1, 20, rfl, dd e (by simp), ?_⟩
    rcases Bool.eq_false_or_eq_true (fromB e 1 20) with hT | hT
    rotate_left
    · rw [hT] at q' ⊢
      walk_at "w"
      first | exact .inl q' | (simp only [Bool.and_false, Bool.false_and] at q'; exact .inl q')
    rw [hT] at q' ⊢
    walk_at "w"
    obtain ⟨u, rfl, _⟩ := from_int hT
    exact ⟨f, 0, u, rfl, dd f (by simp), .inl q'⟩
def sp_is_want : Spw := fun ws G Q E => ∃ (w : W) (n : Int), ws = [w, .int n] ∧ (datB w = true) ∧ Q (.bl (wantB n w)) G
theorem len_is_want (ws G Q E) (h : sp_is_want ws G Q E) : ws.length = 2 := by obtain ⟨_, _, rfl, _⟩ := h; rfl
/-- slots: thing 0, many 1 -/
def t_is_want : TSw := (wSeq (wIfS (wNot (wTest (wCall sp_is_row_of (wCons (wVar 0) (wCons (wC (.int 3)) (wCons (wC (.int 3)) wNil)))))) (wRet (wC (.bl false))) wNext)
    (wRet (wAndV (wCall sp_is_from (wCons (wOp wIx (wVar 0) (wC (.int 0))) (wCons (wC (.int 0)) (wCons (wOp wSub (wVar 1) (wC (.int 1))) wNil)))) (wAndV (wCall sp_is_from (wCons (wOp wIx (wVar 0) (wC (.int 1))) (wCons (wC (.int 0)) (wCons (wC (.int 30)) wNil)))) (wCall sp_is_from (wCons (wOp wIx (wVar 0) (wC (.int 2))) (wCons (wC (.int 0)) (wCons (wC (.int 100)) wNil))))))))
theorem rd_is_want (ws : List W) (G : Gp) (Q : QW) (E) (h : sp_is_want ws G Q E) : t_is_want { nx := fun _ G' => Q .non G', rt := Cl Q } (startW ["thing", "many"] ws) G := by
  obtain ⟨w, n, rfl, d, q⟩ := h
  show t_is_want _ [some (w), some (.int n)] G
  unfold t_is_want
  walk_at "w"
  have q' := q
  unfold wantB at q'
  refine ⟨w, 3, 3, rfl, d, ?_⟩
  rcases Bool.eq_false_or_eq_true (rowB w 3 3) with hT | hT
  rotate_left
  · rw [hT] at q' ⊢
    walk_at "w"
    first | exact .inl q' | (simp only [Bool.and_false, Bool.false_and] at q'; exact .inl q')
  rw [hT] at q' ⊢
  walk_at "w"
  obtain ⟨us, rfl, l1, l2⟩ := row_of hT
  have hl : us.length = 3 := by omega
  match us, hl with
  | [a, b, c], _ =>
    have dd := dats_all.mp (show datsB [a, b, c] = true from d)
    replace q' : Q (.bl (true && (fromB a 0 (n - 1) && (fromB b 0 30 && fromB c 0 100)))) G := q'
    walk_at "w"
    refine ⟨a, 0, n - 1, rfl, dd a (by simp), ?_⟩
    rcases Bool.eq_false_or_eq_true (fromB a 0 (n - 1)) with hT | hT
    rotate_left
    · rw [hT] at q' ⊢
      walk_at "w"
      first | exact .inl q' | (simp only [Bool.and_false, Bool.false_and] at q'; exact .inl q')
    rw [hT] at q' ⊢
    walk_at "w"
    refine ⟨b, 0, 30, rfl, dd b (by simp), ?_⟩
    rcases Bool.eq_false_or_eq_true (fromB b 0 30) with hT | hT
    rotate_left
    · rw [hT] at q' ⊢
      walk_at "w"
      first | exact .inl q' | (simp only [Bool.and_false, Bool.false_and] at q'; exact .inl q')
    rw [hT] at q' ⊢
    walk_at "w"
    exact ⟨c, 0, 100, rfl, dd c (by simp), .inl q'⟩
def sp_are_wants : Spw := fun ws G Q E => ∃ (w : W) (n : Int), ws = [w, .int n] ∧ (datB w = true) ∧ Q (.bl (wantsB n w)) G
theorem len_are_wants (ws G Q E) (h : sp_are_wants ws G Q E) : ws.length = 2 := by obtain ⟨_, _, rfl, _⟩ := h; rfl
/-- slots: thing 0, many 1, want 2 -/
def t_are_wants : TSw := (wRet (wAndV (wCall sp_is_row_of (wCons (wVar 0) (wCons (wC (.int 0)) (wCons (wC (.int 3)) wNil)))) (wCB wAll (wCons (wLc [2] (iSeqW (wVar 0)) (gN 2) wYes (wCall sp_is_want (wCons (wVar 2) (wCons (wVar 1) wNil)))) wNil))))
theorem rd_are_wants (ws : List W) (G : Gp) (Q : QW) (E) (h : sp_are_wants ws G Q E) : t_are_wants { nx := fun _ G' => Q .non G', rt := Cl Q } (startW ["thing", "many", "want"] ws) G := by
  obtain ⟨w, n, rfl, d, q⟩ := h
  show t_are_wants _ [some (w), some (.int n), none] G
  unfold t_are_wants
  walk_at "w"
  have big : 1000 < sizeLine := by decide
  have q' := q
  unfold wantsB at q'
  refine ⟨w, 0, 3, rfl, d, ?_⟩
  rcases Bool.eq_false_or_eq_true (rowB w 0 3) with hT | hT
  rotate_left
  · rw [hT] at q' ⊢
    walk_at "w"
    first | exact .inl q' | (simp only [Bool.and_false, Bool.false_and] at q'; exact .inl q')
  rw [hT] at q' ⊢
  walk_at "w"
  obtain ⟨us, rfl, l1, l2⟩ := row_of hT
  have dd := dats_all.mp (show datsB us = true from d)
  walk_at "w"
  refine ⟨by omega, ?_⟩
  rw [show us = us.map (fun w => w) by simp]
  refine lcW_m (fun w : W => w) (fun w => .bl (wantB n w)) _ _ ?_ ?_
  · intro w hw P hP
    walk_at "w"
    exact ⟨w, n, rfl, dd w hw, hP⟩
  refine ⟨us.map (wantB n), all_map', ?_⟩
  rw [all_id]
  exact .inl q'
def sp_is_house : Spw := fun ws G Q E => ∃ (w : W), ws = [w] ∧ (datB w = true) ∧ (∀ m us, itW w 0 = .tup [m, .tup us] → us.length ≤ 1000) ∧ Q (.bl (houseB w)) G
theorem len_is_house (ws G Q E) (h : sp_is_house ws G Q E) : ws.length = 1 := by obtain ⟨_, rfl, _⟩ := h; rfl
/-- slots: thing 0, many 1, work 2, wants 3 -/
def t_is_house : TSw := (wSeq (wIfS (wOr (wNot (wTest (wCall sp_is_row_of (wCons (wVar 0) (wCons (wC (.int 4)) (wCons (wC (.int 4)) wNil)))))) (wNot (wTest (wCall sp_is_net (wCons (wOp wIx (wVar 0) (wC (.int 0))) wNil))))) (wRet (wC (.bl false))) wNext)
    (wSeq (wAsg (wOp wIx (wOp wIx (wVar 0) (wC (.int 0))) (wC (.int 0))) (gN 1))
    (wSeq (wIfS (wOr (wNot (wTest (wCall sp_is_row_of (wCons (wOp wIx (wVar 0) (wC (.int 1))) (wCons (wC (.int 0)) (wCons (wC (.int 3)) wNil)))))) (wNot (wTest (wCB wAll (wCons (wLc [2] (iSeqW (wOp wIx (wVar 0) (wC (.int 1)))) (gN 2) wYes (wCall sp_is_work (wCons (wVar 2) (wCons (wVar 1) wNil)))) wNil))))) (wRet (wC (.bl false))) wNext)
    (wSeq (wIfS (wOr (wNot (wTest (wCall sp_is_store (wCons (wOp wIx (wVar 0) (wC (.int 2))) (wCons (wVar 1) wNil))))) (wNot (wTest (wCall sp_is_row_of (wCons (wOp wIx (wVar 0) (wC (.int 3))) (wCons (wC (.int 1)) (wCons (wC (.int 3)) wNil))))))) (wRet (wC (.bl false))) wNext)
    (wRet (wCB wAll (wCons (wLc [3] (iSeqW (wOp wIx (wVar 0) (wC (.int 3)))) (gN 3) wYes (wCall sp_are_wants (wCons (wVar 3) (wCons (wVar 1) wNil)))) wNil)))))))
theorem rd_is_house (ws : List W) (G : Gp) (Q : QW) (E) (h : sp_is_house ws G Q E) : t_is_house { nx := fun _ G' => Q .non G', rt := Cl Q } (startW ["thing", "many", "work", "wants"] ws) G := by
  obtain ⟨w, rfl, d, wid, q⟩ := h
  show t_is_house _ [some (w), none, none, none] G
  unfold t_is_house
  walk_at "w"
  have big : 1000 < sizeLine := by decide
  have q' := q
  unfold houseB at q'
  refine ⟨w, 4, 4, rfl, d, ?_⟩
  rcases Bool.eq_false_or_eq_true (rowB w 4 4) with hT | hT
  rotate_left
  · rw [hT] at q' ⊢
    walk_at "w"
    first | exact .inl q' | (simp only [Bool.and_false, Bool.false_and] at q'; exact .inl q')
  rw [hT] at q' ⊢
  walk_at "w"
  obtain ⟨us, rfl, l1, l2⟩ := row_of hT
  have hl : us.length = 4 := by omega
  match us, hl with
  | [a, b, c, e], _ =>
    have dd := dats_all.mp (show datsB [a, b, c, e] = true from d)
    replace q' : Q (.bl (true && (netB a && (rowB b 0 3 && ((itemsW b).all (workB (intOf (itW a 0))) && (storeB (intOf (itW a 0)) c && (rowB e 1 3 && (itemsW e).all (wantsB (intOf (itW a 0))))))))))  G := q'
    walk_at "w"
    refine ⟨a, rfl, dd a (by simp), wid, ?_⟩
    rcases Bool.eq_false_or_eq_true (netB a) with hT | hT
    rotate_left
    · rw [hT] at q' ⊢
      walk_at "w"
      first | exact .inl q' | (simp only [Bool.and_false, Bool.false_and] at q'; exact .inl q')
    rw [hT] at q' ⊢
    walk_at "w"
    obtain ⟨n, l, rfl⟩ := net_parts hT
    rw [show intOf (itW (.tup [.int n, l]) 0) = n from rfl] at q'
    walk_at "w"
    refine ⟨b, 0, 3, rfl, dd b (by simp), ?_⟩
    rcases Bool.eq_false_or_eq_true (rowB b 0 3) with hT | hT
    rotate_left
    · rw [hT] at q' ⊢
      walk_at "w"
      first | exact .inl q' | (simp only [Bool.and_false, Bool.false_and] at q'; exact .inl q')
    rw [hT] at q' ⊢
    walk_at "w"
    obtain ⟨us, rfl, l1, l2⟩ := row_of hT
    have du := dats_all.mp (show datsB us = true from dd (.tup us) (by simp))
    walk_at "w"
    refine ⟨by omega, ?_⟩
    rw [show us = us.map (fun w => w) by simp]
    refine lcW_m (fun w : W => w) (fun w => .bl (workB n w)) _ _ ?_ ?_
    · intro w hw P hP
      walk_at "w"
      exact ⟨w, n, rfl, du w hw, hP⟩
    refine ⟨us.map (workB n), all_map', ?_⟩
    rw [all_id]
    rw [show itemsW (.tup us) = us from rfl] at q'
    simp only [List.map_id']
    rcases Bool.eq_false_or_eq_true (us.all (workB n)) with hT | hT
    rotate_left
    · rw [hT] at q' ⊢
      walk_at "w"
      first | exact .inl q' | (simp only [Bool.and_false, Bool.false_and] at q'; exact .inl q')
    rw [hT] at q' ⊢
    walk_at "w"
    refine ⟨c, n, rfl, dd c (by simp), ?_⟩
    rcases Bool.eq_false_or_eq_true (storeB n c) with hT | hT
    rotate_left
    · rw [hT] at q' ⊢
      walk_at "w"
      first | exact .inl q' | (simp only [Bool.and_false, Bool.false_and] at q'; exact .inl q')
    rw [hT] at q' ⊢
    walk_at "w"
    refine ⟨e, 1, 3, rfl, dd e (by simp), ?_⟩
    rcases Bool.eq_false_or_eq_true (rowB e 1 3) with hT | hT
    rotate_left
    · rw [hT] at q' ⊢
      walk_at "w"
      first | exact .inl q' | (simp only [Bool.and_false, Bool.false_and] at q'; exact .inl q')
    rw [hT] at q' ⊢
    walk_at "w"
    obtain ⟨vs, rfl, l1, l2⟩ := row_of hT
    have dv := dats_all.mp (show datsB vs = true from dd (.tup vs) (by simp))
    walk_at "w"
    refine ⟨by omega, ?_⟩
    rw [show vs = vs.map (fun w => w) by simp]
    refine lcW_m (fun w : W => w) (fun w => .bl (wantsB n w)) _ _ ?_ ?_
    · intro w hw P hP
      walk_at "w"
      exact ⟨w, n, rfl, dv w hw, hP⟩
    refine ⟨vs.map (wantsB n), all_map', ?_⟩
    rw [all_id]
    exact .inl q'
theorem from_nat {k : Nat} {lo hi : Int} (h1 : lo ≤ (k : Int)) (h2 : (k : Int) ≤ hi) : fromB (.int ((k : Nat) : Int)) lo hi = true := by
  show (decide (lo ≤ ((k : Nat) : Int)) && decide (((k : Nat) : Int) ≤ hi)) = true
  rw [decide_eq_true h1, decide_eq_true h2]; rfl
theorem row_true {us : List W} {lo hi : Int} (h1 : lo ≤ ((us.length : Nat) : Int)) (h2 : ((us.length : Nat) : Int) ≤ hi) : rowB (.tup us) lo hi = true := by
  show (decide (lo ≤ ((us.length : Nat) : Int)) && decide (((us.length : Nat) : Int) ≤ hi)) = true
  rw [decide_eq_true h1, decide_eq_true h2]; rfl
theorem pieces_true {n : Nat} {k : Wk} (h : WkOk n k) : piecesB (.tup (k.pieces.map fun v => pieceW v)) = true := by
  unfold piecesB
  have hp : ∀ v ∈ k.pieces, pieceB (pieceW v) = true := fun v hv => by
    obtain ⟨a, b, c⟩ := h.pieces v hv
    unfold pieceB
    rw [row_true (by show (2 : Int) ≤ 2; decide) (by show (2 : Int) ≤ 2; decide)]
    show (fromB (.int ((v.1 : Nat) : Int)) 1 20 && fromB (.int ((v.2 : Nat) : Int)) 0 99) = true
    rw [from_nat (by omega) (by omega), from_nat (by omega) (by omega)]; rfl
  have ho := h.ord
  have hf := h.few
  rw [row_true (by rw [List.length_map]; omega) (by rw [List.length_map]; omega)]
  rw [show itemsW (.tup (k.pieces.map fun v => pieceW v)) = k.pieces.map fun v => pieceW v from rfl]
  rw [show (k.pieces.map fun v => pieceW v).all pieceB = true from List.all_eq_true.mpr fun w hw => by
    obtain ⟨v, hv, rfl⟩ := List.mem_map.mp hw
    exact hp v hv]
  rcases (by omega : k.pieces.length = 1 ∨ k.pieces.length = 2) with hl | hl
  · match hk : k.pieces, hl with
    | [a], _ =>
      show decide (((a.2 : Nat) : Int) ≤ ((a.2 : Nat) : Int)) = true
      rw [decide_eq_true (by omega)]
  · match hk : k.pieces, hl with
    | [a, b], _ =>
      rw [hk] at ho
      have ho : a.2 ≤ b.2 := ho
      show decide (((a.2 : Nat) : Int) ≤ ((b.2 : Nat) : Int)) = true
      rw [decide_eq_true (by omega)]
theorem house_true {n : Nat} {ls : List Ln} {ks : List Wk} {s : Option Sto} {hs : List (List Wnt)} (h : House n ls ks s hs) (k3 : ks.length ≤ 3) (h3 : hs.length ≤ 3) : houseB (houseW n ls ks s hs) = true := by
  have n1 := h.net.n1
  have work : ∀ k ∈ ks, workB ((n : Nat) : Int) (workW k) = true := fun k hk => by
    have o := h.works k hk
    have := o.p
    have := o.least
    have := o.keep
    have := o.start
    have := o.e1
    have := o.e2
    unfold workB
    rw [row_true (by show (8 : Int) ≤ 8; decide) (by show (8 : Int) ≤ 8; decide)]
    show (fromB (.int ((k.p : Nat) : Int)) 0 (n - 1) && (fromB (.int ((k.least : Nat) : Int)) 0 20 && (fromB (.int ((k.keep : Nat) : Int)) 0 99 && (piecesB (.tup (k.pieces.map fun v => pieceW v)) && (fromB (.int ((k.start : Nat) : Int)) 0 99 && (fromB (.int ((k.e1 : Nat) : Int)) 1 2 && (fromB (.int ((k.e2 : Nat) : Int)) 1 2 && true))))))) = true
    rw [from_nat (by omega) (by omega), from_nat (by omega) (by omega), from_nat (by omega) (by omega), pieces_true o, from_nat (by omega) (by omega), from_nat (by omega) (by omega), from_nat (by omega) (by omega)]; rfl
  have store : storeB ((n : Nat) : Int) (storeW s) = true := by
    cases s with
    | none => rfl
    | some t =>
      have o := h.store t rfl
      have := o.p
      have := o.top
      have := o.lev
      have := o.taken
      have := o.given
      unfold storeB
      show (false || (rowB (stoW t) 5 5 && (fromB (.int ((t.p : Nat) : Int)) 0 (n - 1) && (fromB (.int ((t.top : Nat) : Int)) 1 2 && (fromB (.int ((t.lev : Nat) : Int)) 0 ((t.top : Nat) : Int) && (fromB (.int ((t.taken : Nat) : Int)) 1 20 && fromB (.int ((t.given : Nat) : Int)) 0 ((t.taken : Nat) : Int))))))) = true
      rw [row_true (by show (5 : Int) ≤ 5; decide) (by show (5 : Int) ≤ 5; decide), from_nat (by omega) (by omega), from_nat (by omega) (by omega), from_nat (by omega) (by omega), from_nat (by omega) (by omega), from_nat (by omega) (by omega)]; rfl
  have wants : ∀ vs ∈ hs, wantsB ((n : Nat) : Int) (wantsW vs) = true := fun vs hvs => by
    obtain ⟨a, b⟩ := h.wants vs hvs
    unfold wantsB
    rw [row_true (by omega) (by rw [List.length_map]; omega)]
    show (vs.map fun v => wantW v).all (wantB ((n : Nat) : Int)) = true
    refine List.all_eq_true.mpr fun w hw => ?_
    obtain ⟨v, hv, rfl⟩ := List.mem_map.mp hw
    obtain ⟨o1, o2, o3⟩ := b v hv
    unfold wantB
    rw [row_true (by show (3 : Int) ≤ 3; decide) (by show (3 : Int) ≤ 3; decide)]
    show (fromB (.int ((v.1 : Nat) : Int)) 0 (n - 1) && (fromB (.int ((v.2.1 : Nat) : Int)) 0 30 && fromB (.int ((v.2.2 : Nat) : Int)) 0 100)) = true
    rw [from_nat (by omega) (by omega), from_nat (by omega) (by omega), from_nat (by omega) (by omega)]; rfl
  unfold houseB
  rw [row_true (by show (4 : Int) ≤ 4; decide) (by show (4 : Int) ≤ 4; decide)]
  show (netB (netW n ls) && (rowB (.tup (ks.map fun k => workW k)) 0 3 && ((ks.map fun k => workW k).all (workB ((n : Nat) : Int)) && (storeB ((n : Nat) : Int) (storeW s) && (rowB (.tup (hs.map fun vs => wantsW vs)) 1 3 && (hs.map fun vs => wantsW vs).all (wantsB ((n : Nat) : Int))))))) = true
  have f := h.few
  rw [net_ok h.net, row_true (by omega) (by rw [List.length_map]; omega), store, row_true (by rw [List.length_map]; omega) (by rw [List.length_map]; omega)]
  rw [show (ks.map fun k => workW k).all (workB ((n : Nat) : Int)) = true from List.all_eq_true.mpr fun w hw => by
    obtain ⟨k, hk, rfl⟩ := List.mem_map.mp hw
    exact work k hk]
  rw [show (hs.map fun vs => wantsW vs).all (wantsB ((n : Nat) : Int)) = true from List.all_eq_true.mpr fun w hw => by
    obtain ⟨vs, hvs, rfl⟩ := List.mem_map.mp hw
    exact wants vs hvs]
  rfl
local macro_rules | `(tactic| walk_at "t") => `(tactic| (walk_at "w"; try simp only [a_wTx, isTx_str]; walk_at "w"; try simp only [a_wTx, isTx_str]; walk_at "w"))
/-! ### texts of houses (plain) -/
open SX in
def nC (n : Nat) : List Nat := (Str.ofString (toString ((n : Nat) : Int))).cps.toList
theorem nC_S (n : Nat) : Str.ofString (toString ((n : Nat) : Int)) = SX.S (nC n) := (SX.S_tl _).symm
def numOk (n : Nat) : Bool := decide (1 ≤ (nC n).length) && (decide ((nC n).length ≤ 3) && ((nC n).all (fun c => decide (48 ≤ c) && decide (c ≤ 57)) && (!((nC n).headD 0 == 48 && decide (1 < (nC n).length)) && decide (PySem.intText? (SX.S (nC n)) = some ((n : Nat) : Int)))))
theorem num_all : (List.range 101).all numOk = true := by decide +kernel
theorem num_ok {n : Nat} (h : n ≤ 100) : numOk n = true := List.all_eq_true.mp num_all n (List.mem_range.mpr (by omega))
structure NumOk (n : Nat) : Prop where
  l1 : 1 ≤ (nC n).length
  l3 : (nC n).length ≤ 3
  dig : ∀ c ∈ nC n, 48 ≤ c ∧ c ≤ 57
  lead : ¬ ((nC n).headD 0 = 48 ∧ 1 < (nC n).length)
  int : PySem.intText? (SX.S (nC n)) = some ((n : Nat) : Int)
theorem nums {n : Nat} (h : n ≤ 100) : NumOk n := by
  have := num_ok h
  unfold numOk at this
  simp only [Bool.and_eq_true, decide_eq_true_eq, Bool.not_eq_true', List.all_eq_true] at this
  obtain ⟨a, b, c, d, e⟩ := this
  refine ⟨a, b, c, fun ⟨z1, z2⟩ => ?_, e⟩
  rw [z1] at d
  simp [z2] at d
theorem e_sp : (" " : Str) = SX.S [32] := by decide +kernel
theorem e_nl : ("\n" : Str) = SX.S [10] := by decide +kernel
theorem e_co : (":" : Str) = SX.S [58] := by decide +kernel
def J (c : Nat) (ps : List (List Nat)) : List Nat := TL.joinL [c] ps
theorem join_J (c : Nat) (ps : List (List Nat)) : Txt.join (SX.S [c]) (ps.map SX.S) = SX.S (J c ps) := SX.join_S [c] ps
theorem split_J {c : Nat} {ps : List (List Nat)} (hc : c < 256) (ne : ps ≠ []) (h : ∀ p ∈ ps, c ∉ p) : Txt.split (SX.S (J c ps)) (SX.S [c]) = ps.map SX.S := by
  rw [SX.split_S (by simp) (by simp [hc]), show TL.spl [c] 0 [] (J c ps) = ps from SX.spl_join ne h]
theorem J_mem {c x : Nat} : ∀ {ps : List (List Nat)}, x ∈ J c ps → x = c ∨ ∃ p ∈ ps, x ∈ p
  | [], h => by cases h
  | [p], h => .inr ⟨p, .head _, h⟩
  | p :: q :: r, h => by
    have h : x ∈ p ++ ([c] ++ J c (q :: r)) := h
    rcases List.mem_append.mp h with h | h
    · exact .inr ⟨p, .head _, h⟩
    · rcases List.mem_append.mp h with h | h
      · exact .inl (List.mem_singleton.mp h)
      · rcases J_mem h with h | ⟨y, hy, hx⟩
        · exact .inl h
        · exact .inr ⟨y, .tail _ hy, hx⟩
theorem J_len {c b : Nat} : ∀ {ps : List (List Nat)}, (∀ p ∈ ps, p.length ≤ b) → (J c ps).length ≤ ps.length * (b + 1)
  | [], _ => by simp [J, TL.joinL]
  | [p], h => by
    have := h p (.head _)
    show p.length ≤ 1 * (b + 1)
    omega
  | p :: q :: r, h => by
    have a := h p (.head _)
    have := J_len (c := c) (ps := q :: r) fun x hx => h x (.tail _ hx)
    show (p ++ ([c] ++ J c (q :: r))).length ≤ _
    rw [List.length_append, List.length_append, List.length_singleton, List.length_cons (a := p), Nat.succ_mul]
    omega
theorem J_cons {c : Nat} {p : List Nat} {ps : List (List Nat)} (ne : ps ≠ []) : J c (p :: ps) = p ++ ([c] ++ J c ps) := by
  cases ps with
  | nil => exact absurd rfl ne
  | cons q r => rfl
theorem J_app {c : Nat} : ∀ {ps qs : List (List Nat)}, ps ≠ [] → J c (J c ps :: qs) = J c (ps ++ qs)
  | [], _, h => absurd rfl h
  | [p], qs, _ => rfl
  | p :: q :: r, qs, _ => by
    have ih := J_app (c := c) (ps := q :: r) (qs := qs) (by simp)
    cases qs with
    | nil => rw [List.append_nil]; rfl
    | cons x xs =>
      have e1 := J_cons (c := c) (p := J c (p :: q :: r)) (ps := x :: xs) (by simp)
      have e2 : J c (p :: q :: r ++ x :: xs) = p ++ ([c] ++ J c (q :: r ++ x :: xs)) := J_cons (by simp)
      rw [J_cons (by simp)] at ih
      rw [e1, e2, ← ih]
      show (p ++ ([c] ++ J c (q :: r))) ++ ([c] ++ J c (x :: xs)) = _
      rw [List.append_assoc, List.append_assoc]
theorem sumlen {b : Nat} : ∀ {ps : List (List Nat)}, (∀ p ∈ ps, p.length ≤ b) → (((ps.map SX.S).map (·.length)).sum) ≤ ps.length * b
  | [], _ => by simp
  | p :: ps, h => by
    have := sumlen fun q hq => h q (.tail _ hq)
    have := h p (.head _)
    rw [List.map_cons, List.map_cons, List.sum_cons, SX.S_len, List.length_cons, Nat.succ_mul]
    omega
/-- a word, a number -/
abbrev tW (c : List Nat) : W := .str (SX.S c)
theorem joinT {c b : Nat} {ps : List (List Nat)} {y : W} {G : Gp} {Q : QW} (hy : seqs G y = some (ps.map tW)) (hb : ∀ p ∈ ps, p.length ≤ b) (hs : ps.length * (b + 1) ≤ 16777216) (q : Q (tW (J c ps)) G) : wJoinT (.str (SX.S [c])) y G Q := by
  rw [wJoinT_eq, hy]
  refine ⟨ps.map SX.S, by rw [List.map_map]; rfl, ?_, by rw [join_J]; exact q⟩
  have := sumlen hb
  rw [List.length_map, show (SX.S [c]).length = 1 from rfl]
  rw [Nat.mul_succ] at hs
  omega
abbrev nW (n : Nat) : W := .int ((n : Nat) : Int)
def sp_shown_row : Spw := fun ws G Q E => ∃ (f : List Nat) (ns : List Nat), ws = [tW f, .tup (ns.map nW)] ∧ (f.length ≤ 10) ∧ (ns.length ≤ 10) ∧ (∀ n ∈ ns, n ≤ 100) ∧ Q (tW (J 32 (f :: ns.map nC))) G
theorem len_shown_row (ws G Q E) (h : sp_shown_row ws G Q E) : ws.length = 2 := by obtain ⟨_, _, rfl, _⟩ := h; rfl
/-- slots: first 0, numbers 1, number 2 -/
def t_shown_row : TSw := (wRet (wTx wJoinT (wC (.str " ")) (wOp wAdd (wLst (wCons (wVar 0) wNil)) (wLc [2] (iSeqW (wVar 1)) (gN 2) wYes (wCB wStrI (wCons (wVar 2) wNil))))))
theorem rd_shown_row (ws : List W) (G : Gp) (Q : QW) (E) (h : sp_shown_row ws G Q E) : t_shown_row { nx := fun _ G' => Q .non G', rt := Cl Q } (startW ["first", "numbers", "number"] ws) G := by
  obtain ⟨f, ns, rfl, hf, hn, h100, q⟩ := h
  show t_shown_row _ [some (tW f), some (.tup (ns.map nW)), none] G
  unfold t_shown_row
  walk_at "w"
  have big : 1000 < sizeLine := by decide
  rw [a_wTx]
  walk_at "w"
  rw [isTx_str]
  walk_at "w"
  refine ⟨by decide, by omega, ?_⟩
  refine lcW_m nW (fun n => tW (nC n)) _ _ ?_ ?_
  · intro n hn P hP
    walk_at "w"
    have := h100 n hn
    rw [nC_S]
    exact ⟨log2_small (by omega), hP⟩
  walk_at "w"
  rw [e_sp]
  refine ⟨by omega, ?_⟩
  refine joinT (b := 10) (ps := f :: ns.map nC) (by rw [List.map_cons, List.map_map]; rfl) (fun p hp => ?_) ?_ (.inl q)
  · rcases List.mem_cons.mp hp with rfl | hp
    · exact hf
    · obtain ⟨n, hn, rfl⟩ := List.mem_map.mp hp
      have := (nums (h100 n hn)).l3
      omega
  · rw [List.length_cons, List.length_map]; omega
def sp_colons : Spw := fun ws G Q E => ∃ (ns : List Nat), ws = [.tup (ns.map nW)] ∧ (ns.length ≤ 10) ∧ (∀ n ∈ ns, n ≤ 100) ∧ Q (tW (J 58 (ns.map nC))) G
theorem len_colons (ws G Q E) (h : sp_colons ws G Q E) : ws.length = 1 := by obtain ⟨_, rfl, _⟩ := h; rfl
/-- slots: numbers 0, number 1 -/
def t_colons : TSw := (wRet (wTx wJoinT (wC (.str ":")) (wLc [1] (iSeqW (wVar 0)) (gN 1) wYes (wCB wStrI (wCons (wVar 1) wNil)))))
theorem rd_colons (ws : List W) (G : Gp) (Q : QW) (E) (h : sp_colons ws G Q E) : t_colons { nx := fun _ G' => Q .non G', rt := Cl Q } (startW ["numbers", "number"] ws) G := by
  obtain ⟨ns, rfl, hn, h100, q⟩ := h
  show t_colons _ [some (.tup (ns.map nW)), none] G
  unfold t_colons
  walk_at "w"
  have big : 1000 < sizeLine := by decide
  rw [a_wTx]
  walk_at "w"
  rw [isTx_str]
  walk_at "w"
  refine ⟨by omega, ?_⟩
  refine lcW_m nW (fun n => tW (nC n)) _ _ ?_ ?_
  · intro n hn P hP
    walk_at "w"
    have := h100 n hn
    rw [nC_S]
    exact ⟨log2_small (by omega), hP⟩
  rw [e_co]
  refine joinT (b := 10) (ps := ns.map nC) (by rw [List.map_map]; rfl) (fun p hp => ?_) ?_ (.inl q)
  · obtain ⟨n, hn, rfl⟩ := List.mem_map.mp hp
    have := (nums (h100 n hn)).l3
    omega
  · rw [List.length_map]; omega
/-! ### a house's rows, by their words -/
def cNet : List Nat := [110, 101, 116]
def cLine : List Nat := [108, 105, 110, 101]
def cWork : List Nat := [119, 111, 114, 107]
def cStore : List Nat := [115, 116, 111, 114, 101]
def cHour : List Nat := [104, 111, 117, 114]
def cOn : List Nat := [111, 110]
def cOff : List Nat := [111, 102, 102]
theorem e_net : ("net" : Str) = SX.S cNet := by decide +kernel
theorem e_line : ("line" : Str) = SX.S cLine := by decide +kernel
theorem e_work : ("work" : Str) = SX.S cWork := by decide +kernel
theorem e_store : ("store" : Str) = SX.S cStore := by decide +kernel
theorem e_hour : ("hour" : Str) = SX.S cHour := by decide +kernel
theorem e_on : ("on" : Str) = SX.S cOn := by decide +kernel
theorem e_off : ("off" : Str) = SX.S cOff := by decide +kernel
def netWs (n : Nat) : List (List Nat) := [cNet, nC n]
def lineNs (l : Ln) : List Nat := [l.a, l.b, l.s, l.m]
def lineWs (l : Ln) : List (List Nat) := cLine :: (lineNs l).map nC
def workNs (k : Wk) : List Nat := [k.p, k.least, k.keep, k.start, k.e1, k.e2]
def pieceC (v : Nat × Nat) : List Nat := J 58 ([v.1, v.2].map nC)
def workWs (k : Wk) : List (List Nat) := cWork :: (workNs k).map nC ++ (if k.on then cOn else cOff) :: k.pieces.map pieceC
def storeNs (t : Sto) : List Nat := [t.p, t.top, t.lev, t.taken, t.given]
def storeWs (t : Sto) : List (List Nat) := cStore :: (storeNs t).map nC
def wantC (v : Wnt) : List Nat := J 58 ([v.1, v.2.1, v.2.2].map nC)
def hourWs (vs : List Wnt) : List (List Nat) := cHour :: vs.map wantC
def stoWs : Option Sto → List (List (List Nat))
  | none => []
  | some t => [storeWs t]
def rowsWs (n : Nat) (ls : List Ln) (ks : List Wk) (s : Option Sto) (hs : List (List Wnt)) : List (List (List Nat)) := netWs n :: (ls.map lineWs ++ (ks.map workWs ++ (stoWs s ++ hs.map hourWs)))
def textC (n : Nat) (ls : List Ln) (ks : List Wk) (s : Option Sto) (hs : List (List Wnt)) : List Nat := J 10 ((rowsWs n ls ks s hs).map (J 32))
theorem pieceC_len {v : Nat × Nat} (h1 : v.1 ≤ 100) (h2 : v.2 ≤ 100) : (pieceC v).length ≤ 10 := by
  have a := (nums h1).l3
  have b := (nums h2).l3
  show (nC v.1 ++ ([58] ++ nC v.2)).length ≤ 10
  rw [List.length_append, List.length_append, List.length_singleton]; omega
theorem wantC_len {v : Wnt} (h1 : v.1 ≤ 100) (h2 : v.2.1 ≤ 100) (h3 : v.2.2 ≤ 100) : (wantC v).length ≤ 12 := by
  have a := (nums h1).l3
  have b := (nums h2).l3
  have c := (nums h3).l3
  show (nC v.1 ++ ([58] ++ (nC v.2.1 ++ ([58] ++ nC v.2.2)))).length ≤ 12
  simp only [List.length_append, List.length_singleton]; omega
def sp_shown_work : Spw := fun ws G Q E => ∃ (k : Wk) (n : Nat), ws = [workW k] ∧ (WkOk n k) ∧ (n ≤ 4) ∧ Q (tW (J 32 (workWs k))) G
theorem len_shown_work (ws G Q E) (h : sp_shown_work ws G Q E) : ws.length = 1 := by obtain ⟨_, _, rfl, _⟩ := h; rfl
/-- slots: work 0, place 1, least 2, keep 3, pieces 4, start 5, stay 6, rest 7, was 8, ahead 9, piece 10 -/
def t_shown_work : TSw := (wSeq (wAsg (wVar 0) (gT 8 (gsC (gN 1) (gsC (gN 2) (gsC (gN 3) (gsC (gN 4) (gsC (gN 5) (gsC (gN 6) (gsC (gN 7) (gsC (gN 8) gsN))))))))))
    (wSeq (wAsg (wCall sp_shown_row (wCons (wC (.str "work")) (wCons (wTup (wCons (wVar 1) (wCons (wVar 2) (wCons (wVar 3) (wCons (wVar 5) (wCons (wVar 6) (wCons (wVar 7) wNil))))))) wNil))) (gN 9))
    (wRet (wTx wJoinT (wC (.str " ")) (wOp wAdd (wLst (wCons (wVar 9) (wCons (wIf (wTest (wVar 8)) (wC (.str "on")) (wC (.str "off"))) wNil))) (wLc [10] (iSeqW (wVar 4)) (gN 10) wYes (wCall sp_colons (wCons (wVar 10) wNil))))))))
theorem rd_shown_work (ws : List W) (G : Gp) (Q : QW) (E) (h : sp_shown_work ws G Q E) : t_shown_work { nx := fun _ G' => Q .non G', rt := Cl Q } (startW ["work", "place", "least", "keep", "pieces", "start", "stay", "rest", "was", "ahead", "piece"] ws) G := by
  obtain ⟨k, n, rfl, ok, n4, q⟩ := h
  show t_shown_work _ [some (workW k), none, none, none, none, none, none, none, none, none, none] G
  unfold t_shown_work
  walk_at "w"
  have big : 1000 < sizeLine := by decide
  have o1 := ok.p
  have o2 := ok.least
  have o3 := ok.keep
  have o4 := ok.start
  have o5 := ok.e1
  have o6 := ok.e2
  have few := ok.few
  have hN : ∀ n ∈ workNs k, n ≤ 100 := fun x hx => by
    simp only [workNs, List.mem_cons, List.not_mem_nil, or_false] at hx
    omega
  refine ⟨by decide, cWork, workNs k, by rw [e_work]; rfl, by decide, by show 6 ≤ 10; decide, hN, ?_⟩
  walk_at "t"
  have pcs : ∀ v ∈ k.pieces, v.1 ≤ 100 ∧ v.2 ≤ 100 := fun v hv => by
    have := ok.pieces v hv
    omega
  have ahead : (J 32 (cWork :: (workNs k).map nC)).length ≤ 40 := by
    have : (J 32 (cWork :: (workNs k).map nC)).length ≤ 7 * (4 + 1) := J_len (b := 4) fun p hp => by
      rcases List.mem_cons.mp hp with rfl | hp
      · decide
      · obtain ⟨n, hn, rfl⟩ := List.mem_map.mp hp
        have := (nums (hN n hn)).l3
        omega
    omega
  have fin : ∀ (G2 : Gp) (o : List Nat), o = (if k.on then cOn else cOff) → wJoinT (.str (SX.S [32])) (.lst (tW (J 32 (cWork :: (workNs k).map nC)) :: tW o :: (k.pieces.map fun v => tW (pieceC v)))) G (Cl Q) := fun G2 o eo => by
    have ej : J 32 (J 32 (cWork :: (workNs k).map nC) :: (o :: k.pieces.map pieceC)) = J 32 (workWs k) := by rw [eo]; exact J_app (by simp)
    refine joinT (b := 40) (ps := J 32 (cWork :: (workNs k).map nC) :: (o :: k.pieces.map pieceC)) (by rw [List.map_cons, List.map_cons, List.map_map]; rfl) (fun p hp => ?_) ?_ (.inl (by rw [ej]; exact q))
    · rcases List.mem_cons.mp hp with rfl | hp
      · exact ahead
      · rcases List.mem_cons.mp hp with rfl | hp
        · rw [eo]; split <;> decide
        · obtain ⟨v, hv, rfl⟩ := List.mem_map.mp hp
          have := pieceC_len (pcs v hv).1 (pcs v hv).2
          omega
    · rw [List.length_cons, List.length_cons, List.length_map]; omega
  have piece : ∀ v ∈ k.pieces, ∀ P : QW, P (tW (pieceC v)) G → sp_colons [pieceW v] G P E0w := fun v hv P hP =>
    ⟨[v.1, v.2], rfl, by simp, fun n hn => by
      have := pcs v hv
      simp only [List.mem_cons, List.not_mem_nil, or_false] at hn
      omega, hP⟩
  cases hon : k.on
  · rw [if_neg (by decide)]
    refine ⟨by decide, by omega, ?_⟩
    refine lcW_m (fun v => pieceW v) (fun v => tW (pieceC v)) _ _ ?_ ?_
    · intro v hv P hP
      walk_at "w"
      exact piece v hv P hP
    rw [e_sp, e_off]
    exact ⟨by rw [List.length_map]; omega, fin G cOff (by rw [hon]; rfl)⟩
  · rw [if_pos rfl]
    refine ⟨by decide, by omega, ?_⟩
    refine lcW_m (fun v => pieceW v) (fun v => tW (pieceC v)) _ _ ?_ ?_
    · intro v hv P hP
      walk_at "w"
      exact piece v hv P hP
    rw [e_sp, e_on]
    exact ⟨by rw [List.length_map]; omega, fin G cOn (by rw [hon]; rfl)⟩
theorem line_ns {n : Nat} {l : Ln} (h : LnOk n l) (n4 : n ≤ 4) : ∀ x ∈ lineNs l, x ≤ 100 := fun x hx => by
  have h1 := h.a
  have h2 := h.b
  have h3 := h.s.2
  have h4 := h.m
  simp only [lineNs, List.mem_cons, List.not_mem_nil, or_false] at hx
  omega
theorem store_ns {n : Nat} {t : Sto} (h : StoOk n t) (n4 : n ≤ 4) : ∀ x ∈ storeNs t, x ≤ 100 := fun x hx => by
  have h1 := h.p
  have h2 := h.top
  have h3 := h.lev
  have h4 := h.taken
  have h5 := h.given
  simp only [storeNs, List.mem_cons, List.not_mem_nil, or_false] at hx
  omega
theorem work_ns {n : Nat} {k : Wk} (h : WkOk n k) (n4 : n ≤ 4) : ∀ x ∈ workNs k, x ≤ 100 := fun x hx => by
  have o1 := h.p
  have o2 := h.least
  have o3 := h.keep
  have o4 := h.start
  have o5 := h.e1
  have o6 := h.e2
  simp only [workNs, List.mem_cons, List.not_mem_nil, or_false] at hx
  omega
theorem want_len {n : Nat} {v : Wnt} (h : WntOk n v) (n4 : n ≤ 4) : (wantC v).length ≤ 12 := by
  obtain ⟨a, b, c⟩ := h
  exact wantC_len (by omega) (by omega) (by omega)
theorem piece_len {n : Nat} {k : Wk} (h : WkOk n k) {v : Nat × Nat} (hv : v ∈ k.pieces) : (pieceC v).length ≤ 10 := by
  have := h.pieces v hv
  exact pieceC_len (by omega) (by omega)
/-- the words of a row are short -/
theorem row_words {n : Nat} {ls : List Ln} {ks : List Wk} {s : Option Sto} {hs : List (List Wnt)} (h : House n ls ks s hs) : ∀ r ∈ rowsWs n ls ks s hs, r ≠ [] ∧ r.length ≤ 10 ∧ ∀ w ∈ r, w.length ≤ 12 := by
  have n4 := h.net.n4
  have num : ∀ x, x ≤ 100 → (nC x).length ≤ 12 := fun x hx => by have := (nums hx).l3; omega
  intro r hr
  rcases List.mem_cons.mp hr with rfl | hr
  · refine ⟨by simp [netWs], by simp [netWs], fun w hw => ?_⟩
    simp only [netWs, List.mem_cons, List.not_mem_nil, or_false] at hw
    rcases hw with rfl | rfl
    · decide
    · exact num n (by omega)
  rcases List.mem_append.mp hr with hr | hr
  · obtain ⟨l, hl, rfl⟩ := List.mem_map.mp hr
    refine ⟨by simp [lineWs], by simp [lineWs, lineNs], fun w hw => ?_⟩
    rcases List.mem_cons.mp hw with rfl | hw
    · decide
    · obtain ⟨x, hx, rfl⟩ := List.mem_map.mp hw
      exact num x (line_ns (h.net.ok l hl) n4 x hx)
  rcases List.mem_append.mp hr with hr | hr
  · obtain ⟨k, hk, rfl⟩ := List.mem_map.mp hr
    have ok := h.works k hk
    have few := ok.few
    refine ⟨by simp [workWs], by simp [workWs, workNs]; omega, fun w hw => ?_⟩
    rcases List.mem_append.mp hw with hw | hw
    · rcases List.mem_cons.mp hw with rfl | hw
      · decide
      · obtain ⟨x, hx, rfl⟩ := List.mem_map.mp hw
        exact num x (work_ns ok n4 x hx)
    · rcases List.mem_cons.mp hw with rfl | hw
      · split <;> decide
      · obtain ⟨v, hv, rfl⟩ := List.mem_map.mp hw
        have := piece_len ok hv
        omega
  rcases List.mem_append.mp hr with hr | hr
  · cases s with
    | none => cases hr
    | some t =>
      rw [List.mem_singleton.mp hr]
      refine ⟨by simp [storeWs], by simp [storeWs, storeNs], fun w hw => ?_⟩
      rcases List.mem_cons.mp hw with rfl | hw
      · decide
      · obtain ⟨x, hx, rfl⟩ := List.mem_map.mp hw
        exact num x (store_ns (h.store t rfl) n4 x hx)
  · obtain ⟨vs, hvs, rfl⟩ := List.mem_map.mp hr
    obtain ⟨a, b⟩ := h.wants vs hvs
    refine ⟨by simp [hourWs], by simp [hourWs]; omega, fun w hw => ?_⟩
    rcases List.mem_cons.mp hw with rfl | hw
    · decide
    · obtain ⟨v, hv, rfl⟩ := List.mem_map.mp hw
      exact want_len (b v hv) n4
theorem rows_few {n : Nat} {ls : List Ln} {ks : List Wk} {s : Option Sto} {hs : List (List Wnt)} (h : House n ls ks s hs) : (rowsWs n ls ks s hs).length ≤ 14 := by
  have := h.net.few
  have := h.few
  have e : (stoWs s).length ≤ 1 := by cases s <;> simp [stoWs]
  simp only [rowsWs, List.length_cons, List.length_append, List.length_map]
  omega
theorem row_len {n : Nat} {ls : List Ln} {ks : List Wk} {s : Option Sto} {hs : List (List Wnt)} (h : House n ls ks s hs) : ∀ r ∈ (rowsWs n ls ks s hs).map (J 32), r.length ≤ 130 := fun r hr => by
  obtain ⟨w, hw, rfl⟩ := List.mem_map.mp hr
  obtain ⟨_, a, b⟩ := row_words h w hw
  have := J_len (c := 32) b
  have := Nat.mul_le_mul_right 13 a
  omega
def sp_house_rows : Spw := fun ws G Q E => ∃ (n : Nat) (ls : List Ln) (ks : List Wk) (s : Option Sto) (hs : List (List Wnt)), ws = [houseW n ls ks s hs] ∧ (House n ls ks s hs) ∧ Q (.lst ((rowsWs n ls ks s hs).map fun r => tW (J 32 r))) G
theorem len_house_rows (ws G Q E) (h : sp_house_rows ws G Q E) : ws.length = 1 := by obtain ⟨_, _, _, _, _, rfl, _⟩ := h; rfl
/-- slots: house 0, net 1, works 2, store 3, hours 4, found 5, line 6, work 7, wants 8, want 9 -/
def t_house_rows_r1 : TSw := (wFz 5 (wRet (wOp wAdd (wVar 5) (wLc [8] (iSeqW (wVar 4)) (gN 8) wYes (wTx wJoinT (wC (.str " ")) (wOp wAdd (wLst (wCons (wC (.str "hour")) wNil)) (wLc [9] (iSeqW (wVar 8)) (gN 9) wYes (wCall sp_colons (wCons (wVar 9) wNil)))))))))
def t_house_rows : TSw := (wSeq (wAsg (wVar 0) (gT 4 (gsC (gN 1) (gsC (gN 2) (gsC (gN 3) (gsC (gN 4) gsN))))))
    (wSeq (wAsg (wOp wAddM (wLst (wCons (wCall sp_shown_row (wCons (wC (.str "net")) (wCons (wTup (wCons (wOp wIx (wVar 1) (wC (.int 0))) wNil)) wNil))) wNil)) (wLc [6] (iSeqW (wOp wIx (wVar 1) (wC (.int 1)))) (gN 6) wYes (wCall sp_shown_row (wCons (wC (.str "line")) (wCons (wVar 6) wNil))))) (gN 5))
    (wSeq (wDrop (wBM wM_extend (wVar 5) (wCons (wLc [7] (iSeqW (wVar 2)) (gN 7) wYes (wCall sp_shown_work (wCons (wVar 7) wNil))) wNil)))
    (wSeq (wIfS (wTest (wNotN (wVar 3))) (wDrop (wBM wM_append (wVar 5) (wCons (wCall sp_shown_row (wCons (wC (.str "store")) (wCons (wVar 3) wNil))) wNil))) wNext)
    t_house_rows_r1))))
theorem rd_house_rows (ws : List W) (G : Gp) (Q : QW) (E) (h : sp_house_rows ws G Q E) : t_house_rows { nx := fun _ G' => Q .non G', rt := Cl Q } (startW ["house", "net", "works", "store", "hours", "found", "line", "work", "wants", "want"] ws) G := by
  obtain ⟨n, ls, ks, s, hs, rfl, hh, q⟩ := h
  show t_house_rows _ [some (houseW n ls ks s hs), none, none, none, none, none, none, none, none, none] G
  unfold t_house_rows
  walk_at "w"
  have big : 1000 < sizeLine := by decide
  have n4 := hh.net.n4
  have few := hh.net.few
  have fw := hh.few
  walk_at "t"
  refine ⟨by decide, cNet, [n], by rw [e_net]; rfl, by decide, by simp, fun x hx => by rw [List.mem_singleton.mp hx]; omega, ?_⟩
  walk_at "t"
  refine ⟨by decide, by omega, ?_⟩
  refine lcW_m (fun l => lineW l) (fun l => tW (J 32 (lineWs l))) _ _ ?_ ?_
  · intro l hl P hP
    walk_at "w"
    exact ⟨cLine, lineNs l, by rw [e_line]; rfl, by decide, by simp [lineNs], line_ns (hh.net.ok l hl) n4, hP⟩
  refine ⟨by rw [List.length_map]; omega, fun p hp => ⟨by omega, ?_⟩⟩
  have r1 : t_house_rows_r1 { nx := fun x G' => Q W.non G', rt := Cl Q } [some (houseW n ls ks s hs), some (netW n ls), some (W.tup (List.map (fun k => workW k) ks)), some (storeW s), some (W.tup (List.map (fun vs => wantsW vs) hs)), some (W.ref p), none, none, none, none]
      (gup G p (.lst (tW (J 32 (netWs n)) :: (ls.map fun l => tW (J 32 (lineWs l))) ++ (ks.map fun k => tW (J 32 (workWs k))) ++ (stoWs s).map fun r => tW (J 32 r)))) := by
    unfold t_house_rows_r1
    walk_at "t"
    rw [gdel_gup hp]
    refine ⟨by omega, ?_⟩
    refine lcW_m (fun vs => wantsW vs) (fun vs => tW (J 32 (hourWs vs))) _ _ ?_ ?_
    · intro vs hvs P hP
      obtain ⟨a, b⟩ := hh.wants vs hvs
      walk_at "t"
      refine ⟨by decide, by omega, ?_⟩
      refine lcW_m (fun v => wantW v) (fun v => tW (wantC v)) _ _ ?_ ?_
      · intro v hv P hP
        obtain ⟨o1, o2, o3⟩ := b v hv
        walk_at "w"
        exact ⟨[v.1, v.2.1, v.2.2], rfl, by simp, fun x hx => by
          simp only [List.mem_cons, List.not_mem_nil, or_false] at hx
          omega, hP⟩
      walk_at "t"
      refine ⟨by omega, ?_⟩
      rw [e_sp, e_hour]
      refine joinT (b := 12) (ps := hourWs vs) (by unfold hourWs; rw [List.map_cons, List.map_map]; rfl) (fun w hw => ?_) (by unfold hourWs; rw [List.length_cons, List.length_map]; omega) hP
      rcases List.mem_cons.mp hw with rfl | hw
      · decide
      · obtain ⟨v, hv, rfl⟩ := List.mem_map.mp hw
        exact want_len (b v hv) n4
    have el : (stoWs s).length ≤ 1 := by cases s <;> simp [stoWs]
    refine ⟨by simp only [List.length_append, List.length_cons, List.length_map]; omega, .inl ?_⟩
    have e : tW (J 32 (netWs n)) :: (ls.map fun l => tW (J 32 (lineWs l))) ++ (ks.map fun k => tW (J 32 (workWs k))) ++ (stoWs s).map (fun r => tW (J 32 r)) ++ hs.map (fun vs => tW (J 32 (hourWs vs))) = (rowsWs n ls ks s hs).map fun r => tW (J 32 r) := by
      unfold rowsWs
      simp only [List.map_cons, List.map_append, List.map_map, List.cons_append, List.append_assoc, Function.comp_def]
    exact Eq.mp (congrArg (fun z => Q (W.lst z) G) e.symm) q
  refine lcW_m (fun k => workW k) (fun k => tW (J 32 (workWs k))) _ _ ?_ ?_
  · intro k hk P hP
    walk_at "w"
    exact ⟨k, n, rfl, hh.works k hk, n4, hP⟩
  walk_at "t"
  refine ⟨by (try simp only [List.length_cons, List.length_map]); omega, ?_⟩
  cases s with
  | none =>
    refine Eq.mpr (if_neg (by decide)) ?_
    rw [show (stoWs none).map (fun r => tW (J 32 r)) = [] from rfl, List.append_nil] at r1
    exact r1
  | some t =>
    refine Eq.mpr (if_pos rfl) ?_
    refine ⟨cStore, storeNs t, by rw [e_store]; rfl, by decide, by simp [storeNs], store_ns (hh.store t rfl) n4, ?_⟩
    walk_at "t"
    refine ⟨by (try simp only [List.length_append, List.length_cons, List.length_map]); omega, ?_⟩
    have e2 : tW (J 32 (netWs n)) :: (ls.map fun l => tW (J 32 (lineWs l))) ++ (ks.map fun k => tW (J 32 (workWs k))) ++ (stoWs (some t)).map (fun r => tW (J 32 r)) = tW (J 32 [cNet, nC n]) :: ((ls.map fun l => tW (J 32 (lineWs l))) ++ (ks.map fun k => tW (J 32 (workWs k))) ++ [tW (J 32 (cStore :: (storeNs t).map nC))]) := rfl
    rw [e2] at r1
    exact r1
def sp_show_house : Spw := fun ws G Q E => ∃ (n : Nat) (ls : List Ln) (ks : List Wk) (s : Option Sto) (hs : List (List Wnt)), ws = [houseW n ls ks s hs] ∧ (House n ls ks s hs) ∧ Q (tW (textC n ls ks s hs)) G
theorem len_show_house (ws G Q E) (h : sp_show_house ws G Q E) : ws.length = 1 := by obtain ⟨_, _, _, _, _, rfl, _⟩ := h; rfl
/-- slots: house 0 -/
def t_show_house : TSw := (wRet (wTx wJoinT (wC (.str "\n")) (wCall sp_house_rows (wCons (wVar 0) wNil))))
theorem rd_show_house (ws : List W) (G : Gp) (Q : QW) (E) (h : sp_show_house ws G Q E) : t_show_house { nx := fun _ G' => Q .non G', rt := Cl Q } (startW ["house"] ws) G := by
  obtain ⟨n, ls, ks, s, hs, rfl, hh, q⟩ := h
  show t_show_house _ [some (houseW n ls ks s hs)] G
  unfold t_show_house
  walk_at "w"
  walk_at "t"
  refine ⟨n, ls, ks, s, hs, rfl, hh, ?_⟩
  have rf := rows_few hh
  rw [e_nl]
  refine joinT (b := 130) (ps := (rowsWs n ls ks s hs).map (J 32)) (by rw [List.map_map]; rfl) (row_len hh) (by rw [List.length_map]; omega) (.inl q)
/-! ### a house's text, read -/
theorem S_len (p : List Nat) : (SX.S p).length = p.length := by show (SX.S p).cps.size = _; simp [SX.S]
theorem S_cps (p : List Nat) : (SX.S p).cps.toList = p := by simp [SX.S]
theorem e_fig : ("0123456789" : Str) = SX.S [48, 49, 50, 51, 52, 53, 54, 55, 56, 57] := by decide +kernel
theorem e_0 : ("0" : Str) = SX.S [48] := by decide +kernel
theorem S_inj {p q : List Nat} (h : SX.S p = SX.S q) : p = q := by rw [← S_cps p, h, S_cps]
theorem all_tr {α : Type} (xs : List α) : ((xs.map fun _ => true).all id) = true := by
  induction xs with
  | nil => rfl
  | cons x xs ih => simp
def sp_number_of : Spw := fun ws G Q E => ∃ (n : Nat), ws = [tW (nC n)] ∧ (n ≤ 100) ∧ Q (nW n) G
theorem len_number_of (ws G Q E) (h : sp_number_of ws G Q E) : ws.length = 1 := by obtain ⟨_, rfl, _⟩ := h; rfl
/-- slots: word 0, sign 1 -/
def t_number_of : TSw := (wSeq (wIfS (wOr (wNot (wTest (wChain wLe wLe (wC (.int 1)) (wCB wLen (wCons (wVar 0) wNil)) (wC (.int 40))))) (wNot (wTest (wCB wAll (wCons (wLc [1] (iStrW (wVar 0)) (gN 1) wYes (wOp wInSg (wVar 1) (wC (.str "0123456789")))) wNil))))) (wRet (wC .non)) wNext)
    (wSeq (wIfS (wAnd (wTest (wOp wEq (wOp wIx (wVar 0) (wC (.int 0))) (wC (.str "0")))) (wTest (wOp wGt (wCB wLen (wCons (wVar 0) wNil)) (wC (.int 1))))) (wRet (wC .non)) wNext)
    (wRet (wCB wIntT (wCons (wVar 0) wNil)))))
theorem rd_number_of (ws : List W) (G : Gp) (Q : QW) (E) (h : sp_number_of ws G Q E) : t_number_of { nx := fun _ G' => Q .non G', rt := Cl Q } (startW ["word", "sign"] ws) G := by
  obtain ⟨n, rfl, h, q⟩ := h
  show t_number_of _ [some (tW (nC n)), none] G
  unfold t_number_of
  walk_at "w"
  have N := nums h
  have l1 := N.l1
  have l3 := N.l3
  have dg := N.dig
  have ld := N.lead
  have it := N.int
  generalize nC n = p at l1 l3 dg ld it ⊢
  rw [show tW p = W.str (SX.S p) from rfl]
  have big : 1000 < sizeLine := by decide
  walk_at "w"
  rw [S_len, decide_eq_true (show (1 : Int) ≤ ((p.length : Nat) : Int) by omega), if_pos rfl, decide_eq_true (show ((p.length : Nat) : Int) ≤ 40 by omega), if_neg (by decide), a_iStr]
  refine ⟨by omega, ?_⟩
  have fin : wIntT [W.str (SX.S p)] G (Cl Q) := ⟨SX.S p, _, rfl, it, by rw [S_len]; omega, .inl q⟩
  rw [v_0, strI_str]
  unfold signsW
  rw [S_cps, List.length_map]
  refine ⟨by omega, ?_⟩
  refine lcW_m (fun c : Nat => W.str ⟨#[c]⟩) (fun c => .bl (decide (c ∈ [48, 49, 50, 51, 52, 53, 54, 55, 56, 57]))) p _ ?_ ?_
  · intro c hc P hP
    walk_at "w"
    exact ⟨c, _, rfl, rfl, by rw [e_fig, S_cps]; exact hP⟩
  have em : (p.map fun c => W.bl (decide (c ∈ [48, 49, 50, 51, 52, 53, 54, 55, 56, 57]))) = (p.map fun _ => true).map W.bl := by
    rw [List.map_map]
    refine List.map_congr_left fun c hc => ?_
    have := dg c hc
    show W.bl (decide _) = W.bl true
    congr 1
    rw [decide_eq_true_eq]
    simp
    omega
  refine ⟨p.map fun _ => true, em, ?_⟩
  rw [all_tr, if_neg (by decide)]
  refine ⟨by omega, ?_⟩
  cases p with
  | nil => simp at l1
  | cons x xs =>
    rw [show L2.atI (x :: xs) 0 = some x by unfold L2.atI; simp [L2.ixN], isS_some]
    by_cases c : (⟨#[x]⟩ : Str) = ("0" : Str)
    · rw [if_pos (decide_eq_true c)]
      have c : x = 48 := by
        rw [e_0] at c
        have := congrArg (fun z : Str => z.cps.toList) c
        simpa [SX.S] using this
      have : ¬ (1 < ((((x :: xs).length : Nat)) : Int)) := fun z => ld ⟨c, by omega⟩
      rw [decide_eq_false this, if_neg (by decide)]
      exact ⟨by omega, fin⟩
    · rw [if_neg (by rw [decide_eq_true_eq]; exact c)]
      exact fin
def sp_must_be : Spw := fun ws G Q E => ∃ (b : Bool), ws = [.bl b] ∧ (b = true) ∧ Q .non G
theorem len_must_be (ws G Q E) (h : sp_must_be ws G Q E) : ws.length = 1 := by obtain ⟨_, rfl, _⟩ := h; rfl
/-- slots: holds 0 -/
def t_must_be : TSw := (wIfS (wNot (wTest (wVar 0))) wNever wNext)
theorem rd_must_be (ws : List W) (G : Gp) (Q : QW) (E) (h : sp_must_be ws G Q E) : t_must_be { nx := fun _ G' => Q .non G', rt := Cl Q } (startW ["holds"] ws) G := by
  obtain ⟨b, rfl, h, q⟩ := h
  show t_must_be _ [some (.bl b)] G
  unfold t_must_be
  walk_at "w"
  subst h
  walk_at "w"
  exact q
def sp_numbers_of : Spw := fun ws G Q E => ∃ (ns : List Nat), ws = [.lst (ns.map fun n => tW (nC n))] ∧ (∀ n ∈ ns, n ≤ 100) ∧ (ns.length ≤ 100) ∧ Q (.tup (ns.map fun n => nW n)) G
theorem len_numbers_of (ws G Q E) (h : sp_numbers_of ws G Q E) : ws.length = 1 := by obtain ⟨_, rfl, _⟩ := h; rfl
/-- slots: words 0, found 1, word 2, number 3 -/
def t_numbers_of : TSw := (wSeq (wAsg (wLc [2] (iSeqW (wVar 0)) (gN 2) wYes (wCall sp_number_of (wCons (wVar 2) wNil))) (gN 1))
    (wSeq (wDrop (wCall sp_must_be (wCons (wCB wAll (wCons (wLc [3] (iSeqW (wVar 1)) (gN 3) wYes (wNotN (wVar 3))) wNil)) wNil)))
    (wRet (wCB wTuple (wCons (wVar 1) wNil)))))
theorem rd_numbers_of (ws : List W) (G : Gp) (Q : QW) (E) (h : sp_numbers_of ws G Q E) : t_numbers_of { nx := fun _ G' => Q .non G', rt := Cl Q } (startW ["words", "found", "word", "number"] ws) G := by
  obtain ⟨ns, rfl, hn, few, q⟩ := h
  show t_numbers_of _ [some (.lst (ns.map fun n => tW (nC n))), none, none, none] G
  unfold t_numbers_of
  walk_at "w"
  have big : 1000 < sizeLine := by decide
  refine ⟨by omega, ?_⟩
  refine lcW_m (fun n : Nat => tW (nC n)) (fun n => nW n) _ _ ?_ ?_
  · intro n h P hP
    walk_at "w"
    exact ⟨n, rfl, hn n h, hP⟩
  walk_at "w"
  refine ⟨by omega, ?_⟩
  refine lcW_m (fun n : Nat => nW n) (fun _ => .bl true) _ _ ?_ ?_
  · intro n h P hP
    walk_at "w"
    exact hP
  refine ⟨ns.map fun _ => true, by rw [List.map_map]; rfl, ?_⟩
  refine ⟨_, rfl, all_tr ns, ?_⟩
  walk_at "w"
  exact .inl q
def sp_parted_numbers : Spw := fun ws G Q E => ∃ (ns : List Nat) (many : Nat), ws = [tW (J 58 (ns.map nC)), .int ((many : Nat) : Int)] ∧ (∀ n ∈ ns, n ≤ 100) ∧ (ns.length = many) ∧ (1 ≤ many ∧ many ≤ 5) ∧ Q (.tup (ns.map fun n => nW n)) G
theorem len_parted_numbers (ws G Q E) (h : sp_parted_numbers ws G Q E) : ws.length = 2 := by obtain ⟨_, _, rfl, _⟩ := h; rfl
/-- slots: word 0, many 1, parts 2 -/
def t_parted_numbers : TSw := (wSeq (wAsg (wTx wSplitT (wVar 0) (wC (.str ":"))) (gN 2))
    (wSeq (wDrop (wCall sp_must_be (wCons (wOp wEq (wCB wLen (wCons (wVar 2) wNil)) (wVar 1)) wNil)))
    (wRet (wCall sp_numbers_of (wCons (wVar 2) wNil)))))
theorem rd_parted_numbers (ws : List W) (G : Gp) (Q : QW) (E) (h : sp_parted_numbers ws G Q E) : t_parted_numbers { nx := fun _ G' => Q .non G', rt := Cl Q } (startW ["word", "many", "parts"] ws) G := by
  obtain ⟨ns, many, rfl, hn, lm, m1, q⟩ := h
  show t_parted_numbers _ [some (tW (J 58 (ns.map nC))), some (.int ((many : Nat) : Int)), none] G
  unfold t_parted_numbers
  walk_at "w"
  have big : 1000 < sizeLine := by decide
  have nb : ∀ p ∈ ns.map nC, p.length ≤ 3 := fun p hp => by
    obtain ⟨n, h, rfl⟩ := List.mem_map.mp hp
    exact (nums (hn n h)).l3
  have jl := J_len (c := 58) nb
  rw [List.length_map] at jl
  have sp := split_J (c := 58) (ps := ns.map nC) (by decide) (by intro z; rw [List.map_eq_nil_iff] at z; rw [z] at lm; simp at lm; omega) fun p hp z => by
    obtain ⟨n, h, rfl⟩ := List.mem_map.mp hp
    have := (nums (hn n h)).dig 58 z
    omega
  generalize J 58 (ns.map nC) = t at jl sp ⊢
  rw [a_wTx]
  walk_at "w"
  rw [isTx_str]
  walk_at "w"
  rw [e_co, wSplitT_eq, sp]
  refine ⟨by decide, by rw [S_len]; omega, ?_⟩
  walk_at "w"
  rw [List.map_map]
  refine ⟨_, rfl, decide_eq_true (by omega), ?_⟩
  walk_at "w"
  exact ⟨ns, by rw [List.map_map]; rfl, hn, by omega, .inl q⟩
theorem cut_id (ws : List W) {k : Nat} (h : k ≤ ws.length) : cutW ws (some ((k : Nat) : Int)) none = ws.drop k := by
  have := cut_from (fun w : W => w) ws h
  rw [List.map_id', List.map_id'] at this
  exact this
theorem atI_map' {α : Type} {g : α → W} {xs : List α} {k : Nat} (h : k < xs.length) : L2.atI (xs.map g) ((k : Nat) : Int) = some (g xs[k]) := by
  unfold L2.atI
  simp [L2.ixN, h]
abbrev Rws := List (List (List Nat))
abbrev rowW (r : List (List Nat)) : W := .lst (r.map fun p => tW p)
theorem cut_c1 (w : W) (ws : List W) : cutW (w :: ws) (some 1) none = ws := by
  have := cut_1 (fun w : W => w) (w :: ws) (by simp)
  simpa using this
def sp_read_net : Spw := fun ws G Q E => ∃ (n : Nat), ws = [.lst ((netWs n).map fun p => tW p)] ∧ (n ≤ 100) ∧ Q (nW n) G
theorem len_read_net (ws G Q E) (h : sp_read_net ws G Q E) : ws.length = 1 := by obtain ⟨_, rfl, _⟩ := h; rfl
/-- slots: words 0 -/
def t_read_net : TSw := (wSeq (wDrop (wCall sp_must_be (wCons (wAndV (wOp wEq (wCB wLen (wCons (wVar 0) wNil)) (wC (.int 2))) (wOp wEq (wOp wIx (wVar 0) (wC (.int 0))) (wC (.str "net")))) wNil)))
    (wRet (wOp wIx (wCall sp_numbers_of (wCons (wSlice (wVar 0) (wpSome (wC (.int 1))) wpNone) wNil)) (wC (.int 0)))))
theorem rd_read_net (ws : List W) (G : Gp) (Q : QW) (E) (h : sp_read_net ws G Q E) : t_read_net { nx := fun _ G' => Q .non G', rt := Cl Q } (startW ["words"] ws) G := by
  obtain ⟨n, rfl, h, q⟩ := h
  show t_read_net _ [some (.lst ((netWs n).map fun p => tW p))] G
  unfold t_read_net
  walk_at "w"
  have big : 1000 < sizeLine := by decide
  unfold netWs
  walk_at "w"
  rw [cut_c1, if_pos (by decide)]
  refine ⟨_, rfl, by rw [e_net]; decide, ?_⟩
  refine ⟨[n], rfl, by simpa using h, by simp, ?_⟩
  walk_at "w"
  exact .inl q
def sp_read_line : Spw := fun ws G Q E => ∃ (l : Ln), ws = [.lst ((lineWs l).map fun p => tW p)] ∧ (∀ x ∈ lineNs l, x ≤ 100) ∧ Q (.tup ((lineNs l).map fun n => nW n)) G
theorem len_read_line (ws G Q E) (h : sp_read_line ws G Q E) : ws.length = 1 := by obtain ⟨_, rfl, _⟩ := h; rfl
/-- slots: words 0 -/
def t_read_line : TSw := (wSeq (wDrop (wCall sp_must_be (wCons (wOp wEq (wCB wLen (wCons (wVar 0) wNil)) (wC (.int 5))) wNil)))
    (wRet (wCall sp_numbers_of (wCons (wSlice (wVar 0) (wpSome (wC (.int 1))) wpNone) wNil))))
theorem rd_read_line (ws : List W) (G : Gp) (Q : QW) (E) (h : sp_read_line ws G Q E) : t_read_line { nx := fun _ G' => Q .non G', rt := Cl Q } (startW ["words"] ws) G := by
  obtain ⟨l, rfl, h, q⟩ := h
  show t_read_line _ [some (.lst ((lineWs l).map fun p => tW p))] G
  unfold t_read_line
  walk_at "w"
  have big : 1000 < sizeLine := by decide
  unfold lineWs
  walk_at "w"
  rw [cut_c1]
  refine ⟨_, rfl, decide_eq_true (by simp [lineNs]), ?_⟩
  exact ⟨lineNs l, by rw [List.map_map]; rfl, h, by simp [lineNs], .inl q⟩
def sp_read_store : Spw := fun ws G Q E => ∃ (t : Sto), ws = [.lst ((storeWs t).map fun p => tW p)] ∧ (∀ x ∈ storeNs t, x ≤ 100) ∧ Q (.tup ((storeNs t).map fun n => nW n)) G
theorem len_read_store (ws G Q E) (h : sp_read_store ws G Q E) : ws.length = 1 := by obtain ⟨_, rfl, _⟩ := h; rfl
/-- slots: words 0 -/
def t_read_store : TSw := (wSeq (wDrop (wCall sp_must_be (wCons (wOp wEq (wCB wLen (wCons (wVar 0) wNil)) (wC (.int 6))) wNil)))
    (wRet (wCall sp_numbers_of (wCons (wSlice (wVar 0) (wpSome (wC (.int 1))) wpNone) wNil))))
theorem rd_read_store (ws : List W) (G : Gp) (Q : QW) (E) (h : sp_read_store ws G Q E) : t_read_store { nx := fun _ G' => Q .non G', rt := Cl Q } (startW ["words"] ws) G := by
  obtain ⟨t, rfl, h, q⟩ := h
  show t_read_store _ [some (.lst ((storeWs t).map fun p => tW p))] G
  unfold t_read_store
  walk_at "w"
  have big : 1000 < sizeLine := by decide
  unfold storeWs
  walk_at "w"
  rw [cut_c1]
  refine ⟨_, rfl, decide_eq_true (by simp [storeNs]), ?_⟩
  exact ⟨storeNs t, by rw [List.map_map]; rfl, h, by simp [storeNs], .inl q⟩
def sp_read_hour : Spw := fun ws G Q E => ∃ (vs : List Wnt), ws = [.lst ((hourWs vs).map fun p => tW p)] ∧ (vs.length ≤ 10) ∧ (∀ v ∈ vs, v.1 ≤ 100 ∧ v.2.1 ≤ 100 ∧ v.2.2 ≤ 100) ∧ Q (wantsW vs) G
theorem len_read_hour (ws G Q E) (h : sp_read_hour ws G Q E) : ws.length = 1 := by obtain ⟨_, rfl, _⟩ := h; rfl
/-- slots: words 0, word 1 -/
def t_read_hour : TSw := (wRet (wCB wTuple (wCons (wLc [1] (iSeqW (wSlice (wVar 0) (wpSome (wC (.int 1))) wpNone)) (gN 1) wYes (wCall sp_parted_numbers (wCons (wVar 1) (wCons (wC (.int 3)) wNil)))) wNil)))
theorem rd_read_hour (ws : List W) (G : Gp) (Q : QW) (E) (h : sp_read_hour ws G Q E) : t_read_hour { nx := fun _ G' => Q .non G', rt := Cl Q } (startW ["words", "word"] ws) G := by
  obtain ⟨vs, rfl, few, h, q⟩ := h
  show t_read_hour _ [some (.lst ((hourWs vs).map fun p => tW p)), none] G
  unfold t_read_hour
  walk_at "w"
  have big : 1000 < sizeLine := by decide
  unfold hourWs
  walk_at "w"
  rw [cut_c1]
  refine ⟨by simp; omega, ?_⟩
  rw [List.map_map]
  refine lcW_m (fun v : Wnt => tW (wantC v)) (fun v => wantW v) vs _ ?_ ?_
  · intro v hv P hP
    obtain ⟨h1, h2, h3⟩ := h v hv
    walk_at "w"
    refine ⟨[v.1, v.2.1, v.2.2], 3, rfl, fun n hn => ?_, rfl, by decide, hP⟩
    simp only [List.mem_cons, List.not_mem_nil, or_false] at hn
    rcases hn with rfl | rfl | rfl <;> assumption
  walk_at "w"
  exact .inl q
def sp_read_work : Spw := fun ws G Q E => ∃ (k : Wk), ws = [.lst ((workWs k).map fun p => tW p)] ∧ (∀ x ∈ workNs k, x ≤ 100) ∧ (1 ≤ k.pieces.length ∧ k.pieces.length ≤ 10) ∧ (∀ v ∈ k.pieces, v.1 ≤ 100 ∧ v.2 ≤ 100) ∧ Q (workW k) G
theorem len_read_work (ws G Q E) (h : sp_read_work ws G Q E) : ws.length = 1 := by obtain ⟨_, rfl, _⟩ := h; rfl
/-- slots: words 0, place 1, least 2, keep 3, start 4, stay 5, rest 6, pieces 7, word 8 -/
def t_read_work : TSw := (wSeq (wDrop (wCall sp_must_be (wCons (wAndV (wOp wGe (wCB wLen (wCons (wVar 0) wNil)) (wC (.int 9))) (wOp (wIn false) (wOp wIx (wVar 0) (wC (.int 7))) (wTup (wCons (wC (.str "on")) (wCons (wC (.str "off")) wNil))))) wNil)))
    (wSeq (wAsg (wCall sp_numbers_of (wCons (wSlice (wVar 0) (wpSome (wC (.int 1))) (wpSome (wC (.int 7)))) wNil)) (gT 6 (gsC (gN 1) (gsC (gN 2) (gsC (gN 3) (gsC (gN 4) (gsC (gN 5) (gsC (gN 6) gsN))))))))
    (wSeq (wAsg (wCB wTuple (wCons (wLc [8] (iSeqW (wSlice (wVar 0) (wpSome (wC (.int 8))) wpNone)) (gN 8) wYes (wCall sp_parted_numbers (wCons (wVar 8) (wCons (wC (.int 2)) wNil)))) wNil)) (gN 7))
    (wRet (wTup (wCons (wVar 1) (wCons (wVar 2) (wCons (wVar 3) (wCons (wVar 7) (wCons (wVar 4) (wCons (wVar 5) (wCons (wVar 6) (wCons (wOp wEq (wOp wIx (wVar 0) (wC (.int 7))) (wC (.str "on"))) wNil)))))))))))))
theorem rd_read_work (ws : List W) (G : Gp) (Q : QW) (E) (h : sp_read_work ws G Q E) : t_read_work { nx := fun _ G' => Q .non G', rt := Cl Q } (startW ["words", "place", "least", "keep", "start", "stay", "rest", "pieces", "word"] ws) G := by
  obtain ⟨k, rfl, h, few, hp, q⟩ := h
  show t_read_work _ [some (.lst ((workWs k).map fun p => tW p)), none, none, none, none, none, none, none, none] G
  unfold t_read_work
  walk_at "w"
  have big : 1000 < sizeLine := by decide
  have ew : (workWs k).map (fun p => tW p) = tW cWork :: tW (nC k.p) :: tW (nC k.least) :: tW (nC k.keep) :: tW (nC k.start) :: tW (nC k.e1) :: tW (nC k.e2) :: tW (if k.on then cOn else cOff) :: k.pieces.map fun v => tW (pieceC v) := by
    unfold workWs workNs
    simp
  rw [ew]
  have oo : (if k.on then cOn else cOff) = cOn ∨ (if k.on then cOn else cOff) = cOff := by cases k.on <;> simp
  have od : (decide (SX.S (if k.on then cOn else cOff) = ("on" : Str))) = k.on := by rw [e_on]; cases k.on <;> decide
  generalize (if k.on then cOn else cOff) = ow at oo od ⊢
  walk_at "w"
  have lw : (workWs k).length = 8 + k.pieces.length := by simp [workWs, workNs]; omega
  rw [if_pos (by rw [decide_eq_true_eq]; omega)]
  refine ⟨by decide, _, rfl, by rw [e_on, e_off]; rcases oo with rfl | rfl <;> decide +kernel, ?_⟩
  have c17 : cutW (tW cWork :: tW (nC k.p) :: tW (nC k.least) :: tW (nC k.keep) :: tW (nC k.start) :: tW (nC k.e1) :: tW (nC k.e2) :: tW ow :: k.pieces.map fun v => tW (pieceC v)) (some 1) (some 7) = (workNs k).map fun n => tW (nC n) := by
    unfold cutW
    rw [show ∀ n : Nat, 7 ≤ n → HT.sIx n 0 (some 1) = 1 from fun n h => by simp [HT.sIx]; omega, show ∀ n : Nat, 7 ≤ n → HT.sIx n n (some 7) = 7 from fun n h => by simp [HT.sIx]; omega]
    · rfl
    · simp
    · simp
  have c8 : cutW (tW cWork :: tW (nC k.p) :: tW (nC k.least) :: tW (nC k.keep) :: tW (nC k.start) :: tW (nC k.e1) :: tW (nC k.e2) :: tW ow :: k.pieces.map fun v => tW (pieceC v)) (some 8) none = k.pieces.map fun v => tW (pieceC v) := by
    exact cut_id _ (k := 8) (by simp)
  rw [c17]
  refine ⟨workNs k, rfl, h, by simp [workNs], ?_⟩
  unfold workNs
  walk_at "w"
  rw [c8, List.length_map]
  refine ⟨by omega, ?_⟩
  refine lcW_m (fun v : Nat × Nat => tW (pieceC v)) (fun v => pieceW v) k.pieces _ ?_ ?_
  · intro v hv P hP
    obtain ⟨h1, h2⟩ := hp v hv
    walk_at "w"
    refine ⟨[v.1, v.2], 2, rfl, fun n hn => ?_, rfl, by decide, hP⟩
    simp only [List.mem_cons, List.not_mem_nil, or_false] at hn
    rcases hn with rfl | rfl <;> assumption
  walk_at "w"
  rw [od]
  exact ⟨by decide, .inl q⟩
def sp_rows_with : Spw := fun ws G Q E => ∃ (rs ss : Rws) (c : List Nat), ws = [.lst ((rs ++ ss).map fun r => rowW r), tW c] ∧ ((rs ++ ss).length ≤ 100) ∧ (∀ r ∈ rs, r.head? = some c) ∧ (∀ r, ss.head? = some r → ∃ d, r.head? = some d ∧ d ≠ c) ∧ Q (.tup [.lst (rs.map fun r => rowW r), .lst (ss.map fun r => rowW r)]) G
theorem len_rows_with (ws G Q E) (h : sp_rows_with ws G Q E) : ws.length = 2 := by obtain ⟨_, _, _, rfl, _⟩ := h; rfl
/-- slots: rows 0, first 1, many 2 -/
def t_rows_with_r1 : TSw := (wRet (wTup (wCons (wSlice (wVar 0) wpNone (wpSome (wVar 2))) (wCons (wSlice (wVar 0) (wpSome (wVar 2)) wpNone) wNil))))
def t_rows_with : TSw := (wSeq (wAsg (wC (.int 0)) (gN 2))
    (wSeq (wWhile [false, false, false] (wAnd (wTest (wOp wLt (wVar 2) (wCB wLen (wCons (wVar 0) wNil)))) (wTest (wOp wEq (wOp wIx (wOp wIx (wVar 0) (wVar 2)) (wC (.int 0))) (wVar 1)))) (wAug 2 (wC (.int 1)) wAddI))
    t_rows_with_r1))
theorem rd_rows_with (ws : List W) (G : Gp) (Q : QW) (E) (h : sp_rows_with ws G Q E) : t_rows_with { nx := fun _ G' => Q .non G', rt := Cl Q } (startW ["rows", "first", "many"] ws) G := by
  obtain ⟨rs, ss, c, rfl, few, h1, h2, q⟩ := h
  show t_rows_with _ [some (.lst ((rs ++ ss).map fun r => rowW r)), some (tW c), none] G
  unfold t_rows_with
  walk_at "w"
  have big : 1000 < sizeLine := by decide
  walk_at "w"
  refine ⟨fun m σ G1 => ∃ j, j + m = rs.length ∧ G1 = G ∧ σ = [some (.lst ((rs ++ ss).map fun r => rowW r)), some (tW c), some (.int ((j : Nat) : Int))], ⟨rs.length, 0, by omega, rfl, rfl⟩, ?_⟩
  rintro m σ G1 ⟨j, hj, rfl, rfl⟩
  have la : (rs ++ ss).length = rs.length + ss.length := List.length_append
  have fin : t_rows_with_r1 { nx := fun x G' => Q W.non G', rt := Cl Q } [some (.lst ((rs ++ ss).map fun r => rowW r)), some (tW c), some (.int ((rs.length : Nat) : Int))] G1 := by
    unfold t_rows_with_r1
    walk_at "w"
    rw [cut_to (fun r => rowW r) (rs ++ ss) (by omega), cut_from (fun r => rowW r) (rs ++ ss) (by omega)]
    rw [List.take_left' rfl, List.drop_left' rfl]
    exact ⟨by decide, .inl q⟩
  have h0 : ∀ (d : List Nat) (r : List (List Nat)), r.head? = some d → L2.atI (r.map fun p => tW p) 0 = some (tW d) := fun d r h => by
    cases r with
    | nil => cases h
    | cons x r =>
      simp only [List.head?_cons, Option.some.injEq] at h
      subst h
      unfold L2.atI
      simp [L2.ixN]
  walk_at "w"
  by_cases hl : j < (rs ++ ss).length
  · rw [if_pos (decide_eq_true (by omega)), atI_map' hl, isS_some]
    by_cases hr : j < rs.length
    · have e := h0 c ((rs ++ ss)[j]) (by rw [List.getElem_append_left hr]; exact h1 _ (List.getElem_mem hr))
      walk_at "w"
      rw [e]
      walk_at "w"
      refine ⟨m - 1, by omega, j + 1, by omega, ?_⟩
      simp
    · have jr : j = rs.length := by omega
      obtain ⟨d, hd, ne⟩ := h2 ((rs ++ ss)[j]) (by
        rw [List.getElem_append_right (by omega)]
        cases ss with
        | nil => simp at hl; omega
        | cons x ss => simp [jr])
      have e := h0 d _ hd
      walk_at "w"
      rw [e]
      walk_at "w"
      rw [if_neg (by rw [decide_eq_true_eq]; exact fun z => ne (S_inj z)), jr]
      exact fin
  · have jr : j = rs.length := by omega
    rw [if_neg (by rw [decide_eq_true_eq]; omega), jr]
    exact fin
def HeadNe (c : List Nat) (ss : Rws) : Prop := ∀ r ∈ ss, ∃ d, r.head? = some d ∧ d ≠ c
theorem HeadNe.fst {c : List Nat} {ss : Rws} (h : HeadNe c ss) : ∀ r, ss.head? = some r → ∃ d, r.head? = some d ∧ d ≠ c := fun r e => h r (List.mem_of_head? e)
theorem head_line (l : Ln) : (lineWs l).head? = some cLine := rfl
theorem head_work (k : Wk) : (workWs k).head? = some cWork := rfl
theorem head_store (t : Sto) : (storeWs t).head? = some cStore := rfl
theorem head_hour (vs : List Wnt) : (hourWs vs).head? = some cHour := rfl
theorem ne_work {c : List Nat} (h : cWork ≠ c) (ks : List Wk) : HeadNe c (ks.map workWs) := fun r hr => by obtain ⟨k, _, rfl⟩ := List.mem_map.mp hr; exact ⟨_, head_work k, h⟩
theorem ne_hour {c : List Nat} (h : cHour ≠ c) (hs : List (List Wnt)) : HeadNe c (hs.map hourWs) := fun r hr => by obtain ⟨k, _, rfl⟩ := List.mem_map.mp hr; exact ⟨_, head_hour k, h⟩
theorem ne_store {c : List Nat} (h : cStore ≠ c) (s : Option Sto) : HeadNe c (stoWs s) := fun r hr => by
  cases s with
  | none => simp [stoWs] at hr
  | some t => simp [stoWs] at hr; subst hr; exact ⟨_, head_store t, h⟩
theorem ne_app {c : List Nat} {rs ss : Rws} (a : HeadNe c rs) (b : HeadNe c ss) : HeadNe c (rs ++ ss) := fun r hr => by
  rcases List.mem_append.mp hr with hr | hr
  · exact a r hr
  · exact b r hr
theorem sto_len (s : Option Sto) : (stoWs s).length ≤ 1 := by cases s <;> simp [stoWs]
def sp_read_rows : Spw := fun ws G Q E => ∃ (n : Nat) (ls : List Ln) (ks : List Wk) (s : Option Sto) (hs : List (List Wnt)), ws = [.lst ((rowsWs n ls ks s hs).map fun r => rowW r)] ∧ (House n ls ks s hs) ∧ Q (houseW n ls ks s hs) G
theorem len_read_rows (ws G Q E) (h : sp_read_rows ws G Q E) : ws.length = 1 := by obtain ⟨_, _, _, _, _, rfl, _⟩ := h; rfl
/-- slots: rows 0, many 1, lines 2, left 3, works 4, stores 5, hours 6, net 7, some 8, store 9, words 10 -/
def t_read_rows_r1 : TSw := (wRet (wTup (wCons (wVar 7) (wCons (wVar 8) (wCons (wVar 9) (wCons (wCB wTuple (wCons (wLc [10] (iSeqW (wVar 6)) (gN 10) wYes (wCall sp_read_hour (wCons (wVar 10) wNil))) wNil)) wNil))))))
def t_read_rows : TSw := (wSeq (wAsg (wCall sp_read_net (wCons (wOp wIx (wVar 0) (wC (.int 0))) wNil)) (gN 1))
    (wSeq (wAsg (wCall sp_rows_with (wCons (wSlice (wVar 0) (wpSome (wC (.int 1))) wpNone) (wCons (wC (.str "line")) wNil))) (gT 2 (gsC (gN 2) (gsC (gN 3) gsN))))
    (wSeq (wAsg (wCall sp_rows_with (wCons (wVar 3) (wCons (wC (.str "work")) wNil))) (gT 2 (gsC (gN 4) (gsC (gN 3) gsN))))
    (wSeq (wAsg (wCall sp_rows_with (wCons (wVar 3) (wCons (wC (.str "store")) wNil))) (gT 2 (gsC (gN 5) (gsC (gN 3) gsN))))
    (wSeq (wAsg (wCall sp_rows_with (wCons (wVar 3) (wCons (wC (.str "hour")) wNil))) (gT 2 (gsC (gN 6) (gsC (gN 3) gsN))))
    (wSeq (wDrop (wCall sp_must_be (wCons (wAndV (wOp wEq (wVar 3) (wLst wNil)) (wOp wLe (wCB wLen (wCons (wVar 5) wNil)) (wC (.int 1)))) wNil)))
    (wSeq (wAsg (wTup (wCons (wVar 1) (wCons (wCB wTuple (wCons (wLc [10] (iSeqW (wVar 2)) (gN 10) wYes (wCall sp_read_line (wCons (wVar 10) wNil))) wNil)) wNil))) (gN 7))
    (wSeq (wAsg (wCB wTuple (wCons (wLc [10] (iSeqW (wVar 4)) (gN 10) wYes (wCall sp_read_work (wCons (wVar 10) wNil))) wNil)) (gN 8))
    (wSeq (wAsg (wC .non) (gN 9))
    (wSeq (wIfS (wTest (wOp wNe (wVar 5) (wLst wNil))) (wAsg (wCall sp_read_store (wCons (wOp wIx (wVar 5) (wC (.int 0))) wNil)) (gN 9)) wNext)
    t_read_rows_r1))))))))))
theorem rd_read_rows (ws : List W) (G : Gp) (Q : QW) (E) (h : sp_read_rows ws G Q E) : t_read_rows { nx := fun _ G' => Q .non G', rt := Cl Q } (startW ["rows", "many", "lines", "left", "works", "stores", "hours", "net", "some", "store", "words"] ws) G := by
  obtain ⟨n, ls, ks, s, hs, rfl, h, q⟩ := h
  show t_read_rows _ [some (.lst ((rowsWs n ls ks s hs).map fun r => rowW r)), none, none, none, none, none, none, none, none, none, none] G
  unfold t_read_rows
  walk_at "w"
  have big : 1000 < sizeLine := by decide
  have n4 := h.net.n4
  have lf := h.net.few
  obtain ⟨kf, h1, h3⟩ := h.few
  have sl := sto_len s
  unfold rowsWs
  walk_at "w"
  refine ⟨n, rfl, by omega, ?_⟩
  walk_at "w"
  rw [cut_c1]
  refine ⟨ls.map lineWs, ks.map workWs ++ (stoWs s ++ hs.map hourWs), cLine, by rw [e_line], by simp; omega, fun r hr => ?_, HeadNe.fst (ne_app (ne_work (by decide) ks) (ne_app (ne_store (by decide) s) (ne_hour (by decide) hs))), ?_⟩
  · obtain ⟨l, _, rfl⟩ := List.mem_map.mp hr; rfl
  walk_at "w"
  refine ⟨ks.map workWs, stoWs s ++ hs.map hourWs, cWork, by rw [e_work], by simp; omega, fun r hr => ?_, HeadNe.fst (ne_app (ne_store (by decide) s) (ne_hour (by decide) hs)), ?_⟩
  · obtain ⟨l, _, rfl⟩ := List.mem_map.mp hr; rfl
  walk_at "w"
  refine ⟨stoWs s, hs.map hourWs, cStore, by rw [e_store], by simp; omega, fun r hr => ?_, HeadNe.fst (ne_hour (by decide) hs), ?_⟩
  · cases s with
    | none => simp [stoWs] at hr
    | some t => simp [stoWs] at hr; subst hr; rfl
  walk_at "w"
  refine ⟨hs.map hourWs, [], cHour, by rw [e_hour, List.append_nil], by simp; omega, fun r hr => ?_, fun r e => by simp at e, ?_⟩
  · obtain ⟨l, _, rfl⟩ := List.mem_map.mp hr; rfl
  have w0 : wD 1 (W.lst []) := wD_lst (d := 0) fun w hw => by cases hw
  have work : ∀ k ∈ ks, ∀ (P : QW), P (workW k) G → sp_read_work [rowW (workWs k)] G P E0w := fun k hk P hP => by
    have ok := h.works k hk
    exact ⟨k, rfl, work_ns ok n4, ⟨ok.few.1, by have := ok.few.2; omega⟩, fun v hv => by have := ok.pieces v hv; omega, hP⟩
  walk_at "w"
  rw [weqb_self w0, if_pos rfl]
  refine ⟨Nat.zero_le _, wOk_of w0 (by decide), wOk_of w0 (by decide), _, rfl, decide_eq_true (by omega), ?_⟩
  refine ⟨by omega, ?_⟩
  rw [List.map_map]
  refine lcW_m (fun l : Ln => rowW (lineWs l)) (fun l => lineW l) ls _ ?_ ?_
  · intro l hl P hP
    walk_at "w"
    exact ⟨l, rfl, line_ns (h.net.ok l hl) n4, hP⟩
  refine ⟨by decide, by omega, ?_⟩
  rw [List.map_map]
  refine lcW_m (fun k : Wk => rowW (workWs k)) (fun k => workW k) ks _ ?_ ?_
  · intro k hk P hP
    walk_at "w"
    exact work k hk P hP
  have rest : ∀ (x0 x1 x2 x3 x4 x5 : Option W) (w : W), w = storeW s → t_read_rows_r1 { nx := fun x G' => Q W.non G', rt := Cl Q }
      [x0, x1, x2, x3, x4, x5,
        some (.lst ((hs.map hourWs).map fun r => rowW r)), some (.tup [nW n, .tup (ls.map fun l => lineW l)]), some (.tup (ks.map fun k => workW k)), some w, none] G := by
    rintro x0 x1 x2 x3 x4 x5 w rfl
    unfold t_read_rows_r1
    walk_at "w"
    refine ⟨by omega, ?_⟩
    rw [List.map_map]
    refine lcW_m (fun vs : List Wnt => rowW (hourWs vs)) (fun vs => wantsW vs) hs _ ?_ ?_
    · intro vs hvs P hP
      obtain ⟨a, b⟩ := h.wants vs hvs
      walk_at "w"
      refine ⟨vs, rfl, by omega, fun v hv => ?_, hP⟩
      obtain ⟨b1, b2, b3⟩ := b v hv
      omega
    walk_at "w"
    exact ⟨by decide, .inl q⟩
  cases s with
  | none =>
    refine ⟨Nat.zero_le _, wOk_of w0 (by decide), wOk_of w0 (by decide), ?_⟩
    rw [show weqb (.lst ((stoWs none).map fun r => rowW r)) (.lst []) = true from weqb_self w0, if_neg (by decide)]
    exact rest _ _ _ _ _ _ _ rfl
  | some t =>
    have ok := h.store t rfl
    have ns := store_ns ok n4
    have wt : ∀ p ∈ storeWs t, wD 0 (tW p) := fun p hp => by
      have dg : ∀ c ∈ p, c < 256 := fun c hc => by
        rcases List.mem_cons.mp hp with rfl | hp
        · have : ∀ c ∈ cStore, c < 256 := by decide
          exact this c hc
        · obtain ⟨x, hx, rfl⟩ := List.mem_map.mp hp
          have := (nums (ns x hx)).dig c hc
          omega
      have so : PyData.strOk (SX.S p) = true := by
        unfold PyData.strOk
        rw [← Array.all_toList, S_cps, List.all_eq_true]
        intro c hc
        have := dg c hc
        exact decide_eq_true (by omega)
      exact ⟨rfl, by simp [wdat, PyData.canLay0, so], by simp [wdat, PyData.depth]⟩
    have w2 : wD 2 (.lst ((stoWs (some t)).map fun r => rowW r)) := wD_lst (d := 1) fun w hw => by
      simp only [stoWs, List.map_cons, List.map_nil, List.mem_singleton] at hw
      subst hw
      exact wD_lst (d := 0) fun w hw => by
        obtain ⟨p, hp, rfl⟩ := List.mem_map.mp hw
        exact wt p hp
    refine ⟨Nat.zero_le _, wOk_of w2 (by decide), wOk_of w0 (by decide), ?_⟩
    rw [if_pos (by show (!weqb (.lst [rowW (storeWs t)]) (.lst [])) = true; simp [weqb, wdat, wdats, PyData.eqv, PyData.eqvAll])]
    rw [show L2.atI ((stoWs (some t)).map fun r => rowW r) 0 = some (rowW (storeWs t)) from rfl, isS_some]
    refine ⟨t, rfl, ns, ?_⟩
    exact rest _ _ _ _ _ _ _ rfl
theorem row_chars {n : Nat} {ls : List Ln} {ks : List Wk} {s : Option Sto} {hs : List (List Wnt)} (h : House n ls ks s hs) : ∀ r ∈ rowsWs n ls ks s hs, ∀ w ∈ r, ∀ c ∈ w, 48 ≤ c := by
  have n4 := h.net.n4
  have num : ∀ x, x ≤ 100 → ∀ c ∈ nC x, 48 ≤ c := fun x hx c hc => ((nums hx).dig c hc).1
  have join : ∀ ns : List Nat, (∀ x ∈ ns, x ≤ 100) → ∀ c ∈ J 58 (ns.map nC), 48 ≤ c := fun ns hn c hc => by
    rcases J_mem hc with rfl | ⟨p, hp, hx⟩
    · decide
    · obtain ⟨x, hx2, rfl⟩ := List.mem_map.mp hp
      exact num x (hn x hx2) c hx
  have kw : ∀ w ∈ [cNet, cLine, cWork, cStore, cHour, cOn, cOff], ∀ c ∈ w, 48 ≤ c := by decide
  intro r hr w hw
  rcases List.mem_cons.mp hr with rfl | hr
  · simp only [netWs, List.mem_cons, List.not_mem_nil, or_false] at hw
    rcases hw with rfl | rfl
    · exact kw _ (by simp)
    · exact num n (by omega)
  rcases List.mem_append.mp hr with hr | hr
  · obtain ⟨l, hl, rfl⟩ := List.mem_map.mp hr
    rcases List.mem_cons.mp hw with rfl | hw
    · exact kw _ (by simp)
    · obtain ⟨x, hx, rfl⟩ := List.mem_map.mp hw
      exact num x (line_ns (h.net.ok l hl) n4 x hx)
  rcases List.mem_append.mp hr with hr | hr
  · obtain ⟨k, hk, rfl⟩ := List.mem_map.mp hr
    have ok := h.works k hk
    rcases List.mem_append.mp hw with hw | hw
    · rcases List.mem_cons.mp hw with rfl | hw
      · exact kw _ (by simp)
      · obtain ⟨x, hx, rfl⟩ := List.mem_map.mp hw
        exact num x (work_ns ok n4 x hx)
    · rcases List.mem_cons.mp hw with rfl | hw
      · cases k.on <;> exact kw _ (by simp)
      · obtain ⟨v, hv, rfl⟩ := List.mem_map.mp hw
        have := ok.pieces v hv
        exact join _ fun x hx => by
          simp only [List.mem_cons, List.not_mem_nil, or_false] at hx
          rcases hx with rfl | rfl <;> omega
  rcases List.mem_append.mp hr with hr | hr
  · cases s with
    | none => simp [stoWs] at hr
    | some t =>
      simp [stoWs] at hr
      subst hr
      rcases List.mem_cons.mp hw with rfl | hw
      · exact kw _ (by simp)
      · obtain ⟨x, hx, rfl⟩ := List.mem_map.mp hw
        exact num x (store_ns (h.store t rfl) n4 x hx)
  · obtain ⟨vs, hvs, rfl⟩ := List.mem_map.mp hr
    rcases List.mem_cons.mp hw with rfl | hw
    · exact kw _ (by simp)
    · obtain ⟨v, hv, rfl⟩ := List.mem_map.mp hw
      obtain ⟨b1, b2, b3⟩ := (h.wants vs hvs).2 v hv
      exact join _ fun x hx => by
        simp only [List.mem_cons, List.not_mem_nil, or_false] at hx
        rcases hx with rfl | rfl | rfl <;> omega
theorem house_dat {n : Nat} {ls : List Ln} {ks : List Wk} {s : Option Sto} {hs : List (List Wnt)} (h : House n ls ks s hs) : datB (houseW n ls ks s hs) = true := by
  have tup : ∀ ws : List W, (∀ w ∈ ws, datB w = true) → datB (.tup ws) = true := fun ws h => by
    rw [datB]; exact dats_all.mpr h
  have net : datB (netW n ls) = true := tup _ fun w hw => by
    simp only [List.mem_cons, List.not_mem_nil, or_false] at hw
    rcases hw with rfl | rfl
    · rfl
    · refine tup _ fun w hw => ?_
      obtain ⟨l, _, rfl⟩ := List.mem_map.mp hw
      rfl
  have works : datB (.tup (ks.map fun k => workW k)) = true := tup _ fun w hw => by
    obtain ⟨k, _, rfl⟩ := List.mem_map.mp hw
    refine tup _ fun w hw => ?_
    simp only [List.mem_cons, List.not_mem_nil, or_false] at hw
    rcases hw with rfl | rfl | rfl | rfl | rfl | rfl | rfl | rfl <;> try rfl
    refine tup _ fun w hw => ?_
    obtain ⟨v, _, rfl⟩ := List.mem_map.mp hw
    rfl
  have store : datB (storeW s) = true := by cases s <;> rfl
  have wants : datB (.tup (hs.map fun vs => wantsW vs)) = true := tup _ fun w hw => by
    obtain ⟨vs, _, rfl⟩ := List.mem_map.mp hw
    refine tup _ fun w hw => ?_
    obtain ⟨v, _, rfl⟩ := List.mem_map.mp hw
    rfl
  refine tup _ fun w hw => ?_
  simp only [List.mem_cons, List.not_mem_nil, or_false] at hw
  rcases hw with rfl | rfl | rfl | rfl
  · exact net
  · exact works
  · exact store
  · exact wants
def sp_read_house : Spw := fun ws G Q E => ∃ (n : Nat) (ls : List Ln) (ks : List Wk) (s : Option Sto) (hs : List (List Wnt)), ws = [tW (textC n ls ks s hs)] ∧ (House n ls ks s hs) ∧ Q (houseW n ls ks s hs) G
theorem len_read_house (ws G Q E) (h : sp_read_house ws G Q E) : ws.length = 1 := by obtain ⟨_, _, _, _, _, rfl, _⟩ := h; rfl
/-- slots: text 0, house 1, row 2 -/
def t_read_house : TSw := (wSeq (wDrop (wCall sp_must_be (wCons (wUn (wIsi .str) (wVar 0)) wNil)))
    (wSeq (wAsg (wCall sp_read_rows (wCons (wLc [2] (iSeqW (wTx wSplitT (wVar 0) (wC (.str "\n")))) (gN 2) wYes (wTx wSplitT (wVar 2) (wC (.str " ")))) wNil)) (gN 1))
    (wSeq (wIfS (wNot (wTest (wCall sp_is_house (wCons (wVar 1) wNil)))) wNever wNext)
    (wRet (wVar 1)))))
theorem rd_read_house (ws : List W) (G : Gp) (Q : QW) (E) (h : sp_read_house ws G Q E) : t_read_house { nx := fun _ G' => Q .non G', rt := Cl Q } (startW ["text", "house", "row"] ws) G := by
  obtain ⟨n, ls, ks, s, hs, rfl, h, q⟩ := h
  show t_read_house _ [some (tW (textC n ls ks s hs)), none, none] G
  unfold t_read_house
  walk_at "w"
  have big : 16000000 < sizeLine := by rw [sizeLine_eq]; omega
  walk_at "w"
  refine ⟨_, rfl, rfl, ?_⟩
  have rf := rows_few h
  have rl := row_len h
  have rc := row_chars h
  have rw_ := row_words h
  have tl := J_len (c := 10) rl
  rw [List.length_map] at tl
  have ne10 : (rowsWs n ls ks s hs).map (J 32) ≠ [] := by simp [rowsWs]
  have sp10 := split_J (c := 10) (by decide) ne10 fun p hp z => by
    obtain ⟨r, hr, rfl⟩ := List.mem_map.mp hp
    rcases J_mem z with z | ⟨w, hw, hx⟩
    · cases z
    · have := rc r hr w hw 10 hx; omega
  dsimp only
  rw [a_wTx]
  walk_at "w"
  rw [show tW (textC n ls ks s hs) = W.str (SX.S (textC n ls ks s hs)) from rfl, isTx_str]
  walk_at "w"
  rw [e_nl, wSplitT_eq]
  unfold textC
  rw [sp10]
  refine ⟨by decide, by rw [S_len]; omega, ?_⟩
  walk_at "w"
  refine ⟨by omega, ?_⟩
  rw [List.map_map, List.map_map]
  refine lcW_m (fun r : List (List Nat) => W.str (SX.S (J 32 r))) (fun r => rowW r) (rowsWs n ls ks s hs) _ ?_ ?_
  · intro r hr P hP
    have sp32 := split_J (c := 32) (by decide) (rw_ r hr).1 fun p hp z => by have := rc r hr p hp 32 z; omega
    have l := rl _ (List.mem_map.mpr ⟨r, hr, rfl⟩)
    walk_at "w"
    rw [a_wTx]
    walk_at "w"
    rw [isTx_str]
    walk_at "w"
    rw [e_sp, wSplitT_eq, sp32]
    refine ⟨by decide, by rw [S_len]; omega, ?_⟩
    rw [List.map_map]
    exact hP
  refine ⟨n, ls, ks, s, hs, rfl, h, ?_⟩
  walk_at "w"
  refine ⟨houseW n ls ks s hs, rfl, house_dat h, fun m us e => ?_, ?_⟩
  · have e : netW n ls = .tup [m, .tup us] := e
    have := h.net.few
    simp only [netW, W.tup.injEq, List.cons.injEq, and_true] at e
    obtain ⟨_, e⟩ := e
    have := congrArg List.length e
    simp at this
    omega
  rw [house_true h h.few.1 h.few.2.2]
  walk_at "w"
  exact .inl q
local macro_rules | `(tactic| walk_at "t") => `(tactic| (walk_at "w"; try simp only [a_wTx, isTx_str]; walk_at "w"; try simp only [a_wTx, isTx_str]; walk_at "w"))
theorem e_netsp : ("net " : Str) = SX.S (cNet ++ [32]) := by decide +kernel
theorem e_linesp : ("line " : Str) = SX.S (cLine ++ [32]) := by decide +kernel
theorem e_worksp : ("work " : Str) = SX.S (cWork ++ [32]) := by decide +kernel
theorem e_storesp : ("store " : Str) = SX.S (cStore ++ [32]) := by decide +kernel
theorem row_txt (c : List Nat) {ps : List (List Nat)} (ne : ps ≠ []) : SX.S (c ++ [32]) ++ SX.S (J 32 ps) = SX.S (J 32 (c :: ps)) := by
  rw [SX.S_cat, J_cons ne, List.append_assoc]
theorem strJ {c : Nat} {ns : List Nat} {G : Gp} {Q : QW} (hn : ∀ n ∈ ns, n ≤ 100) (few : ns.length ≤ 10) (q : Q (tW (J c (ns.map nC))) G) : wJoinT (.str (SX.S [c])) (.lst (ns.map fun n => tW (nC n))) G Q := by
  refine joinT (b := 3) (ps := ns.map nC) (by rw [List.map_map]; rfl) (fun p hp => ?_) (by rw [List.length_map]; omega) q
  obtain ⟨n, h, rfl⟩ := List.mem_map.mp hp
  exact (nums (hn n h)).l3
theorem J_few {c : Nat} {ns : List Nat} (hn : ∀ n ∈ ns, n ≤ 100) (few : ns.length ≤ 10) : (J c (ns.map nC)).length ≤ 40 := by
  have := J_len (c := c) (ps := ns.map nC) (b := 3) fun p hp => by
    obtain ⟨n, h, rfl⟩ := List.mem_map.mp hp
    exact (nums (hn n h)).l3
  rw [List.length_map] at this
  omega
def sp__law_text : Spw := fun ws G Q E => ∃ (n : Nat) (ls : List Ln) (ks : List Wk) (s : Option Sto) (hs : List (List Wnt)), ws = [houseW n ls ks s hs] ∧ (House n ls ks s hs) ∧ Q (tW (textC n ls ks s hs)) G
theorem len__law_text (ws G Q E) (h : sp__law_text ws G Q E) : ws.length = 1 := by obtain ⟨_, _, _, _, _, rfl, _⟩ := h; rfl
/-- slots: _law_house_here 0, _law_net_here 1, _law_works 2, _law_store_here 3, _law_hours 4, _law_rows 5, _law_line 6, _law_place 7, _law_least 8, _law_keep 9, _law_pieces 10, _law_start 11, _law_stay 12, _law_rest 13, _law_was 14, _law_words 15, _law_wants_here 16, _law_number 17, _law_width 18, _law_price 19, _law_want 20 -/
def t__law_text_b1 : TSw := (wDrop (wBM wM_append (wVar 5) (wCons (wOp wAdd (wC (.str "line ")) (wTx wJoinT (wC (.str " ")) (wLc [17] (iSeqW (wVar 6)) (gN 17) wYes (wCB wStrI (wCons (wVar 17) wNil))))) wNil)))
def t__law_text_b2 : TSw := (wSeq (wAsg (wOp wAdd (wLc [17] (iSeqW (wTup (wCons (wVar 7) (wCons (wVar 8) (wCons (wVar 9) (wCons (wVar 11) (wCons (wVar 12) (wCons (wVar 13) wNil)))))))) (gN 17) wYes (wCB wStrI (wCons (wVar 17) wNil))) (wLst (wCons (wOp wIx (wLst (wCons (wC (.str "off")) (wCons (wC (.str "on")) wNil))) (wCB wInt (wCons (wVar 14) wNil))) wNil))) (gN 15))
    (wSeq (wAsg (wOp wAdd (wVar 15) (wLc [18, 19] (iSeqW (wVar 10)) (gT 2 (gsC (gN 18) (gsC (gN 19) gsN))) wYes (wOp wAdd (wOp wAdd (wCB wStrI (wCons (wVar 18) wNil)) (wC (.str ":"))) (wCB wStrI (wCons (wVar 19) wNil))))) (gN 15))
    (wDrop (wBM wM_append (wVar 5) (wCons (wOp wAdd (wC (.str "work ")) (wTx wJoinT (wC (.str " ")) (wVar 15))) wNil)))))
def t__law_text_b3 : TSw := (wDrop (wBM wM_append (wVar 5) (wCons (wTx wJoinT (wC (.str " ")) (wOp wAdd (wLst (wCons (wC (.str "hour")) wNil)) (wLc [20] (iSeqW (wVar 16)) (gN 20) wYes (wTx wJoinT (wC (.str ":")) (wLc [17] (iSeqW (wVar 20)) (gN 17) wYes (wCB wStrI (wCons (wVar 17) wNil))))))) wNil)))
def t__law_text_r1 : TSw := (wRet (wTx wJoinT (wC (.str "\n")) (wVar 5)))
def t__law_text_r2 : TSw := (wSeq (wFor [true, true, true, true, true, false, true, true, true, true, true, true, true, true, true, true, true, true, true, true, true] (iSeqW (wVar 4)) (gN 16) t__law_text_b3)
    t__law_text_r1)
def t__law_text_r3 : TSw := (wSeq (wIfS (wTest (wNotN (wVar 3))) (wDrop (wBM wM_append (wVar 5) (wCons (wOp wAdd (wC (.str "store ")) (wTx wJoinT (wC (.str " ")) (wLc [17] (iSeqW (wVar 3)) (gN 17) wYes (wCB wStrI (wCons (wVar 17) wNil))))) wNil))) wNext)
    t__law_text_r2)
def t__law_text_r4 : TSw := (wSeq (wFor [true, true, true, false, false, false, true, true, true, true, true, true, true, true, true, true, true, true, true, true, true] (iSeqW (wVar 2)) (gT 8 (gsC (gN 7) (gsC (gN 8) (gsC (gN 9) (gsC (gN 10) (gsC (gN 11) (gsC (gN 12) (gsC (gN 13) (gsC (gN 14) gsN))))))))) t__law_text_b2)
    t__law_text_r3)
def t__law_text : TSw := (wSeq (wAsg (wVar 0) (gT 4 (gsC (gN 1) (gsC (gN 2) (gsC (gN 3) (gsC (gN 4) gsN))))))
    (wSeq (wAsg (wLstM (wCons (wOp wAdd (wC (.str "net ")) (wCB wStrI (wCons (wOp wIx (wVar 1) (wC (.int 0))) wNil))) wNil)) (gN 5))
    (wSeq (wFor [true, true, false, false, false, false, true, true, true, true, true, true, true, true, true, true, true, true, true, true, true] (iSeqW (wOp wIx (wVar 1) (wC (.int 1)))) (gN 6) t__law_text_b1)
    t__law_text_r4)))
theorem rd__law_text (ws : List W) (G : Gp) (Q : QW) (E) (h : sp__law_text ws G Q E) : t__law_text { nx := fun _ G' => Q .non G', rt := Cl Q } (startW ["_law_house_here", "_law_net_here", "_law_works", "_law_store_here", "_law_hours", "_law_rows", "_law_line", "_law_place", "_law_least", "_law_keep", "_law_pieces", "_law_start", "_law_stay", "_law_rest", "_law_was", "_law_words", "_law_wants_here", "_law_number", "_law_width", "_law_price", "_law_want"] ws) G := by
  obtain ⟨n, ls, ks, s, hs, rfl, h, q⟩ := h
  show t__law_text _ [some (houseW n ls ks s hs), none, none, none, none, none, none, none, none, none, none, none, none, none, none, none, none, none, none, none, none] G
  unfold t__law_text
  walk_at "w"
  have big : 16000000 < sizeLine := by rw [sizeLine_eq]; omega
  have n4 := h.net.n4
  walk_at "t"
  rw [e_netsp, nC_S, SX.S_cat, S_len, S_len]
  have nl := (nums (show n ≤ 100 by omega)).l3
  refine ⟨log2_small (by omega), by simp [cNet]; omega, by omega, fun p hp => ?_⟩
  rw [show cNet ++ [32] ++ nC n = J 32 (netWs n) by unfold netWs; rw [J_cons (by simp), List.append_assoc]; rfl]
  refine forW_ix (fun k σ G1 => G1 = gup G p (.lst (tW (J 32 (netWs n)) :: (ls.take k).map fun l => tW (J 32 (lineWs l)))) ∧ σ = [none, none, some (W.tup (List.map (fun k => workW k) ks)), some (storeW s), some (W.tup (List.map (fun vs => wantsW vs) hs)), some (W.ref p), none, none, none, none, none, none, none, none, none, none, none, none, none, none, none]) _ 0 _ _ ⟨rfl, rfl⟩ ?_ ?_
  · rintro k w hw σ G1 N ⟨rfl, rfl⟩ hN
    rw [Nat.zero_add k] at hN
    rw [Nat.zero_add k]
    rw [show linesW ls = ls.map fun l => lineW l from rfl, List.getElem?_map] at hw
    by_cases hk : k < ls.length
    · rw [List.getElem?_eq_getElem hk] at hw
      injection hw with hw
      subst hw
      have ns := line_ns (h.net.ok _ (List.getElem_mem hk)) n4
      have few := h.net.few
      rw [List.take_succ_eq_append_getElem hk, List.map_append] at hN
      generalize ls[k] = l at ns hN ⊢
      unfold t__law_text_b1
      walk_at "t"
      have l4 : l.a ≤ 100 ∧ l.b ≤ 100 ∧ l.s ≤ 100 ∧ l.m ≤ 100 := ⟨ns _ (by simp [lineNs]), ns _ (by simp [lineNs]), ns _ (by simp [lineNs]), ns _ (by simp [lineNs])⟩
      refine ⟨by omega, log2_small (by omega), log2_small (by omega), log2_small (by omega), log2_small (by omega), ?_⟩
      rw [nC_S, nC_S, nC_S, nC_S, e_sp]
      refine strJ (ns := lineNs l) ns (by simp [lineNs]) ?_
      have jl := J_few (c := 32) ns (by simp [lineNs])
      rw [e_linesp, wAdd_str, row_txt _ (by simp [lineNs]), S_len, S_len, gup_same, isG_lst, gup_gup]
      refine ⟨by have : (cLine ++ [32]).length = 5 := rfl; omega, by simp; omega, hN _ _ ⟨?_, rfl⟩⟩
      rfl
    · rw [List.getElem?_eq_none (by omega)] at hw; cases hw
  · rintro σ G1 ⟨rfl, rfl⟩
    unfold t__law_text_r4
    walk_at "t"
    have few := h.net.few
    obtain ⟨kf, h1, h3⟩ := h.few
    rw [List.take_length]
    generalize hA : tW (J 32 (netWs n)) :: (ls.map fun l => tW (J 32 (lineWs l))) = A1
    have lA : A1.length ≤ 7 := by rw [← hA]; simp; omega
    refine forW_ix (fun k σ G1 => G1 = gup G p (.lst (A1 ++ (ks.take k).map fun x => tW (J 32 (workWs x)))) ∧ σ = [none, none, none, some (storeW s), some (W.tup (List.map (fun vs => wantsW vs) hs)), some (W.ref p), none, none, none, none, none, none, none, none, none, none, none, none, none, none, none]) _ 0 _ _ ⟨by simp, rfl⟩ ?_ ?_
    · rintro k w hw σ G1 N ⟨rfl, rfl⟩ hN
      rw [Nat.zero_add k] at hN
      rw [Nat.zero_add k]
      rw [List.getElem?_map] at hw
      by_cases hk : k < ks.length
      · rw [List.getElem?_eq_getElem hk] at hw
        injection hw with hw
        subst hw
        have ok := h.works _ (List.getElem_mem hk)
        have ns := work_ns ok n4
        rw [List.take_succ_eq_append_getElem hk, List.map_append] at hN
        generalize ks[k] = x at ok ns hN ⊢
        unfold t__law_text_b2
        walk_at "t"
        have w6 : x.p ≤ 100 ∧ x.least ≤ 100 ∧ x.keep ≤ 100 ∧ x.start ≤ 100 ∧ x.e1 ≤ 100 ∧ x.e2 ≤ 100 := ⟨ns _ (by simp [workNs]), ns _ (by simp [workNs]), ns _ (by simp [workNs]), ns _ (by simp [workNs]), ns _ (by simp [workNs]), ns _ (by simp [workNs])⟩
        have eo : L2.atI [W.str (Str.ofString "off"), W.str (Str.ofString "on")] (if x.on = true then 1 else 0) = some (tW (if x.on then cOn else cOff)) := by
          rw [show Str.ofString "off" = SX.S cOff from e_off, show Str.ofString "on" = SX.S cOn from e_on]
          cases x.on <;> rfl
        rw [eo, isS_some]
        have pf := ok.few
        refine ⟨by omega, by omega, log2_small (by omega), log2_small (by omega), log2_small (by omega), log2_small (by omega), log2_small (by omega), log2_small (by omega), by omega, by omega, by omega, by omega, ?_⟩
        refine lcW_m (fun v => pieceW v) (fun v => tW (pieceC v)) x.pieces _ ?_ ?_
        · intro v hv P hP
          have pv := ok.pieces v hv
          have a1 := (nums (show v.1 ≤ 100 by omega)).l3
          have a2 := (nums (show v.2 ≤ 100 by omega)).l3
          walk_at "w"
          rw [nC_S, nC_S, e_co, SX.S_cat, SX.S_cat, S_len, S_len, S_len, S_len]
          have e : nC v.1 ++ [58] ++ nC v.2 = pieceC v := by
            unfold pieceC
            rw [List.map_cons, J_cons (by simp), List.append_assoc]; rfl
          rw [e]
          refine ⟨log2_small (by omega), by simp; omega, log2_small (by omega), by simp; omega, hP⟩
        rw [nC_S, nC_S, nC_S, nC_S, nC_S, nC_S, e_sp, List.length_map]
        refine ⟨by omega, by rw [asL_at gup_same]; rfl, ?_⟩
        have ow : ((if x.on then cOn else cOff) : List Nat).length ≤ 3 := by cases x.on <;> decide
        have pc : ∀ v ∈ x.pieces, (pieceC v).length ≤ 12 := fun v hv => by have := piece_len ok hv; omega
        have ew : workWs x = cWork :: ((workNs x).map nC ++ (if x.on then cOn else cOff) :: x.pieces.map pieceC) := rfl
        have bl : ∀ w ∈ (workNs x).map nC ++ (if x.on then cOn else cOff) :: x.pieces.map pieceC, w.length ≤ 12 := fun w hw => by
          rcases List.mem_append.mp hw with hw | hw
          · obtain ⟨y, hy, rfl⟩ := List.mem_map.mp hw
            have := (nums (ns y hy)).l3
            omega
          · rcases List.mem_cons.mp hw with rfl | hw
            · omega
            · obtain ⟨v, hv, rfl⟩ := List.mem_map.mp hw
              exact pc v hv
        have ll : ((workNs x).map nC ++ (if x.on then cOn else cOff) :: x.pieces.map pieceC).length = 7 + x.pieces.length := by simp [workNs]; omega
        refine joinT (b := 12) (ps := (workNs x).map nC ++ (if x.on then cOn else cOff) :: x.pieces.map pieceC) (by unfold workNs; simp [seqs, asL]) bl (by rw [ll]; omega) ?_
        have jl := J_len (c := 32) bl
        rw [ll] at jl
        rw [e_worksp, wAdd_str, row_txt _ (by simp), S_len, S_len, gup_same, isG_lst, gup_gup, ← ew]
        refine ⟨by have : (cWork ++ [32]).length = 5 := rfl; omega, by simp; omega, hN _ _ ⟨?_, rfl⟩⟩
        simp
      · rw [List.getElem?_eq_none (by omega)] at hw; cases hw
    · rintro σ G1 ⟨rfl, rfl⟩
      rw [Nat.zero_add, List.length_map, List.take_length]
      unfold t__law_text_r3
      walk_at "t"
      have rest : ∀ B : List W, B = A1 ++ (ks.map fun x => tW (J 32 (workWs x))) ++ (stoWs s).map (fun r => tW (J 32 r)) → t__law_text_r2 { nx := fun x G' => Q W.non G', rt := Cl Q }
          [none, none, none, some (storeW s), some (W.tup (List.map (fun vs => wantsW vs) hs)), some (W.ref p), none, none, none, none, none, none, none, none, none, none, none, none, none, none, none] (gup G p (.lst B)) := by
        rintro B rfl
        unfold t__law_text_r2
        walk_at "t"
        have sl := sto_len s
        generalize hB : A1 ++ (ks.map fun x => tW (J 32 (workWs x))) ++ (stoWs s).map (fun r => tW (J 32 r)) = B1
        have lB : B1.length ≤ 11 := by rw [← hB]; simp; omega
        refine forW_ix (fun k σ G1 => G1 = gup G p (.lst (B1 ++ (hs.take k).map fun vs => tW (J 32 (hourWs vs)))) ∧ σ = [none, none, none, none, none, some (W.ref p), none, none, none, none, none, none, none, none, none, none, none, none, none, none, none]) _ 0 _ _ ⟨by simp, rfl⟩ ?_ ?_
        · rintro k w hw σ G1 N ⟨rfl, rfl⟩ hN
          rw [Nat.zero_add k] at hN
          rw [Nat.zero_add k]
          rw [List.getElem?_map] at hw
          by_cases hk : k < hs.length
          · rw [List.getElem?_eq_getElem hk] at hw
            injection hw with hw
            subst hw
            obtain ⟨a, b⟩ := h.wants _ (List.getElem_mem hk)
            rw [List.take_succ_eq_append_getElem hk, List.map_append] at hN
            generalize hs[k] = vs at a b hN ⊢
            unfold t__law_text_b3
            walk_at "t"
            have bl : ∀ w ∈ hourWs vs, w.length ≤ 12 := fun w hw => by
              rcases List.mem_cons.mp hw with rfl | hw
              · decide
              · obtain ⟨v, hv, rfl⟩ := List.mem_map.mp hw
                exact want_len (b v hv) n4
            refine ⟨by omega, by omega, ?_⟩
            refine lcW_m (fun v => wantW v) (fun v => tW (wantC v)) vs _ ?_ ?_
            · intro v hv P hP
              obtain ⟨o1, o2, o3⟩ := b v hv
              walk_at "t"
              rw [nC_S, nC_S, nC_S, e_co]
              have hn : ∀ x ∈ [v.1, v.2.1, v.2.2], x ≤ 100 := fun x hx => by
                simp only [List.mem_cons, List.not_mem_nil, or_false] at hx
                rcases hx with rfl | rfl | rfl <;> omega
              exact ⟨by omega, log2_small (by omega), log2_small (by omega), log2_small (by omega), strJ (ns := [v.1, v.2.1, v.2.2]) hn (by simp) hP⟩
            rw [e_sp, e_hour]
            refine ⟨by rw [List.length_map]; omega, ?_⟩
            refine joinT (b := 12) (ps := hourWs vs) (by unfold hourWs; rw [List.map_cons, List.map_map]; rfl) bl (by unfold hourWs; rw [List.length_cons, List.length_map]; omega) ?_
            rw [gup_same, isG_lst, gup_gup]
            refine ⟨by simp; omega, hN _ _ ⟨?_, rfl⟩⟩
            simp
          · rw [List.getElem?_eq_none (by omega)] at hw; cases hw
        · rintro σ G1 ⟨rfl, rfl⟩
          rw [Nat.zero_add, List.length_map, List.take_length]
          unfold t__law_text_r1
          walk_at "t"
          have rf := rows_few h
          have e : B1 ++ (hs.map fun vs => tW (J 32 (hourWs vs))) = (rowsWs n ls ks s hs).map fun r => tW (J 32 r) := by
            rw [← hB, ← hA]
            unfold rowsWs
            simp only [List.map_cons, List.map_append, List.map_map, List.cons_append, List.append_assoc, Function.comp_def]
          rw [e, e_nl]
          refine joinT (b := 130) (ps := (rowsWs n ls ks s hs).map (J 32)) (by rw [show ∀ G : Gp, seqs G (.ref p) = asL G (.ref p) from fun _ => rfl, asL_at gup_same, List.map_map]; rfl) (row_len h) (by rw [List.length_map]; omega) ?_
          exact Cl.drop hp q
      cases s with
      | none =>
        refine Eq.mpr (if_neg (by decide)) ?_
        refine rest _ ?_
        simp [stoWs]
      | some t =>
        have ns := store_ns (h.store t rfl) n4
        refine Eq.mpr (if_pos rfl) ?_
        unfold storeW
        walk_at "t"
        have w5 : t.p ≤ 100 ∧ t.top ≤ 100 ∧ t.lev ≤ 100 ∧ t.taken ≤ 100 ∧ t.given ≤ 100 := ⟨ns _ (by simp [storeNs]), ns _ (by simp [storeNs]), ns _ (by simp [storeNs]), ns _ (by simp [storeNs]), ns _ (by simp [storeNs])⟩
        refine ⟨by omega, log2_small (by omega), log2_small (by omega), log2_small (by omega), log2_small (by omega), log2_small (by omega), ?_⟩
        rw [nC_S, nC_S, nC_S, nC_S, nC_S, e_sp]
        refine strJ (ns := storeNs t) ns (by simp [storeNs]) ?_
        have jl := J_few (c := 32) ns (by simp [storeNs])
        rw [e_storesp, wAdd_str, row_txt _ (by simp [storeNs]), S_len, S_len, gup_same, isG_lst, gup_gup]
        refine ⟨by have : (cStore ++ [32]).length = 6 := rfl; omega, by simp; omega, ?_⟩
        exact rest _ rfl
/-! ### plain things -/
def plB : Nat → W → Bool
  | 0, _ => false
  | k + 1, .tup ws => decide (ws.length ≤ 1000) && ws.all (plB k)
  | _ + 1, .non => true
  | _ + 1, .bl _ => true
  | _ + 1, .int _ => true
  | _ + 1, _ => false
theorem all_true' {ws : List W} : (ws.map fun _ => W.bl true) = (ws.map fun _ => true).map W.bl := by rw [List.map_map]; rfl
def spr__law_is_plain : Nat → Spw
  | 0 => fun _ _ _ _ => False
  | k + 1 => fun ws G Q _ => ∃ w, ws = [w] ∧ plB (k + 1) w = true ∧ Q (.bl true) G
abbrev sp__law_is_plain : Spw := spr__law_is_plain 8
theorem len__law_is_plain (n : Nat) (ws G Q E) (h : spr__law_is_plain (n + 1) ws G Q E) : ws.length = 1 := by obtain ⟨_, rfl, _⟩ := h; rfl
/-- slots: _law_thing 0, _law_one 1 -/
def t__law_is_plain (sr : Spw) : TSw := (wSeq (wIfS (wTest (wUn (wIsi .tuple) (wVar 0))) (wRet (wCB wAll (wCons (wLc [1] (iSeqW (wVar 0)) (gN 1) wYes (wCall sr (wCons (wVar 1) wNil))) wNil))) wNext)
    (wRet (wOrV (wIsN (wVar 0)) (wUn (wIsi .int) (wVar 0)))))
theorem rd__law_is_plain (n : Nat) (ws : List W) (G : Gp) (Q : QW) (E) (h : spr__law_is_plain (n + 1) ws G Q E) : t__law_is_plain (spr__law_is_plain n) { nx := fun _ G' => Q .non G', rt := Cl Q } (startW ["_law_thing", "_law_one"] ws) G := by
  obtain ⟨w, rfl, h, q⟩ := h
  have big : 1000 < sizeLine := by decide
  show t__law_is_plain _ _ [some w, none] G
  unfold t__law_is_plain
  cases w with
  | tup ws =>
    simp only [plB, Bool.and_eq_true, decide_eq_true_eq, List.all_eq_true] at h
    obtain ⟨l, a⟩ := h
    walk_at "w"
    refine ⟨by omega, ?_⟩
    have e : ws = ws.map fun w => w := by simp
    rw [e]
    refine lcW_m (fun w : W => w) (fun _ => .bl true) ws _ ?_ ?_
    · intro w hw P hP
      have := a w hw
      walk_at "w"
      cases n with
      | zero => simp [plB] at this
      | succ n => exact ⟨w, rfl, this, hP⟩
    refine ⟨ws.map fun _ => true, all_true', ?_⟩
    rw [all_tr]
    exact .inl q
  | non => walk_at "w"; exact .inl q
  | bl b => walk_at "w"; exact .inl q
  | int i => walk_at "w"; exact .inl q
  | _ => simp [plB] at h
theorem house_plain {n : Nat} {ls : List Ln} {ks : List Wk} {s : Option Sto} {hs : List (List Wnt)} (h : House n ls ks s hs) : plB 8 (houseW n ls ks s hs) = true := by
  have tup : ∀ (k : Nat) (ws : List W), ws.length ≤ 1000 → (∀ w ∈ ws, plB k w = true) → plB (k + 1) (.tup ws) = true := fun k ws l h => by
    simp only [plB, Bool.and_eq_true, decide_eq_true_eq, List.all_eq_true]
    exact ⟨l, h⟩
  have few := h.net.few
  have f := h.few
  have net : plB 7 (netW n ls) = true := tup _ _ (by simp) fun w hw => by
    simp only [List.mem_cons, List.not_mem_nil, or_false] at hw
    rcases hw with rfl | rfl
    · rfl
    · refine tup _ _ (by rw [List.length_map]; omega) fun w hw => ?_
      obtain ⟨l, _, rfl⟩ := List.mem_map.mp hw
      rfl
  have works : plB 7 (.tup (ks.map fun k => workW k)) = true := tup _ _ (by rw [List.length_map]; omega) fun w hw => by
    obtain ⟨k, hk, rfl⟩ := List.mem_map.mp hw
    have := (h.works k hk).few
    refine tup _ _ (by simp) fun w hw => ?_
    simp only [List.mem_cons, List.not_mem_nil, or_false] at hw
    rcases hw with rfl | rfl | rfl | rfl | rfl | rfl | rfl | rfl <;> try rfl
    refine tup _ _ (by rw [List.length_map]; omega) fun w hw => ?_
    obtain ⟨v, _, rfl⟩ := List.mem_map.mp hw
    rfl
  have store : plB 7 (storeW s) = true := by cases s <;> rfl
  have wants : plB 7 (.tup (hs.map fun vs => wantsW vs)) = true := tup _ _ (by rw [List.length_map]; omega) fun w hw => by
    obtain ⟨vs, hvs, rfl⟩ := List.mem_map.mp hw
    have := (h.wants vs hvs).1
    refine tup _ _ (by rw [List.length_map]; omega) fun w hw => ?_
    obtain ⟨v, _, rfl⟩ := List.mem_map.mp hw
    rfl
  refine tup _ _ (by simp) fun w hw => ?_
  simp only [List.mem_cons, List.not_mem_nil, or_false] at hw
  rcases hw with rfl | rfl | rfl | rfl
  · exact net
  · exact works
  · exact store
  · exact wants
theorem wD_house (n : Nat) (ls : List Ln) (ks : List Wk) (s : Option Sto) (hs : List (List Wnt)) : wD 5 (houseW n ls ks s hs) := wD_tup (d := 4) fun w hw => by
  simp only [List.mem_cons, List.not_mem_nil, or_false] at hw
  rcases hw with rfl | rfl | rfl | rfl
  · exact wD_mono (wD_net n ls) (by decide)
  · refine wD_tup (d := 3) fun w hw => ?_
    obtain ⟨k, _, rfl⟩ := List.mem_map.mp hw
    have pc : wD 2 (.tup (k.pieces.map fun v => pieceW v)) := wD_tup (d := 1) fun w hw => by
      obtain ⟨v, _, rfl⟩ := List.mem_map.mp hw
      exact wD_tup (d := 0) fun w hw => by
        simp only [List.mem_cons, List.not_mem_nil, or_false] at hw
        rcases hw with rfl | rfl <;> exact wD_int
    refine wD_tup (d := 2) fun w hw => ?_
    simp only [List.mem_cons, List.not_mem_nil, or_false] at hw
    rcases hw with rfl | rfl | rfl | rfl | rfl | rfl | rfl | rfl <;> first | exact wD_mono wD_int (by decide) | exact wD_mono wD_bl (by decide) | exact pc
  · cases s with
    | none => exact wD_mono wD_non (by decide)
    | some t => exact wD_mono (wD_tup (d := 0) fun w hw => by
        simp only [List.mem_cons, List.not_mem_nil, or_false] at hw
        rcases hw with rfl | rfl | rfl | rfl | rfl <;> exact wD_int) (by decide)
  · exact wD_mono (wD_tup (d := 2) fun w hw => by
      obtain ⟨vs, _, rfl⟩ := List.mem_map.mp hw
      refine wD_tup (d := 1) fun w hw => ?_
      obtain ⟨v, _, rfl⟩ := List.mem_map.mp hw
      exact wD_tup (d := 0) fun w hw => by
        simp only [List.mem_cons, List.not_mem_nil, or_false] at hw
        rcases hw with rfl | rfl | rfl <;> exact wD_int) (by decide)
/-- slots: _law_script 0, _law_k 1, _law_house_here 2, _law_text_here 3, _law_turn 4, _law_found 5, _law_work_here 6 -/
def t_law_b1 : TSw := (wSeq (wAsg (wCall sp_read_house (wCons (wVar 3) wNil)) (gN 5))
    (wSeq (wIfS (wOr (wTest (wOp wNe (wVar 5) (wVar 2))) (wNot (wTest (wCall sp__law_is_plain (wCons (wVar 5) wNil))))) (wRet (wC (.bl false))) wNext)
    (wIfS (wTest (wOp wNe (wLc [6] (iSeqW (wOp wIx (wVar 5) (wC (.int 1)))) (gN 6) wYes (wUn (wIsi .bool) (wOp wIx (wVar 6) (wC (.int 7))))) (wLc [6] (iSeqW (wOp wIx (wVar 2) (wC (.int 1)))) (gN 6) wYes (wC (.bl true))))) (wRet (wC (.bl false))) wNext)))
def t_law_b2 : TSw := (wSeq (wAsg (wCall sp__law_house (wCons (wCall sp__law_bag (wCons (wVar 0) (wCons (wVar 1) wNil))) wNil)) (gN 2))
    (wSeq (wAsg (wCall sp_show_house (wCons (wVar 2) wNil)) (gN 3))
    (wSeq (wIfS (wOr (wNot (wTest (wUn (wIsi .str) (wVar 3)))) (wTest (wOp wNe (wVar 3) (wCall sp__law_text (wCons (wVar 2) wNil))))) (wRet (wC (.bl false))) wNext)
    (wFor [false, true, false, false, true, true, true] (iR1 (wCons (wC (.int 2)) wNil)) (gN 4) t_law_b1))))
def t_law : TSw := (wSeq (wFor [false, true, true, true, true, true, true] (iR1 (wCons (wCB (wI2N fun i j => .int (if j > i then j else i)) (wCons (wC (.int 1)) (wCons (wCB (wI2N fun i j => .int (if j < i then j else i)) (wCons (wC (.int 3)) (wCons (wCB wLen (wCons (wVar 0) wNil)) wNil))) wNil))) wNil)) (gN 1) t_law_b2)
    (wRet (wC (.bl true))))
theorem rd_law (ws : List W) (G : Gp) (Q : QW) (E) (h : sp_law ws G Q E) : t_law { nx := fun _ G' => Q .non G', rt := Cl Q } (startW ["_law_script", "_law_k", "_law_house_here", "_law_text_here", "_law_turn", "_law_found", "_law_work_here"] ws) G := by
  obtain ⟨ns, rfl, hl, q⟩ := h
  show t_law _ [some (.scr (ns.map W.int)), none, none, none, none, none, none] G
  unfold t_law
  walk_at "w"
  have big : 1000 < sizeLine := by decide
  refine ⟨by omega, by split <;> (try split) <;> omega, ?_⟩
  refine forW_inv (fun σ _ => σ = [some (.scr (ns.map W.int)), none, none, none, none, none, none]) _ _ _ rfl ?_ ?_
  · rintro w hw σ G1 N rfl hN
    obtain ⟨i, hi, rfl⟩ := rangeW_mem hw
    have hi6 : i < 7 := by
      have := hi
      split at this <;> (try split at this) <;> omega
    unfold t_law_b2
    walk_at "w"
    refine bag_up hl (by omega) (by omega) fun p G2 hp b2 o2 => ?_
    walk_at "w"
    refine ⟨p, rfl, b2, fun n ls ks s hs G3 h u3 => ?_⟩
    obtain ⟨kf, h1, h3⟩ := h.few
    walk_at "w"
    refine ⟨n, ls, ks, s, hs, rfl, h, ?_⟩
    walk_at "w"
    refine ⟨n, ls, ks, s, hs, rfl, h, ?_⟩
    walk_at "w"
    try rw [if_neg (by simp)]
    refine ⟨by decide, by decide, ?_⟩
    have wd := wD_house n ls ks s hs
    refine forW_inv (fun σ G4 => σ = [some (.scr (ns.map W.int)), none, some (houseW n ls ks s hs), some (tW (textC n ls ks s hs)), none, none, none]) _ _ _ rfl ?_ ?_
    · rintro w hw σ G4 N2 rfl hN2
      unfold t_law_b1
      walk_at "w"
      refine ⟨n, ls, ks, s, hs, rfl, h, ?_⟩
      walk_at "w"
      rw [weqb_self wd, if_neg (by decide)]
      refine ⟨wOk_of wd (by decide), wOk_of wd (by decide), houseW n ls ks s hs, rfl, house_plain h, ?_⟩
      walk_at "w"
      refine ⟨by omega, ?_⟩
      refine lcW_m (fun k : Wk => workW k) (fun _ => .bl true) ks _ ?_ ?_
      · intro k hk P hP
        walk_at "w"
        exact hP
      refine ⟨by omega, ?_⟩
      refine lcW_m (fun k : Wk => workW k) (fun _ => .bl true) ks _ ?_ ?_
      · intro k hk P hP
        walk_at "w"
        exact hP
      have wl : wD 1 (.lst (ks.map fun _ => W.bl true)) := wD_lst (d := 0) fun w hw => by
        obtain ⟨k, _, rfl⟩ := List.mem_map.mp hw
        exact wD_bl
      rw [weqb_self wl, if_neg (by decide)]
      exact ⟨wOk_of wl (by decide), wOk_of wl (by decide), hN2 _ _ rfl⟩
    · rintro σ G4 rfl
      exact hN _ _ rfl
  · rintro σ G1 rfl
    walk_at "w"
    exact .inl (q _)
end WL
namespace WL
open PySem PySem.Spec PyProof.Rows L2
/-! ## the text -/
def topS (i : Nat) : Stmt := PySem.Challenge.pw_mainskeep_k70_houses_written.main.body.getD i (.Pass ⟨0, 0, 0, 0⟩)
section
variable {P : Program} {w : World} {K : PySem.W.Frag} {mg : Str → Option Value} {base : Heap}
abbrev sD_is_whole : Stmt := topS 5
theorem sc_is_whole : FnScope ["thing"] ["thing"] (defScope sD_is_whole) := ⟨rfl, rfl, rfl, by decide +kernel, rfl, by decide +kernel, by decide +kernel⟩
theorem ok_is_whole {f : Addr} {fd : FuncData} (F : Fun K "is_whole" "is_whole" sD_is_whole f fd) (seer : base.NoSeer) (tree : P.given.tree = none) (m_isinstance : mg "isinstance" = none) (m_int : mg "int" = none) (m_bool : mg "bool" = none) : FnOk P w K mg base CX0 (40 + 1) f fd ["thing"] (liftSp K sp_is_whole) := by
  refine okW F sc_is_whole seer tree (by decide) (fun ws G Q E h => ?_) (fun cdv A outer s H E hr hd => ⟨t_is_whole, ?_, rd_is_whole⟩)
  · exact len_is_whole ws G Q E h
  · exact (qs_one (qret (qandV (qisi (k := .int) (by decide) (by decide +kernel) (by decide) (by decide) rfl m_isinstance rfl m_int (qv 0)) (qone (qnotV (qisi (k := .bool) (by decide) (by decide +kernel) (by decide) (by decide) rfl m_isinstance rfl m_bool (qv 0)))))))
abbrev sD_hangs_together : Stmt := topS 13
theorem sc_hangs_together : FnScope ["many", "lines", "met", "left", "place", "one", "other", "stiffness", "most", "there"] ["many", "lines"] (defScope sD_hangs_together) := ⟨rfl, rfl, rfl, by decide +kernel, rfl, by decide +kernel, by decide +kernel⟩
theorem ok_hangs_together {f : Addr} {fd : FuncData} (F : Fun K "hangs_together" "hangs_together" sD_hangs_together f fd) (seer : base.NoSeer) (tree : P.given.tree = none) (m_len : mg "len" = none) : FnOk P w K mg base CX0 (40 + 1) f fd ["many", "lines"] (liftSp K sp_hangs_together) := by
  refine okW F sc_hangs_together seer tree (by decide) (fun ws G Q E h => ?_) (fun cdv A outer s H E hr hd => ⟨t_hangs_together, ?_, rd_hangs_together⟩)
  · exact len_hangs_together ws G Q E h
  · exact (qs_cons (qset (i := 2) sc_hangs_together.nd rfl (he := (qlstM (qa_cons qint qa_nil))))
    (qs_cons (qset (i := 3) sc_hangs_together.nd rfl (he := (qlstM (qa_cons qint qa_nil))))
    (qs_cons (qwhile (ks := [false, false, false, false, true, true, true, true, true, true]) PassesOwn.never (qtne hr (qv 3) (qlst qa_nil)) (qs_cons (qset (i := 4) sc_hangs_together.nd rfl (he := (qm_pop (qv 3))))
    (qs_one (qfor (ks := [false, false, false, false, false, true, true, true, true, true]) PassesOwn.never rfl (qiseq (qv 1)) (qgT rfl (qgs_cons (qgN (i := 5) sc_hangs_together.nd rfl) (qgs_cons (qgN (i := 6) sc_hangs_together.nd rfl) (qgs_cons (qgN (i := 7) sc_hangs_together.nd rfl) (qgs_cons (qgN (i := 8) sc_hangs_together.nd rfl) qgs_nil))))) (qs_one (qif (qtin (qv 4) (qtup (qa_cons (qv 5) (qa_cons (qv 6) qa_nil)))) (qs_cons (qset (i := 9) sc_hangs_together.nd rfl (he := (qsub (qadd (qv 5) (qv 6)) (qv 4))))
    (qs_one (qif (qtnin (qv 9) (qv 2)) (qs_cons (qexpr (qm_append (qv 2) (qa_cons (qv 9) qa_nil)))
    (qs_one (qexpr (qm_append (qv 3) (qa_cons (qv 9) qa_nil))))) qs_nil))) qs_nil))))))
    (qs_one (qret (qeq hr (qlen rfl m_len (qa_cons (qv 2) qa_nil)) (qv 0)))))))
abbrev sD_is_row_of : Stmt := topS 26
theorem sc_is_row_of : FnScope ["thing", "least", "most"] ["thing", "least", "most"] (defScope sD_is_row_of) := ⟨rfl, rfl, rfl, by decide +kernel, rfl, by decide +kernel, by decide +kernel⟩
theorem ok_is_row_of {f : Addr} {fd : FuncData} (F : Fun K "is_row_of" "is_row_of" sD_is_row_of f fd) (seer : base.NoSeer) (tree : P.given.tree = none) (m_isinstance : mg "isinstance" = none) (m_tuple : mg "tuple" = none) (m_len : mg "len" = none) : FnOk P w K mg base CX0 (40 + 1) f fd ["thing", "least", "most"] (liftSp K sp_is_row_of) := by
  refine okW F sc_is_row_of seer tree (by decide) (fun ws G Q E h => ?_) (fun cdv A outer s H E hr hd => ⟨t_is_row_of, ?_, rd_is_row_of⟩)
  · exact len_is_row_of ws G Q E h
  · exact (qs_one (qret (qandV (qisi (k := .tuple) (by decide) (by decide +kernel) (by decide) (by decide) rfl m_isinstance rfl m_tuple (qv 0)) (qone (qlele (qv 1) (qlen rfl m_len (qa_cons (qv 0) qa_nil)) (qv 2))))))
abbrev sD_number_of : Stmt := topS 39
theorem sc_number_of : FnScope ["word", "sign"] ["word"] (defScope sD_number_of) := ⟨rfl, rfl, rfl, by decide +kernel, rfl, by decide +kernel, by decide +kernel⟩
theorem ok_number_of {f : Addr} {fd : FuncData} (F : Fun K "number_of" "number_of" sD_number_of f fd) (seer : base.NoSeer) (tree : P.given.tree = none) (m_len : mg "len" = none) (m_all : mg "all" = none) (m_int : mg "int" = none) (c_MOST_FIGURES : GlobW K mg "MOST_FIGURES" (.int 40)) (c_FIGURES : GlobW K mg "FIGURES" (.str "0123456789")) : FnOk P w K mg base CX0 (40 + 1) f fd ["word"] (liftSp K sp_number_of) := by
  refine okW F sc_number_of seer tree (by decide) (fun ws G Q E h => ?_) (fun cdv A outer s H E hr hd => ⟨t_number_of, ?_, rd_number_of⟩)
  · exact len_number_of ws G Q E h
  · exact (qs_cons (qif (qwt (qor (qnot (qtlele qint (qlen rfl m_len (qa_cons (qv 0) qa_nil)) (qglob rfl c_MOST_FIGURES))) (qor1 (qnot (qtv (qall rfl rfl m_all (qa_cons (qlc (own := [("sign", 1)]) rfl sc_number_of.nd (qistr (qv 0)) (blkOk_by (N := ["word", "sign"]) (sc := defScope sD_number_of) (by decide +kernel)) (gcN (i := 1) sc_number_of.nd rfl) (fun _ _ _ _ _ => qts_nil) (fun _ _ _ _ _ => (qinSg (qv 1) (qglob rfl c_FIGURES)))) qa_nil))))))) (qs_one (qret qnon)) qs_nil)
    (qs_cons (qif (qwt (qand (qteq hr (qix (qv 0) qint) qstr) (qand1 (qtgt (qlen rfl m_len (qa_cons (qv 0) qa_nil)) qint)))) (qs_one (qret qnon)) qs_nil)
    (qs_one (qret (qintT rfl m_int (qa_cons (qv 0) qa_nil))))))
abbrev sD_must_be : Stmt := topS 40
theorem sc_must_be : FnScope ["holds"] ["holds"] (defScope sD_must_be) := ⟨rfl, rfl, rfl, by decide +kernel, rfl, by decide +kernel, by decide +kernel⟩
theorem ok_must_be {f : Addr} {fd : FuncData} (F : Fun K "must_be" "must_be" sD_must_be f fd) (seer : base.NoSeer) (tree : P.given.tree = none) : FnOk P w K mg base CX0 (40 + 1) f fd ["holds"] (liftSp K sp_must_be) := by
  refine okW F sc_must_be seer tree (by decide) (fun ws G Q E h => ?_) (fun cdv A outer s H E hr hd => ⟨t_must_be, ?_, rd_must_be⟩)
  · exact len_must_be ws G Q E h
  · exact (qs_one (qif (qnot (qtv (qv 0))) (qs_one qnever) qs_nil))
abbrev sD_rows_with : Stmt := topS 48
theorem sc_rows_with : FnScope ["rows", "first", "many"] ["rows", "first"] (defScope sD_rows_with) := ⟨rfl, rfl, rfl, by decide +kernel, rfl, by decide +kernel, by decide +kernel⟩
theorem ok_rows_with {f : Addr} {fd : FuncData} (F : Fun K "rows_with" "rows_with" sD_rows_with f fd) (seer : base.NoSeer) (tree : P.given.tree = none) (m_len : mg "len" = none) : FnOk P w K mg base CX0 (40 + 1) f fd ["rows", "first"] (liftSp K sp_rows_with) := by
  refine okW F sc_rows_with seer tree (by decide) (fun ws G Q E h => ?_) (fun cdv A outer s H E hr hd => ⟨t_rows_with, ?_, rd_rows_with⟩)
  · exact len_rows_with ws G Q E h
  · exact (qs_cons (qset (i := 2) sc_rows_with.nd rfl (he := qint))
    (qs_cons (qwhile (ks := [false, false, false]) PassesOwn.never (qwt (qand (qtlt (qv 2) (qlen rfl m_len (qa_cons (qv 0) qa_nil))) (qand1 (qteq hr (qix (qix (qv 0) (qv 2)) qint) (qv 1))))) (qs_one (qaugA (i := 2) sc_rows_with.nd rfl (he := qint))))
    (qs_one (qret (qtup (qa_cons (qslice (qv 0) qp_none (qp_some (qv 2))) (qa_cons (qslice (qv 0) (qp_some (qv 2)) qp_none) qa_nil)))))))
abbrev sD_shown_row : Stmt := topS 51
theorem sc_shown_row : FnScope ["first", "numbers", "number"] ["first", "numbers"] (defScope sD_shown_row) := ⟨rfl, rfl, rfl, by decide +kernel, rfl, by decide +kernel, by decide +kernel⟩
theorem ok_shown_row {f : Addr} {fd : FuncData} (F : Fun K "shown_row" "shown_row" sD_shown_row f fd) (seer : base.NoSeer) (tree : P.given.tree = none) (m_str : mg "str" = none) : FnOk P w K mg base CX0 (40 + 1) f fd ["first", "numbers"] (liftSp K sp_shown_row) := by
  refine okW F sc_shown_row seer tree (by decide) (fun ws G Q E h => ?_) (fun cdv A outer s H E hr hd => ⟨t_shown_row, ?_, rd_shown_row⟩)
  · exact len_shown_row ws G Q E h
  · exact (qs_one (qret (qjoin qstr (qadd (qlst (qa_cons (qv 0) qa_nil)) (qlc (own := [("number", 2)]) rfl sc_shown_row.nd (qiseq (qv 1)) (blkOk_by (N := ["first", "numbers", "number"]) (sc := defScope sD_shown_row) (by decide +kernel)) (gcN (i := 2) sc_shown_row.nd rfl) (fun _ _ _ _ _ => qts_nil) (fun _ _ _ _ _ => (qstrI rfl m_str (qa_cons (qv 2) qa_nil))))))))
abbrev sD_colons : Stmt := topS 52
theorem sc_colons : FnScope ["numbers", "number"] ["numbers"] (defScope sD_colons) := ⟨rfl, rfl, rfl, by decide +kernel, rfl, by decide +kernel, by decide +kernel⟩
theorem ok_colons {f : Addr} {fd : FuncData} (F : Fun K "colons" "colons" sD_colons f fd) (seer : base.NoSeer) (tree : P.given.tree = none) (m_str : mg "str" = none) : FnOk P w K mg base CX0 (40 + 1) f fd ["numbers"] (liftSp K sp_colons) := by
  refine okW F sc_colons seer tree (by decide) (fun ws G Q E h => ?_) (fun cdv A outer s H E hr hd => ⟨t_colons, ?_, rd_colons⟩)
  · exact len_colons ws G Q E h
  · exact (qs_one (qret (qjoin qstr (qlc (own := [("number", 1)]) rfl sc_colons.nd (qiseq (qv 0)) (blkOk_by (N := ["numbers", "number"]) (sc := defScope sD_colons) (by decide +kernel)) (gcN (i := 1) sc_colons.nd rfl) (fun _ _ _ _ _ => qts_nil) (fun _ _ _ _ _ => (qstrI rfl m_str (qa_cons (qv 1) qa_nil)))))))
abbrev sD__law_bag : Stmt := topS 57
theorem sc__law_bag : FnScope ["_law_script", "_law_at", "_law_cell", "_law_mix", "_law_k"] ["_law_script", "_law_at"] (defScope sD__law_bag) := ⟨rfl, rfl, rfl, by decide +kernel, rfl, by decide +kernel, by decide +kernel⟩
theorem ok__law_bag {f : Addr} {fd : FuncData} (F : Fun K "_law_bag" "_law_bag" sD__law_bag f fd) (seer : base.NoSeer) (tree : P.given.tree = none) (m_len : mg "len" = none) (m_abs : mg "abs" = none) (m_range : mg "range" = none) (m_min : mg "min" = none) : FnOk P w K mg base CX0 (40 + 1) f fd ["_law_script", "_law_at"] (liftSp K sp__law_bag) := by
  refine okW F sc__law_bag seer tree (by decide) (fun ws G Q E h => ?_) (fun cdv A outer s H E hr hd => ⟨t__law_bag, ?_, rd__law_bag⟩)
  · exact len__law_bag ws G Q E h
  · exact (qs_cons (qset (i := 2) sc__law_bag.nd rfl (he := qint))
    (qs_cons (qif (qtlt (qv 1) (qlen rfl m_len (qa_cons (qv 0) qa_nil))) (qs_one (qset (i := 2) sc__law_bag.nd rfl (he := (qabs rfl m_abs (qa_cons (qix (qv 0) (qv 1)) qa_nil))))) qs_nil)
    (qs_cons (qset (i := 3) sc__law_bag.nd rfl (he := (qmod (qpow (qadd (qadd (qmod (qv 2) qint) (qmul qint (qv 1))) qint) qint) qint)))
    (qs_cons (qfor (ks := [false, true, false, false, true]) PassesOwn.never rfl (qrange1 rfl m_range (qa_cons (qmin2 rfl rfl m_min (qa_cons (qlen rfl m_len (qa_cons (qv 0) qa_nil)) (qa_cons qint qa_nil))) qa_nil)) (qgN (i := 4) sc__law_bag.nd rfl) (qs_one (qset (i := 3) sc__law_bag.nd rfl (he := (qmod (qadd (qadd (qmul (qv 3) qint) (qmul (qmod (qix (qv 0) (qv 4)) qint) (qadd (qv 4) qint))) (qv 4)) qint)))))
    (qs_cons (qif (qtlt (qv 2) (qpow qint qint)) (qs_one (qset (i := 2) sc__law_bag.nd rfl (he := qint))) qs_nil)
    (qs_one (qret (qlstM (qa_cons (qv 2) (qa_cons (qv 3) qa_nil))))))))))
abbrev sD__law_take : Stmt := topS 58
theorem sc__law_take : FnScope ["_law_bag_here", "_law_many", "_law_digit"] ["_law_bag_here", "_law_many"] (defScope sD__law_take) := ⟨rfl, rfl, rfl, by decide +kernel, rfl, by decide +kernel, by decide +kernel⟩
theorem ok__law_take {f : Addr} {fd : FuncData} (F : Fun K "_law_take" "_law_take" sD__law_take f fd) (seer : base.NoSeer) (tree : P.given.tree = none) : FnOk P w K mg base CX0 (40 + 1) f fd ["_law_bag_here", "_law_many"] (liftSp K sp__law_take) := by
  refine okW F sc__law_take seer tree (by decide) (fun ws G Q E h => ?_) (fun cdv A outer s H E hr hd => ⟨t__law_take, ?_, rd__law_take⟩)
  · exact len__law_take ws G Q E h
  · exact (qs_cons (qif (qtgt (qix (qv 0) qint) qint) (qs_cons (qset (i := 2) sc__law_take.nd rfl (he := (qmod (qix (qv 0) qint) (qv 1))))
    (qs_cons (qasg (qfdiv ⟨hd.seer, hd.tree, hd.room, hd.frame⟩ (qix (qv 0) qint) (qv 1)) (qgIx (qv 0) qint))
    (qs_one (qret (qv 2))))) qs_nil)
    (qs_cons (qasg (qmod (qadd (qmul (qix (qv 0) qint) qint) qint) qint) (qgIx (qv 0) qint))
    (qs_one (qret (qmod (qmod (qmul (qfdiv ⟨hd.seer, hd.tree, hd.room, hd.frame⟩ (qmod (qpow (qix (qv 0) qint) qint) qint) qint) qint) qint) (qv 1))))))
abbrev sD__law_text : Stmt := topS 64
theorem sc__law_text : FnScope ["_law_house_here", "_law_net_here", "_law_works", "_law_store_here", "_law_hours", "_law_rows", "_law_line", "_law_place", "_law_least", "_law_keep", "_law_pieces", "_law_start", "_law_stay", "_law_rest", "_law_was", "_law_words", "_law_wants_here", "_law_number", "_law_width", "_law_price", "_law_want"] ["_law_house_here"] (defScope sD__law_text) := ⟨rfl, rfl, rfl, by decide +kernel, rfl, by decide +kernel, by decide +kernel⟩
theorem ok__law_text {f : Addr} {fd : FuncData} (F : Fun K "_law_text" "_law_text" sD__law_text f fd) (seer : base.NoSeer) (tree : P.given.tree = none) (m_str : mg "str" = none) (m_int : mg "int" = none) : FnOk P w K mg base CX0 (40 + 1) f fd ["_law_house_here"] (liftSp K sp__law_text) := by
  refine okW F sc__law_text seer tree (by decide) (fun ws G Q E h => ?_) (fun cdv A outer s H E hr hd => ⟨t__law_text, ?_, rd__law_text⟩)
  · exact len__law_text ws G Q E h
  · exact (qs_cons (qasg (qv 0) (qgT rfl (qgs_cons (qgN (i := 1) sc__law_text.nd rfl) (qgs_cons (qgN (i := 2) sc__law_text.nd rfl) (qgs_cons (qgN (i := 3) sc__law_text.nd rfl) (qgs_cons (qgN (i := 4) sc__law_text.nd rfl) qgs_nil))))))
    (qs_cons (qset (i := 5) sc__law_text.nd rfl (he := (qlstM (qa_cons (qadd qstr (qstrI rfl m_str (qa_cons (qix (qv 1) qint) qa_nil))) qa_nil))))
    (qs_cons (qfor (ks := [true, true, false, false, false, false, true, true, true, true, true, true, true, true, true, true, true, true, true, true, true]) PassesOwn.never rfl (qiseq (qix (qv 1) qint)) (qgN (i := 6) sc__law_text.nd rfl) (qs_one (qexpr (qm_append (qv 5) (qa_cons (qadd qstr (qjoin qstr (qlc (own := [("_law_number", 17)]) rfl sc__law_text.nd (qiseq (qv 6)) (blkOk_by (N := ["_law_house_here", "_law_net_here", "_law_works", "_law_store_here", "_law_hours", "_law_rows", "_law_line", "_law_place", "_law_least", "_law_keep", "_law_pieces", "_law_start", "_law_stay", "_law_rest", "_law_was", "_law_words", "_law_wants_here", "_law_number", "_law_width", "_law_price", "_law_want"]) (sc := defScope sD__law_text) (by decide +kernel)) (gcN (i := 17) sc__law_text.nd rfl) (fun _ _ _ _ _ => qts_nil) (fun _ _ _ _ _ => (qstrI rfl m_str (qa_cons (qv 17) qa_nil)))))) qa_nil)))))
    (qs_cons (qfor (ks := [true, true, true, false, false, false, true, true, true, true, true, true, true, true, true, true, true, true, true, true, true]) PassesOwn.never rfl (qiseq (qv 2)) (qgT rfl (qgs_cons (qgN (i := 7) sc__law_text.nd rfl) (qgs_cons (qgN (i := 8) sc__law_text.nd rfl) (qgs_cons (qgN (i := 9) sc__law_text.nd rfl) (qgs_cons (qgN (i := 10) sc__law_text.nd rfl) (qgs_cons (qgN (i := 11) sc__law_text.nd rfl) (qgs_cons (qgN (i := 12) sc__law_text.nd rfl) (qgs_cons (qgN (i := 13) sc__law_text.nd rfl) (qgs_cons (qgN (i := 14) sc__law_text.nd rfl) qgs_nil))))))))) (qs_cons (qset (i := 15) sc__law_text.nd rfl (he := (qadd (qlc (own := [("_law_number", 17)]) rfl sc__law_text.nd (qiseq (qtup (qa_cons (qv 7) (qa_cons (qv 8) (qa_cons (qv 9) (qa_cons (qv 11) (qa_cons (qv 12) (qa_cons (qv 13) qa_nil)))))))) (blkOk_by (N := ["_law_house_here", "_law_net_here", "_law_works", "_law_store_here", "_law_hours", "_law_rows", "_law_line", "_law_place", "_law_least", "_law_keep", "_law_pieces", "_law_start", "_law_stay", "_law_rest", "_law_was", "_law_words", "_law_wants_here", "_law_number", "_law_width", "_law_price", "_law_want"]) (sc := defScope sD__law_text) (by decide +kernel)) (gcN (i := 17) sc__law_text.nd rfl) (fun _ _ _ _ _ => qts_nil) (fun _ _ _ _ _ => (qstrI rfl m_str (qa_cons (qv 17) qa_nil)))) (qlst (qa_cons (qix (qlst (qa_cons qstr (qa_cons qstr qa_nil))) (qint1 rfl m_int (qa_cons (qv 14) qa_nil))) qa_nil)))))
    (qs_cons (qset (i := 15) sc__law_text.nd rfl (he := (qadd (qv 15) (qlc (own := [("_law_width", 18), ("_law_price", 19)]) rfl sc__law_text.nd (qiseq (qv 10)) (blkOk_by (N := ["_law_house_here", "_law_net_here", "_law_works", "_law_store_here", "_law_hours", "_law_rows", "_law_line", "_law_place", "_law_least", "_law_keep", "_law_pieces", "_law_start", "_law_stay", "_law_rest", "_law_was", "_law_words", "_law_wants_here", "_law_number", "_law_width", "_law_price", "_law_want"]) (sc := defScope sD__law_text) (by decide +kernel)) (gcT rfl (gcs_cons (i := 18) sc__law_text.nd rfl (gcs_cons (i := 19) sc__law_text.nd rfl gcs_nil))) (fun _ _ _ _ _ => qts_nil) (fun _ _ _ _ _ => (qadd (qadd (qstrI rfl m_str (qa_cons (qv 18) qa_nil)) qstr) (qstrI rfl m_str (qa_cons (qv 19) qa_nil))))))))
    (qs_one (qexpr (qm_append (qv 5) (qa_cons (qadd qstr (qjoin qstr (qv 15))) qa_nil)))))))
    (qs_cons (qif (qtnotN (qv 3)) (qs_one (qexpr (qm_append (qv 5) (qa_cons (qadd qstr (qjoin qstr (qlc (own := [("_law_number", 17)]) rfl sc__law_text.nd (qiseq (qv 3)) (blkOk_by (N := ["_law_house_here", "_law_net_here", "_law_works", "_law_store_here", "_law_hours", "_law_rows", "_law_line", "_law_place", "_law_least", "_law_keep", "_law_pieces", "_law_start", "_law_stay", "_law_rest", "_law_was", "_law_words", "_law_wants_here", "_law_number", "_law_width", "_law_price", "_law_want"]) (sc := defScope sD__law_text) (by decide +kernel)) (gcN (i := 17) sc__law_text.nd rfl) (fun _ _ _ _ _ => qts_nil) (fun _ _ _ _ _ => (qstrI rfl m_str (qa_cons (qv 17) qa_nil)))))) qa_nil)))) qs_nil)
    (qs_cons (qfor (ks := [true, true, true, true, true, false, true, true, true, true, true, true, true, true, true, true, true, true, true, true, true]) PassesOwn.never rfl (qiseq (qv 4)) (qgN (i := 16) sc__law_text.nd rfl) (qs_one (qexpr (qm_append (qv 5) (qa_cons (qjoin qstr (qadd (qlst (qa_cons qstr qa_nil)) (qlc (own := [("_law_want", 20)]) rfl sc__law_text.nd (qiseq (qv 16)) (blkOk_by (N := ["_law_house_here", "_law_net_here", "_law_works", "_law_store_here", "_law_hours", "_law_rows", "_law_line", "_law_place", "_law_least", "_law_keep", "_law_pieces", "_law_start", "_law_stay", "_law_rest", "_law_was", "_law_words", "_law_wants_here", "_law_number", "_law_width", "_law_price", "_law_want"]) (sc := defScope sD__law_text) (by decide +kernel)) (gcN (i := 20) sc__law_text.nd rfl) (fun _ _ _ _ _ => qts_nil) (fun _ _ _ _ _ => (qjoin qstr (qlc (own := [("_law_number", 17)]) rfl sc__law_text.nd (qiseq (qv 20)) (by exact blkOk_nest (N := ["_law_house_here", "_law_net_here", "_law_works", "_law_store_here", "_law_hours", "_law_rows", "_law_line", "_law_place", "_law_least", "_law_keep", "_law_pieces", "_law_start", "_law_stay", "_law_rest", "_law_was", "_law_words", "_law_wants_here", "_law_number", "_law_width", "_law_price", "_law_want"]) (by decide +kernel)) (gcN (i := 17) sc__law_text.nd rfl) (fun _ _ _ _ _ => qts_nil) (fun _ _ _ _ _ => (qstrI rfl m_str (qa_cons (qv 17) qa_nil))))))))) qa_nil)))))
    (qs_one (qret (qjoin qstr (qv 5))))))))))
abbrev sD_is_from : Stmt := topS 6
theorem sc_is_from : FnScope ["thing", "least", "most"] ["thing", "least", "most"] (defScope sD_is_from) := ⟨rfl, rfl, rfl, by decide +kernel, rfl, by decide +kernel, by decide +kernel⟩
theorem ok_is_from {f : Addr} {fd : FuncData} (F : Fun K "is_from" "is_from" sD_is_from f fd) (seer : base.NoSeer) (tree : P.given.tree = none) (c_is_whole : Cal P w K mg base CX0 41 "is_whole" sp_is_whole) : FnOk P w K mg base CX0 (41 + 1) f fd ["thing", "least", "most"] (liftSp K sp_is_from) := by
  refine okW F sc_is_from seer tree (by decide) (fun ws G Q E h => ?_) (fun cdv A outer s H E hr hd => ⟨t_is_from, ?_, rd_is_from⟩)
  · exact len_is_from ws G Q E h
  · exact (qs_one (qret (qandV (qcall c_is_whole (hr.mono (by decide)) rfl (qa_cons (qv 0) qa_nil)) (qone (qlele (qv 1) (qv 0) (qv 2))))))
abbrev sD_numbers_of : Stmt := topS 41
theorem sc_numbers_of : FnScope ["words", "found", "word", "number"] ["words"] (defScope sD_numbers_of) := ⟨rfl, rfl, rfl, by decide +kernel, rfl, by decide +kernel, by decide +kernel⟩
theorem ok_numbers_of {f : Addr} {fd : FuncData} (F : Fun K "numbers_of" "numbers_of" sD_numbers_of f fd) (seer : base.NoSeer) (tree : P.given.tree = none) (c_number_of : Cal P w K mg base CX0 41 "number_of" sp_number_of) (c_must_be : Cal P w K mg base CX0 41 "must_be" sp_must_be) (m_all : mg "all" = none) (m_tuple : mg "tuple" = none) : FnOk P w K mg base CX0 (41 + 1) f fd ["words"] (liftSp K sp_numbers_of) := by
  refine okW F sc_numbers_of seer tree (by decide) (fun ws G Q E h => ?_) (fun cdv A outer s H E hr hd => ⟨t_numbers_of, ?_, rd_numbers_of⟩)
  · exact len_numbers_of ws G Q E h
  · exact (qs_cons (qsetLc (j := 1) (own := [("word", 2)]) rfl sc_numbers_of.nd rfl rfl (sw_true rfl rfl rfl (by decide +kernel)) (qiseq (qv 0)) (blkOk_by (N := ["words", "found", "word", "number"]) (sc := defScope sD_numbers_of) (by decide +kernel)) (gcN (i := 2) sc_numbers_of.nd rfl) (fun _ _ _ _ _ => qts_nil) (fun _ _ _ _ _ => (qcall c_number_of (hr.mono (by decide)) rfl (qa_cons (qv 2) qa_nil))))
    (qs_cons (qexpr (qcall c_must_be (hr.mono (by decide)) rfl (qa_cons (qall rfl rfl m_all (qa_cons (qlc (own := [("number", 3)]) rfl sc_numbers_of.nd (qiseq (qv 1)) (blkOk_by (N := ["words", "found", "word", "number"]) (sc := defScope sD_numbers_of) (by decide +kernel)) (gcN (i := 3) sc_numbers_of.nd rfl) (fun _ _ _ _ _ => qts_nil) (fun _ _ _ _ _ => (qnotN (qv 3)))) qa_nil)) qa_nil)))
    (qs_one (qret (qtuple rfl m_tuple (qa_cons (qv 1) qa_nil))))))
abbrev sD_shown_work : Stmt := topS 53
theorem sc_shown_work : FnScope ["work", "place", "least", "keep", "pieces", "start", "stay", "rest", "was", "ahead", "piece"] ["work"] (defScope sD_shown_work) := ⟨rfl, rfl, rfl, by decide +kernel, rfl, by decide +kernel, by decide +kernel⟩
theorem ok_shown_work {f : Addr} {fd : FuncData} (F : Fun K "shown_work" "shown_work" sD_shown_work f fd) (seer : base.NoSeer) (tree : P.given.tree = none) (c_shown_row : Cal P w K mg base CX0 41 "shown_row" sp_shown_row) (c_colons : Cal P w K mg base CX0 41 "colons" sp_colons) (c_ON : GlobW K mg "ON" (.str "on")) (c_OFF : GlobW K mg "OFF" (.str "off")) : FnOk P w K mg base CX0 (41 + 1) f fd ["work"] (liftSp K sp_shown_work) := by
  refine okW F sc_shown_work seer tree (by decide) (fun ws G Q E h => ?_) (fun cdv A outer s H E hr hd => ⟨t_shown_work, ?_, rd_shown_work⟩)
  · exact len_shown_work ws G Q E h
  · exact (qs_cons (qasg (qv 0) (qgT rfl (qgs_cons (qgN (i := 1) sc_shown_work.nd rfl) (qgs_cons (qgN (i := 2) sc_shown_work.nd rfl) (qgs_cons (qgN (i := 3) sc_shown_work.nd rfl) (qgs_cons (qgN (i := 4) sc_shown_work.nd rfl) (qgs_cons (qgN (i := 5) sc_shown_work.nd rfl) (qgs_cons (qgN (i := 6) sc_shown_work.nd rfl) (qgs_cons (qgN (i := 7) sc_shown_work.nd rfl) (qgs_cons (qgN (i := 8) sc_shown_work.nd rfl) qgs_nil))))))))))
    (qs_cons (qset (i := 9) sc_shown_work.nd rfl (he := (qcall c_shown_row (hr.mono (by decide)) rfl (qa_cons qstr (qa_cons (qtup (qa_cons (qv 1) (qa_cons (qv 2) (qa_cons (qv 3) (qa_cons (qv 5) (qa_cons (qv 6) (qa_cons (qv 7) qa_nil))))))) qa_nil)))))
    (qs_one (qret (qjoin qstr (qadd (qlst (qa_cons (qv 9) (qa_cons (qifExp (qtv (qv 8)) (qglob rfl c_ON) (qglob rfl c_OFF)) qa_nil))) (qlc (own := [("piece", 10)]) rfl sc_shown_work.nd (qiseq (qv 4)) (blkOk_by (N := ["work", "place", "least", "keep", "pieces", "start", "stay", "rest", "was", "ahead", "piece"]) (sc := defScope sD_shown_work) (by decide +kernel)) (gcN (i := 10) sc_shown_work.nd rfl) (fun _ _ _ _ _ => qts_nil) (fun _ _ _ _ _ => (qcall c_colons (hr.mono (by decide)) rfl (qa_cons (qv 10) qa_nil))))))))))
abbrev sD__law_net : Stmt := topS 59
theorem sc__law_net : FnScope ["_law_bag_here", "_law_many", "_law_lines", "_law_place", "_law_k", "_law_one", "_law_high", "_law_other"] ["_law_bag_here", "_law_many"] (defScope sD__law_net) := ⟨rfl, rfl, rfl, by decide +kernel, rfl, by decide +kernel, by decide +kernel⟩
theorem ok__law_net {f : Addr} {fd : FuncData} (F : Fun K "_law_net" "_law_net" sD__law_net f fd) (seer : base.NoSeer) (tree : P.given.tree = none) (c__law_take : Cal P w K mg base CX0 41 "_law_take" sp__law_take) (m_range : mg "range" = none) (m_int : mg "int" = none) (m_tuple : mg "tuple" = none) : FnOk P w K mg base CX0 (41 + 1) f fd ["_law_bag_here", "_law_many"] (liftSp K sp__law_net) := by
  refine okW F sc__law_net seer tree (by decide) (fun ws G Q E h => ?_) (fun cdv A outer s H E hr hd => ⟨t__law_net, ?_, rd__law_net⟩)
  · exact len__law_net ws G Q E h
  · exact (qs_cons (qset (i := 2) sc__law_net.nd rfl (he := (qlstM qa_nil)))
    (qs_cons (qfor (ks := [false, false, false, true, true, true, true, true]) PassesOwn.never rfl (qrange2 rfl m_range (qa_cons qint (qa_cons (qv 1) qa_nil))) (qgN (i := 3) sc__law_net.nd rfl) (qs_one (qexpr (qm_append (qv 2) (qa_cons (qtup (qa_cons (qcall c__law_take (hr.mono (by decide)) rfl (qa_cons (qv 0) (qa_cons (qv 3) qa_nil))) (qa_cons (qv 3) qa_nil))) qa_nil)))))
    (qs_cons (qfor (ks := [false, false, false, true, true, true, true, true]) PassesOwn.never rfl (qrange1 rfl m_range (qa_cons (qmul (qcall c__law_take (hr.mono (by decide)) rfl (qa_cons (qv 0) (qa_cons (qsub qint (qv 1)) qa_nil))) (qint1 rfl m_int (qa_cons (qgt (qv 1) qint) qa_nil))) qa_nil)) (qgN (i := 4) sc__law_net.nd rfl) (qs_cons (qset (i := 5) sc__law_net.nd rfl (he := (qcall c__law_take (hr.mono (by decide)) rfl (qa_cons (qv 0) (qa_cons (qv 1) qa_nil)))))
    (qs_one (qexpr (qm_append (qv 2) (qa_cons (qtup (qa_cons (qv 5) (qa_cons (qmod (qadd (qadd (qv 5) qint) (qcall c__law_take (hr.mono (by decide)) rfl (qa_cons (qv 0) (qa_cons (qsub (qv 1) qint) qa_nil)))) (qv 1)) qa_nil))) qa_nil))))))
    (qs_cons (qfz 2 (qset (i := 6) sc__law_net.nd rfl (he := (qix (qlst (qa_cons qint (qa_cons qint (qa_cons qint (qa_cons qint qa_nil))))) (qcall c__law_take (hr.mono (by decide)) rfl (qa_cons (qv 0) (qa_cons qint qa_nil)))))))
    (qs_one (qret (qtup (qa_cons (qv 1) (qa_cons (qtuple rfl m_tuple (qa_cons (qlc (own := [("_law_one", 5), ("_law_other", 7)]) rfl sc__law_net.nd (qiseq (qv 2)) (blkOk_by (N := ["_law_bag_here", "_law_many", "_law_lines", "_law_place", "_law_k", "_law_one", "_law_high", "_law_other"]) (sc := defScope sD__law_net) (by decide +kernel)) (gcT rfl (gcs_cons (i := 5) sc__law_net.nd rfl (gcs_cons (i := 7) sc__law_net.nd rfl gcs_nil))) (fun _ _ _ _ _ => qts_nil) (fun _ _ _ _ _ => (qtup (qa_cons (qv 5) (qa_cons (qv 7) (qa_cons (qadd qint (qcall c__law_take (hr.mono (by decide)) rfl (qa_cons (qv 0) (qa_cons qint qa_nil)))) (qa_cons (qcall c__law_take (hr.mono (by decide)) rfl (qa_cons (qv 0) (qa_cons (qadd (qv 6) qint) qa_nil))) qa_nil))))))) qa_nil)) qa_nil)))))))))
abbrev sD__law_work : Stmt := topS 60
theorem sc__law_work : FnScope ["_law_bag_here", "_law_many", "_law_place", "_law_least", "_law_pieces", "_law_keep", "_law_start", "_law_was"] ["_law_bag_here", "_law_many"] (defScope sD__law_work) := ⟨rfl, rfl, rfl, by decide +kernel, rfl, by decide +kernel, by decide +kernel⟩
theorem ok__law_work {f : Addr} {fd : FuncData} (F : Fun K "_law_work" "_law_work" sD__law_work f fd) (seer : base.NoSeer) (tree : P.given.tree = none) (c__law_take : Cal P w K mg base CX0 41 "_law_take" sp__law_take) (m_tuple : mg "tuple" = none) : FnOk P w K mg base CX0 (41 + 1) f fd ["_law_bag_here", "_law_many"] (liftSp K sp__law_work) := by
  refine okW F sc__law_work seer tree (by decide) (fun ws G Q E h => ?_) (fun cdv A outer s H E hr hd => ⟨t__law_work, ?_, rd__law_work⟩)
  · exact len__law_work ws G Q E h
  · exact (qs_cons (qset (i := 2) sc__law_work.nd rfl (he := (qcall c__law_take (hr.mono (by decide)) rfl (qa_cons (qv 0) (qa_cons (qv 1) qa_nil)))))
    (qs_cons (qset (i := 3) sc__law_work.nd rfl (he := (qix (qlst (qa_cons qint (qa_cons (qcall c__law_take (hr.mono (by decide)) rfl (qa_cons (qv 0) (qa_cons qint qa_nil))) (qa_cons (qcall c__law_take (hr.mono (by decide)) rfl (qa_cons (qv 0) (qa_cons qint qa_nil))) qa_nil)))) (qcall c__law_take (hr.mono (by decide)) rfl (qa_cons (qv 0) (qa_cons qint qa_nil))))))
    (qs_cons (qset (i := 4) sc__law_work.nd rfl (he := (qlstM (qa_cons (qtup (qa_cons (qadd qint (qcall c__law_take (hr.mono (by decide)) rfl (qa_cons (qv 0) (qa_cons qint qa_nil)))) (qa_cons (qcall c__law_take (hr.mono (by decide)) rfl (qa_cons (qv 0) (qa_cons qint qa_nil))) qa_nil))) qa_nil))))
    (qs_cons (qif (qteq hr (qcall c__law_take (hr.mono (by decide)) rfl (qa_cons (qv 0) (qa_cons qint qa_nil))) qint) (qs_one (qexpr (qm_append (qv 4) (qa_cons (qtup (qa_cons (qadd qint (qcall c__law_take (hr.mono (by decide)) rfl (qa_cons (qv 0) (qa_cons qint qa_nil)))) (qa_cons (qadd (qix (qix (qv 4) qint) qint) (qcall c__law_take (hr.mono (by decide)) rfl (qa_cons (qv 0) (qa_cons qint qa_nil)))) qa_nil))) qa_nil)))) qs_nil)
    (qs_cons (qset (i := 5) sc__law_work.nd rfl (he := (qcall c__law_take (hr.mono (by decide)) rfl (qa_cons (qv 0) (qa_cons qint qa_nil)))))
    (qs_cons (qset (i := 6) sc__law_work.nd rfl (he := (qcall c__law_take (hr.mono (by decide)) rfl (qa_cons (qv 0) (qa_cons qint qa_nil)))))
    (qs_cons (qset (i := 7) sc__law_work.nd rfl (he := (qeq hr (qcall c__law_take (hr.mono (by decide)) rfl (qa_cons (qv 0) (qa_cons qint qa_nil))) qint)))
    (qs_one (qret (qtup (qa_cons (qv 2) (qa_cons (qv 3) (qa_cons (qv 5) (qa_cons (qtuple rfl m_tuple (qa_cons (qv 4) qa_nil)) (qa_cons (qv 6) (qa_cons (qadd qint (qcall c__law_take (hr.mono (by decide)) rfl (qa_cons (qv 0) (qa_cons qint qa_nil)))) (qa_cons (qadd qint (qcall c__law_take (hr.mono (by decide)) rfl (qa_cons (qv 0) (qa_cons qint qa_nil)))) (qa_cons (qv 7) qa_nil))))))))))))))))))
abbrev sD__law_wants : Stmt := topS 61
theorem sc__law_wants : FnScope ["_law_bag_here", "_law_many", "_law_found", "_law_k", "_law_worth"] ["_law_bag_here", "_law_many"] (defScope sD__law_wants) := ⟨rfl, rfl, rfl, by decide +kernel, rfl, by decide +kernel, by decide +kernel⟩
theorem ok__law_wants {f : Addr} {fd : FuncData} (F : Fun K "_law_wants" "_law_wants" sD__law_wants f fd) (seer : base.NoSeer) (tree : P.given.tree = none) (c__law_take : Cal P w K mg base CX0 41 "_law_take" sp__law_take) (m_range : mg "range" = none) (m_int : mg "int" = none) (m_tuple : mg "tuple" = none) : FnOk P w K mg base CX0 (41 + 1) f fd ["_law_bag_here", "_law_many"] (liftSp K sp__law_wants) := by
  refine okW F sc__law_wants seer tree (by decide) (fun ws G Q E h => ?_) (fun cdv A outer s H E hr hd => ⟨t__law_wants, ?_, rd__law_wants⟩)
  · exact len__law_wants ws G Q E h
  · exact (qs_cons (qset (i := 2) sc__law_wants.nd rfl (he := (qlstM qa_nil)))
    (qs_cons (qfor (ks := [false, false, false, true, true]) PassesOwn.never rfl (qrange1 rfl m_range (qa_cons (qcall c__law_take (hr.mono (by decide)) rfl (qa_cons (qv 0) (qa_cons qint qa_nil))) qa_nil)) (qgN (i := 3) sc__law_wants.nd rfl) (qs_cons (qset (i := 4) sc__law_wants.nd rfl (he := (qix (qlst (qa_cons (qcall c__law_take (hr.mono (by decide)) rfl (qa_cons (qv 0) (qa_cons qint qa_nil))) (qa_cons qint qa_nil))) (qint1 rfl m_int (qa_cons (qeq hr (qcall c__law_take (hr.mono (by decide)) rfl (qa_cons (qv 0) (qa_cons qint qa_nil))) qint) qa_nil)))))
    (qs_one (qexpr (qm_append (qv 2) (qa_cons (qtup (qa_cons (qcall c__law_take (hr.mono (by decide)) rfl (qa_cons (qv 0) (qa_cons (qv 1) qa_nil))) (qa_cons (qcall c__law_take (hr.mono (by decide)) rfl (qa_cons (qv 0) (qa_cons qint qa_nil))) (qa_cons (qv 4) qa_nil)))) qa_nil))))))
    (qs_one (qret (qtuple rfl m_tuple (qa_cons (qv 2) qa_nil))))))
abbrev sD__law_store : Stmt := topS 62
theorem sc__law_store : FnScope ["_law_bag_here", "_law_many", "_law_top", "_law_taken"] ["_law_bag_here", "_law_many"] (defScope sD__law_store) := ⟨rfl, rfl, rfl, by decide +kernel, rfl, by decide +kernel, by decide +kernel⟩
theorem ok__law_store {f : Addr} {fd : FuncData} (F : Fun K "_law_store" "_law_store" sD__law_store f fd) (seer : base.NoSeer) (tree : P.given.tree = none) (c__law_take : Cal P w K mg base CX0 41 "_law_take" sp__law_take) : FnOk P w K mg base CX0 (41 + 1) f fd ["_law_bag_here", "_law_many"] (liftSp K sp__law_store) := by
  refine okW F sc__law_store seer tree (by decide) (fun ws G Q E h => ?_) (fun cdv A outer s H E hr hd => ⟨t__law_store, ?_, rd__law_store⟩)
  · exact len__law_store ws G Q E h
  · exact (qs_cons (qif (qteq hr (qcall c__law_take (hr.mono (by decide)) rfl (qa_cons (qv 0) (qa_cons qint qa_nil))) qint) (qs_one (qret qnon)) qs_nil)
    (qs_cons (qset (i := 2) sc__law_store.nd rfl (he := (qadd qint (qcall c__law_take (hr.mono (by decide)) rfl (qa_cons (qv 0) (qa_cons qint qa_nil))))))
    (qs_cons (qset (i := 3) sc__law_store.nd rfl (he := (qadd qint (qcall c__law_take (hr.mono (by decide)) rfl (qa_cons (qv 0) (qa_cons qint qa_nil))))))
    (qs_one (qret (qtup (qa_cons (qcall c__law_take (hr.mono (by decide)) rfl (qa_cons (qv 0) (qa_cons (qv 1) qa_nil))) (qa_cons (qv 2) (qa_cons (qcall c__law_take (hr.mono (by decide)) rfl (qa_cons (qv 0) (qa_cons (qadd (qv 2) qint) qa_nil))) (qa_cons (qv 3) (qa_cons (qcall c__law_take (hr.mono (by decide)) rfl (qa_cons (qv 0) (qa_cons (qadd (qv 3) qint) qa_nil))) qa_nil)))))))))))
abbrev sD_is_line : Stmt := topS 12
theorem sc_is_line : FnScope ["many", "thing", "one", "other", "stiffness", "most"] ["many", "thing"] (defScope sD_is_line) := ⟨rfl, rfl, rfl, by decide +kernel, rfl, by decide +kernel, by decide +kernel⟩
theorem ok_is_line {f : Addr} {fd : FuncData} (F : Fun K "is_line" "is_line" sD_is_line f fd) (seer : base.NoSeer) (tree : P.given.tree = none) (c_is_from : Cal P w K mg base CX0 42 "is_from" sp_is_from) (m_isinstance : mg "isinstance" = none) (m_tuple : mg "tuple" = none) (m_len : mg "len" = none) (c_STIFFEST : GlobW K mg "STIFFEST" (.int 9)) (c_MOST_BORNE : GlobW K mg "MOST_BORNE" (.int 99)) : FnOk P w K mg base CX0 (42 + 1) f fd ["many", "thing"] (liftSp K sp_is_line) := by
  refine okW F sc_is_line seer tree (by decide) (fun ws G Q E h => ?_) (fun cdv A outer s H E hr hd => ⟨t_is_line, ?_, rd_is_line⟩)
  · exact len_is_line ws G Q E h
  · exact (qs_cons (qif (qwt (qor (qnot (qtv (qisi (k := .tuple) (by decide) (by decide +kernel) (by decide) (by decide) rfl m_isinstance rfl m_tuple (qv 1)))) (qor1 (qtne hr (qlen rfl m_len (qa_cons (qv 1) qa_nil)) qint)))) (qs_one (qret qbl)) qs_nil)
    (qs_cons (qasg (qv 1) (qgT rfl (qgs_cons (qgN (i := 2) sc_is_line.nd rfl) (qgs_cons (qgN (i := 3) sc_is_line.nd rfl) (qgs_cons (qgN (i := 4) sc_is_line.nd rfl) (qgs_cons (qgN (i := 5) sc_is_line.nd rfl) qgs_nil))))))
    (qs_cons (qif (qwt (qor (qnot (qtv (qcall c_is_from (hr.mono (by decide)) rfl (qa_cons (qv 2) (qa_cons qint (qa_cons (qsub (qv 0) qint) qa_nil)))))) (qor (qnot (qtv (qcall c_is_from (hr.mono (by decide)) rfl (qa_cons (qv 3) (qa_cons qint (qa_cons (qsub (qv 0) qint) qa_nil)))))) (qor1 (qteq hr (qv 2) (qv 3)))))) (qs_one (qret qbl)) qs_nil)
    (qs_one (qret (qandV (qcall c_is_from (hr.mono (by decide)) rfl (qa_cons (qv 4) (qa_cons qint (qa_cons (qglob rfl c_STIFFEST) qa_nil)))) (qone (qcall c_is_from (hr.mono (by decide)) rfl (qa_cons (qv 5) (qa_cons qint (qa_cons (qglob rfl c_MOST_BORNE) qa_nil)))))))))))
abbrev sD_is_piece : Stmt := topS 27
theorem sc_is_piece : FnScope ["thing"] ["thing"] (defScope sD_is_piece) := ⟨rfl, rfl, rfl, by decide +kernel, rfl, by decide +kernel, by decide +kernel⟩
theorem ok_is_piece {f : Addr} {fd : FuncData} (F : Fun K "is_piece" "is_piece" sD_is_piece f fd) (seer : base.NoSeer) (tree : P.given.tree = none) (c_is_row_of : Cal P w K mg base CX0 41 "is_row_of" sp_is_row_of) (c_is_from : Cal P w K mg base CX0 42 "is_from" sp_is_from) (c_MOST_WIDTH : GlobW K mg "MOST_WIDTH" (.int 20)) (c_MOST_PRICE : GlobW K mg "MOST_PRICE" (.int 99)) : FnOk P w K mg base CX0 (42 + 1) f fd ["thing"] (liftSp K sp_is_piece) := by
  refine okW F sc_is_piece seer tree (by decide) (fun ws G Q E h => ?_) (fun cdv A outer s H E hr hd => ⟨t_is_piece, ?_, rd_is_piece⟩)
  · exact len_is_piece ws G Q E h
  · exact (qs_one (qret (qandV (qcall c_is_row_of (hr.mono (by decide)) rfl (qa_cons (qv 0) (qa_cons qint (qa_cons qint qa_nil)))) (qandV (qcall c_is_from (hr.mono (by decide)) rfl (qa_cons (qix (qv 0) qint) (qa_cons qint (qa_cons (qglob rfl c_MOST_WIDTH) qa_nil)))) (qone (qcall c_is_from (hr.mono (by decide)) rfl (qa_cons (qix (qv 0) qint) (qa_cons qint (qa_cons (qglob rfl c_MOST_PRICE) qa_nil)))))))))
abbrev sD_is_store : Stmt := topS 30
theorem sc_is_store : FnScope ["thing", "many", "place", "top", "level", "taken", "given"] ["thing", "many"] (defScope sD_is_store) := ⟨rfl, rfl, rfl, by decide +kernel, rfl, by decide +kernel, by decide +kernel⟩
theorem ok_is_store {f : Addr} {fd : FuncData} (F : Fun K "is_store" "is_store" sD_is_store f fd) (seer : base.NoSeer) (tree : P.given.tree = none) (c_is_row_of : Cal P w K mg base CX0 41 "is_row_of" sp_is_row_of) (c_is_from : Cal P w K mg base CX0 42 "is_from" sp_is_from) (c_TOPMOST : GlobW K mg "TOPMOST" (.int 2)) (c_MOST_WIDTH : GlobW K mg "MOST_WIDTH" (.int 20)) : FnOk P w K mg base CX0 (42 + 1) f fd ["thing", "many"] (liftSp K sp_is_store) := by
  refine okW F sc_is_store seer tree (by decide) (fun ws G Q E h => ?_) (fun cdv A outer s H E hr hd => ⟨t_is_store, ?_, rd_is_store⟩)
  · exact len_is_store ws G Q E h
  · exact (qs_cons (qif (qtisN (qv 0)) (qs_one (qret qbl)) qs_nil)
    (qs_cons (qif (qnot (qtv (qcall c_is_row_of (hr.mono (by decide)) rfl (qa_cons (qv 0) (qa_cons qint (qa_cons qint qa_nil)))))) (qs_one (qret qbl)) qs_nil)
    (qs_cons (qasg (qv 0) (qgT rfl (qgs_cons (qgN (i := 2) sc_is_store.nd rfl) (qgs_cons (qgN (i := 3) sc_is_store.nd rfl) (qgs_cons (qgN (i := 4) sc_is_store.nd rfl) (qgs_cons (qgN (i := 5) sc_is_store.nd rfl) (qgs_cons (qgN (i := 6) sc_is_store.nd rfl) qgs_nil)))))))
    (qs_cons (qif (qwt (qor (qnot (qtv (qcall c_is_from (hr.mono (by decide)) rfl (qa_cons (qv 2) (qa_cons qint (qa_cons (qsub (qv 1) qint) qa_nil)))))) (qor (qnot (qtv (qcall c_is_from (hr.mono (by decide)) rfl (qa_cons (qv 3) (qa_cons qint (qa_cons (qglob rfl c_TOPMOST) qa_nil)))))) (qor1 (qnot (qtv (qcall c_is_from (hr.mono (by decide)) rfl (qa_cons (qv 4) (qa_cons qint (qa_cons (qv 3) qa_nil)))))))))) (qs_one (qret qbl)) qs_nil)
    (qs_one (qret (qandV (qcall c_is_from (hr.mono (by decide)) rfl (qa_cons (qv 5) (qa_cons qint (qa_cons (qglob rfl c_MOST_WIDTH) qa_nil)))) (qone (qcall c_is_from (hr.mono (by decide)) rfl (qa_cons (qv 6) (qa_cons qint (qa_cons (qv 5) qa_nil))))))))))))
abbrev sD_is_want : Stmt := topS 31
theorem sc_is_want : FnScope ["thing", "many"] ["thing", "many"] (defScope sD_is_want) := ⟨rfl, rfl, rfl, by decide +kernel, rfl, by decide +kernel, by decide +kernel⟩
theorem ok_is_want {f : Addr} {fd : FuncData} (F : Fun K "is_want" "is_want" sD_is_want f fd) (seer : base.NoSeer) (tree : P.given.tree = none) (c_is_row_of : Cal P w K mg base CX0 41 "is_row_of" sp_is_row_of) (c_is_from : Cal P w K mg base CX0 42 "is_from" sp_is_from) (c_MOST_SIZE : GlobW K mg "MOST_SIZE" (.int 30)) (c_FIRM : GlobW K mg "FIRM" (.int 100)) : FnOk P w K mg base CX0 (42 + 1) f fd ["thing", "many"] (liftSp K sp_is_want) := by
  refine okW F sc_is_want seer tree (by decide) (fun ws G Q E h => ?_) (fun cdv A outer s H E hr hd => ⟨t_is_want, ?_, rd_is_want⟩)
  · exact len_is_want ws G Q E h
  · exact (qs_cons (qif (qnot (qtv (qcall c_is_row_of (hr.mono (by decide)) rfl (qa_cons (qv 0) (qa_cons qint (qa_cons qint qa_nil)))))) (qs_one (qret qbl)) qs_nil)
    (qs_one (qret (qandV (qcall c_is_from (hr.mono (by decide)) rfl (qa_cons (qix (qv 0) qint) (qa_cons qint (qa_cons (qsub (qv 1) qint) qa_nil)))) (qandV (qcall c_is_from (hr.mono (by decide)) rfl (qa_cons (qix (qv 0) qint) (qa_cons qint (qa_cons (qglob rfl c_MOST_SIZE) qa_nil)))) (qone (qcall c_is_from (hr.mono (by decide)) rfl (qa_cons (qix (qv 0) qint) (qa_cons qint (qa_cons (qglob rfl c_FIRM) qa_nil))))))))))
abbrev sD_parted_numbers : Stmt := topS 42
theorem sc_parted_numbers : FnScope ["word", "many", "parts"] ["word", "many"] (defScope sD_parted_numbers) := ⟨rfl, rfl, rfl, by decide +kernel, rfl, by decide +kernel, by decide +kernel⟩
theorem ok_parted_numbers {f : Addr} {fd : FuncData} (F : Fun K "parted_numbers" "parted_numbers" sD_parted_numbers f fd) (seer : base.NoSeer) (tree : P.given.tree = none) (c_must_be : Cal P w K mg base CX0 41 "must_be" sp_must_be) (c_numbers_of : Cal P w K mg base CX0 42 "numbers_of" sp_numbers_of) (m_len : mg "len" = none) : FnOk P w K mg base CX0 (42 + 1) f fd ["word", "many"] (liftSp K sp_parted_numbers) := by
  refine okW F sc_parted_numbers seer tree (by decide) (fun ws G Q E h => ?_) (fun cdv A outer s H E hr hd => ⟨t_parted_numbers, ?_, rd_parted_numbers⟩)
  · exact len_parted_numbers ws G Q E h
  · exact (qs_cons (qset (i := 2) sc_parted_numbers.nd rfl (he := (qsplit (qv 0) qstr)))
    (qs_cons (qexpr (qcall c_must_be (hr.mono (by decide)) rfl (qa_cons (qeq hr (qlen rfl m_len (qa_cons (qv 2) qa_nil)) (qv 1)) qa_nil)))
    (qs_one (qret (qcall c_numbers_of (hr.mono (by decide)) rfl (qa_cons (qv 2) qa_nil))))))
abbrev sD_read_net : Stmt := topS 43
theorem sc_read_net : FnScope ["words"] ["words"] (defScope sD_read_net) := ⟨rfl, rfl, rfl, by decide +kernel, rfl, by decide +kernel, by decide +kernel⟩
theorem ok_read_net {f : Addr} {fd : FuncData} (F : Fun K "read_net" "read_net" sD_read_net f fd) (seer : base.NoSeer) (tree : P.given.tree = none) (c_must_be : Cal P w K mg base CX0 41 "must_be" sp_must_be) (c_numbers_of : Cal P w K mg base CX0 42 "numbers_of" sp_numbers_of) (m_len : mg "len" = none) : FnOk P w K mg base CX0 (42 + 1) f fd ["words"] (liftSp K sp_read_net) := by
  refine okW F sc_read_net seer tree (by decide) (fun ws G Q E h => ?_) (fun cdv A outer s H E hr hd => ⟨t_read_net, ?_, rd_read_net⟩)
  · exact len_read_net ws G Q E h
  · exact (qs_cons (qexpr (qcall c_must_be (hr.mono (by decide)) rfl (qa_cons (qandV (qeq hr (qlen rfl m_len (qa_cons (qv 0) qa_nil)) qint) (qone (qeq hr (qix (qv 0) qint) qstr))) qa_nil)))
    (qs_one (qret (qix (qcall c_numbers_of (hr.mono (by decide)) rfl (qa_cons (qslice (qv 0) (qp_some qint) qp_none) qa_nil)) qint))))
abbrev sD_read_line : Stmt := topS 44
theorem sc_read_line : FnScope ["words"] ["words"] (defScope sD_read_line) := ⟨rfl, rfl, rfl, by decide +kernel, rfl, by decide +kernel, by decide +kernel⟩
theorem ok_read_line {f : Addr} {fd : FuncData} (F : Fun K "read_line" "read_line" sD_read_line f fd) (seer : base.NoSeer) (tree : P.given.tree = none) (c_must_be : Cal P w K mg base CX0 41 "must_be" sp_must_be) (c_numbers_of : Cal P w K mg base CX0 42 "numbers_of" sp_numbers_of) (m_len : mg "len" = none) : FnOk P w K mg base CX0 (42 + 1) f fd ["words"] (liftSp K sp_read_line) := by
  refine okW F sc_read_line seer tree (by decide) (fun ws G Q E h => ?_) (fun cdv A outer s H E hr hd => ⟨t_read_line, ?_, rd_read_line⟩)
  · exact len_read_line ws G Q E h
  · exact (qs_cons (qexpr (qcall c_must_be (hr.mono (by decide)) rfl (qa_cons (qeq hr (qlen rfl m_len (qa_cons (qv 0) qa_nil)) qint) qa_nil)))
    (qs_one (qret (qcall c_numbers_of (hr.mono (by decide)) rfl (qa_cons (qslice (qv 0) (qp_some qint) qp_none) qa_nil)))))
abbrev sD_read_store : Stmt := topS 46
theorem sc_read_store : FnScope ["words"] ["words"] (defScope sD_read_store) := ⟨rfl, rfl, rfl, by decide +kernel, rfl, by decide +kernel, by decide +kernel⟩
theorem ok_read_store {f : Addr} {fd : FuncData} (F : Fun K "read_store" "read_store" sD_read_store f fd) (seer : base.NoSeer) (tree : P.given.tree = none) (c_must_be : Cal P w K mg base CX0 41 "must_be" sp_must_be) (c_numbers_of : Cal P w K mg base CX0 42 "numbers_of" sp_numbers_of) (m_len : mg "len" = none) : FnOk P w K mg base CX0 (42 + 1) f fd ["words"] (liftSp K sp_read_store) := by
  refine okW F sc_read_store seer tree (by decide) (fun ws G Q E h => ?_) (fun cdv A outer s H E hr hd => ⟨t_read_store, ?_, rd_read_store⟩)
  · exact len_read_store ws G Q E h
  · exact (qs_cons (qexpr (qcall c_must_be (hr.mono (by decide)) rfl (qa_cons (qeq hr (qlen rfl m_len (qa_cons (qv 0) qa_nil)) qint) qa_nil)))
    (qs_one (qret (qcall c_numbers_of (hr.mono (by decide)) rfl (qa_cons (qslice (qv 0) (qp_some qint) qp_none) qa_nil)))))
abbrev sD_house_rows : Stmt := topS 54
theorem sc_house_rows : FnScope ["house", "net", "works", "store", "hours", "found", "line", "work", "wants", "want"] ["house"] (defScope sD_house_rows) := ⟨rfl, rfl, rfl, by decide +kernel, rfl, by decide +kernel, by decide +kernel⟩
theorem ok_house_rows {f : Addr} {fd : FuncData} (F : Fun K "house_rows" "house_rows" sD_house_rows f fd) (seer : base.NoSeer) (tree : P.given.tree = none) (c_shown_row : Cal P w K mg base CX0 41 "shown_row" sp_shown_row) (c_shown_work : Cal P w K mg base CX0 42 "shown_work" sp_shown_work) (c_colons : Cal P w K mg base CX0 41 "colons" sp_colons) : FnOk P w K mg base CX0 (42 + 1) f fd ["house"] (liftSp K sp_house_rows) := by
  refine okW F sc_house_rows seer tree (by decide) (fun ws G Q E h => ?_) (fun cdv A outer s H E hr hd => ⟨t_house_rows, ?_, rd_house_rows⟩)
  · exact len_house_rows ws G Q E h
  · exact (qs_cons (qasg (qv 0) (qgT rfl (qgs_cons (qgN (i := 1) sc_house_rows.nd rfl) (qgs_cons (qgN (i := 2) sc_house_rows.nd rfl) (qgs_cons (qgN (i := 3) sc_house_rows.nd rfl) (qgs_cons (qgN (i := 4) sc_house_rows.nd rfl) qgs_nil))))))
    (qs_cons (qset (i := 5) sc_house_rows.nd rfl (he := (qaddM (qlst (qa_cons (qcall c_shown_row (hr.mono (by decide)) rfl (qa_cons qstr (qa_cons (qtup (qa_cons (qix (qv 1) qint) qa_nil)) qa_nil))) qa_nil)) (qlc (own := [("line", 6)]) rfl sc_house_rows.nd (qiseq (qix (qv 1) qint)) (blkOk_by (N := ["house", "net", "works", "store", "hours", "found", "line", "work", "wants", "want"]) (sc := defScope sD_house_rows) (by decide +kernel)) (gcN (i := 6) sc_house_rows.nd rfl) (fun _ _ _ _ _ => qts_nil) (fun _ _ _ _ _ => (qcall c_shown_row (hr.mono (by decide)) rfl (qa_cons qstr (qa_cons (qv 6) qa_nil))))))))
    (qs_cons (qexpr (qm_extend (qv 5) (qa_cons (qlc (own := [("work", 7)]) rfl sc_house_rows.nd (qiseq (qv 2)) (blkOk_by (N := ["house", "net", "works", "store", "hours", "found", "line", "work", "wants", "want"]) (sc := defScope sD_house_rows) (by decide +kernel)) (gcN (i := 7) sc_house_rows.nd rfl) (fun _ _ _ _ _ => qts_nil) (fun _ _ _ _ _ => (qcall c_shown_work (hr.mono (by decide)) rfl (qa_cons (qv 7) qa_nil)))) qa_nil)))
    (qs_cons (qif (qtnotN (qv 3)) (qs_one (qexpr (qm_append (qv 5) (qa_cons (qcall c_shown_row (hr.mono (by decide)) rfl (qa_cons qstr (qa_cons (qv 3) qa_nil))) qa_nil)))) qs_nil)
    (qs_one (qfz 5 (qret (qadd (qv 5) (qlc (own := [("wants", 8)]) rfl sc_house_rows.nd (qiseq (qv 4)) (blkOk_by (N := ["house", "net", "works", "store", "hours", "found", "line", "work", "wants", "want"]) (sc := defScope sD_house_rows) (by decide +kernel)) (gcN (i := 8) sc_house_rows.nd rfl) (fun _ _ _ _ _ => qts_nil) (fun _ _ _ _ _ => (qjoin qstr (qadd (qlst (qa_cons qstr qa_nil)) (qlc (own := [("want", 9)]) rfl sc_house_rows.nd (qiseq (qv 8)) (by exact blkOk_nest (N := ["house", "net", "works", "store", "hours", "found", "line", "work", "wants", "want"]) (by decide +kernel)) (gcN (i := 9) sc_house_rows.nd rfl) (fun _ _ _ _ _ => qts_nil) (fun _ _ _ _ _ => (qcall c_colons (hr.mono (by decide)) rfl (qa_cons (qv 9) qa_nil))))))))))))))))
abbrev sD__law_house : Stmt := topS 63
theorem sc__law_house : FnScope ["_law_bag_here", "_law_many", "_law_hours", "_law_works", "_law_net_here", "_law_some", "_law_store_here", "_law_k"] ["_law_bag_here"] (defScope sD__law_house) := ⟨rfl, rfl, rfl, by decide +kernel, rfl, by decide +kernel, by decide +kernel⟩
theorem ok__law_house {f : Addr} {fd : FuncData} (F : Fun K "_law_house" "_law_house" sD__law_house f fd) (seer : base.NoSeer) (tree : P.given.tree = none) (c__law_take : Cal P w K mg base CX0 41 "_law_take" sp__law_take) (c__law_net : Cal P w K mg base CX0 42 "_law_net" sp__law_net) (c__law_work : Cal P w K mg base CX0 42 "_law_work" sp__law_work) (c__law_store : Cal P w K mg base CX0 42 "_law_store" sp__law_store) (c__law_wants : Cal P w K mg base CX0 42 "_law_wants" sp__law_wants) (m_tuple : mg "tuple" = none) (m_range : mg "range" = none) : FnOk P w K mg base CX0 (42 + 1) f fd ["_law_bag_here"] (liftSp K sp__law_house) := by
  refine okW F sc__law_house seer tree (by decide) (fun ws G Q E h => ?_) (fun cdv A outer s H E hr hd => ⟨t__law_house, ?_, rd__law_house⟩)
  · exact len__law_house ws G Q E h
  · exact (qs_cons (qset (i := 1) sc__law_house.nd rfl (he := (qadd qint (qcall c__law_take (hr.mono (by decide)) rfl (qa_cons (qv 0) (qa_cons qint qa_nil))))))
    (qs_cons (qset (i := 2) sc__law_house.nd rfl (he := (qadd qint (qcall c__law_take (hr.mono (by decide)) rfl (qa_cons (qv 0) (qa_cons qint qa_nil))))))
    (qs_cons (qset (i := 3) sc__law_house.nd rfl (he := (qcall c__law_take (hr.mono (by decide)) rfl (qa_cons (qv 0) (qa_cons qint qa_nil)))))
    (qs_cons (qif (qteq hr (qcall c__law_take (hr.mono (by decide)) rfl (qa_cons (qv 0) (qa_cons qint qa_nil))) qint) (qs_cons (qset (i := 3) sc__law_house.nd rfl (he := qint))
    (qs_one (qset (i := 2) sc__law_house.nd rfl (he := (qadd qint (qcall c__law_take (hr.mono (by decide)) rfl (qa_cons (qv 0) (qa_cons qint qa_nil)))))))) qs_nil)
    (qs_cons (qset (i := 4) sc__law_house.nd rfl (he := (qcall c__law_net (hr.mono (by decide)) rfl (qa_cons (qv 0) (qa_cons (qv 1) qa_nil)))))
    (qs_cons (qset (i := 5) sc__law_house.nd rfl (he := (qtuple rfl m_tuple (qa_cons (qlc (own := [("_law_k", 7)]) rfl sc__law_house.nd (qrange1 rfl m_range (qa_cons (qv 3) qa_nil)) (blkOk_by (N := ["_law_bag_here", "_law_many", "_law_hours", "_law_works", "_law_net_here", "_law_some", "_law_store_here", "_law_k"]) (sc := defScope sD__law_house) (by decide +kernel)) (gcN (i := 7) sc__law_house.nd rfl) (fun _ _ _ _ _ => qts_nil) (fun _ _ _ _ _ => (qcall c__law_work (hr.mono (by decide)) rfl (qa_cons (qv 0) (qa_cons (qv 1) qa_nil))))) qa_nil))))
    (qs_cons (qset (i := 6) sc__law_house.nd rfl (he := (qcall c__law_store (hr.mono (by decide)) rfl (qa_cons (qv 0) (qa_cons (qv 1) qa_nil)))))
    (qs_one (qret (qtup (qa_cons (qv 4) (qa_cons (qv 5) (qa_cons (qv 6) (qa_cons (qtuple rfl m_tuple (qa_cons (qlc (own := [("_law_k", 7)]) rfl sc__law_house.nd (qrange1 rfl m_range (qa_cons (qv 2) qa_nil)) (blkOk_by (N := ["_law_bag_here", "_law_many", "_law_hours", "_law_works", "_law_net_here", "_law_some", "_law_store_here", "_law_k"]) (sc := defScope sD__law_house) (by decide +kernel)) (gcN (i := 7) sc__law_house.nd rfl) (fun _ _ _ _ _ => qts_nil) (fun _ _ _ _ _ => (qcall c__law_wants (hr.mono (by decide)) rfl (qa_cons (qv 0) (qa_cons (qv 1) qa_nil))))) qa_nil)) qa_nil))))))))))))))
abbrev sD_is_net : Stmt := topS 14
theorem sc_is_net : FnScope ["thing", "many", "lines", "line"] ["thing"] (defScope sD_is_net) := ⟨rfl, rfl, rfl, by decide +kernel, rfl, by decide +kernel, by decide +kernel⟩
theorem ok_is_net {f : Addr} {fd : FuncData} (F : Fun K "is_net" "is_net" sD_is_net f fd) (seer : base.NoSeer) (tree : P.given.tree = none) (c_is_from : Cal P w K mg base CX0 42 "is_from" sp_is_from) (c_is_line : Cal P w K mg base CX0 43 "is_line" sp_is_line) (c_hangs_together : Cal P w K mg base CX0 41 "hangs_together" sp_hangs_together) (m_isinstance : mg "isinstance" = none) (m_tuple : mg "tuple" = none) (m_len : mg "len" = none) (m_all : mg "all" = none) (c_MOST_PLACES : GlobW K mg "MOST_PLACES" (.int 4)) (c_MOST_LINES : GlobW K mg "MOST_LINES" (.int 6)) : FnOk P w K mg base CX0 (43 + 1) f fd ["thing"] (liftSp K sp_is_net) := by
  refine okW F sc_is_net seer tree (by decide) (fun ws G Q E h => ?_) (fun cdv A outer s H E hr hd => ⟨t_is_net, ?_, rd_is_net⟩)
  · exact len_is_net ws G Q E h
  · exact (qs_cons (qif (qwt (qor (qnot (qtv (qisi (k := .tuple) (by decide) (by decide +kernel) (by decide) (by decide) rfl m_isinstance rfl m_tuple (qv 0)))) (qor (qtne hr (qlen rfl m_len (qa_cons (qv 0) qa_nil)) qint) (qor1 (qnot (qtv (qcall c_is_from (hr.mono (by decide)) rfl (qa_cons (qix (qv 0) qint) (qa_cons qint (qa_cons (qglob rfl c_MOST_PLACES) qa_nil)))))))))) (qs_one (qret qbl)) qs_nil)
    (qs_cons (qasg (qv 0) (qgT rfl (qgs_cons (qgN (i := 1) sc_is_net.nd rfl) (qgs_cons (qgN (i := 2) sc_is_net.nd rfl) qgs_nil))))
    (qs_cons (qif (qwt (qor (qnot (qtv (qisi (k := .tuple) (by decide) (by decide +kernel) (by decide) (by decide) rfl m_isinstance rfl m_tuple (qv 2)))) (qor1 (qtgt (qlen rfl m_len (qa_cons (qv 2) qa_nil)) (qglob rfl c_MOST_LINES))))) (qs_one (qret qbl)) qs_nil)
    (qs_one (qret (qandV (qall rfl rfl m_all (qa_cons (qlc (own := [("line", 3)]) rfl sc_is_net.nd (qiseq (qv 2)) (blkOk_by (N := ["thing", "many", "lines", "line"]) (sc := defScope sD_is_net) (by decide +kernel)) (gcN (i := 3) sc_is_net.nd rfl) (fun _ _ _ _ _ => qts_nil) (fun _ _ _ _ _ => (qcall c_is_line (hr.mono (by decide)) rfl (qa_cons (qv 1) (qa_cons (qv 3) qa_nil))))) qa_nil)) (qone (qcall c_hangs_together (hr.mono (by decide)) rfl (qa_cons (qv 1) (qa_cons (qv 2) qa_nil))))))))))
abbrev sD_are_pieces : Stmt := topS 28
theorem sc_are_pieces : FnScope ["thing", "piece"] ["thing"] (defScope sD_are_pieces) := ⟨rfl, rfl, rfl, by decide +kernel, rfl, by decide +kernel, by decide +kernel⟩
theorem ok_are_pieces {f : Addr} {fd : FuncData} (F : Fun K "are_pieces" "are_pieces" sD_are_pieces f fd) (seer : base.NoSeer) (tree : P.given.tree = none) (c_is_row_of : Cal P w K mg base CX0 41 "is_row_of" sp_is_row_of) (c_is_piece : Cal P w K mg base CX0 43 "is_piece" sp_is_piece) (m_all : mg "all" = none) : FnOk P w K mg base CX0 (43 + 1) f fd ["thing"] (liftSp K sp_are_pieces) := by
  refine okW F sc_are_pieces seer tree (by decide) (fun ws G Q E h => ?_) (fun cdv A outer s H E hr hd => ⟨t_are_pieces, ?_, rd_are_pieces⟩)
  · exact len_are_pieces ws G Q E h
  · exact (qs_cons (qif (qwt (qor (qnot (qtv (qcall c_is_row_of (hr.mono (by decide)) rfl (qa_cons (qv 0) (qa_cons qint (qa_cons qint qa_nil)))))) (qor1 (qnot (qtv (qall rfl rfl m_all (qa_cons (qlc (own := [("piece", 1)]) rfl sc_are_pieces.nd (qiseq (qv 0)) (blkOk_by (N := ["thing", "piece"]) (sc := defScope sD_are_pieces) (by decide +kernel)) (gcN (i := 1) sc_are_pieces.nd rfl) (fun _ _ _ _ _ => qts_nil) (fun _ _ _ _ _ => (qcall c_is_piece (hr.mono (by decide)) rfl (qa_cons (qv 1) qa_nil)))) qa_nil))))))) (qs_one (qret qbl)) qs_nil)
    (qs_one (qret (qle (qix (qix (qv 0) qint) qint) (qix (qix (qv 0) (qneg qint)) qint)))))
abbrev sD_are_wants : Stmt := topS 32
theorem sc_are_wants : FnScope ["thing", "many", "want"] ["thing", "many"] (defScope sD_are_wants) := ⟨rfl, rfl, rfl, by decide +kernel, rfl, by decide +kernel, by decide +kernel⟩
theorem ok_are_wants {f : Addr} {fd : FuncData} (F : Fun K "are_wants" "are_wants" sD_are_wants f fd) (seer : base.NoSeer) (tree : P.given.tree = none) (c_is_row_of : Cal P w K mg base CX0 41 "is_row_of" sp_is_row_of) (c_is_want : Cal P w K mg base CX0 43 "is_want" sp_is_want) (m_all : mg "all" = none) (c_MOST_WANTS : GlobW K mg "MOST_WANTS" (.int 3)) : FnOk P w K mg base CX0 (43 + 1) f fd ["thing", "many"] (liftSp K sp_are_wants) := by
  refine okW F sc_are_wants seer tree (by decide) (fun ws G Q E h => ?_) (fun cdv A outer s H E hr hd => ⟨t_are_wants, ?_, rd_are_wants⟩)
  · exact len_are_wants ws G Q E h
  · exact (qs_one (qret (qandV (qcall c_is_row_of (hr.mono (by decide)) rfl (qa_cons (qv 0) (qa_cons qint (qa_cons (qglob rfl c_MOST_WANTS) qa_nil)))) (qone (qall rfl rfl m_all (qa_cons (qlc (own := [("want", 2)]) rfl sc_are_wants.nd (qiseq (qv 0)) (blkOk_by (N := ["thing", "many", "want"]) (sc := defScope sD_are_wants) (by decide +kernel)) (gcN (i := 2) sc_are_wants.nd rfl) (fun _ _ _ _ _ => qts_nil) (fun _ _ _ _ _ => (qcall c_is_want (hr.mono (by decide)) rfl (qa_cons (qv 2) (qa_cons (qv 1) qa_nil))))) qa_nil))))))
abbrev sD_read_work : Stmt := topS 45
theorem sc_read_work : FnScope ["words", "place", "least", "keep", "start", "stay", "rest", "pieces", "word"] ["words"] (defScope sD_read_work) := ⟨rfl, rfl, rfl, by decide +kernel, rfl, by decide +kernel, by decide +kernel⟩
theorem ok_read_work {f : Addr} {fd : FuncData} (F : Fun K "read_work" "read_work" sD_read_work f fd) (seer : base.NoSeer) (tree : P.given.tree = none) (c_must_be : Cal P w K mg base CX0 41 "must_be" sp_must_be) (c_numbers_of : Cal P w K mg base CX0 42 "numbers_of" sp_numbers_of) (c_parted_numbers : Cal P w K mg base CX0 43 "parted_numbers" sp_parted_numbers) (m_len : mg "len" = none) (m_tuple : mg "tuple" = none) (c_ON : GlobW K mg "ON" (.str "on")) (c_OFF : GlobW K mg "OFF" (.str "off")) : FnOk P w K mg base CX0 (43 + 1) f fd ["words"] (liftSp K sp_read_work) := by
  refine okW F sc_read_work seer tree (by decide) (fun ws G Q E h => ?_) (fun cdv A outer s H E hr hd => ⟨t_read_work, ?_, rd_read_work⟩)
  · exact len_read_work ws G Q E h
  · exact (qs_cons (qexpr (qcall c_must_be (hr.mono (by decide)) rfl (qa_cons (qandV (qge (qlen rfl m_len (qa_cons (qv 0) qa_nil)) qint) (qone (qin (qix (qv 0) qint) (qtup (qa_cons (qglob rfl c_ON) (qa_cons (qglob rfl c_OFF) qa_nil)))))) qa_nil)))
    (qs_cons (qasg (qcall c_numbers_of (hr.mono (by decide)) rfl (qa_cons (qslice (qv 0) (qp_some qint) (qp_some qint)) qa_nil)) (qgT rfl (qgs_cons (qgN (i := 1) sc_read_work.nd rfl) (qgs_cons (qgN (i := 2) sc_read_work.nd rfl) (qgs_cons (qgN (i := 3) sc_read_work.nd rfl) (qgs_cons (qgN (i := 4) sc_read_work.nd rfl) (qgs_cons (qgN (i := 5) sc_read_work.nd rfl) (qgs_cons (qgN (i := 6) sc_read_work.nd rfl) qgs_nil))))))))
    (qs_cons (qset (i := 7) sc_read_work.nd rfl (he := (qtuple rfl m_tuple (qa_cons (qlc (own := [("word", 8)]) rfl sc_read_work.nd (qiseq (qslice (qv 0) (qp_some qint) qp_none)) (blkOk_by (N := ["words", "place", "least", "keep", "start", "stay", "rest", "pieces", "word"]) (sc := defScope sD_read_work) (by decide +kernel)) (gcN (i := 8) sc_read_work.nd rfl) (fun _ _ _ _ _ => qts_nil) (fun _ _ _ _ _ => (qcall c_parted_numbers (hr.mono (by decide)) rfl (qa_cons (qv 8) (qa_cons qint qa_nil))))) qa_nil))))
    (qs_one (qret (qtup (qa_cons (qv 1) (qa_cons (qv 2) (qa_cons (qv 3) (qa_cons (qv 7) (qa_cons (qv 4) (qa_cons (qv 5) (qa_cons (qv 6) (qa_cons (qeq hr (qix (qv 0) qint) (qglob rfl c_ON)) qa_nil))))))))))))))
abbrev sD_read_hour : Stmt := topS 47
theorem sc_read_hour : FnScope ["words", "word"] ["words"] (defScope sD_read_hour) := ⟨rfl, rfl, rfl, by decide +kernel, rfl, by decide +kernel, by decide +kernel⟩
theorem ok_read_hour {f : Addr} {fd : FuncData} (F : Fun K "read_hour" "read_hour" sD_read_hour f fd) (seer : base.NoSeer) (tree : P.given.tree = none) (c_parted_numbers : Cal P w K mg base CX0 43 "parted_numbers" sp_parted_numbers) (m_tuple : mg "tuple" = none) : FnOk P w K mg base CX0 (43 + 1) f fd ["words"] (liftSp K sp_read_hour) := by
  refine okW F sc_read_hour seer tree (by decide) (fun ws G Q E h => ?_) (fun cdv A outer s H E hr hd => ⟨t_read_hour, ?_, rd_read_hour⟩)
  · exact len_read_hour ws G Q E h
  · exact (qs_one (qret (qtuple rfl m_tuple (qa_cons (qlc (own := [("word", 1)]) rfl sc_read_hour.nd (qiseq (qslice (qv 0) (qp_some qint) qp_none)) (blkOk_by (N := ["words", "word"]) (sc := defScope sD_read_hour) (by decide +kernel)) (gcN (i := 1) sc_read_hour.nd rfl) (fun _ _ _ _ _ => qts_nil) (fun _ _ _ _ _ => (qcall c_parted_numbers (hr.mono (by decide)) rfl (qa_cons (qv 1) (qa_cons qint qa_nil))))) qa_nil))))
abbrev sD_show_house : Stmt := topS 55
theorem sc_show_house : FnScope ["house"] ["house"] (defScope sD_show_house) := ⟨rfl, rfl, rfl, by decide +kernel, rfl, by decide +kernel, by decide +kernel⟩
theorem ok_show_house {f : Addr} {fd : FuncData} (F : Fun K "show_house" "show_house" sD_show_house f fd) (seer : base.NoSeer) (tree : P.given.tree = none) (c_house_rows : Cal P w K mg base CX0 43 "house_rows" sp_house_rows) : FnOk P w K mg base CX0 (43 + 1) f fd ["house"] (liftSp K sp_show_house) := by
  refine okW F sc_show_house seer tree (by decide) (fun ws G Q E h => ?_) (fun cdv A outer s H E hr hd => ⟨t_show_house, ?_, rd_show_house⟩)
  · exact len_show_house ws G Q E h
  · exact (qs_one (qret (qjoin qstr (qcall c_house_rows (hr.mono (by decide)) rfl (qa_cons (qv 0) qa_nil)))))
abbrev sD_is_work : Stmt := topS 29
theorem sc_is_work : FnScope ["thing", "many", "place", "least", "keep", "pieces", "start", "stay", "rest", "was"] ["thing", "many"] (defScope sD_is_work) := ⟨rfl, rfl, rfl, by decide +kernel, rfl, by decide +kernel, by decide +kernel⟩
theorem ok_is_work {f : Addr} {fd : FuncData} (F : Fun K "is_work" "is_work" sD_is_work f fd) (seer : base.NoSeer) (tree : P.given.tree = none) (c_is_row_of : Cal P w K mg base CX0 41 "is_row_of" sp_is_row_of) (c_is_from : Cal P w K mg base CX0 42 "is_from" sp_is_from) (c_are_pieces : Cal P w K mg base CX0 44 "are_pieces" sp_are_pieces) (m_isinstance : mg "isinstance" = none) (m_bool : mg "bool" = none) (c_MOST_LEAST : GlobW K mg "MOST_LEAST" (.int 20)) (c_MOST_PRICE : GlobW K mg "MOST_PRICE" (.int 99)) (c_LONGEST : GlobW K mg "LONGEST" (.int 2)) : FnOk P w K mg base CX0 (44 + 1) f fd ["thing", "many"] (liftSp K sp_is_work) := by
  refine okW F sc_is_work seer tree (by decide) (fun ws G Q E h => ?_) (fun cdv A outer s H E hr hd => ⟨t_is_work, ?_, rd_is_work⟩)
  · exact len_is_work ws G Q E h
  · exact (qs_cons (qif (qnot (qtv (qcall c_is_row_of (hr.mono (by decide)) rfl (qa_cons (qv 0) (qa_cons qint (qa_cons qint qa_nil)))))) (qs_one (qret qbl)) qs_nil)
    (qs_cons (qasg (qv 0) (qgT rfl (qgs_cons (qgN (i := 2) sc_is_work.nd rfl) (qgs_cons (qgN (i := 3) sc_is_work.nd rfl) (qgs_cons (qgN (i := 4) sc_is_work.nd rfl) (qgs_cons (qgN (i := 5) sc_is_work.nd rfl) (qgs_cons (qgN (i := 6) sc_is_work.nd rfl) (qgs_cons (qgN (i := 7) sc_is_work.nd rfl) (qgs_cons (qgN (i := 8) sc_is_work.nd rfl) (qgs_cons (qgN (i := 9) sc_is_work.nd rfl) qgs_nil))))))))))
    (qs_cons (qif (qwt (qor (qnot (qtv (qcall c_is_from (hr.mono (by decide)) rfl (qa_cons (qv 2) (qa_cons qint (qa_cons (qsub (qv 1) qint) qa_nil)))))) (qor (qnot (qtv (qcall c_is_from (hr.mono (by decide)) rfl (qa_cons (qv 3) (qa_cons qint (qa_cons (qglob rfl c_MOST_LEAST) qa_nil)))))) (qor1 (qnot (qtv (qcall c_is_from (hr.mono (by decide)) rfl (qa_cons (qv 4) (qa_cons qint (qa_cons (qglob rfl c_MOST_PRICE) qa_nil)))))))))) (qs_one (qret qbl)) qs_nil)
    (qs_cons (qif (qwt (qor (qnot (qtv (qcall c_are_pieces (hr.mono (by decide)) rfl (qa_cons (qv 5) qa_nil)))) (qor1 (qnot (qtv (qcall c_is_from (hr.mono (by decide)) rfl (qa_cons (qv 6) (qa_cons qint (qa_cons (qglob rfl c_MOST_PRICE) qa_nil))))))))) (qs_one (qret qbl)) qs_nil)
    (qs_one (qret (qandV (qcall c_is_from (hr.mono (by decide)) rfl (qa_cons (qv 7) (qa_cons qint (qa_cons (qglob rfl c_LONGEST) qa_nil)))) (qandV (qcall c_is_from (hr.mono (by decide)) rfl (qa_cons (qv 8) (qa_cons qint (qa_cons (qglob rfl c_LONGEST) qa_nil)))) (qone (qisi (k := .bool) (by decide) (by decide +kernel) (by decide) (by decide) rfl m_isinstance rfl m_bool (qv 9)))))))))))
abbrev sD_read_rows : Stmt := topS 49
theorem sc_read_rows : FnScope ["rows", "many", "lines", "left", "works", "stores", "hours", "net", "some", "store", "words"] ["rows"] (defScope sD_read_rows) := ⟨rfl, rfl, rfl, by decide +kernel, rfl, by decide +kernel, by decide +kernel⟩
theorem ok_read_rows {f : Addr} {fd : FuncData} (F : Fun K "read_rows" "read_rows" sD_read_rows f fd) (seer : base.NoSeer) (tree : P.given.tree = none) (c_read_net : Cal P w K mg base CX0 43 "read_net" sp_read_net) (c_rows_with : Cal P w K mg base CX0 41 "rows_with" sp_rows_with) (c_must_be : Cal P w K mg base CX0 41 "must_be" sp_must_be) (c_read_line : Cal P w K mg base CX0 43 "read_line" sp_read_line) (c_read_work : Cal P w K mg base CX0 44 "read_work" sp_read_work) (c_read_store : Cal P w K mg base CX0 43 "read_store" sp_read_store) (c_read_hour : Cal P w K mg base CX0 44 "read_hour" sp_read_hour) (m_len : mg "len" = none) (m_tuple : mg "tuple" = none) : FnOk P w K mg base CX0 (44 + 1) f fd ["rows"] (liftSp K sp_read_rows) := by
  refine okW F sc_read_rows seer tree (by decide) (fun ws G Q E h => ?_) (fun cdv A outer s H E hr hd => ⟨t_read_rows, ?_, rd_read_rows⟩)
  · exact len_read_rows ws G Q E h
  · exact (qs_cons (qset (i := 1) sc_read_rows.nd rfl (he := (qcall c_read_net (hr.mono (by decide)) rfl (qa_cons (qix (qv 0) qint) qa_nil))))
    (qs_cons (qasg (qcall c_rows_with (hr.mono (by decide)) rfl (qa_cons (qslice (qv 0) (qp_some qint) qp_none) (qa_cons qstr qa_nil))) (qgT rfl (qgs_cons (qgN (i := 2) sc_read_rows.nd rfl) (qgs_cons (qgN (i := 3) sc_read_rows.nd rfl) qgs_nil))))
    (qs_cons (qasg (qcall c_rows_with (hr.mono (by decide)) rfl (qa_cons (qv 3) (qa_cons qstr qa_nil))) (qgT rfl (qgs_cons (qgN (i := 4) sc_read_rows.nd rfl) (qgs_cons (qgN (i := 3) sc_read_rows.nd rfl) qgs_nil))))
    (qs_cons (qasg (qcall c_rows_with (hr.mono (by decide)) rfl (qa_cons (qv 3) (qa_cons qstr qa_nil))) (qgT rfl (qgs_cons (qgN (i := 5) sc_read_rows.nd rfl) (qgs_cons (qgN (i := 3) sc_read_rows.nd rfl) qgs_nil))))
    (qs_cons (qasg (qcall c_rows_with (hr.mono (by decide)) rfl (qa_cons (qv 3) (qa_cons qstr qa_nil))) (qgT rfl (qgs_cons (qgN (i := 6) sc_read_rows.nd rfl) (qgs_cons (qgN (i := 3) sc_read_rows.nd rfl) qgs_nil))))
    (qs_cons (qexpr (qcall c_must_be (hr.mono (by decide)) rfl (qa_cons (qandV (qeq hr (qv 3) (qlst qa_nil)) (qone (qle (qlen rfl m_len (qa_cons (qv 5) qa_nil)) qint))) qa_nil)))
    (qs_cons (qset (i := 7) sc_read_rows.nd rfl (he := (qtup (qa_cons (qv 1) (qa_cons (qtuple rfl m_tuple (qa_cons (qlc (own := [("words", 10)]) rfl sc_read_rows.nd (qiseq (qv 2)) (blkOk_by (N := ["rows", "many", "lines", "left", "works", "stores", "hours", "net", "some", "store", "words"]) (sc := defScope sD_read_rows) (by decide +kernel)) (gcN (i := 10) sc_read_rows.nd rfl) (fun _ _ _ _ _ => qts_nil) (fun _ _ _ _ _ => (qcall c_read_line (hr.mono (by decide)) rfl (qa_cons (qv 10) qa_nil)))) qa_nil)) qa_nil)))))
    (qs_cons (qset (i := 8) sc_read_rows.nd rfl (he := (qtuple rfl m_tuple (qa_cons (qlc (own := [("words", 10)]) rfl sc_read_rows.nd (qiseq (qv 4)) (blkOk_by (N := ["rows", "many", "lines", "left", "works", "stores", "hours", "net", "some", "store", "words"]) (sc := defScope sD_read_rows) (by decide +kernel)) (gcN (i := 10) sc_read_rows.nd rfl) (fun _ _ _ _ _ => qts_nil) (fun _ _ _ _ _ => (qcall c_read_work (hr.mono (by decide)) rfl (qa_cons (qv 10) qa_nil)))) qa_nil))))
    (qs_cons (qset (i := 9) sc_read_rows.nd rfl (he := qnon))
    (qs_cons (qif (qtne hr (qv 5) (qlst qa_nil)) (qs_one (qset (i := 9) sc_read_rows.nd rfl (he := (qcall c_read_store (hr.mono (by decide)) rfl (qa_cons (qix (qv 5) qint) qa_nil))))) qs_nil)
    (qs_one (qret (qtup (qa_cons (qv 7) (qa_cons (qv 8) (qa_cons (qv 9) (qa_cons (qtuple rfl m_tuple (qa_cons (qlc (own := [("words", 10)]) rfl sc_read_rows.nd (qiseq (qv 6)) (blkOk_by (N := ["rows", "many", "lines", "left", "works", "stores", "hours", "net", "some", "store", "words"]) (sc := defScope sD_read_rows) (by decide +kernel)) (gcN (i := 10) sc_read_rows.nd rfl) (fun _ _ _ _ _ => qts_nil) (fun _ _ _ _ _ => (qcall c_read_hour (hr.mono (by decide)) rfl (qa_cons (qv 10) qa_nil)))) qa_nil)) qa_nil)))))))))))))))))
abbrev sD_is_house : Stmt := topS 33
theorem sc_is_house : FnScope ["thing", "many", "work", "wants"] ["thing"] (defScope sD_is_house) := ⟨rfl, rfl, rfl, by decide +kernel, rfl, by decide +kernel, by decide +kernel⟩
theorem ok_is_house {f : Addr} {fd : FuncData} (F : Fun K "is_house" "is_house" sD_is_house f fd) (seer : base.NoSeer) (tree : P.given.tree = none) (c_is_row_of : Cal P w K mg base CX0 41 "is_row_of" sp_is_row_of) (c_is_net : Cal P w K mg base CX0 44 "is_net" sp_is_net) (c_is_work : Cal P w K mg base CX0 45 "is_work" sp_is_work) (c_is_store : Cal P w K mg base CX0 43 "is_store" sp_is_store) (c_are_wants : Cal P w K mg base CX0 44 "are_wants" sp_are_wants) (m_all : mg "all" = none) (c_MOST_WORKS : GlobW K mg "MOST_WORKS" (.int 3)) (c_MOST_HOURS : GlobW K mg "MOST_HOURS" (.int 3)) : FnOk P w K mg base CX0 (45 + 1) f fd ["thing"] (liftSp K sp_is_house) := by
  refine okW F sc_is_house seer tree (by decide) (fun ws G Q E h => ?_) (fun cdv A outer s H E hr hd => ⟨t_is_house, ?_, rd_is_house⟩)
  · exact len_is_house ws G Q E h
  · exact (qs_cons (qif (qwt (qor (qnot (qtv (qcall c_is_row_of (hr.mono (by decide)) rfl (qa_cons (qv 0) (qa_cons qint (qa_cons qint qa_nil)))))) (qor1 (qnot (qtv (qcall c_is_net (hr.mono (by decide)) rfl (qa_cons (qix (qv 0) qint) qa_nil))))))) (qs_one (qret qbl)) qs_nil)
    (qs_cons (qset (i := 1) sc_is_house.nd rfl (he := (qix (qix (qv 0) qint) qint)))
    (qs_cons (qif (qwt (qor (qnot (qtv (qcall c_is_row_of (hr.mono (by decide)) rfl (qa_cons (qix (qv 0) qint) (qa_cons qint (qa_cons (qglob rfl c_MOST_WORKS) qa_nil)))))) (qor1 (qnot (qtv (qall rfl rfl m_all (qa_cons (qlc (own := [("work", 2)]) rfl sc_is_house.nd (qiseq (qix (qv 0) qint)) (blkOk_by (N := ["thing", "many", "work", "wants"]) (sc := defScope sD_is_house) (by decide +kernel)) (gcN (i := 2) sc_is_house.nd rfl) (fun _ _ _ _ _ => qts_nil) (fun _ _ _ _ _ => (qcall c_is_work (hr.mono (by decide)) rfl (qa_cons (qv 2) (qa_cons (qv 1) qa_nil))))) qa_nil))))))) (qs_one (qret qbl)) qs_nil)
    (qs_cons (qif (qwt (qor (qnot (qtv (qcall c_is_store (hr.mono (by decide)) rfl (qa_cons (qix (qv 0) qint) (qa_cons (qv 1) qa_nil))))) (qor1 (qnot (qtv (qcall c_is_row_of (hr.mono (by decide)) rfl (qa_cons (qix (qv 0) qint) (qa_cons qint (qa_cons (qglob rfl c_MOST_HOURS) qa_nil))))))))) (qs_one (qret qbl)) qs_nil)
    (qs_one (qret (qall rfl rfl m_all (qa_cons (qlc (own := [("wants", 3)]) rfl sc_is_house.nd (qiseq (qix (qv 0) qint)) (blkOk_by (N := ["thing", "many", "work", "wants"]) (sc := defScope sD_is_house) (by decide +kernel)) (gcN (i := 3) sc_is_house.nd rfl) (fun _ _ _ _ _ => qts_nil) (fun _ _ _ _ _ => (qcall c_are_wants (hr.mono (by decide)) rfl (qa_cons (qv 3) (qa_cons (qv 1) qa_nil))))) qa_nil))))))))
abbrev sD_read_house : Stmt := topS 50
theorem sc_read_house : FnScope ["text", "house", "row"] ["text"] (defScope sD_read_house) := ⟨rfl, rfl, rfl, by decide +kernel, rfl, by decide +kernel, by decide +kernel⟩
theorem ok_read_house {f : Addr} {fd : FuncData} (F : Fun K "read_house" "read_house" sD_read_house f fd) (seer : base.NoSeer) (tree : P.given.tree = none) (c_must_be : Cal P w K mg base CX0 41 "must_be" sp_must_be) (c_read_rows : Cal P w K mg base CX0 45 "read_rows" sp_read_rows) (c_is_house : Cal P w K mg base CX0 46 "is_house" sp_is_house) (m_isinstance : mg "isinstance" = none) (m_str : mg "str" = none) : FnOk P w K mg base CX0 (46 + 1) f fd ["text"] (liftSp K sp_read_house) := by
  refine okW F sc_read_house seer tree (by decide) (fun ws G Q E h => ?_) (fun cdv A outer s H E hr hd => ⟨t_read_house, ?_, rd_read_house⟩)
  · exact len_read_house ws G Q E h
  · exact (qs_cons (qexpr (qcall c_must_be (hr.mono (by decide)) rfl (qa_cons (qisi (k := .str) (by decide) (by decide +kernel) (by decide) (by decide) rfl m_isinstance rfl m_str (qv 0)) qa_nil)))
    (qs_cons (qset (i := 1) sc_read_house.nd rfl (he := (qcall c_read_rows (hr.mono (by decide)) rfl (qa_cons (qlc (own := [("row", 2)]) rfl sc_read_house.nd (qiseq (qsplit (qv 0) qstr)) (blkOk_by (N := ["text", "house", "row"]) (sc := defScope sD_read_house) (by decide +kernel)) (gcN (i := 2) sc_read_house.nd rfl) (fun _ _ _ _ _ => qts_nil) (fun _ _ _ _ _ => (qsplit (qv 2) qstr))) qa_nil))))
    (qs_cons (qif (qnot (qtv (qcall c_is_house (hr.mono (by decide)) rfl (qa_cons (qv 1) qa_nil)))) (qs_one qnever) qs_nil)
    (qs_one (qret (qv 1))))))
abbrev sD__law_is_plain : Stmt := topS 65
theorem sc__law_is_plain : FnScope ["_law_thing", "_law_one"] ["_law_thing"] (defScope sD__law_is_plain) := ⟨rfl, rfl, rfl, by decide +kernel, rfl, by decide +kernel, by decide +kernel⟩
theorem ok0__law_is_plain {f : Addr} {fd : FuncData} (F : Fun K "_law_is_plain" "_law_is_plain" sD__law_is_plain f fd) (seer : base.NoSeer) (tree : P.given.tree = none) : FnOk P w K mg base CX0 (40 + 1) f fd ["_law_thing"] (liftSp K (spr__law_is_plain 0)) := by
  exact okW F sc__law_is_plain seer tree (by decide) (fun ws G Q E h => (h : False).elim) (fun cdv A outer s H E hr hd => ⟨wNever, qs_never, fun _ _ _ _ h => (h : False).elim⟩)
theorem ok__law_is_plain (n : Nat) (hn : n ≤ 8) {f : Addr} {fd : FuncData} (F : Fun K "_law_is_plain" "_law_is_plain" sD__law_is_plain f fd) (seer : base.NoSeer) (tree : P.given.tree = none) (m_isinstance : mg "isinstance" = none) (m_tuple : mg "tuple" = none) (m_all : mg "all" = none) (m_int : mg "int" = none) (c_rec : Cal P w K mg base CX0 (41 + n) "_law_is_plain" (spr__law_is_plain n)) : FnOk P w K mg base CX0 (41 + n + 1) f fd ["_law_thing"] (liftSp K (spr__law_is_plain (n + 1))) := by
  refine okW F sc__law_is_plain seer tree (by omega) (fun ws G Q E h => ?_) (fun cdv A outer s H E hr hd => ⟨t__law_is_plain (spr__law_is_plain n), ?_, rd__law_is_plain n⟩)
  · exact len__law_is_plain n ws G Q E h
  · exact (qs_cons (qif (qtv (qisi (k := .tuple) (by decide) (by decide +kernel) (by decide) (by decide) rfl m_isinstance rfl m_tuple (qv 0))) (qs_one (qret (qall rfl rfl m_all (qa_cons (qlc (own := [("_law_one", 1)]) rfl sc__law_is_plain.nd (qiseq (qv 0)) (blkOk_by (N := ["_law_thing", "_law_one"]) (sc := defScope sD__law_is_plain) (by decide +kernel)) (gcN (i := 1) sc__law_is_plain.nd rfl) (fun _ _ _ _ _ => qts_nil) (fun _ _ _ _ _ => (qcall c_rec (hr.mono (by omega)) rfl (qa_cons (qv 1) qa_nil)))) qa_nil)))) qs_nil)
    (qs_one (qret (qorV (qisN (qv 0)) (qone (qisi (k := .int) (by decide) (by decide +kernel) (by decide) (by decide) rfl m_isinstance rfl m_int (qv 0)))))))
abbrev sD_law : Stmt := topS 66
theorem sc_law : FnScope ["_law_script", "_law_k", "_law_house_here", "_law_text_here", "_law_turn", "_law_found", "_law_work_here"] ["_law_script"] (defScope sD_law) := ⟨rfl, rfl, rfl, by decide +kernel, rfl, by decide +kernel, by decide +kernel⟩
theorem ok_law {f : Addr} {fd : FuncData} (F : Fun K "law" "law" sD_law f fd) (seer : base.NoSeer) (tree : P.given.tree = none) (c__law_house : Cal P w K mg base CX0 43 "_law_house" sp__law_house) (c__law_bag : Cal P w K mg base CX0 41 "_law_bag" sp__law_bag) (c_show_house : Cal P w K mg base CX0 44 "show_house" sp_show_house) (c__law_text : Cal P w K mg base CX0 41 "_law_text" sp__law_text) (c_read_house : Cal P w K mg base CX0 47 "read_house" sp_read_house) (c__law_is_plain : Cal P w K mg base CX0 49 "_law_is_plain" sp__law_is_plain) (m_range : mg "range" = none) (m_max : mg "max" = none) (m_min : mg "min" = none) (m_len : mg "len" = none) (m_isinstance : mg "isinstance" = none) (m_str : mg "str" = none) (m_bool : mg "bool" = none) : FnOk P w K mg base CX0 (49 + 1) f fd ["_law_script"] (liftSp K sp_law) := by
  refine okW F sc_law seer tree (by decide) (fun ws G Q E h => ?_) (fun cdv A outer s H E hr hd => ⟨t_law, ?_, rd_law⟩)
  · exact len_law ws G Q E h
  · exact (qs_cons (qfor (ks := [false, true, true, true, true, true, true]) PassesOwn.never rfl (qrange1 rfl m_range (qa_cons (qmax2 rfl rfl m_max (qa_cons qint (qa_cons (qmin2 rfl rfl m_min (qa_cons qint (qa_cons (qlen rfl m_len (qa_cons (qv 0) qa_nil)) qa_nil))) qa_nil))) qa_nil)) (qgN (i := 1) sc_law.nd rfl) (qs_cons (qset (i := 2) sc_law.nd rfl (he := (qcall c__law_house (hr.mono (by decide)) rfl (qa_cons (qcall c__law_bag (hr.mono (by decide)) rfl (qa_cons (qv 0) (qa_cons (qv 1) qa_nil))) qa_nil))))
    (qs_cons (qset (i := 3) sc_law.nd rfl (he := (qcall c_show_house (hr.mono (by decide)) rfl (qa_cons (qv 2) qa_nil))))
    (qs_cons (qif (qwt (qor (qnot (qtv (qisi (k := .str) (by decide) (by decide +kernel) (by decide) (by decide) rfl m_isinstance rfl m_str (qv 3)))) (qor1 (qtne hr (qv 3) (qcall c__law_text (hr.mono (by decide)) rfl (qa_cons (qv 2) qa_nil)))))) (qs_one (qret qbl)) qs_nil)
    (qs_one (qfor (ks := [false, true, false, false, true, true, true]) PassesOwn.never rfl (qrange1 rfl m_range (qa_cons qint qa_nil)) (qgN (i := 4) sc_law.nd rfl) (qs_cons (qset (i := 5) sc_law.nd rfl (he := (qcall c_read_house (hr.mono (by decide)) rfl (qa_cons (qv 3) qa_nil))))
    (qs_cons (qif (qwt (qor (qtne hr (qv 5) (qv 2)) (qor1 (qnot (qtv (qcall c__law_is_plain (hr.mono (by decide)) rfl (qa_cons (qv 5) qa_nil))))))) (qs_one (qret qbl)) qs_nil)
    (qs_one (qif (qtne hr (qlc (own := [("_law_work_here", 6)]) rfl sc_law.nd (qiseq (qix (qv 5) qint)) (blkOk_by (N := ["_law_script", "_law_k", "_law_house_here", "_law_text_here", "_law_turn", "_law_found", "_law_work_here"]) (sc := defScope sD_law) (by decide +kernel)) (gcN (i := 6) sc_law.nd rfl) (fun _ _ _ _ _ => qts_nil) (fun _ _ _ _ _ => (qisi (k := .bool) (by decide) (by decide +kernel) (by decide) (by decide) rfl m_isinstance rfl m_bool (qix (qv 6) qint)))) (qlc (own := [("_law_work_here", 6)]) rfl sc_law.nd (qiseq (qix (qv 2) qint)) (blkOk_by (N := ["_law_script", "_law_k", "_law_house_here", "_law_text_here", "_law_turn", "_law_found", "_law_work_here"]) (sc := defScope sD_law) (by decide +kernel)) (gcN (i := 6) sc_law.nd rfl) (fun _ _ _ _ _ => qts_nil) (fun _ _ _ _ _ => qbl))) (qs_one (qret qbl)) qs_nil))))))))))
    (qs_one (qret qbl)))
end
theorem all_mk {l : PySem.W.OpenLaw} {w : World} {K : PySem.W.Frag} {h : Heap} {mg : Str → Option Value} {fa f0 f1 f2 f3 f4 f5 f6 f7 f8 f9 f10 f11 f12 f13 f14 f15 f16 f17 f18 f19 f20 f21 f22 f23 f24 f25 f26 f27 f28 f29 f30 f31 f32 f33 f34 f35 f36 f37 f38 f39 : Addr} (X : K.In h) (G : h.Ns mainGlobals mg) (tree : l.prog.given.tree = none) (hfa : mg "law" = some (.ref fa))
    {od0 an0 od1 an1 od2 an2 od3 an3 od4 an4 od5 an5 od6 an6 od7 an7 od8 an8 od9 an9 od10 an10 od11 an11 od12 an12 od13 an13 od14 an14 od15 an15 od16 an16 od17 an17 od18 an18 od19 an19 od20 an20 od21 an21 od22 an22 od23 an23 od24 an24 od25 an25 od26 an26 od27 an27 od28 an28 od29 an29 od30 an30 od31 an31 od32 an32 od33 an33 od34 an34 od35 an35 od36 an36 od37 an37 od38 an38 od39 an39 : Option Addr} {sl0 sl1 sl2 sl3 sl4 sl5 sl6 sl7 sl8 sl9 sl10 sl11 sl12 sl13 sl14 sl15 sl16 sl17 sl18 sl19 sl20 sl21 sl22 sl23 sl24 sl25 sl26 sl27 sl28 sl29 sl30 sl31 sl32 sl33 sl34 sl35 sl36 sl37 sl38 sl39 : Array (Option Value)} {oc0 kV0 dc0 pm0 cd0 ct0 oc1 kV1 dc1 pm1 cd1 ct1 oc2 kV2 dc2 pm2 cd2 ct2 oc3 kV3 dc3 pm3 cd3 ct3 oc4 kV4 dc4 pm4 cd4 ct4 oc5 kV5 dc5 pm5 cd5 ct5 oc6 kV6 dc6 pm6 cd6 ct6 oc7 kV7 dc7 pm7 cd7 ct7 oc8 kV8 dc8 pm8 cd8 ct8 oc9 kV9 dc9 pm9 cd9 ct9 oc10 kV10 dc10 pm10 cd10 ct10 oc11 kV11 dc11 pm11 cd11 ct11 oc12 kV12 dc12 pm12 cd12 ct12 oc13 kV13 dc13 pm13 cd13 ct13 oc14 kV14 dc14 pm14 cd14 ct14 oc15 kV15 dc15 pm15 cd15 ct15 oc16 kV16 dc16 pm16 cd16 ct16 oc17 kV17 dc17 pm17 cd17 ct17 oc18 kV18 dc18 pm18 cd18 ct18 oc19 kV19 dc19 pm19 cd19 ct19 oc20 kV20 dc20 pm20 cd20 ct20 oc21 kV21 dc21 pm21 cd21 ct21 oc22 kV22 dc22 pm22 cd22 ct22 oc23 kV23 dc23 pm23 cd23 ct23 oc24 kV24 dc24 pm24 cd24 ct24 oc25 kV25 dc25 pm25 cd25 ct25 oc26 kV26 dc26 pm26 cd26 ct26 oc27 kV27 dc27 pm27 cd27 ct27 oc28 kV28 dc28 pm28 cd28 ct28 oc29 kV29 dc29 pm29 cd29 ct29 oc30 kV30 dc30 pm30 cd30 ct30 oc31 kV31 dc31 pm31 cd31 ct31 oc32 kV32 dc32 pm32 cd32 ct32 oc33 kV33 dc33 pm33 cd33 ct33 oc34 kV34 dc34 pm34 cd34 ct34 oc35 kV35 dc35 pm35 cd35 ct35 oc36 kV36 dc36 pm36 cd36 ct36 oc37 kV37 dc37 pm37 cd37 ct37 oc38 kV38 dc38 pm38 cd38 ct38 oc39 kV39 dc39 pm39 cd39 ct39 : Value}
    (a0 : PySem.W.nsIn K mainGlobals "is_whole" = some (some (.ref f0))) (l0 : K.lookup f0 = some ⟨oc0, od0, .func (PySem.W.fnOf "is_whole" "is_whole" (defArgs sD_is_whole) (defBody sD_is_whole) (defScope sD_is_whole) .none kV0 dc0 pm0 an0 cd0 ct0), sl0⟩) (c0 : PySem.W.codeIn K cd0 "is_whole" = true) (k0 : PySem.W.keepIn K (.ref f0) = true)
    (a1 : PySem.W.nsIn K mainGlobals "hangs_together" = some (some (.ref f1))) (l1 : K.lookup f1 = some ⟨oc1, od1, .func (PySem.W.fnOf "hangs_together" "hangs_together" (defArgs sD_hangs_together) (defBody sD_hangs_together) (defScope sD_hangs_together) .none kV1 dc1 pm1 an1 cd1 ct1), sl1⟩) (c1 : PySem.W.codeIn K cd1 "hangs_together" = true) (k1 : PySem.W.keepIn K (.ref f1) = true)
    (a2 : PySem.W.nsIn K mainGlobals "is_row_of" = some (some (.ref f2))) (l2 : K.lookup f2 = some ⟨oc2, od2, .func (PySem.W.fnOf "is_row_of" "is_row_of" (defArgs sD_is_row_of) (defBody sD_is_row_of) (defScope sD_is_row_of) .none kV2 dc2 pm2 an2 cd2 ct2), sl2⟩) (c2 : PySem.W.codeIn K cd2 "is_row_of" = true) (k2 : PySem.W.keepIn K (.ref f2) = true)
    (a3 : PySem.W.nsIn K mainGlobals "number_of" = some (some (.ref f3))) (l3 : K.lookup f3 = some ⟨oc3, od3, .func (PySem.W.fnOf "number_of" "number_of" (defArgs sD_number_of) (defBody sD_number_of) (defScope sD_number_of) .none kV3 dc3 pm3 an3 cd3 ct3), sl3⟩) (c3 : PySem.W.codeIn K cd3 "number_of" = true) (k3 : PySem.W.keepIn K (.ref f3) = true)
    (a4 : PySem.W.nsIn K mainGlobals "must_be" = some (some (.ref f4))) (l4 : K.lookup f4 = some ⟨oc4, od4, .func (PySem.W.fnOf "must_be" "must_be" (defArgs sD_must_be) (defBody sD_must_be) (defScope sD_must_be) .none kV4 dc4 pm4 an4 cd4 ct4), sl4⟩) (c4 : PySem.W.codeIn K cd4 "must_be" = true) (k4 : PySem.W.keepIn K (.ref f4) = true)
    (a5 : PySem.W.nsIn K mainGlobals "rows_with" = some (some (.ref f5))) (l5 : K.lookup f5 = some ⟨oc5, od5, .func (PySem.W.fnOf "rows_with" "rows_with" (defArgs sD_rows_with) (defBody sD_rows_with) (defScope sD_rows_with) .none kV5 dc5 pm5 an5 cd5 ct5), sl5⟩) (c5 : PySem.W.codeIn K cd5 "rows_with" = true) (k5 : PySem.W.keepIn K (.ref f5) = true)
    (a6 : PySem.W.nsIn K mainGlobals "shown_row" = some (some (.ref f6))) (l6 : K.lookup f6 = some ⟨oc6, od6, .func (PySem.W.fnOf "shown_row" "shown_row" (defArgs sD_shown_row) (defBody sD_shown_row) (defScope sD_shown_row) .none kV6 dc6 pm6 an6 cd6 ct6), sl6⟩) (c6 : PySem.W.codeIn K cd6 "shown_row" = true) (k6 : PySem.W.keepIn K (.ref f6) = true)
    (a7 : PySem.W.nsIn K mainGlobals "colons" = some (some (.ref f7))) (l7 : K.lookup f7 = some ⟨oc7, od7, .func (PySem.W.fnOf "colons" "colons" (defArgs sD_colons) (defBody sD_colons) (defScope sD_colons) .none kV7 dc7 pm7 an7 cd7 ct7), sl7⟩) (c7 : PySem.W.codeIn K cd7 "colons" = true) (k7 : PySem.W.keepIn K (.ref f7) = true)
    (a8 : PySem.W.nsIn K mainGlobals "_law_bag" = some (some (.ref f8))) (l8 : K.lookup f8 = some ⟨oc8, od8, .func (PySem.W.fnOf "_law_bag" "_law_bag" (defArgs sD__law_bag) (defBody sD__law_bag) (defScope sD__law_bag) .none kV8 dc8 pm8 an8 cd8 ct8), sl8⟩) (c8 : PySem.W.codeIn K cd8 "_law_bag" = true) (k8 : PySem.W.keepIn K (.ref f8) = true)
    (a9 : PySem.W.nsIn K mainGlobals "_law_take" = some (some (.ref f9))) (l9 : K.lookup f9 = some ⟨oc9, od9, .func (PySem.W.fnOf "_law_take" "_law_take" (defArgs sD__law_take) (defBody sD__law_take) (defScope sD__law_take) .none kV9 dc9 pm9 an9 cd9 ct9), sl9⟩) (c9 : PySem.W.codeIn K cd9 "_law_take" = true) (k9 : PySem.W.keepIn K (.ref f9) = true)
    (a10 : PySem.W.nsIn K mainGlobals "_law_text" = some (some (.ref f10))) (l10 : K.lookup f10 = some ⟨oc10, od10, .func (PySem.W.fnOf "_law_text" "_law_text" (defArgs sD__law_text) (defBody sD__law_text) (defScope sD__law_text) .none kV10 dc10 pm10 an10 cd10 ct10), sl10⟩) (c10 : PySem.W.codeIn K cd10 "_law_text" = true) (k10 : PySem.W.keepIn K (.ref f10) = true)
    (a11 : PySem.W.nsIn K mainGlobals "is_from" = some (some (.ref f11))) (l11 : K.lookup f11 = some ⟨oc11, od11, .func (PySem.W.fnOf "is_from" "is_from" (defArgs sD_is_from) (defBody sD_is_from) (defScope sD_is_from) .none kV11 dc11 pm11 an11 cd11 ct11), sl11⟩) (c11 : PySem.W.codeIn K cd11 "is_from" = true) (k11 : PySem.W.keepIn K (.ref f11) = true)
    (a12 : PySem.W.nsIn K mainGlobals "numbers_of" = some (some (.ref f12))) (l12 : K.lookup f12 = some ⟨oc12, od12, .func (PySem.W.fnOf "numbers_of" "numbers_of" (defArgs sD_numbers_of) (defBody sD_numbers_of) (defScope sD_numbers_of) .none kV12 dc12 pm12 an12 cd12 ct12), sl12⟩) (c12 : PySem.W.codeIn K cd12 "numbers_of" = true) (k12 : PySem.W.keepIn K (.ref f12) = true)
    (a13 : PySem.W.nsIn K mainGlobals "shown_work" = some (some (.ref f13))) (l13 : K.lookup f13 = some ⟨oc13, od13, .func (PySem.W.fnOf "shown_work" "shown_work" (defArgs sD_shown_work) (defBody sD_shown_work) (defScope sD_shown_work) .none kV13 dc13 pm13 an13 cd13 ct13), sl13⟩) (c13 : PySem.W.codeIn K cd13 "shown_work" = true) (k13 : PySem.W.keepIn K (.ref f13) = true)
    (a14 : PySem.W.nsIn K mainGlobals "_law_net" = some (some (.ref f14))) (l14 : K.lookup f14 = some ⟨oc14, od14, .func (PySem.W.fnOf "_law_net" "_law_net" (defArgs sD__law_net) (defBody sD__law_net) (defScope sD__law_net) .none kV14 dc14 pm14 an14 cd14 ct14), sl14⟩) (c14 : PySem.W.codeIn K cd14 "_law_net" = true) (k14 : PySem.W.keepIn K (.ref f14) = true)
    (a15 : PySem.W.nsIn K mainGlobals "_law_work" = some (some (.ref f15))) (l15 : K.lookup f15 = some ⟨oc15, od15, .func (PySem.W.fnOf "_law_work" "_law_work" (defArgs sD__law_work) (defBody sD__law_work) (defScope sD__law_work) .none kV15 dc15 pm15 an15 cd15 ct15), sl15⟩) (c15 : PySem.W.codeIn K cd15 "_law_work" = true) (k15 : PySem.W.keepIn K (.ref f15) = true)
    (a16 : PySem.W.nsIn K mainGlobals "_law_wants" = some (some (.ref f16))) (l16 : K.lookup f16 = some ⟨oc16, od16, .func (PySem.W.fnOf "_law_wants" "_law_wants" (defArgs sD__law_wants) (defBody sD__law_wants) (defScope sD__law_wants) .none kV16 dc16 pm16 an16 cd16 ct16), sl16⟩) (c16 : PySem.W.codeIn K cd16 "_law_wants" = true) (k16 : PySem.W.keepIn K (.ref f16) = true)
    (a17 : PySem.W.nsIn K mainGlobals "_law_store" = some (some (.ref f17))) (l17 : K.lookup f17 = some ⟨oc17, od17, .func (PySem.W.fnOf "_law_store" "_law_store" (defArgs sD__law_store) (defBody sD__law_store) (defScope sD__law_store) .none kV17 dc17 pm17 an17 cd17 ct17), sl17⟩) (c17 : PySem.W.codeIn K cd17 "_law_store" = true) (k17 : PySem.W.keepIn K (.ref f17) = true)
    (a18 : PySem.W.nsIn K mainGlobals "is_line" = some (some (.ref f18))) (l18 : K.lookup f18 = some ⟨oc18, od18, .func (PySem.W.fnOf "is_line" "is_line" (defArgs sD_is_line) (defBody sD_is_line) (defScope sD_is_line) .none kV18 dc18 pm18 an18 cd18 ct18), sl18⟩) (c18 : PySem.W.codeIn K cd18 "is_line" = true) (k18 : PySem.W.keepIn K (.ref f18) = true)
    (a19 : PySem.W.nsIn K mainGlobals "is_piece" = some (some (.ref f19))) (l19 : K.lookup f19 = some ⟨oc19, od19, .func (PySem.W.fnOf "is_piece" "is_piece" (defArgs sD_is_piece) (defBody sD_is_piece) (defScope sD_is_piece) .none kV19 dc19 pm19 an19 cd19 ct19), sl19⟩) (c19 : PySem.W.codeIn K cd19 "is_piece" = true) (k19 : PySem.W.keepIn K (.ref f19) = true)
    (a20 : PySem.W.nsIn K mainGlobals "is_store" = some (some (.ref f20))) (l20 : K.lookup f20 = some ⟨oc20, od20, .func (PySem.W.fnOf "is_store" "is_store" (defArgs sD_is_store) (defBody sD_is_store) (defScope sD_is_store) .none kV20 dc20 pm20 an20 cd20 ct20), sl20⟩) (c20 : PySem.W.codeIn K cd20 "is_store" = true) (k20 : PySem.W.keepIn K (.ref f20) = true)
    (a21 : PySem.W.nsIn K mainGlobals "is_want" = some (some (.ref f21))) (l21 : K.lookup f21 = some ⟨oc21, od21, .func (PySem.W.fnOf "is_want" "is_want" (defArgs sD_is_want) (defBody sD_is_want) (defScope sD_is_want) .none kV21 dc21 pm21 an21 cd21 ct21), sl21⟩) (c21 : PySem.W.codeIn K cd21 "is_want" = true) (k21 : PySem.W.keepIn K (.ref f21) = true)
    (a22 : PySem.W.nsIn K mainGlobals "parted_numbers" = some (some (.ref f22))) (l22 : K.lookup f22 = some ⟨oc22, od22, .func (PySem.W.fnOf "parted_numbers" "parted_numbers" (defArgs sD_parted_numbers) (defBody sD_parted_numbers) (defScope sD_parted_numbers) .none kV22 dc22 pm22 an22 cd22 ct22), sl22⟩) (c22 : PySem.W.codeIn K cd22 "parted_numbers" = true) (k22 : PySem.W.keepIn K (.ref f22) = true)
    (a23 : PySem.W.nsIn K mainGlobals "read_net" = some (some (.ref f23))) (l23 : K.lookup f23 = some ⟨oc23, od23, .func (PySem.W.fnOf "read_net" "read_net" (defArgs sD_read_net) (defBody sD_read_net) (defScope sD_read_net) .none kV23 dc23 pm23 an23 cd23 ct23), sl23⟩) (c23 : PySem.W.codeIn K cd23 "read_net" = true) (k23 : PySem.W.keepIn K (.ref f23) = true)
    (a24 : PySem.W.nsIn K mainGlobals "read_line" = some (some (.ref f24))) (l24 : K.lookup f24 = some ⟨oc24, od24, .func (PySem.W.fnOf "read_line" "read_line" (defArgs sD_read_line) (defBody sD_read_line) (defScope sD_read_line) .none kV24 dc24 pm24 an24 cd24 ct24), sl24⟩) (c24 : PySem.W.codeIn K cd24 "read_line" = true) (k24 : PySem.W.keepIn K (.ref f24) = true)
    (a25 : PySem.W.nsIn K mainGlobals "read_store" = some (some (.ref f25))) (l25 : K.lookup f25 = some ⟨oc25, od25, .func (PySem.W.fnOf "read_store" "read_store" (defArgs sD_read_store) (defBody sD_read_store) (defScope sD_read_store) .none kV25 dc25 pm25 an25 cd25 ct25), sl25⟩) (c25 : PySem.W.codeIn K cd25 "read_store" = true) (k25 : PySem.W.keepIn K (.ref f25) = true)
    (a26 : PySem.W.nsIn K mainGlobals "house_rows" = some (some (.ref f26))) (l26 : K.lookup f26 = some ⟨oc26, od26, .func (PySem.W.fnOf "house_rows" "house_rows" (defArgs sD_house_rows) (defBody sD_house_rows) (defScope sD_house_rows) .none kV26 dc26 pm26 an26 cd26 ct26), sl26⟩) (c26 : PySem.W.codeIn K cd26 "house_rows" = true) (k26 : PySem.W.keepIn K (.ref f26) = true)
    (a27 : PySem.W.nsIn K mainGlobals "_law_house" = some (some (.ref f27))) (l27 : K.lookup f27 = some ⟨oc27, od27, .func (PySem.W.fnOf "_law_house" "_law_house" (defArgs sD__law_house) (defBody sD__law_house) (defScope sD__law_house) .none kV27 dc27 pm27 an27 cd27 ct27), sl27⟩) (c27 : PySem.W.codeIn K cd27 "_law_house" = true) (k27 : PySem.W.keepIn K (.ref f27) = true)
    (a28 : PySem.W.nsIn K mainGlobals "is_net" = some (some (.ref f28))) (l28 : K.lookup f28 = some ⟨oc28, od28, .func (PySem.W.fnOf "is_net" "is_net" (defArgs sD_is_net) (defBody sD_is_net) (defScope sD_is_net) .none kV28 dc28 pm28 an28 cd28 ct28), sl28⟩) (c28 : PySem.W.codeIn K cd28 "is_net" = true) (k28 : PySem.W.keepIn K (.ref f28) = true)
    (a29 : PySem.W.nsIn K mainGlobals "are_pieces" = some (some (.ref f29))) (l29 : K.lookup f29 = some ⟨oc29, od29, .func (PySem.W.fnOf "are_pieces" "are_pieces" (defArgs sD_are_pieces) (defBody sD_are_pieces) (defScope sD_are_pieces) .none kV29 dc29 pm29 an29 cd29 ct29), sl29⟩) (c29 : PySem.W.codeIn K cd29 "are_pieces" = true) (k29 : PySem.W.keepIn K (.ref f29) = true)
    (a30 : PySem.W.nsIn K mainGlobals "are_wants" = some (some (.ref f30))) (l30 : K.lookup f30 = some ⟨oc30, od30, .func (PySem.W.fnOf "are_wants" "are_wants" (defArgs sD_are_wants) (defBody sD_are_wants) (defScope sD_are_wants) .none kV30 dc30 pm30 an30 cd30 ct30), sl30⟩) (c30 : PySem.W.codeIn K cd30 "are_wants" = true) (k30 : PySem.W.keepIn K (.ref f30) = true)
    (a31 : PySem.W.nsIn K mainGlobals "read_work" = some (some (.ref f31))) (l31 : K.lookup f31 = some ⟨oc31, od31, .func (PySem.W.fnOf "read_work" "read_work" (defArgs sD_read_work) (defBody sD_read_work) (defScope sD_read_work) .none kV31 dc31 pm31 an31 cd31 ct31), sl31⟩) (c31 : PySem.W.codeIn K cd31 "read_work" = true) (k31 : PySem.W.keepIn K (.ref f31) = true)
    (a32 : PySem.W.nsIn K mainGlobals "read_hour" = some (some (.ref f32))) (l32 : K.lookup f32 = some ⟨oc32, od32, .func (PySem.W.fnOf "read_hour" "read_hour" (defArgs sD_read_hour) (defBody sD_read_hour) (defScope sD_read_hour) .none kV32 dc32 pm32 an32 cd32 ct32), sl32⟩) (c32 : PySem.W.codeIn K cd32 "read_hour" = true) (k32 : PySem.W.keepIn K (.ref f32) = true)
    (a33 : PySem.W.nsIn K mainGlobals "show_house" = some (some (.ref f33))) (l33 : K.lookup f33 = some ⟨oc33, od33, .func (PySem.W.fnOf "show_house" "show_house" (defArgs sD_show_house) (defBody sD_show_house) (defScope sD_show_house) .none kV33 dc33 pm33 an33 cd33 ct33), sl33⟩) (c33 : PySem.W.codeIn K cd33 "show_house" = true) (k33 : PySem.W.keepIn K (.ref f33) = true)
    (a34 : PySem.W.nsIn K mainGlobals "is_work" = some (some (.ref f34))) (l34 : K.lookup f34 = some ⟨oc34, od34, .func (PySem.W.fnOf "is_work" "is_work" (defArgs sD_is_work) (defBody sD_is_work) (defScope sD_is_work) .none kV34 dc34 pm34 an34 cd34 ct34), sl34⟩) (c34 : PySem.W.codeIn K cd34 "is_work" = true) (k34 : PySem.W.keepIn K (.ref f34) = true)
    (a35 : PySem.W.nsIn K mainGlobals "read_rows" = some (some (.ref f35))) (l35 : K.lookup f35 = some ⟨oc35, od35, .func (PySem.W.fnOf "read_rows" "read_rows" (defArgs sD_read_rows) (defBody sD_read_rows) (defScope sD_read_rows) .none kV35 dc35 pm35 an35 cd35 ct35), sl35⟩) (c35 : PySem.W.codeIn K cd35 "read_rows" = true) (k35 : PySem.W.keepIn K (.ref f35) = true)
    (a36 : PySem.W.nsIn K mainGlobals "is_house" = some (some (.ref f36))) (l36 : K.lookup f36 = some ⟨oc36, od36, .func (PySem.W.fnOf "is_house" "is_house" (defArgs sD_is_house) (defBody sD_is_house) (defScope sD_is_house) .none kV36 dc36 pm36 an36 cd36 ct36), sl36⟩) (c36 : PySem.W.codeIn K cd36 "is_house" = true) (k36 : PySem.W.keepIn K (.ref f36) = true)
    (a37 : PySem.W.nsIn K mainGlobals "read_house" = some (some (.ref f37))) (l37 : K.lookup f37 = some ⟨oc37, od37, .func (PySem.W.fnOf "read_house" "read_house" (defArgs sD_read_house) (defBody sD_read_house) (defScope sD_read_house) .none kV37 dc37 pm37 an37 cd37 ct37), sl37⟩) (c37 : PySem.W.codeIn K cd37 "read_house" = true) (k37 : PySem.W.keepIn K (.ref f37) = true)
    (a38 : PySem.W.nsIn K mainGlobals "_law_is_plain" = some (some (.ref f38))) (l38 : K.lookup f38 = some ⟨oc38, od38, .func (PySem.W.fnOf "_law_is_plain" "_law_is_plain" (defArgs sD__law_is_plain) (defBody sD__law_is_plain) (defScope sD__law_is_plain) .none kV38 dc38 pm38 an38 cd38 ct38), sl38⟩) (c38 : PySem.W.codeIn K cd38 "_law_is_plain" = true) (k38 : PySem.W.keepIn K (.ref f38) = true)
    (a39 : PySem.W.nsIn K mainGlobals "law" = some (some (.ref f39))) (l39 : K.lookup f39 = some ⟨oc39, od39, .func (PySem.W.fnOf "law" "law" (defArgs sD_law) (defBody sD_law) (defScope sD_law) .none kV39 dc39 pm39 an39 cd39 ct39), sl39⟩) (c39 : PySem.W.codeIn K cd39 "law" = true) (k39 : PySem.W.keepIn K (.ref f39) = true)
    (z_abs : PySem.W.nsIn K mainGlobals "abs" = some none)
    (z_all : PySem.W.nsIn K mainGlobals "all" = some none)
    (z_bool : PySem.W.nsIn K mainGlobals "bool" = some none)
    (z_int : PySem.W.nsIn K mainGlobals "int" = some none)
    (z_isinstance : PySem.W.nsIn K mainGlobals "isinstance" = some none)
    (z_len : PySem.W.nsIn K mainGlobals "len" = some none)
    (z_max : PySem.W.nsIn K mainGlobals "max" = some none)
    (z_min : PySem.W.nsIn K mainGlobals "min" = some none)
    (z_range : PySem.W.nsIn K mainGlobals "range" = some none)
    (z_str : PySem.W.nsIn K mainGlobals "str" = some none)
    (z_tuple : PySem.W.nsIn K mainGlobals "tuple" = some none)
    {tk_FIGURES : Tok} (g_FIGURES : PySem.W.nsIn K mainGlobals "FIGURES" = some (some (.str "0123456789" tk_FIGURES)))
    {tk_FIRM : Tok} (g_FIRM : PySem.W.nsIn K mainGlobals "FIRM" = some (some (.int 100 tk_FIRM)))
    {tk_LONGEST : Tok} (g_LONGEST : PySem.W.nsIn K mainGlobals "LONGEST" = some (some (.int 2 tk_LONGEST)))
    {tk_MOST_BORNE : Tok} (g_MOST_BORNE : PySem.W.nsIn K mainGlobals "MOST_BORNE" = some (some (.int 99 tk_MOST_BORNE)))
    {tk_MOST_FIGURES : Tok} (g_MOST_FIGURES : PySem.W.nsIn K mainGlobals "MOST_FIGURES" = some (some (.int 40 tk_MOST_FIGURES)))
    {tk_MOST_HOURS : Tok} (g_MOST_HOURS : PySem.W.nsIn K mainGlobals "MOST_HOURS" = some (some (.int 3 tk_MOST_HOURS)))
    {tk_MOST_LEAST : Tok} (g_MOST_LEAST : PySem.W.nsIn K mainGlobals "MOST_LEAST" = some (some (.int 20 tk_MOST_LEAST)))
    {tk_MOST_LINES : Tok} (g_MOST_LINES : PySem.W.nsIn K mainGlobals "MOST_LINES" = some (some (.int 6 tk_MOST_LINES)))
    {tk_MOST_PLACES : Tok} (g_MOST_PLACES : PySem.W.nsIn K mainGlobals "MOST_PLACES" = some (some (.int 4 tk_MOST_PLACES)))
    {tk_MOST_PRICE : Tok} (g_MOST_PRICE : PySem.W.nsIn K mainGlobals "MOST_PRICE" = some (some (.int 99 tk_MOST_PRICE)))
    {tk_MOST_SIZE : Tok} (g_MOST_SIZE : PySem.W.nsIn K mainGlobals "MOST_SIZE" = some (some (.int 30 tk_MOST_SIZE)))
    {tk_MOST_WANTS : Tok} (g_MOST_WANTS : PySem.W.nsIn K mainGlobals "MOST_WANTS" = some (some (.int 3 tk_MOST_WANTS)))
    {tk_MOST_WIDTH : Tok} (g_MOST_WIDTH : PySem.W.nsIn K mainGlobals "MOST_WIDTH" = some (some (.int 20 tk_MOST_WIDTH)))
    {tk_MOST_WORKS : Tok} (g_MOST_WORKS : PySem.W.nsIn K mainGlobals "MOST_WORKS" = some (some (.int 3 tk_MOST_WORKS)))
    {tk_OFF : Tok} (g_OFF : PySem.W.nsIn K mainGlobals "OFF" = some (some (.str "off" tk_OFF)))
    {tk_ON : Tok} (g_ON : PySem.W.nsIn K mainGlobals "ON" = some (some (.str "on" tk_ON)))
    {tk_STIFFEST : Tok} (g_STIFFEST : PySem.W.nsIn K mainGlobals "STIFFEST" = some (some (.int 9 tk_STIFFEST)))
    {tk_TOPMOST : Tok} (g_TOPMOST : PySem.W.nsIn K mainGlobals "TOPMOST" = some (some (.int 2 tk_TOPMOST)))
    : ∃ fd : FuncData, (∀ (s : Shared) (v : Value), BindsTo s fd ⟨[v], []⟩ [("_law_script", v)]) ∧ ∀ base : Heap, K.In base → base.Ns mainGlobals mg → base.NoSeer → FnOk l.prog w K mg base CX0 50 fa fd ["_law_script"] (liftSp K sp_law) := by
  have e := hfa.symm.trans (PySem.W.mg_of X G a39)
  cases e
  have m_abs : mg "abs" = none := PySem.W.mg_none_of X G z_abs
  have m_all : mg "all" = none := PySem.W.mg_none_of X G z_all
  have m_bool : mg "bool" = none := PySem.W.mg_none_of X G z_bool
  have m_int : mg "int" = none := PySem.W.mg_none_of X G z_int
  have m_isinstance : mg "isinstance" = none := PySem.W.mg_none_of X G z_isinstance
  have m_len : mg "len" = none := PySem.W.mg_none_of X G z_len
  have m_max : mg "max" = none := PySem.W.mg_none_of X G z_max
  have m_min : mg "min" = none := PySem.W.mg_none_of X G z_min
  have m_range : mg "range" = none := PySem.W.mg_none_of X G z_range
  have m_str : mg "str" = none := PySem.W.mg_none_of X G z_str
  have m_tuple : mg "tuple" = none := PySem.W.mg_none_of X G z_tuple
  have c_FIGURES : GlobW K mg "FIGURES" (.str "0123456789") := GlobW.str (PySem.W.mg_of X G g_FIGURES)
  have c_FIRM : GlobW K mg "FIRM" (.int 100) := GlobW.int (PySem.W.mg_of X G g_FIRM)
  have c_LONGEST : GlobW K mg "LONGEST" (.int 2) := GlobW.int (PySem.W.mg_of X G g_LONGEST)
  have c_MOST_BORNE : GlobW K mg "MOST_BORNE" (.int 99) := GlobW.int (PySem.W.mg_of X G g_MOST_BORNE)
  have c_MOST_FIGURES : GlobW K mg "MOST_FIGURES" (.int 40) := GlobW.int (PySem.W.mg_of X G g_MOST_FIGURES)
  have c_MOST_HOURS : GlobW K mg "MOST_HOURS" (.int 3) := GlobW.int (PySem.W.mg_of X G g_MOST_HOURS)
  have c_MOST_LEAST : GlobW K mg "MOST_LEAST" (.int 20) := GlobW.int (PySem.W.mg_of X G g_MOST_LEAST)
  have c_MOST_LINES : GlobW K mg "MOST_LINES" (.int 6) := GlobW.int (PySem.W.mg_of X G g_MOST_LINES)
  have c_MOST_PLACES : GlobW K mg "MOST_PLACES" (.int 4) := GlobW.int (PySem.W.mg_of X G g_MOST_PLACES)
  have c_MOST_PRICE : GlobW K mg "MOST_PRICE" (.int 99) := GlobW.int (PySem.W.mg_of X G g_MOST_PRICE)
  have c_MOST_SIZE : GlobW K mg "MOST_SIZE" (.int 30) := GlobW.int (PySem.W.mg_of X G g_MOST_SIZE)
  have c_MOST_WANTS : GlobW K mg "MOST_WANTS" (.int 3) := GlobW.int (PySem.W.mg_of X G g_MOST_WANTS)
  have c_MOST_WIDTH : GlobW K mg "MOST_WIDTH" (.int 20) := GlobW.int (PySem.W.mg_of X G g_MOST_WIDTH)
  have c_MOST_WORKS : GlobW K mg "MOST_WORKS" (.int 3) := GlobW.int (PySem.W.mg_of X G g_MOST_WORKS)
  have c_OFF : GlobW K mg "OFF" (.str "off") := GlobW.str (PySem.W.mg_of X G g_OFF)
  have c_ON : GlobW K mg "ON" (.str "on") := GlobW.str (PySem.W.mg_of X G g_ON)
  have c_STIFFEST : GlobW K mg "STIFFEST" (.int 9) := GlobW.int (PySem.W.mg_of X G g_STIFFEST)
  have c_TOPMOST : GlobW K mg "TOPMOST" (.int 2) := GlobW.int (PySem.W.mg_of X G g_TOPMOST)
  have F0 := fun_mk (st := sD_is_whole) l0 c0 k0
  have F1 := fun_mk (st := sD_hangs_together) l1 c1 k1
  have F2 := fun_mk (st := sD_is_row_of) l2 c2 k2
  have F3 := fun_mk (st := sD_number_of) l3 c3 k3
  have F4 := fun_mk (st := sD_must_be) l4 c4 k4
  have F5 := fun_mk (st := sD_rows_with) l5 c5 k5
  have F6 := fun_mk (st := sD_shown_row) l6 c6 k6
  have F7 := fun_mk (st := sD_colons) l7 c7 k7
  have F8 := fun_mk (st := sD__law_bag) l8 c8 k8
  have F9 := fun_mk (st := sD__law_take) l9 c9 k9
  have F10 := fun_mk (st := sD__law_text) l10 c10 k10
  have F11 := fun_mk (st := sD_is_from) l11 c11 k11
  have F12 := fun_mk (st := sD_numbers_of) l12 c12 k12
  have F13 := fun_mk (st := sD_shown_work) l13 c13 k13
  have F14 := fun_mk (st := sD__law_net) l14 c14 k14
  have F15 := fun_mk (st := sD__law_work) l15 c15 k15
  have F16 := fun_mk (st := sD__law_wants) l16 c16 k16
  have F17 := fun_mk (st := sD__law_store) l17 c17 k17
  have F18 := fun_mk (st := sD_is_line) l18 c18 k18
  have F19 := fun_mk (st := sD_is_piece) l19 c19 k19
  have F20 := fun_mk (st := sD_is_store) l20 c20 k20
  have F21 := fun_mk (st := sD_is_want) l21 c21 k21
  have F22 := fun_mk (st := sD_parted_numbers) l22 c22 k22
  have F23 := fun_mk (st := sD_read_net) l23 c23 k23
  have F24 := fun_mk (st := sD_read_line) l24 c24 k24
  have F25 := fun_mk (st := sD_read_store) l25 c25 k25
  have F26 := fun_mk (st := sD_house_rows) l26 c26 k26
  have F27 := fun_mk (st := sD__law_house) l27 c27 k27
  have F28 := fun_mk (st := sD_is_net) l28 c28 k28
  have F29 := fun_mk (st := sD_are_pieces) l29 c29 k29
  have F30 := fun_mk (st := sD_are_wants) l30 c30 k30
  have F31 := fun_mk (st := sD_read_work) l31 c31 k31
  have F32 := fun_mk (st := sD_read_hour) l32 c32 k32
  have F33 := fun_mk (st := sD_show_house) l33 c33 k33
  have F34 := fun_mk (st := sD_is_work) l34 c34 k34
  have F35 := fun_mk (st := sD_read_rows) l35 c35 k35
  have F36 := fun_mk (st := sD_is_house) l36 c36 k36
  have F37 := fun_mk (st := sD_read_house) l37 c37 k37
  have F38 := fun_mk (st := sD__law_is_plain) l38 c38 k38
  have F39 := fun_mk (st := sD_law) l39 c39 k39
  exact ⟨_, fun s v => .of_eq rfl, fun base _ _ seer => by
    have c_is_whole : Cal l.prog w K mg base CX0 41 "is_whole" sp_is_whole := ⟨_, _, _, ok_is_whole F0 seer tree m_isinstance m_int m_bool, PySem.W.mg_of X G a0, k0, F0.binds (ps := ["thing"]) fun _ _ _ _ _ _ us hl => match us, hl with | [_], _ => rfl⟩
    have c_hangs_together : Cal l.prog w K mg base CX0 41 "hangs_together" sp_hangs_together := ⟨_, _, _, ok_hangs_together F1 seer tree m_len, PySem.W.mg_of X G a1, k1, F1.binds (ps := ["many", "lines"]) fun _ _ _ _ _ _ us hl => match us, hl with | [_, _], _ => rfl⟩
    have c_is_row_of : Cal l.prog w K mg base CX0 41 "is_row_of" sp_is_row_of := ⟨_, _, _, ok_is_row_of F2 seer tree m_isinstance m_tuple m_len, PySem.W.mg_of X G a2, k2, F2.binds (ps := ["thing", "least", "most"]) fun _ _ _ _ _ _ us hl => match us, hl with | [_, _, _], _ => rfl⟩
    have c_number_of : Cal l.prog w K mg base CX0 41 "number_of" sp_number_of := ⟨_, _, _, ok_number_of F3 seer tree m_len m_all m_int c_MOST_FIGURES c_FIGURES, PySem.W.mg_of X G a3, k3, F3.binds (ps := ["word"]) fun _ _ _ _ _ _ us hl => match us, hl with | [_], _ => rfl⟩
    have c_must_be : Cal l.prog w K mg base CX0 41 "must_be" sp_must_be := ⟨_, _, _, ok_must_be F4 seer tree, PySem.W.mg_of X G a4, k4, F4.binds (ps := ["holds"]) fun _ _ _ _ _ _ us hl => match us, hl with | [_], _ => rfl⟩
    have c_rows_with : Cal l.prog w K mg base CX0 41 "rows_with" sp_rows_with := ⟨_, _, _, ok_rows_with F5 seer tree m_len, PySem.W.mg_of X G a5, k5, F5.binds (ps := ["rows", "first"]) fun _ _ _ _ _ _ us hl => match us, hl with | [_, _], _ => rfl⟩
    have c_shown_row : Cal l.prog w K mg base CX0 41 "shown_row" sp_shown_row := ⟨_, _, _, ok_shown_row F6 seer tree m_str, PySem.W.mg_of X G a6, k6, F6.binds (ps := ["first", "numbers"]) fun _ _ _ _ _ _ us hl => match us, hl with | [_, _], _ => rfl⟩
    have c_colons : Cal l.prog w K mg base CX0 41 "colons" sp_colons := ⟨_, _, _, ok_colons F7 seer tree m_str, PySem.W.mg_of X G a7, k7, F7.binds (ps := ["numbers"]) fun _ _ _ _ _ _ us hl => match us, hl with | [_], _ => rfl⟩
    have c__law_bag : Cal l.prog w K mg base CX0 41 "_law_bag" sp__law_bag := ⟨_, _, _, ok__law_bag F8 seer tree m_len m_abs m_range m_min, PySem.W.mg_of X G a8, k8, F8.binds (ps := ["_law_script", "_law_at"]) fun _ _ _ _ _ _ us hl => match us, hl with | [_, _], _ => rfl⟩
    have c__law_take : Cal l.prog w K mg base CX0 41 "_law_take" sp__law_take := ⟨_, _, _, ok__law_take F9 seer tree, PySem.W.mg_of X G a9, k9, F9.binds (ps := ["_law_bag_here", "_law_many"]) fun _ _ _ _ _ _ us hl => match us, hl with | [_, _], _ => rfl⟩
    have c__law_text : Cal l.prog w K mg base CX0 41 "_law_text" sp__law_text := ⟨_, _, _, ok__law_text F10 seer tree m_str m_int, PySem.W.mg_of X G a10, k10, F10.binds (ps := ["_law_house_here"]) fun _ _ _ _ _ _ us hl => match us, hl with | [_], _ => rfl⟩
    have c_is_from : Cal l.prog w K mg base CX0 42 "is_from" sp_is_from := ⟨_, _, _, ok_is_from F11 seer tree c_is_whole, PySem.W.mg_of X G a11, k11, F11.binds (ps := ["thing", "least", "most"]) fun _ _ _ _ _ _ us hl => match us, hl with | [_, _, _], _ => rfl⟩
    have c_numbers_of : Cal l.prog w K mg base CX0 42 "numbers_of" sp_numbers_of := ⟨_, _, _, ok_numbers_of F12 seer tree c_number_of c_must_be m_all m_tuple, PySem.W.mg_of X G a12, k12, F12.binds (ps := ["words"]) fun _ _ _ _ _ _ us hl => match us, hl with | [_], _ => rfl⟩
    have c_shown_work : Cal l.prog w K mg base CX0 42 "shown_work" sp_shown_work := ⟨_, _, _, ok_shown_work F13 seer tree c_shown_row c_colons c_ON c_OFF, PySem.W.mg_of X G a13, k13, F13.binds (ps := ["work"]) fun _ _ _ _ _ _ us hl => match us, hl with | [_], _ => rfl⟩
    have c__law_net : Cal l.prog w K mg base CX0 42 "_law_net" sp__law_net := ⟨_, _, _, ok__law_net F14 seer tree c__law_take m_range m_int m_tuple, PySem.W.mg_of X G a14, k14, F14.binds (ps := ["_law_bag_here", "_law_many"]) fun _ _ _ _ _ _ us hl => match us, hl with | [_, _], _ => rfl⟩
    have c__law_work : Cal l.prog w K mg base CX0 42 "_law_work" sp__law_work := ⟨_, _, _, ok__law_work F15 seer tree c__law_take m_tuple, PySem.W.mg_of X G a15, k15, F15.binds (ps := ["_law_bag_here", "_law_many"]) fun _ _ _ _ _ _ us hl => match us, hl with | [_, _], _ => rfl⟩
    have c__law_wants : Cal l.prog w K mg base CX0 42 "_law_wants" sp__law_wants := ⟨_, _, _, ok__law_wants F16 seer tree c__law_take m_range m_int m_tuple, PySem.W.mg_of X G a16, k16, F16.binds (ps := ["_law_bag_here", "_law_many"]) fun _ _ _ _ _ _ us hl => match us, hl with | [_, _], _ => rfl⟩
    have c__law_store : Cal l.prog w K mg base CX0 42 "_law_store" sp__law_store := ⟨_, _, _, ok__law_store F17 seer tree c__law_take, PySem.W.mg_of X G a17, k17, F17.binds (ps := ["_law_bag_here", "_law_many"]) fun _ _ _ _ _ _ us hl => match us, hl with | [_, _], _ => rfl⟩
    have c_is_line : Cal l.prog w K mg base CX0 43 "is_line" sp_is_line := ⟨_, _, _, ok_is_line F18 seer tree c_is_from m_isinstance m_tuple m_len c_STIFFEST c_MOST_BORNE, PySem.W.mg_of X G a18, k18, F18.binds (ps := ["many", "thing"]) fun _ _ _ _ _ _ us hl => match us, hl with | [_, _], _ => rfl⟩
    have c_is_piece : Cal l.prog w K mg base CX0 43 "is_piece" sp_is_piece := ⟨_, _, _, ok_is_piece F19 seer tree c_is_row_of c_is_from c_MOST_WIDTH c_MOST_PRICE, PySem.W.mg_of X G a19, k19, F19.binds (ps := ["thing"]) fun _ _ _ _ _ _ us hl => match us, hl with | [_], _ => rfl⟩
    have c_is_store : Cal l.prog w K mg base CX0 43 "is_store" sp_is_store := ⟨_, _, _, ok_is_store F20 seer tree c_is_row_of c_is_from c_TOPMOST c_MOST_WIDTH, PySem.W.mg_of X G a20, k20, F20.binds (ps := ["thing", "many"]) fun _ _ _ _ _ _ us hl => match us, hl with | [_, _], _ => rfl⟩
    have c_is_want : Cal l.prog w K mg base CX0 43 "is_want" sp_is_want := ⟨_, _, _, ok_is_want F21 seer tree c_is_row_of c_is_from c_MOST_SIZE c_FIRM, PySem.W.mg_of X G a21, k21, F21.binds (ps := ["thing", "many"]) fun _ _ _ _ _ _ us hl => match us, hl with | [_, _], _ => rfl⟩
    have c_parted_numbers : Cal l.prog w K mg base CX0 43 "parted_numbers" sp_parted_numbers := ⟨_, _, _, ok_parted_numbers F22 seer tree c_must_be c_numbers_of m_len, PySem.W.mg_of X G a22, k22, F22.binds (ps := ["word", "many"]) fun _ _ _ _ _ _ us hl => match us, hl with | [_, _], _ => rfl⟩
    have c_read_net : Cal l.prog w K mg base CX0 43 "read_net" sp_read_net := ⟨_, _, _, ok_read_net F23 seer tree c_must_be c_numbers_of m_len, PySem.W.mg_of X G a23, k23, F23.binds (ps := ["words"]) fun _ _ _ _ _ _ us hl => match us, hl with | [_], _ => rfl⟩
    have c_read_line : Cal l.prog w K mg base CX0 43 "read_line" sp_read_line := ⟨_, _, _, ok_read_line F24 seer tree c_must_be c_numbers_of m_len, PySem.W.mg_of X G a24, k24, F24.binds (ps := ["words"]) fun _ _ _ _ _ _ us hl => match us, hl with | [_], _ => rfl⟩
    have c_read_store : Cal l.prog w K mg base CX0 43 "read_store" sp_read_store := ⟨_, _, _, ok_read_store F25 seer tree c_must_be c_numbers_of m_len, PySem.W.mg_of X G a25, k25, F25.binds (ps := ["words"]) fun _ _ _ _ _ _ us hl => match us, hl with | [_], _ => rfl⟩
    have c_house_rows : Cal l.prog w K mg base CX0 43 "house_rows" sp_house_rows := ⟨_, _, _, ok_house_rows F26 seer tree c_shown_row c_shown_work c_colons, PySem.W.mg_of X G a26, k26, F26.binds (ps := ["house"]) fun _ _ _ _ _ _ us hl => match us, hl with | [_], _ => rfl⟩
    have c__law_house : Cal l.prog w K mg base CX0 43 "_law_house" sp__law_house := ⟨_, _, _, ok__law_house F27 seer tree c__law_take c__law_net c__law_work c__law_store c__law_wants m_tuple m_range, PySem.W.mg_of X G a27, k27, F27.binds (ps := ["_law_bag_here"]) fun _ _ _ _ _ _ us hl => match us, hl with | [_], _ => rfl⟩
    have c_is_net : Cal l.prog w K mg base CX0 44 "is_net" sp_is_net := ⟨_, _, _, ok_is_net F28 seer tree c_is_from c_is_line c_hangs_together m_isinstance m_tuple m_len m_all c_MOST_PLACES c_MOST_LINES, PySem.W.mg_of X G a28, k28, F28.binds (ps := ["thing"]) fun _ _ _ _ _ _ us hl => match us, hl with | [_], _ => rfl⟩
    have c_are_pieces : Cal l.prog w K mg base CX0 44 "are_pieces" sp_are_pieces := ⟨_, _, _, ok_are_pieces F29 seer tree c_is_row_of c_is_piece m_all, PySem.W.mg_of X G a29, k29, F29.binds (ps := ["thing"]) fun _ _ _ _ _ _ us hl => match us, hl with | [_], _ => rfl⟩
    have c_are_wants : Cal l.prog w K mg base CX0 44 "are_wants" sp_are_wants := ⟨_, _, _, ok_are_wants F30 seer tree c_is_row_of c_is_want m_all c_MOST_WANTS, PySem.W.mg_of X G a30, k30, F30.binds (ps := ["thing", "many"]) fun _ _ _ _ _ _ us hl => match us, hl with | [_, _], _ => rfl⟩
    have c_read_work : Cal l.prog w K mg base CX0 44 "read_work" sp_read_work := ⟨_, _, _, ok_read_work F31 seer tree c_must_be c_numbers_of c_parted_numbers m_len m_tuple c_ON c_OFF, PySem.W.mg_of X G a31, k31, F31.binds (ps := ["words"]) fun _ _ _ _ _ _ us hl => match us, hl with | [_], _ => rfl⟩
    have c_read_hour : Cal l.prog w K mg base CX0 44 "read_hour" sp_read_hour := ⟨_, _, _, ok_read_hour F32 seer tree c_parted_numbers m_tuple, PySem.W.mg_of X G a32, k32, F32.binds (ps := ["words"]) fun _ _ _ _ _ _ us hl => match us, hl with | [_], _ => rfl⟩
    have c_show_house : Cal l.prog w K mg base CX0 44 "show_house" sp_show_house := ⟨_, _, _, ok_show_house F33 seer tree c_house_rows, PySem.W.mg_of X G a33, k33, F33.binds (ps := ["house"]) fun _ _ _ _ _ _ us hl => match us, hl with | [_], _ => rfl⟩
    have c_is_work : Cal l.prog w K mg base CX0 45 "is_work" sp_is_work := ⟨_, _, _, ok_is_work F34 seer tree c_is_row_of c_is_from c_are_pieces m_isinstance m_bool c_MOST_LEAST c_MOST_PRICE c_LONGEST, PySem.W.mg_of X G a34, k34, F34.binds (ps := ["thing", "many"]) fun _ _ _ _ _ _ us hl => match us, hl with | [_, _], _ => rfl⟩
    have c_read_rows : Cal l.prog w K mg base CX0 45 "read_rows" sp_read_rows := ⟨_, _, _, ok_read_rows F35 seer tree c_read_net c_rows_with c_must_be c_read_line c_read_work c_read_store c_read_hour m_len m_tuple, PySem.W.mg_of X G a35, k35, F35.binds (ps := ["rows"]) fun _ _ _ _ _ _ us hl => match us, hl with | [_], _ => rfl⟩
    have c_is_house : Cal l.prog w K mg base CX0 46 "is_house" sp_is_house := ⟨_, _, _, ok_is_house F36 seer tree c_is_row_of c_is_net c_is_work c_is_store c_are_wants m_all c_MOST_WORKS c_MOST_HOURS, PySem.W.mg_of X G a36, k36, F36.binds (ps := ["thing"]) fun _ _ _ _ _ _ us hl => match us, hl with | [_], _ => rfl⟩
    have c_read_house : Cal l.prog w K mg base CX0 47 "read_house" sp_read_house := ⟨_, _, _, ok_read_house F37 seer tree c_must_be c_read_rows c_is_house m_isinstance m_str, PySem.W.mg_of X G a37, k37, F37.binds (ps := ["text"]) fun _ _ _ _ _ _ us hl => match us, hl with | [_], _ => rfl⟩
    have c__law_is_plain_0 : Cal l.prog w K mg base CX0 41 "_law_is_plain" (spr__law_is_plain 0) := ⟨_, _, _, ok0__law_is_plain F38 seer tree, PySem.W.mg_of X G a38, k38, F38.binds (ps := ["_law_thing"]) fun _ _ _ _ _ _ us hl => match us, hl with | [_], _ => rfl⟩
    have c__law_is_plain_1 : Cal l.prog w K mg base CX0 42 "_law_is_plain" (spr__law_is_plain 1) := ⟨_, _, _, ok__law_is_plain 0 (by decide) F38 seer tree m_isinstance m_tuple m_all m_int c__law_is_plain_0, PySem.W.mg_of X G a38, k38, F38.binds (ps := ["_law_thing"]) fun _ _ _ _ _ _ us hl => match us, hl with | [_], _ => rfl⟩
    have c__law_is_plain_2 : Cal l.prog w K mg base CX0 43 "_law_is_plain" (spr__law_is_plain 2) := ⟨_, _, _, ok__law_is_plain 1 (by decide) F38 seer tree m_isinstance m_tuple m_all m_int c__law_is_plain_1, PySem.W.mg_of X G a38, k38, F38.binds (ps := ["_law_thing"]) fun _ _ _ _ _ _ us hl => match us, hl with | [_], _ => rfl⟩
    have c__law_is_plain_3 : Cal l.prog w K mg base CX0 44 "_law_is_plain" (spr__law_is_plain 3) := ⟨_, _, _, ok__law_is_plain 2 (by decide) F38 seer tree m_isinstance m_tuple m_all m_int c__law_is_plain_2, PySem.W.mg_of X G a38, k38, F38.binds (ps := ["_law_thing"]) fun _ _ _ _ _ _ us hl => match us, hl with | [_], _ => rfl⟩
    have c__law_is_plain_4 : Cal l.prog w K mg base CX0 45 "_law_is_plain" (spr__law_is_plain 4) := ⟨_, _, _, ok__law_is_plain 3 (by decide) F38 seer tree m_isinstance m_tuple m_all m_int c__law_is_plain_3, PySem.W.mg_of X G a38, k38, F38.binds (ps := ["_law_thing"]) fun _ _ _ _ _ _ us hl => match us, hl with | [_], _ => rfl⟩
    have c__law_is_plain_5 : Cal l.prog w K mg base CX0 46 "_law_is_plain" (spr__law_is_plain 5) := ⟨_, _, _, ok__law_is_plain 4 (by decide) F38 seer tree m_isinstance m_tuple m_all m_int c__law_is_plain_4, PySem.W.mg_of X G a38, k38, F38.binds (ps := ["_law_thing"]) fun _ _ _ _ _ _ us hl => match us, hl with | [_], _ => rfl⟩
    have c__law_is_plain_6 : Cal l.prog w K mg base CX0 47 "_law_is_plain" (spr__law_is_plain 6) := ⟨_, _, _, ok__law_is_plain 5 (by decide) F38 seer tree m_isinstance m_tuple m_all m_int c__law_is_plain_5, PySem.W.mg_of X G a38, k38, F38.binds (ps := ["_law_thing"]) fun _ _ _ _ _ _ us hl => match us, hl with | [_], _ => rfl⟩
    have c__law_is_plain_7 : Cal l.prog w K mg base CX0 48 "_law_is_plain" (spr__law_is_plain 7) := ⟨_, _, _, ok__law_is_plain 6 (by decide) F38 seer tree m_isinstance m_tuple m_all m_int c__law_is_plain_6, PySem.W.mg_of X G a38, k38, F38.binds (ps := ["_law_thing"]) fun _ _ _ _ _ _ us hl => match us, hl with | [_], _ => rfl⟩
    have c__law_is_plain_8 : Cal l.prog w K mg base CX0 49 "_law_is_plain" (spr__law_is_plain 8) := ⟨_, _, _, ok__law_is_plain 7 (by decide) F38 seer tree m_isinstance m_tuple m_all m_int c__law_is_plain_7, PySem.W.mg_of X G a38, k38, F38.binds (ps := ["_law_thing"]) fun _ _ _ _ _ _ us hl => match us, hl with | [_], _ => rfl⟩
    have c__law_is_plain : Cal l.prog w K mg base CX0 49 "_law_is_plain" sp__law_is_plain := c__law_is_plain_8
    exact ok_law F39 seer tree c__law_house c__law_bag c_show_house c__law_text c_read_house c__law_is_plain m_range m_max m_min m_len m_isinstance m_str m_bool⟩
end WL
open PySem PySem.W PyProof.Rows
set_option maxHeartbeats 0 in
theorem PySem.Challenge.cw_mainskeep_k70_houses_written_holds : PySem.Challenge.rw_mainskeep_k70_houses_written.Holds := by
  w_on; o_law; k_head; (case hw => w_witness2)
  k_fill
  refine WL.walk_deep (l := PySem.Challenge.rw_mainskeep_k70_houses_written) (n := 63) (k := 50) (x := "_law_script") (sp := fun w => WL.liftSp _ WL.sp_law) rfl (by decide) rfl ⟨rfl, by decide, by decide⟩ (by decide +kernel) (fun w h Y => PySem.W.kIn_of Y) ?F (fun _ _ _ _ hl hO hS => WL.law_sp hl hO hS)
  case F =>
    intro w mg fa h KX G hmg
    refine' WL.all_mk KX G rfl hmg ?a0 ?l0 ?c0 ?k0 ?a1 ?l1 ?c1 ?k1 ?a2 ?l2 ?c2 ?k2 ?a3 ?l3 ?c3 ?k3 ?a4 ?l4 ?c4 ?k4 ?a5 ?l5 ?c5 ?k5 ?a6 ?l6 ?c6 ?k6 ?a7 ?l7 ?c7 ?k7 ?a8 ?l8 ?c8 ?k8 ?a9 ?l9 ?c9 ?k9 ?a10 ?l10 ?c10 ?k10 ?a11 ?l11 ?c11 ?k11 ?a12 ?l12 ?c12 ?k12 ?a13 ?l13 ?c13 ?k13 ?a14 ?l14 ?c14 ?k14 ?a15 ?l15 ?c15 ?k15 ?a16 ?l16 ?c16 ?k16 ?a17 ?l17 ?c17 ?k17 ?a18 ?l18 ?c18 ?k18 ?a19 ?l19 ?c19 ?k19 ?a20 ?l20 ?c20 ?k20 ?a21 ?l21 ?c21 ?k21 ?a22 ?l22 ?c22 ?k22 ?a23 ?l23 ?c23 ?k23 ?a24 ?l24 ?c24 ?k24 ?a25 ?l25 ?c25 ?k25 ?a26 ?l26 ?c26 ?k26 ?a27 ?l27 ?c27 ?k27 ?a28 ?l28 ?c28 ?k28 ?a29 ?l29 ?c29 ?k29 ?a30 ?l30 ?c30 ?k30 ?a31 ?l31 ?c31 ?k31 ?a32 ?l32 ?c32 ?k32 ?a33 ?l33 ?c33 ?k33 ?a34 ?l34 ?c34 ?k34 ?a35 ?l35 ?c35 ?k35 ?a36 ?l36 ?c36 ?k36 ?a37 ?l37 ?c37 ?k37 ?a38 ?l38 ?c38 ?k38 ?a39 ?l39 ?c39 ?k39 ?z_abs ?z_all ?z_bool ?z_int ?z_isinstance ?z_len ?z_max ?z_min ?z_range ?z_str ?z_tuple ?g_FIGURES ?g_FIRM ?g_LONGEST ?g_MOST_BORNE ?g_MOST_FIGURES ?g_MOST_HOURS ?g_MOST_LEAST ?g_MOST_LINES ?g_MOST_PLACES ?g_MOST_PRICE ?g_MOST_SIZE ?g_MOST_WANTS ?g_MOST_WIDTH ?g_MOST_WORKS ?g_OFF ?g_ON ?g_STIFFEST ?g_TOPMOST
    (case a0 => k_is); (case l0 => k_is); (case c0 => k_is); (case k0 => k_is); (case a1 => k_is); (case l1 => k_is); (case c1 => k_is); (case k1 => k_is); (case a2 => k_is); (case l2 => k_is); (case c2 => k_is); (case k2 => k_is); (case a3 => k_is); (case l3 => k_is); (case c3 => k_is); (case k3 => k_is); (case a4 => k_is); (case l4 => k_is); (case c4 => k_is); (case k4 => k_is); (case a5 => k_is); (case l5 => k_is); (case c5 => k_is); (case k5 => k_is); (case a6 => k_is); (case l6 => k_is); (case c6 => k_is); (case k6 => k_is); (case a7 => k_is); (case l7 => k_is); (case c7 => k_is); (case k7 => k_is); (case a8 => k_is); (case l8 => k_is); (case c8 => k_is); (case k8 => k_is); (case a9 => k_is); (case l9 => k_is); (case c9 => k_is); (case k9 => k_is); (case a10 => k_is); (case l10 => k_is); (case c10 => k_is); (case k10 => k_is); (case a11 => k_is); (case l11 => k_is); (case c11 => k_is); (case k11 => k_is); (case a12 => k_is); (case l12 => k_is); (case c12 => k_is); (case k12 => k_is); (case a13 => k_is); (case l13 => k_is); (case c13 => k_is); (case k13 => k_is); (case a14 => k_is); (case l14 => k_is); (case c14 => k_is); (case k14 => k_is); (case a15 => k_is); (case l15 => k_is); (case c15 => k_is); (case k15 => k_is); (case a16 => k_is); (case l16 => k_is); (case c16 => k_is); (case k16 => k_is); (case a17 => k_is); (case l17 => k_is); (case c17 => k_is); (case k17 => k_is); (case a18 => k_is); (case l18 => k_is); (case c18 => k_is); (case k18 => k_is); (case a19 => k_is); (case l19 => k_is); (case c19 => k_is); (case k19 => k_is); (case a20 => k_is); (case l20 => k_is); (case c20 => k_is); (case k20 => k_is); (case a21 => k_is); (case l21 => k_is); (case c21 => k_is); (case k21 => k_is); (case a22 => k_is); (case l22 => k_is); (case c22 => k_is); (case k22 => k_is); (case a23 => k_is); (case l23 => k_is); (case c23 => k_is); (case k23 => k_is); (case a24 => k_is); (case l24 => k_is); (case c24 => k_is); (case k24 => k_is); (case a25 => k_is); (case l25 => k_is); (case c25 => k_is); (case k25 => k_is); (case a26 => k_is); (case l26 => k_is); (case c26 => k_is); (case k26 => k_is); (case a27 => k_is); (case l27 => k_is); (case c27 => k_is); (case k27 => k_is); (case a28 => k_is); (case l28 => k_is); (case c28 => k_is); (case k28 => k_is); (case a29 => k_is); (case l29 => k_is); (case c29 => k_is); (case k29 => k_is); (case a30 => k_is); (case l30 => k_is); (case c30 => k_is); (case k30 => k_is); (case a31 => k_is); (case l31 => k_is); (case c31 => k_is); (case k31 => k_is); (case a32 => k_is); (case l32 => k_is); (case c32 => k_is); (case k32 => k_is); (case a33 => k_is); (case l33 => k_is); (case c33 => k_is); (case k33 => k_is); (case a34 => k_is); (case l34 => k_is); (case c34 => k_is); (case k34 => k_is); (case a35 => k_is); (case l35 => k_is); (case c35 => k_is); (case k35 => k_is); (case a36 => k_is); (case l36 => k_is); (case c36 => k_is); (case k36 => k_is); (case a37 => k_is); (case l37 => k_is); (case c37 => k_is); (case k37 => k_is); (case a38 => k_is); (case l38 => k_is); (case c38 => k_is); (case k38 => k_is); (case a39 => k_is); (case l39 => k_is); (case c39 => k_is); (case k39 => k_is); (case z_abs => k_is); (case z_all => k_is); (case z_bool => k_is); (case z_int => k_is); (case z_isinstance => k_is); (case z_len => k_is); (case z_max => k_is); (case z_min => k_is); (case z_range => k_is); (case z_str => k_is); (case z_tuple => k_is); (case g_FIGURES => k_is); (case g_FIRM => k_is); (case g_LONGEST => k_is); (case g_MOST_BORNE => k_is); (case g_MOST_FIGURES => k_is); (case g_MOST_HOURS => k_is); (case g_MOST_LEAST => k_is); (case g_MOST_LINES => k_is); (case g_MOST_PLACES => k_is); (case g_MOST_PRICE => k_is); (case g_MOST_SIZE => k_is); (case g_MOST_WANTS => k_is); (case g_MOST_WIDTH => k_is); (case g_MOST_WORKS => k_is); (case g_OFF => k_is); (case g_ON => k_is); (case g_STIFFEST => k_is); (case g_TOPMOST => k_is)
