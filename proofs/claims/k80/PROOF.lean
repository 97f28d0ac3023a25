import PyProof.Rows.All
import Wide.All
import OpenK.AllK
import Wide.FinOn
import HandS.ForMost
import HandS.ForExc
import HandS.Wide
import HandS.IsInst
import HandS.Walk
import KE.KeyNested
import KE.KDictKeyed
import KE.KDictWalk
import KE.KDictDisplayH
import HandS.ExcCtx
import HandS.HotCalls
import HandS.ExcIs
import KE.KExcIs
import HandS.ExcField
import HandS.Lambda
import HandS.TupAny
import HandS.Zip
import HandS.Iter
import HandS.More
import HandS.Conv
import HandS.Style
import KE.GoesEnum
import KE.SortCalls
import KE.DataCmp
import HandS.CallLocal
import HandS.Deep
import HandS.TupMul
import HandS.ExcInit
import HandS.TupSets
import KE.KDictList
import KE.KDictCopyH
import PyProof.ReprRoads
import KE.GoesComp
import KE.KAsSuite
import KE.KStateDown
import HandS.Head0
import HandS.Head1
import HandS.Head2
import HandS.HeadHook1
import HandS.HeadHook2
import HandS.CallSlots
import HandS.HeadHook3
import HandS.SetFor
import HandS.Text
import HandS.Codes
import PySem.Challenge.RW_mainskeep_k80_desk_deeds
set_option Elab.async false
set_option linter.all false
set_option maxRecDepth 100000
set_option maxHeartbeats 4000000
namespace WL
open PySem PySem.Spec PyProof.Rows L2
noncomputable abbrev FaB := PySem.W.Frag → Bool
noncomputable def obsF (fs : List FaB) (fn : List He.FnD) (K : PySem.W.Frag) : He.Al := ((fs.all fun f => f K) && fn.all fun d => (He.Fa.code d.at_ d.qual).ok K, fn.map fun d => He.fnObs K d.at_)
noncomputable def SaysF (fs : List FaB) (fn : List He.FnD) (K : PySem.W.Frag) : Prop := obsF fs fn K = He.valE fn
noncomputable def rchG (g : Addr → Option Obj) : Nat → List Addr → List Addr
 | 0, as => as
 | n + 1, as => as ++ rchG g n (as.flatMap fun a => match g a with
  | some o => (match o.data with
   | .seq its _ => its.toList.flatMap He.refV
   | .dict es _ => es.toList.flatMap fun e => He.refV e.val
   | .func fd => He.refV fd.code
   | .cls cd => [cd.ns]
   | _ => [])
  | none => [])
section
variable {fs : List FaB} {fn : List He.FnD} {K : PySem.W.Frag}
theorem SaysF.fact (c : SaysF fs fn K) (i : Nat) {f : FaB} (h : fs[i]? = some f := by rfl) : f K = true := by
 have c1 := (He.ba (show ((fs.all fun f => f K) && fn.all fun d => (He.Fa.code d.at_ d.qual).ok K) = true from congrArg (fun z : He.Al => z.1) c)).1
 exact List.all_eq_true.mp c1 f (List.mem_of_getElem? h)
theorem SaysF.def_ (c : SaysF fs fn K) (i : Nat) {d : He.FnD} (h : fn[i]? = some d := by rfl) :
  ∃ oc od osl kV doc pm an cdv ct, K.lookup (He.fAd K d.at_) = some ⟨oc, od, .func (PySem.W.fnOf d.name d.qual d.params d.body d.scope .none kV doc pm an cdv ct), osl⟩ ∧ PySem.W.codeIn K cdv d.qual = true := by
 have c2 := (He.ba (show ((fs.all fun f => f K) && fn.all fun d => (He.Fa.code d.at_ d.qual).ok K) = true from congrArg (fun z : He.Al => z.1) c)).2
 have e : fn.map (fun d => He.fnObs K d.at_) = fn.map He.FnD.val := congrArg (fun z : He.Al => z.2) c
 have e2 : (fn.map fun d => He.fnObs K d.at_)[i]? = (fn.map He.FnD.val)[i]? := by rw [e]
 rw [List.getElem?_map, List.getElem?_map, h] at e2
 exact He.fn_ok (Option.some.inj e2) (List.all_eq_true.mp c2 d (List.mem_of_getElem? h))
end
noncomputable abbrev AlFT := He.Al × List (Option (List (Option (Str × Int))))
noncomputable def obsFT (fs : List FaB) (fn : List He.FnD) (ts : List He.Tab) (K : PySem.W.Frag) : AlFT := (obsF fs fn K, ts.map fun t => He.dicW K (t.1 K))
noncomputable abbrev hshW (P : Params) (k : Str) : Int :=
 @Decidable.rec ((-(2 ^ 63 : Int) ≤ P.strHash k.cps && P.strHash k.cps < 2 ^ 63) = true) (fun _ => Int)
  (fun _ => (fun _ => let h := ((P.strHash k.cps).natAbs : Int) % (2 ^ 61 - 1); let h := if P.strHash k.cps < 0 then -h else h; if h == -1 then -2 else h) ())
  (fun _ => (fun _ => if P.strHash k.cps == -1 then -2 else P.strHash k.cps) ())
  (instDecidableEqBool (-(2 ^ 63 : Int) ≤ P.strHash k.cps && P.strHash k.cps < 2 ^ 63) true)
theorem hshW_eq {P : Params} {k : Str} (h : k.cps.isEmpty = false) : hshW P k = PyData.keyHash P k := by
 unfold PyData.keyHash
 rw [h]
 rfl
noncomputable def keysHW (P : Params) (ks : List Str) : List (Option (Str × Int)) := ks.map fun k => some (k, hshW P k)
theorem keysHW_eq {P : Params} : ∀ {ks : List Str}, (ks.all fun k => !k.cps.isEmpty) = true → keysHW P ks = He.keysIn P ks
 | [], _ => rfl
 | k :: ks, h => by
  rw [List.all_cons, Bool.and_eq_true] at h
  show some (k, hshW P k) :: keysHW P ks = some (k, PyData.keyHash P k) :: He.keysIn P ks
  rw [hshW_eq (by simpa using h.1), keysHW_eq h.2]
noncomputable def valFT (fn : List He.FnD) (ts : List He.Tab) (w : World) : AlFT := (He.valE fn, ts.map fun t => some (keysHW w.params t.2))
noncomputable def SaysFT (fs : List FaB) (fn : List He.FnD) (ts : List He.Tab) (w : World) (K : PySem.W.Frag) : Prop := obsFT fs fn ts K = valFT fn ts w
noncomputable def obsHT (n : Nat) (fs : List FaB) (fn : List He.FnD) (ts : List He.Tab) (g : Addr → Option Obj) : AlFT := obsFT fs fn ts (He.frG g (PySem.cStatics :: rchG g n [mainGlobals]))
noncomputable def hookFT (n : Nat) (fs : List FaB) (fn : List He.FnD) (ts : List He.Tab) : PySem.W.Hook where
 α := AlFT
 obs := fun s => obsHT n fs fn ts s.heap.get?
 val := fun w => valFT fn ts w
 says := fun w h => ∃ K : PySem.W.Frag, K.In h ∧ SaysFT fs fn ts w K
 of := fun _ _ e => ⟨_, He.frG_in, e⟩
 keeps := fun _ _ _ ⟨K, hK, c⟩ k => ⟨K, PySem.W.Frag.In.keeps hK k, c⟩
theorem obsHT_eq {n : Nat} {fs : List FaB} {fn : List He.FnD} {ts : List He.Tab} {g : Addr → Option Obj} {s : Shared} (h : ∀ a, g a = s.heap.get? a) : obsHT n fs fn ts g = (hookFT n fs fn ts).obs s := by
 have e : g = s.heap.get? := funext h
 rw [e] <;> rfl
section
variable {fs : List FaB} {fn : List He.FnD} {ts : List He.Tab} {w : World} {K : PySem.W.Frag}
theorem SaysFT.says (c : SaysFT fs fn ts w K) : SaysF fs fn K := congrArg (fun z : AlFT => z.1) c
theorem SaysFT.tab (c : SaysFT fs fn ts w K) (i : Nat) {t : He.Tab} (h : ts[i]? = some t := by rfl) (ne : (t.2.all fun k => !k.cps.isEmpty) = true := by decide +kernel) : ∃ es n, KDict K w (t.1 K) es n := by
 have e : ts.map (fun t => He.dicW K (t.1 K)) = ts.map fun t => some (keysHW w.params t.2) := congrArg (fun z : AlFT => z.2) c
 have e2 : (ts.map fun t => He.dicW K (t.1 K))[i]? = (ts.map fun t => some (keysHW w.params t.2))[i]? := by rw [e]
 rw [List.getElem?_map, List.getElem?_map, h] at e2
 have e3 : He.dicW K (t.1 K) = some (keysHW w.params t.2) := Option.some.inj e2
 rw [keysHW_eq ne] at e3
 exact He.dicW_ok e3
end
noncomputable def entK (e : DictEntry) : Option (Str × Int) := match e.key, e.val with
 | .str x _, .int i _ => some (x, i)
 | _, _ => none
noncomputable def dicB (K : PySem.W.Frag) (d : Addr) (kvs : List (Str × Int)) : Bool := match K.lookup d with
 | some ⟨_, _, .dict es _, _⟩ => decide (es.toList.map entK = kvs.map some)
 | _ => false
section
open PySem.W PySem.Calls HandSHeadRun
noncomputable def RunA (r : OpenRow) (q : Program) (M : Nat) (loose : List Str) (w : World) : Prop :=
 ∀ os : OsState, (endF (stepQ (denQ tabQ) r.prog w) M r.prog w os).map (fun s => (looksF r.prog (boot_heap w.params) s.abs, seenQ q loose (importedModules r.prog.main.body) (fun s => xlAt q [] s && recOk r.toRowW.records s) s.abs)) = some (true, openGood q loose)
noncomputable def RunB (r : OpenRow) (H : PySem.W.Hook) (ob : PySem.W.SharedT → H.α) (M : Nat) (w : World) : Prop :=
 ∀ os : OsState, (endF (stepQ (denQ tabQ) r.prog w) M r.prog w os).map ob = some (H.val w)
theorem run_two {r : OpenRow} {q : Program} {H : PySem.W.Hook} {ob : PySem.W.SharedT → H.α} {M : Nat} {loose : List Str} {w : World} (a : RunA r q M loose w) (b : RunB r H ob M w) : RunEq r q H ob M loose w := fun os => by
 have a := a os
 have b := b os
 cases e : endF (stepQ (denQ tabQ) r.prog w) M r.prog w os with
 | none => rw [e] at a; cases a
 | some s =>
  rw [e] at a b
  have a := Option.some.inj a
  have b := Option.some.inj b
  obtain ⟨a1, a2⟩ := Prod.mk.inj a
  show some (_, _, _) = some (true, _, _)
  rw [a1, a2, b]
end
noncomputable def topS (i : Nat) : Stmt := PySem.Challenge.pw_mainskeep_k80_desk_deeds.main.body.getD i (.Pass ⟨0, 0, 0, 0⟩)
noncomputable abbrev sD_is_whole : Stmt := topS 15
noncomputable abbrev sD_hangs_together : Stmt := topS 29
noncomputable abbrev sD_left_lines : Stmt := topS 31
noncomputable abbrev sD_is_row_of : Stmt := topS 73
noncomputable abbrev sD_number_of : Stmt := topS 117
noncomputable abbrev sD_must_be : Stmt := topS 118
noncomputable abbrev sD_rows_with : Stmt := topS 126
noncomputable abbrev sD_shown_row : Stmt := topS 129
noncomputable abbrev sD_colons : Stmt := topS 130
noncomputable abbrev sD_must_be_below : Stmt := topS 140
noncomputable abbrev sD_with_wants : Stmt := topS 141
noncomputable abbrev sD_Desk_house : Stmt := inClass (topS 147) 1
noncomputable abbrev sD_Desk_take_back : Stmt := inClass (topS 147) 3
noncomputable abbrev sD_zbag : Stmt := topS 149
noncomputable abbrev sD_ztake : Stmt := topS 150
noncomputable abbrev sD_zstiff : Stmt := topS 152
noncomputable abbrev sD_ztext : Stmt := topS 159
noncomputable abbrev sD_zkind : Stmt := topS 160
noncomputable abbrev sD_is_from : Stmt := topS 16
noncomputable abbrev sD_losable : Stmt := topS 32
noncomputable abbrev sD_numbers_of : Stmt := topS 119
noncomputable abbrev sD_shown_work : Stmt := topS 131
noncomputable abbrev sD_words_of : Stmt := topS 139
noncomputable abbrev sD_behind_stop : Stmt := topS 143
noncomputable abbrev sD_behind_want : Stmt := topS 144
noncomputable abbrev sD_znet : Stmt := topS 154
noncomputable abbrev sD_zwork : Stmt := topS 155
noncomputable abbrev sD_zwants : Stmt := topS 156
noncomputable abbrev sD_zstore : Stmt := topS 157
noncomputable abbrev sD_zdeed : Stmt := topS 162
noncomputable abbrev sD_is_line : Stmt := topS 28
noncomputable abbrev sD_without : Stmt := topS 33
noncomputable abbrev sD_limits : Stmt := topS 35
noncomputable abbrev sD_is_piece : Stmt := topS 74
noncomputable abbrev sD_is_store : Stmt := topS 77
noncomputable abbrev sD_is_want : Stmt := topS 78
noncomputable abbrev sD_parted_numbers : Stmt := topS 120
noncomputable abbrev sD_read_net : Stmt := topS 121
noncomputable abbrev sD_read_line : Stmt := topS 122
noncomputable abbrev sD_read_store : Stmt := topS 124
noncomputable abbrev sD_house_rows : Stmt := topS 132
noncomputable abbrev sD_zhouse : Stmt := topS 158
noncomputable abbrev sD_is_net : Stmt := topS 30
noncomputable abbrev sD_are_pieces : Stmt := topS 75
noncomputable abbrev sD_are_wants : Stmt := topS 79
noncomputable abbrev sD_read_work : Stmt := topS 123
noncomputable abbrev sD_read_hour : Stmt := topS 125
noncomputable abbrev sD_show_house : Stmt := topS 133
noncomputable abbrev sD_behind_loss_of_line : Stmt := topS 142
noncomputable abbrev sD_is_work : Stmt := topS 76
noncomputable abbrev sD_read_rows : Stmt := topS 127
noncomputable abbrev sD_behind_deed : Stmt := topS 145
noncomputable abbrev sD_is_house : Stmt := topS 80
noncomputable abbrev sD_Desk_do : Stmt := inClass (topS 147) 4
noncomputable abbrev sD_zsize : Stmt := topS 151
noncomputable abbrev sD_read_house : Stmt := topS 128
noncomputable abbrev sD_zlosable : Stmt := topS 153
noncomputable abbrev sD_Desk___init__ : Stmt := inClass (topS 147) 0
noncomputable abbrev sD_zbehind : Stmt := topS 161
noncomputable abbrev sD_zlimits : Stmt := topS 164
noncomputable abbrev sD_zrow : Stmt := topS 165
noncomputable abbrev sD_Desk_price : Stmt := inClass (topS 147) 5
noncomputable abbrev sD_Desk_of_run : Stmt := inClass (topS 147) 6
noncomputable abbrev sD_Desk_say : Stmt := inClass (topS 147) 7
noncomputable abbrev sD_zsaid : Stmt := topS 163
noncomputable abbrev sD_law : Stmt := topS 166
noncomputable def dF0 : He.FnD := ⟨("is_whole", none), "is_whole", "is_whole", defArgs sD_is_whole, defBody sD_is_whole, defScope sD_is_whole⟩
noncomputable def dF1 : He.FnD := ⟨("hangs_together", none), "hangs_together", "hangs_together", defArgs sD_hangs_together, defBody sD_hangs_together, defScope sD_hangs_together⟩
noncomputable def dF2 : He.FnD := ⟨("left_lines", none), "left_lines", "left_lines", defArgs sD_left_lines, defBody sD_left_lines, defScope sD_left_lines⟩
noncomputable def dF3 : He.FnD := ⟨("is_row_of", none), "is_row_of", "is_row_of", defArgs sD_is_row_of, defBody sD_is_row_of, defScope sD_is_row_of⟩
noncomputable def dF4 : He.FnD := ⟨("number_of", none), "number_of", "number_of", defArgs sD_number_of, defBody sD_number_of, defScope sD_number_of⟩
noncomputable def dF5 : He.FnD := ⟨("must_be", none), "must_be", "must_be", defArgs sD_must_be, defBody sD_must_be, defScope sD_must_be⟩
noncomputable def dF6 : He.FnD := ⟨("rows_with", none), "rows_with", "rows_with", defArgs sD_rows_with, defBody sD_rows_with, defScope sD_rows_with⟩
noncomputable def dF7 : He.FnD := ⟨("shown_row", none), "shown_row", "shown_row", defArgs sD_shown_row, defBody sD_shown_row, defScope sD_shown_row⟩
noncomputable def dF8 : He.FnD := ⟨("colons", none), "colons", "colons", defArgs sD_colons, defBody sD_colons, defScope sD_colons⟩
noncomputable def dF9 : He.FnD := ⟨("must_be_below", none), "must_be_below", "must_be_below", defArgs sD_must_be_below, defBody sD_must_be_below, defScope sD_must_be_below⟩
noncomputable def dF10 : He.FnD := ⟨("with_wants", none), "with_wants", "with_wants", defArgs sD_with_wants, defBody sD_with_wants, defScope sD_with_wants⟩
noncomputable def dF11 : He.FnD := ⟨("Desk", some "house"), "house", "Desk.house", defArgs sD_Desk_house, defBody sD_Desk_house, defScope sD_Desk_house⟩
noncomputable def dF12 : He.FnD := ⟨("Desk", some "take_back"), "take_back", "Desk.take_back", defArgs sD_Desk_take_back, defBody sD_Desk_take_back, defScope sD_Desk_take_back⟩
noncomputable def dF13 : He.FnD := ⟨("_law_bag", none), "_law_bag", "_law_bag", defArgs sD_zbag, defBody sD_zbag, defScope sD_zbag⟩
noncomputable def dF14 : He.FnD := ⟨("_law_take", none), "_law_take", "_law_take", defArgs sD_ztake, defBody sD_ztake, defScope sD_ztake⟩
noncomputable def dF15 : He.FnD := ⟨("_law_stiff", none), "_law_stiff", "_law_stiff", defArgs sD_zstiff, defBody sD_zstiff, defScope sD_zstiff⟩
noncomputable def dF16 : He.FnD := ⟨("_law_text", none), "_law_text", "_law_text", defArgs sD_ztext, defBody sD_ztext, defScope sD_ztext⟩
noncomputable def dF17 : He.FnD := ⟨("_law_kind", none), "_law_kind", "_law_kind", defArgs sD_zkind, defBody sD_zkind, defScope sD_zkind⟩
noncomputable def dF18 : He.FnD := ⟨("is_from", none), "is_from", "is_from", defArgs sD_is_from, defBody sD_is_from, defScope sD_is_from⟩
noncomputable def dF19 : He.FnD := ⟨("losable", none), "losable", "losable", defArgs sD_losable, defBody sD_losable, defScope sD_losable⟩
noncomputable def dF20 : He.FnD := ⟨("numbers_of", none), "numbers_of", "numbers_of", defArgs sD_numbers_of, defBody sD_numbers_of, defScope sD_numbers_of⟩
noncomputable def dF21 : He.FnD := ⟨("shown_work", none), "shown_work", "shown_work", defArgs sD_shown_work, defBody sD_shown_work, defScope sD_shown_work⟩
noncomputable def dF22 : He.FnD := ⟨("words_of", none), "words_of", "words_of", defArgs sD_words_of, defBody sD_words_of, defScope sD_words_of⟩
noncomputable def dF23 : He.FnD := ⟨("behind_stop", none), "behind_stop", "behind_stop", defArgs sD_behind_stop, defBody sD_behind_stop, defScope sD_behind_stop⟩
noncomputable def dF24 : He.FnD := ⟨("behind_want", none), "behind_want", "behind_want", defArgs sD_behind_want, defBody sD_behind_want, defScope sD_behind_want⟩
noncomputable def dF25 : He.FnD := ⟨("_law_net", none), "_law_net", "_law_net", defArgs sD_znet, defBody sD_znet, defScope sD_znet⟩
noncomputable def dF26 : He.FnD := ⟨("_law_work", none), "_law_work", "_law_work", defArgs sD_zwork, defBody sD_zwork, defScope sD_zwork⟩
noncomputable def dF27 : He.FnD := ⟨("_law_wants", none), "_law_wants", "_law_wants", defArgs sD_zwants, defBody sD_zwants, defScope sD_zwants⟩
noncomputable def dF28 : He.FnD := ⟨("_law_store", none), "_law_store", "_law_store", defArgs sD_zstore, defBody sD_zstore, defScope sD_zstore⟩
noncomputable def dF29 : He.FnD := ⟨("_law_deed", none), "_law_deed", "_law_deed", defArgs sD_zdeed, defBody sD_zdeed, defScope sD_zdeed⟩
noncomputable def dF30 : He.FnD := ⟨("is_line", none), "is_line", "is_line", defArgs sD_is_line, defBody sD_is_line, defScope sD_is_line⟩
noncomputable def dF31 : He.FnD := ⟨("without", none), "without", "without", defArgs sD_without, defBody sD_without, defScope sD_without⟩
noncomputable def dF32 : He.FnD := ⟨("limits", none), "limits", "limits", defArgs sD_limits, defBody sD_limits, defScope sD_limits⟩
noncomputable def dF33 : He.FnD := ⟨("is_piece", none), "is_piece", "is_piece", defArgs sD_is_piece, defBody sD_is_piece, defScope sD_is_piece⟩
noncomputable def dF34 : He.FnD := ⟨("is_store", none), "is_store", "is_store", defArgs sD_is_store, defBody sD_is_store, defScope sD_is_store⟩
noncomputable def dF35 : He.FnD := ⟨("is_want", none), "is_want", "is_want", defArgs sD_is_want, defBody sD_is_want, defScope sD_is_want⟩
noncomputable def dF36 : He.FnD := ⟨("parted_numbers", none), "parted_numbers", "parted_numbers", defArgs sD_parted_numbers, defBody sD_parted_numbers, defScope sD_parted_numbers⟩
noncomputable def dF37 : He.FnD := ⟨("read_net", none), "read_net", "read_net", defArgs sD_read_net, defBody sD_read_net, defScope sD_read_net⟩
noncomputable def dF38 : He.FnD := ⟨("read_line", none), "read_line", "read_line", defArgs sD_read_line, defBody sD_read_line, defScope sD_read_line⟩
noncomputable def dF39 : He.FnD := ⟨("read_store", none), "read_store", "read_store", defArgs sD_read_store, defBody sD_read_store, defScope sD_read_store⟩
noncomputable def dF40 : He.FnD := ⟨("house_rows", none), "house_rows", "house_rows", defArgs sD_house_rows, defBody sD_house_rows, defScope sD_house_rows⟩
noncomputable def dF41 : He.FnD := ⟨("_law_house", none), "_law_house", "_law_house", defArgs sD_zhouse, defBody sD_zhouse, defScope sD_zhouse⟩
noncomputable def dF42 : He.FnD := ⟨("is_net", none), "is_net", "is_net", defArgs sD_is_net, defBody sD_is_net, defScope sD_is_net⟩
noncomputable def dF43 : He.FnD := ⟨("are_pieces", none), "are_pieces", "are_pieces", defArgs sD_are_pieces, defBody sD_are_pieces, defScope sD_are_pieces⟩
noncomputable def dF44 : He.FnD := ⟨("are_wants", none), "are_wants", "are_wants", defArgs sD_are_wants, defBody sD_are_wants, defScope sD_are_wants⟩
noncomputable def dF45 : He.FnD := ⟨("read_work", none), "read_work", "read_work", defArgs sD_read_work, defBody sD_read_work, defScope sD_read_work⟩
noncomputable def dF46 : He.FnD := ⟨("read_hour", none), "read_hour", "read_hour", defArgs sD_read_hour, defBody sD_read_hour, defScope sD_read_hour⟩
noncomputable def dF47 : He.FnD := ⟨("show_house", none), "show_house", "show_house", defArgs sD_show_house, defBody sD_show_house, defScope sD_show_house⟩
noncomputable def dF48 : He.FnD := ⟨("behind_loss_of_line", none), "behind_loss_of_line", "behind_loss_of_line", defArgs sD_behind_loss_of_line, defBody sD_behind_loss_of_line, defScope sD_behind_loss_of_line⟩
noncomputable def dF49 : He.FnD := ⟨("is_work", none), "is_work", "is_work", defArgs sD_is_work, defBody sD_is_work, defScope sD_is_work⟩
noncomputable def dF50 : He.FnD := ⟨("read_rows", none), "read_rows", "read_rows", defArgs sD_read_rows, defBody sD_read_rows, defScope sD_read_rows⟩
noncomputable def dF51 : He.FnD := ⟨("behind_deed", none), "behind_deed", "behind_deed", defArgs sD_behind_deed, defBody sD_behind_deed, defScope sD_behind_deed⟩
noncomputable def dF52 : He.FnD := ⟨("is_house", none), "is_house", "is_house", defArgs sD_is_house, defBody sD_is_house, defScope sD_is_house⟩
noncomputable def dF53 : He.FnD := ⟨("Desk", some "do"), "do", "Desk.do", defArgs sD_Desk_do, defBody sD_Desk_do, defScope sD_Desk_do⟩
noncomputable def dF54 : He.FnD := ⟨("_law_size", none), "_law_size", "_law_size", defArgs sD_zsize, defBody sD_zsize, defScope sD_zsize⟩
noncomputable def dF55 : He.FnD := ⟨("read_house", none), "read_house", "read_house", defArgs sD_read_house, defBody sD_read_house, defScope sD_read_house⟩
noncomputable def dF56 : He.FnD := ⟨("_law_losable", none), "_law_losable", "_law_losable", defArgs sD_zlosable, defBody sD_zlosable, defScope sD_zlosable⟩
noncomputable def dF57 : He.FnD := ⟨("Desk", some "__init__"), "__init__", "Desk.__init__", defArgs sD_Desk___init__, defBody sD_Desk___init__, defScope sD_Desk___init__⟩
noncomputable def dF58 : He.FnD := ⟨("_law_behind", none), "_law_behind", "_law_behind", defArgs sD_zbehind, defBody sD_zbehind, defScope sD_zbehind⟩
noncomputable def dF59 : He.FnD := ⟨("_law_limits", none), "_law_limits", "_law_limits", defArgs sD_zlimits, defBody sD_zlimits, defScope sD_zlimits⟩
noncomputable def dF60 : He.FnD := ⟨("_law_row", none), "_law_row", "_law_row", defArgs sD_zrow, defBody sD_zrow, defScope sD_zrow⟩
noncomputable def dF61 : He.FnD := ⟨("Desk", some "price"), "price", "Desk.price", defArgs sD_Desk_price, defBody sD_Desk_price, defScope sD_Desk_price⟩
noncomputable def dF62 : He.FnD := ⟨("Desk", some "of_run"), "of_run", "Desk.of_run", defArgs sD_Desk_of_run, defBody sD_Desk_of_run, defScope sD_Desk_of_run⟩
noncomputable def dF63 : He.FnD := ⟨("Desk", some "say"), "say", "Desk.say", defArgs sD_Desk_say, defBody sD_Desk_say, defScope sD_Desk_say⟩
noncomputable def dF64 : He.FnD := ⟨("_law_said", none), "_law_said", "_law_said", defArgs sD_zsaid, defBody sD_zsaid, defScope sD_zsaid⟩
noncomputable def dF65 : He.FnD := ⟨("law", none), "law", "law", defArgs sD_law, defBody sD_law, defScope sD_law⟩
noncomputable def fnC0 : List He.FnD := [dF0, dF1, dF2, dF3, dF4, dF5, dF6, dF7, dF8, dF9, dF10, dF11, dF12, dF13, dF14, dF15, dF16, dF17, dF18, dF19, dF20, dF21, dF22, dF23, dF24, dF25, dF26, dF27, dF28, dF29]
noncomputable def fnC1 : List He.FnD := [dF30, dF31, dF32, dF33, dF34, dF35, dF36, dF37, dF38, dF39, dF40, dF41, dF42, dF43, dF44, dF45, dF46, dF47, dF48, dF49, dF50, dF51, dF52, dF53, dF54, dF55, dF56, dF57, dF58, dF59]
noncomputable def fnC2 : List He.FnD := [dF60, dF61, dF62, dF63, dF64, dF65]
noncomputable def fnS : List He.FnD := fnC0 ++ fnC1 ++ fnC2
noncomputable def fsC0 : List FaB := [fun K => decide (PySem.W.nsIn K mainGlobals "is_whole" = some (some (.ref (He.fAd K ("is_whole", none))))),
 fun K => PySem.W.keepIn K (.ref (He.fAd K ("is_whole", none))),
 fun K => decide (PySem.W.nsIn K mainGlobals "hangs_together" = some (some (.ref (He.fAd K ("hangs_together", none))))),
 fun K => PySem.W.keepIn K (.ref (He.fAd K ("hangs_together", none))),
 fun K => decide (PySem.W.nsIn K mainGlobals "left_lines" = some (some (.ref (He.fAd K ("left_lines", none))))),
 fun K => PySem.W.keepIn K (.ref (He.fAd K ("left_lines", none))),
 fun K => decide (PySem.W.nsIn K mainGlobals "is_row_of" = some (some (.ref (He.fAd K ("is_row_of", none))))),
 fun K => PySem.W.keepIn K (.ref (He.fAd K ("is_row_of", none))),
 fun K => decide (PySem.W.nsIn K mainGlobals "number_of" = some (some (.ref (He.fAd K ("number_of", none))))),
 fun K => PySem.W.keepIn K (.ref (He.fAd K ("number_of", none))),
 fun K => decide (PySem.W.nsIn K mainGlobals "must_be" = some (some (.ref (He.fAd K ("must_be", none))))),
 fun K => PySem.W.keepIn K (.ref (He.fAd K ("must_be", none))),
 fun K => decide (PySem.W.nsIn K mainGlobals "rows_with" = some (some (.ref (He.fAd K ("rows_with", none))))),
 fun K => PySem.W.keepIn K (.ref (He.fAd K ("rows_with", none))),
 fun K => decide (PySem.W.nsIn K mainGlobals "shown_row" = some (some (.ref (He.fAd K ("shown_row", none))))),
 fun K => PySem.W.keepIn K (.ref (He.fAd K ("shown_row", none))),
 fun K => decide (PySem.W.nsIn K mainGlobals "colons" = some (some (.ref (He.fAd K ("colons", none))))),
 fun K => PySem.W.keepIn K (.ref (He.fAd K ("colons", none))),
 fun K => decide (PySem.W.nsIn K mainGlobals "must_be_below" = some (some (.ref (He.fAd K ("must_be_below", none))))),
 fun K => PySem.W.keepIn K (.ref (He.fAd K ("must_be_below", none))),
 fun K => decide (PySem.W.nsIn K mainGlobals "with_wants" = some (some (.ref (He.fAd K ("with_wants", none))))),
 fun K => PySem.W.keepIn K (.ref (He.fAd K ("with_wants", none))),
 fun K => decide (PySem.W.findIn K (.ref (He.ga K "Desk")) "house" = some (some (.ref (He.fAd K ("Desk", some "house"))))),
 fun K => PySem.W.isFn K (.ref (He.fAd K ("Desk", some "house"))),
 fun K => PySem.W.keepIn K (.ref (He.fAd K ("Desk", some "house"))),
 fun K => decide (PySem.W.findIn K (.ref (He.ga K "Desk")) "take_back" = some (some (.ref (He.fAd K ("Desk", some "take_back"))))),
 fun K => PySem.W.isFn K (.ref (He.fAd K ("Desk", some "take_back"))),
 fun K => PySem.W.keepIn K (.ref (He.fAd K ("Desk", some "take_back"))),
 fun K => decide (PySem.W.nsIn K mainGlobals "_law_bag" = some (some (.ref (He.fAd K ("_law_bag", none))))),
 fun K => PySem.W.keepIn K (.ref (He.fAd K ("_law_bag", none)))]
noncomputable def fsC1 : List FaB := [fun K => decide (PySem.W.nsIn K mainGlobals "_law_take" = some (some (.ref (He.fAd K ("_law_take", none))))),
 fun K => PySem.W.keepIn K (.ref (He.fAd K ("_law_take", none))),
 fun K => decide (PySem.W.nsIn K mainGlobals "_law_stiff" = some (some (.ref (He.fAd K ("_law_stiff", none))))),
 fun K => PySem.W.keepIn K (.ref (He.fAd K ("_law_stiff", none))),
 fun K => decide (PySem.W.nsIn K mainGlobals "_law_text" = some (some (.ref (He.fAd K ("_law_text", none))))),
 fun K => PySem.W.keepIn K (.ref (He.fAd K ("_law_text", none))),
 fun K => decide (PySem.W.nsIn K mainGlobals "_law_kind" = some (some (.ref (He.fAd K ("_law_kind", none))))),
 fun K => PySem.W.keepIn K (.ref (He.fAd K ("_law_kind", none))),
 fun K => decide (PySem.W.nsIn K mainGlobals "is_from" = some (some (.ref (He.fAd K ("is_from", none))))),
 fun K => PySem.W.keepIn K (.ref (He.fAd K ("is_from", none))),
 fun K => decide (PySem.W.nsIn K mainGlobals "losable" = some (some (.ref (He.fAd K ("losable", none))))),
 fun K => PySem.W.keepIn K (.ref (He.fAd K ("losable", none))),
 fun K => decide (PySem.W.nsIn K mainGlobals "numbers_of" = some (some (.ref (He.fAd K ("numbers_of", none))))),
 fun K => PySem.W.keepIn K (.ref (He.fAd K ("numbers_of", none))),
 fun K => decide (PySem.W.nsIn K mainGlobals "shown_work" = some (some (.ref (He.fAd K ("shown_work", none))))),
 fun K => PySem.W.keepIn K (.ref (He.fAd K ("shown_work", none))),
 fun K => decide (PySem.W.nsIn K mainGlobals "words_of" = some (some (.ref (He.fAd K ("words_of", none))))),
 fun K => PySem.W.keepIn K (.ref (He.fAd K ("words_of", none))),
 fun K => decide (PySem.W.nsIn K mainGlobals "behind_stop" = some (some (.ref (He.fAd K ("behind_stop", none))))),
 fun K => PySem.W.keepIn K (.ref (He.fAd K ("behind_stop", none))),
 fun K => decide (PySem.W.nsIn K mainGlobals "behind_want" = some (some (.ref (He.fAd K ("behind_want", none))))),
 fun K => PySem.W.keepIn K (.ref (He.fAd K ("behind_want", none))),
 fun K => decide (PySem.W.nsIn K mainGlobals "_law_net" = some (some (.ref (He.fAd K ("_law_net", none))))),
 fun K => PySem.W.keepIn K (.ref (He.fAd K ("_law_net", none))),
 fun K => decide (PySem.W.nsIn K mainGlobals "_law_work" = some (some (.ref (He.fAd K ("_law_work", none))))),
 fun K => PySem.W.keepIn K (.ref (He.fAd K ("_law_work", none))),
 fun K => decide (PySem.W.nsIn K mainGlobals "_law_wants" = some (some (.ref (He.fAd K ("_law_wants", none))))),
 fun K => PySem.W.keepIn K (.ref (He.fAd K ("_law_wants", none))),
 fun K => decide (PySem.W.nsIn K mainGlobals "_law_store" = some (some (.ref (He.fAd K ("_law_store", none))))),
 fun K => PySem.W.keepIn K (.ref (He.fAd K ("_law_store", none)))]
noncomputable def fsC2 : List FaB := [fun K => decide (PySem.W.nsIn K mainGlobals "_law_deed" = some (some (.ref (He.fAd K ("_law_deed", none))))),
 fun K => PySem.W.keepIn K (.ref (He.fAd K ("_law_deed", none))),
 fun K => decide (PySem.W.nsIn K mainGlobals "is_line" = some (some (.ref (He.fAd K ("is_line", none))))),
 fun K => PySem.W.keepIn K (.ref (He.fAd K ("is_line", none))),
 fun K => decide (PySem.W.nsIn K mainGlobals "without" = some (some (.ref (He.fAd K ("without", none))))),
 fun K => PySem.W.keepIn K (.ref (He.fAd K ("without", none))),
 fun K => decide (PySem.W.nsIn K mainGlobals "limits" = some (some (.ref (He.fAd K ("limits", none))))),
 fun K => PySem.W.keepIn K (.ref (He.fAd K ("limits", none))),
 fun K => decide (PySem.W.nsIn K mainGlobals "is_piece" = some (some (.ref (He.fAd K ("is_piece", none))))),
 fun K => PySem.W.keepIn K (.ref (He.fAd K ("is_piece", none))),
 fun K => decide (PySem.W.nsIn K mainGlobals "is_store" = some (some (.ref (He.fAd K ("is_store", none))))),
 fun K => PySem.W.keepIn K (.ref (He.fAd K ("is_store", none))),
 fun K => decide (PySem.W.nsIn K mainGlobals "is_want" = some (some (.ref (He.fAd K ("is_want", none))))),
 fun K => PySem.W.keepIn K (.ref (He.fAd K ("is_want", none))),
 fun K => decide (PySem.W.nsIn K mainGlobals "parted_numbers" = some (some (.ref (He.fAd K ("parted_numbers", none))))),
 fun K => PySem.W.keepIn K (.ref (He.fAd K ("parted_numbers", none))),
 fun K => decide (PySem.W.nsIn K mainGlobals "read_net" = some (some (.ref (He.fAd K ("read_net", none))))),
 fun K => PySem.W.keepIn K (.ref (He.fAd K ("read_net", none))),
 fun K => decide (PySem.W.nsIn K mainGlobals "read_line" = some (some (.ref (He.fAd K ("read_line", none))))),
 fun K => PySem.W.keepIn K (.ref (He.fAd K ("read_line", none))),
 fun K => decide (PySem.W.nsIn K mainGlobals "read_store" = some (some (.ref (He.fAd K ("read_store", none))))),
 fun K => PySem.W.keepIn K (.ref (He.fAd K ("read_store", none))),
 fun K => decide (PySem.W.nsIn K mainGlobals "house_rows" = some (some (.ref (He.fAd K ("house_rows", none))))),
 fun K => PySem.W.keepIn K (.ref (He.fAd K ("house_rows", none))),
 fun K => decide (PySem.W.nsIn K mainGlobals "_law_house" = some (some (.ref (He.fAd K ("_law_house", none))))),
 fun K => PySem.W.keepIn K (.ref (He.fAd K ("_law_house", none))),
 fun K => decide (PySem.W.nsIn K mainGlobals "is_net" = some (some (.ref (He.fAd K ("is_net", none))))),
 fun K => PySem.W.keepIn K (.ref (He.fAd K ("is_net", none))),
 fun K => decide (PySem.W.nsIn K mainGlobals "are_pieces" = some (some (.ref (He.fAd K ("are_pieces", none))))),
 fun K => PySem.W.keepIn K (.ref (He.fAd K ("are_pieces", none)))]
noncomputable def fsC3 : List FaB := [fun K => decide (PySem.W.nsIn K mainGlobals "are_wants" = some (some (.ref (He.fAd K ("are_wants", none))))),
 fun K => PySem.W.keepIn K (.ref (He.fAd K ("are_wants", none))),
 fun K => decide (PySem.W.nsIn K mainGlobals "read_work" = some (some (.ref (He.fAd K ("read_work", none))))),
 fun K => PySem.W.keepIn K (.ref (He.fAd K ("read_work", none))),
 fun K => decide (PySem.W.nsIn K mainGlobals "read_hour" = some (some (.ref (He.fAd K ("read_hour", none))))),
 fun K => PySem.W.keepIn K (.ref (He.fAd K ("read_hour", none))),
 fun K => decide (PySem.W.nsIn K mainGlobals "show_house" = some (some (.ref (He.fAd K ("show_house", none))))),
 fun K => PySem.W.keepIn K (.ref (He.fAd K ("show_house", none))),
 fun K => decide (PySem.W.nsIn K mainGlobals "behind_loss_of_line" = some (some (.ref (He.fAd K ("behind_loss_of_line", none))))),
 fun K => PySem.W.keepIn K (.ref (He.fAd K ("behind_loss_of_line", none))),
 fun K => decide (PySem.W.nsIn K mainGlobals "is_work" = some (some (.ref (He.fAd K ("is_work", none))))),
 fun K => PySem.W.keepIn K (.ref (He.fAd K ("is_work", none))),
 fun K => decide (PySem.W.nsIn K mainGlobals "read_rows" = some (some (.ref (He.fAd K ("read_rows", none))))),
 fun K => PySem.W.keepIn K (.ref (He.fAd K ("read_rows", none))),
 fun K => decide (PySem.W.nsIn K mainGlobals "behind_deed" = some (some (.ref (He.fAd K ("behind_deed", none))))),
 fun K => PySem.W.keepIn K (.ref (He.fAd K ("behind_deed", none))),
 fun K => decide (PySem.W.nsIn K mainGlobals "is_house" = some (some (.ref (He.fAd K ("is_house", none))))),
 fun K => PySem.W.keepIn K (.ref (He.fAd K ("is_house", none))),
 fun K => decide (PySem.W.findIn K (.ref (He.ga K "Desk")) "do" = some (some (.ref (He.fAd K ("Desk", some "do"))))),
 fun K => PySem.W.isFn K (.ref (He.fAd K ("Desk", some "do"))),
 fun K => PySem.W.keepIn K (.ref (He.fAd K ("Desk", some "do"))),
 fun K => decide (PySem.W.nsIn K mainGlobals "_law_size" = some (some (.ref (He.fAd K ("_law_size", none))))),
 fun K => PySem.W.keepIn K (.ref (He.fAd K ("_law_size", none))),
 fun K => decide (PySem.W.nsIn K mainGlobals "read_house" = some (some (.ref (He.fAd K ("read_house", none))))),
 fun K => PySem.W.keepIn K (.ref (He.fAd K ("read_house", none))),
 fun K => decide (PySem.W.nsIn K mainGlobals "_law_losable" = some (some (.ref (He.fAd K ("_law_losable", none))))),
 fun K => PySem.W.keepIn K (.ref (He.fAd K ("_law_losable", none))),
 fun K => decide (PySem.W.findIn K (.ref (He.ga K "Desk")) "__init__" = some (some (.ref (He.fAd K ("Desk", some "__init__"))))),
 fun K => PySem.W.isFn K (.ref (He.fAd K ("Desk", some "__init__"))),
 fun K => PySem.W.keepIn K (.ref (He.fAd K ("Desk", some "__init__")))]
noncomputable def fsC4 : List FaB := [fun K => decide (PySem.W.nsIn K mainGlobals "_law_behind" = some (some (.ref (He.fAd K ("_law_behind", none))))),
 fun K => PySem.W.keepIn K (.ref (He.fAd K ("_law_behind", none))),
 fun K => decide (PySem.W.nsIn K mainGlobals "_law_limits" = some (some (.ref (He.fAd K ("_law_limits", none))))),
 fun K => PySem.W.keepIn K (.ref (He.fAd K ("_law_limits", none))),
 fun K => decide (PySem.W.nsIn K mainGlobals "_law_row" = some (some (.ref (He.fAd K ("_law_row", none))))),
 fun K => PySem.W.keepIn K (.ref (He.fAd K ("_law_row", none))),
 fun K => decide (PySem.W.findIn K (.ref (He.ga K "Desk")) "price" = some (some (.ref (He.fAd K ("Desk", some "price"))))),
 fun K => PySem.W.isFn K (.ref (He.fAd K ("Desk", some "price"))),
 fun K => PySem.W.keepIn K (.ref (He.fAd K ("Desk", some "price"))),
 fun K => decide (PySem.W.findIn K (.ref (He.ga K "Desk")) "of_run" = some (some (.ref (He.fAd K ("Desk", some "of_run"))))),
 fun K => PySem.W.isFn K (.ref (He.fAd K ("Desk", some "of_run"))),
 fun K => PySem.W.keepIn K (.ref (He.fAd K ("Desk", some "of_run"))),
 fun K => decide (PySem.W.findIn K (.ref (He.ga K "Desk")) "say" = some (some (.ref (He.fAd K ("Desk", some "say"))))),
 fun K => PySem.W.isFn K (.ref (He.fAd K ("Desk", some "say"))),
 fun K => PySem.W.keepIn K (.ref (He.fAd K ("Desk", some "say"))),
 fun K => decide (PySem.W.nsIn K mainGlobals "_law_said" = some (some (.ref (He.fAd K ("_law_said", none))))),
 fun K => PySem.W.keepIn K (.ref (He.fAd K ("_law_said", none))),
 fun K => decide (PySem.W.nsIn K mainGlobals "law" = some (some (.ref (He.fAd K ("law", none))))),
 fun K => PySem.W.keepIn K (.ref (He.fAd K ("law", none))),
 fun K => decide (PySem.W.nsIn K mainGlobals "Desk" = some (some (.ref (He.ga K "Desk")))),
 fun K => PySem.W.plainGet K (He.ga K "Desk") Str.empty,
 fun K => PySem.W.hasDictIn K (He.ga K "Desk"),
 fun K => PySem.W.plainOver K (He.ga K "Desk"),
 fun K => decide (PySem.W.findIn K (.ref (He.ga K "Desk")) "__setattr__" = some (some (.builtin "object.__setattr__"))),
 fun K => PySem.W.makesIn K (He.ga K "Desk"),
 fun K => PySem.W.keepIn K (.ref (He.ga K "Desk")),
 fun K => decide (PySem.W.findIn K (.ref (He.ga K "Desk")) "found" = some none),
 fun K => decide (PySem.W.findIn K (.ref (He.ga K "Desk")) "houses" = some none),
 fun K => decide (PySem.W.nsIn K mainGlobals "MainsError" = some (some (.ref (He.ga K "MainsError")))),
 fun K => decide (PySem.W.nsIn K mainGlobals "NoBalance" = some (some (.ref (He.ga K "NoBalance"))))]
noncomputable def fsC5 : List FaB := [fun K => decide (PySem.W.nsIn K mainGlobals "NoDeed" = some (some (.ref (He.ga K "NoDeed")))),
 fun K => decide (PySem.W.nsIn K mainGlobals "NoFraction" = some (some (.ref (He.ga K "NoFraction")))),
 fun K => decide (PySem.W.nsIn K mainGlobals "NoHouse" = some (some (.ref (He.ga K "NoHouse")))),
 fun K => decide (PySem.W.nsIn K mainGlobals "NoLine" = some (some (.ref (He.ga K "NoLine")))),
 fun K => decide (PySem.W.nsIn K mainGlobals "NoLoss" = some (some (.ref (He.ga K "NoLoss")))),
 fun K => decide (PySem.W.nsIn K mainGlobals "NoMaking" = some (some (.ref (He.ga K "NoMaking")))),
 fun K => decide (PySem.W.nsIn K mainGlobals "NoNumber" = some (some (.ref (He.ga K "NoNumber")))),
 fun K => decide (PySem.W.nsIn K mainGlobals "NoPaper" = some (some (.ref (He.ga K "NoPaper")))),
 fun K => decide (PySem.W.nsIn K mainGlobals "NoPuts" = some (some (.ref (He.ga K "NoPuts")))),
 fun K => decide (PySem.W.nsIn K mainGlobals "NoRow" = some (some (.ref (He.ga K "NoRow")))),
 fun K => decide (PySem.W.nsIn K mainGlobals "NoText" = some (some (.ref (He.ga K "NoText")))),
 fun K => PySem.W.keepIn K (.ref (He.ga K "NoNumber")),
 fun K => decide (PySem.W.subIn K (.ref (He.ga K "NoNumber")) (.type "BaseException") = some true),
 fun K => decide (PySem.W.typeIn K (.ref (He.ga K "NoNumber")) = some (.type "type")),
 fun K => PySem.W.excIn K (He.ga K "NoNumber") [.type "ValueError", .type "Exception", .type "BaseException", .type "object"] "ValueError.__new__",
 fun K => decide (PySem.W.findIn K (.ref (He.ga K "NoNumber")) "__getattribute__" = some (some (.builtin "BaseException.__getattribute__"))),
 fun K => decide (PySem.W.findIn K (.ref (He.ga K "NoNumber")) "__getattr__" = some none),
 fun K => PySem.W.hasDictIn K (He.ga K "NoNumber"),
 fun K => decide (PySem.W.findIn K (.ref (He.ga K "NoNumber")) "__class__" = some (some (.builtin "object.__class__"))),
 fun K => decide (PySem.W.mroIn K (He.ga K "NoNumber") (.type "object") = some true),
 fun K => decide (PySem.W.subIn K (.ref (He.ga K "NoNumber")) (.ref (He.ga K "MainsError")) = some true),
 fun K => decide (PySem.W.subIn K (.ref (He.ga K "NoNumber")) (.ref (He.ga K "NoBalance")) = some false),
 fun K => decide (PySem.W.subIn K (.ref (He.ga K "NoNumber")) (.ref (He.ga K "NoDeed")) = some false),
 fun K => decide (PySem.W.subIn K (.ref (He.ga K "NoNumber")) (.ref (He.ga K "NoFraction")) = some false),
 fun K => decide (PySem.W.subIn K (.ref (He.ga K "NoNumber")) (.ref (He.ga K "NoHouse")) = some false),
 fun K => decide (PySem.W.subIn K (.ref (He.ga K "NoNumber")) (.ref (He.ga K "NoLine")) = some false),
 fun K => decide (PySem.W.subIn K (.ref (He.ga K "NoNumber")) (.ref (He.ga K "NoLoss")) = some false),
 fun K => decide (PySem.W.subIn K (.ref (He.ga K "NoNumber")) (.ref (He.ga K "NoMaking")) = some false),
 fun K => decide (PySem.W.subIn K (.ref (He.ga K "NoNumber")) (.ref (He.ga K "NoNumber")) = some true),
 fun K => decide (PySem.W.subIn K (.ref (He.ga K "NoNumber")) (.ref (He.ga K "NoPaper")) = some false)]
noncomputable def fsC6 : List FaB := [fun K => decide (PySem.W.subIn K (.ref (He.ga K "NoNumber")) (.ref (He.ga K "NoPuts")) = some false),
 fun K => decide (PySem.W.subIn K (.ref (He.ga K "NoNumber")) (.ref (He.ga K "NoRow")) = some false),
 fun K => decide (PySem.W.subIn K (.ref (He.ga K "NoNumber")) (.ref (He.ga K "NoText")) = some false),
 fun K => decide (PySem.W.subIn K (.ref (He.ga K "NoNumber")) (.type "ValueError") = some true),
 fun K => decide (PySem.W.subIn K (.ref (He.ga K "NoNumber")) (.ref (He.ga K "MainsError")) = some true),
 fun K => PySem.W.keepIn K (.ref (He.ga K "NoLoss")),
 fun K => decide (PySem.W.subIn K (.ref (He.ga K "NoLoss")) (.type "BaseException") = some true),
 fun K => decide (PySem.W.typeIn K (.ref (He.ga K "NoLoss")) = some (.type "type")),
 fun K => PySem.W.excIn K (He.ga K "NoLoss") [.type "ValueError", .type "Exception", .type "BaseException", .type "object"] "ValueError.__new__",
 fun K => decide (PySem.W.findIn K (.ref (He.ga K "NoLoss")) "__getattribute__" = some (some (.builtin "BaseException.__getattribute__"))),
 fun K => decide (PySem.W.findIn K (.ref (He.ga K "NoLoss")) "__getattr__" = some none),
 fun K => PySem.W.hasDictIn K (He.ga K "NoLoss"),
 fun K => decide (PySem.W.findIn K (.ref (He.ga K "NoLoss")) "__class__" = some (some (.builtin "object.__class__"))),
 fun K => decide (PySem.W.mroIn K (He.ga K "NoLoss") (.type "object") = some true),
 fun K => decide (PySem.W.subIn K (.ref (He.ga K "NoLoss")) (.ref (He.ga K "MainsError")) = some true),
 fun K => decide (PySem.W.subIn K (.ref (He.ga K "NoLoss")) (.ref (He.ga K "NoBalance")) = some false),
 fun K => decide (PySem.W.subIn K (.ref (He.ga K "NoLoss")) (.ref (He.ga K "NoDeed")) = some false),
 fun K => decide (PySem.W.subIn K (.ref (He.ga K "NoLoss")) (.ref (He.ga K "NoFraction")) = some false),
 fun K => decide (PySem.W.subIn K (.ref (He.ga K "NoLoss")) (.ref (He.ga K "NoHouse")) = some false),
 fun K => decide (PySem.W.subIn K (.ref (He.ga K "NoLoss")) (.ref (He.ga K "NoLine")) = some false),
 fun K => decide (PySem.W.subIn K (.ref (He.ga K "NoLoss")) (.ref (He.ga K "NoLoss")) = some true),
 fun K => decide (PySem.W.subIn K (.ref (He.ga K "NoLoss")) (.ref (He.ga K "NoMaking")) = some false),
 fun K => decide (PySem.W.subIn K (.ref (He.ga K "NoLoss")) (.ref (He.ga K "NoNumber")) = some false),
 fun K => decide (PySem.W.subIn K (.ref (He.ga K "NoLoss")) (.ref (He.ga K "NoPaper")) = some false),
 fun K => decide (PySem.W.subIn K (.ref (He.ga K "NoLoss")) (.ref (He.ga K "NoPuts")) = some false),
 fun K => decide (PySem.W.subIn K (.ref (He.ga K "NoLoss")) (.ref (He.ga K "NoRow")) = some false),
 fun K => decide (PySem.W.subIn K (.ref (He.ga K "NoLoss")) (.ref (He.ga K "NoText")) = some false),
 fun K => decide (PySem.W.subIn K (.ref (He.ga K "NoLoss")) (.type "ValueError") = some true),
 fun K => decide (PySem.W.subIn K (.ref (He.ga K "NoLoss")) (.ref (He.ga K "MainsError")) = some true),
 fun K => PySem.W.keepIn K (.ref (He.ga K "NoDeed"))]
noncomputable def fsC7 : List FaB := [fun K => decide (PySem.W.subIn K (.ref (He.ga K "NoDeed")) (.type "BaseException") = some true),
 fun K => decide (PySem.W.typeIn K (.ref (He.ga K "NoDeed")) = some (.type "type")),
 fun K => PySem.W.excIn K (He.ga K "NoDeed") [.type "ValueError", .type "Exception", .type "BaseException", .type "object"] "ValueError.__new__",
 fun K => decide (PySem.W.findIn K (.ref (He.ga K "NoDeed")) "__getattribute__" = some (some (.builtin "BaseException.__getattribute__"))),
 fun K => decide (PySem.W.findIn K (.ref (He.ga K "NoDeed")) "__getattr__" = some none),
 fun K => PySem.W.hasDictIn K (He.ga K "NoDeed"),
 fun K => decide (PySem.W.findIn K (.ref (He.ga K "NoDeed")) "__class__" = some (some (.builtin "object.__class__"))),
 fun K => decide (PySem.W.mroIn K (He.ga K "NoDeed") (.type "object") = some true),
 fun K => decide (PySem.W.subIn K (.ref (He.ga K "NoDeed")) (.ref (He.ga K "MainsError")) = some true),
 fun K => decide (PySem.W.subIn K (.ref (He.ga K "NoDeed")) (.ref (He.ga K "NoBalance")) = some false),
 fun K => decide (PySem.W.subIn K (.ref (He.ga K "NoDeed")) (.ref (He.ga K "NoDeed")) = some true),
 fun K => decide (PySem.W.subIn K (.ref (He.ga K "NoDeed")) (.ref (He.ga K "NoFraction")) = some false),
 fun K => decide (PySem.W.subIn K (.ref (He.ga K "NoDeed")) (.ref (He.ga K "NoHouse")) = some false),
 fun K => decide (PySem.W.subIn K (.ref (He.ga K "NoDeed")) (.ref (He.ga K "NoLine")) = some false),
 fun K => decide (PySem.W.subIn K (.ref (He.ga K "NoDeed")) (.ref (He.ga K "NoLoss")) = some false),
 fun K => decide (PySem.W.subIn K (.ref (He.ga K "NoDeed")) (.ref (He.ga K "NoMaking")) = some false),
 fun K => decide (PySem.W.subIn K (.ref (He.ga K "NoDeed")) (.ref (He.ga K "NoNumber")) = some false),
 fun K => decide (PySem.W.subIn K (.ref (He.ga K "NoDeed")) (.ref (He.ga K "NoPaper")) = some false),
 fun K => decide (PySem.W.subIn K (.ref (He.ga K "NoDeed")) (.ref (He.ga K "NoPuts")) = some false),
 fun K => decide (PySem.W.subIn K (.ref (He.ga K "NoDeed")) (.ref (He.ga K "NoRow")) = some false),
 fun K => decide (PySem.W.subIn K (.ref (He.ga K "NoDeed")) (.ref (He.ga K "NoText")) = some false),
 fun K => decide (PySem.W.subIn K (.ref (He.ga K "NoDeed")) (.type "ValueError") = some true),
 fun K => decide (PySem.W.subIn K (.ref (He.ga K "NoDeed")) (.ref (He.ga K "MainsError")) = some true),
 fun K => decide (PySem.W.subIn K (.ref (He.ga K "NoNumber")) (.ref (He.ga K "NoNumber")) = some true),
 fun K => decide (PySem.W.subIn K (.ref (He.ga K "NoLoss")) (.ref (He.ga K "NoLoss")) = some true),
 fun K => decide (PySem.W.subIn K (.ref (He.ga K "NoDeed")) (.ref (He.ga K "NoDeed")) = some true),
 fun K => PySem.W.isClsIn K (He.ga K "MainsError"),
 fun K => decide (PySem.W.typeIn K (.ref (He.ga K "MainsError")) = some (.type "type")),
 fun K => PySem.W.isClsIn K (He.ga K "NoBalance"),
 fun K => decide (PySem.W.typeIn K (.ref (He.ga K "NoBalance")) = some (.type "type"))]
noncomputable def fsC8 : List FaB := [fun K => PySem.W.isClsIn K (He.ga K "NoDeed"),
 fun K => decide (PySem.W.typeIn K (.ref (He.ga K "NoDeed")) = some (.type "type")),
 fun K => PySem.W.isClsIn K (He.ga K "NoFraction"),
 fun K => decide (PySem.W.typeIn K (.ref (He.ga K "NoFraction")) = some (.type "type")),
 fun K => PySem.W.isClsIn K (He.ga K "NoHouse"),
 fun K => decide (PySem.W.typeIn K (.ref (He.ga K "NoHouse")) = some (.type "type")),
 fun K => PySem.W.isClsIn K (He.ga K "NoLine"),
 fun K => decide (PySem.W.typeIn K (.ref (He.ga K "NoLine")) = some (.type "type")),
 fun K => PySem.W.isClsIn K (He.ga K "NoLoss"),
 fun K => decide (PySem.W.typeIn K (.ref (He.ga K "NoLoss")) = some (.type "type")),
 fun K => PySem.W.isClsIn K (He.ga K "NoMaking"),
 fun K => decide (PySem.W.typeIn K (.ref (He.ga K "NoMaking")) = some (.type "type")),
 fun K => PySem.W.isClsIn K (He.ga K "NoNumber"),
 fun K => decide (PySem.W.typeIn K (.ref (He.ga K "NoNumber")) = some (.type "type")),
 fun K => PySem.W.isClsIn K (He.ga K "NoPaper"),
 fun K => decide (PySem.W.typeIn K (.ref (He.ga K "NoPaper")) = some (.type "type")),
 fun K => PySem.W.isClsIn K (He.ga K "NoPuts"),
 fun K => decide (PySem.W.typeIn K (.ref (He.ga K "NoPuts")) = some (.type "type")),
 fun K => PySem.W.isClsIn K (He.ga K "NoRow"),
 fun K => decide (PySem.W.typeIn K (.ref (He.ga K "NoRow")) = some (.type "type")),
 fun K => PySem.W.isClsIn K (He.ga K "NoText"),
 fun K => decide (PySem.W.typeIn K (.ref (He.ga K "NoText")) = some (.type "type")),
 fun K => decide (PySem.W.subIn K (.ref (He.ga K "MainsError")) (.type "BaseException") = some true),
 fun K => PySem.W.hasDictIn K (He.ga K "MainsError"),
 fun K => decide (PySem.W.specialIn K (.builtin "object.__class__") "__get__" = some (some (.builtin "getset_descriptor.__get__"))),
 fun K => decide (PySem.W.takesIn K (.builtin "object.__class__") = some true),
 fun K => decide (PySem.W.nsIn K mainGlobals "ValueError" = some none),
 fun K => decide (PySem.W.nsIn K mainGlobals "abs" = some none),
 fun K => decide (PySem.W.nsIn K mainGlobals "all" = some none),
 fun K => decide (PySem.W.nsIn K mainGlobals "bool" = some none)]
noncomputable def fsC9 : List FaB := [fun K => decide (PySem.W.nsIn K mainGlobals "enumerate" = some none),
 fun K => decide (PySem.W.nsIn K mainGlobals "int" = some none),
 fun K => decide (PySem.W.nsIn K mainGlobals "isinstance" = some none),
 fun K => decide (PySem.W.nsIn K mainGlobals "len" = some none),
 fun K => decide (PySem.W.nsIn K mainGlobals "min" = some none),
 fun K => decide (PySem.W.nsIn K mainGlobals "range" = some none),
 fun K => decide (PySem.W.nsIn K mainGlobals "str" = some none),
 fun K => decide (PySem.W.nsIn K mainGlobals "tuple" = some none),
 fun K => decide (PySem.W.nsIn K mainGlobals "zip" = some none),
 fun K => decide (PySem.W.nsIn K mainGlobals "COUNTS" = some (some (.ref (He.ga K "COUNTS")))),
 fun K => decide (dicB K (He.ga K "COUNTS") [("lose", 1), ("stop", 1), ("want", 4), ("undo", 0), ("house", 0), ("limits", 0), ("cost", 0), ("on", 0), ("price", 2), ("owed", 0)] = true),
 fun K => (He.Fa.str "FIGURES" "0123456789").ok K,
 fun K => (He.Fa.int "FIRM" (100)).ok K,
 fun K => (He.Fa.int "LONGEST" (2)).ok K,
 fun K => (He.Fa.int "MOST_BORNE" (99)).ok K,
 fun K => (He.Fa.int "MOST_FIGURES" (40)).ok K,
 fun K => (He.Fa.int "MOST_HOURS" (3)).ok K,
 fun K => (He.Fa.int "MOST_LEAST" (20)).ok K,
 fun K => (He.Fa.int "MOST_LINES" (6)).ok K,
 fun K => (He.Fa.int "MOST_PLACES" (4)).ok K,
 fun K => (He.Fa.int "MOST_PRICE" (99)).ok K,
 fun K => (He.Fa.int "MOST_SIZE_desk" (30)).ok K,
 fun K => (He.Fa.int "MOST_SIZE_houses" (30)).ok K,
 fun K => (He.Fa.int "MOST_WANTS" (3)).ok K,
 fun K => (He.Fa.int "MOST_WIDTH" (20)).ok K,
 fun K => (He.Fa.int "MOST_WORKS" (3)).ok K,
 fun K => (He.Fa.int "MOST_WORTH" (100)).ok K,
 fun K => (He.Fa.str "OFF" "off").ok K,
 fun K => (He.Fa.str "ON" "on").ok K,
 fun K => (He.Fa.int "STIFFEST" (9)).ok K]
noncomputable def fsC10 : List FaB := [fun K => (He.Fa.int "TOPMOST" (2)).ok K]
noncomputable def fsS : List FaB := fsC0 ++ fsC1 ++ fsC2 ++ fsC3 ++ fsC4 ++ fsC5 ++ fsC6 ++ fsC7 ++ fsC8 ++ fsC9 ++ fsC10
noncomputable def tsS : List He.Tab := [(fun K => He.ga K "COUNTS", ["lose", "stop", "want", "undo", "house", "limits", "cost", "on", "price", "owed"])]
noncomputable abbrev hkS : PySem.W.Hook := hookFT 5 fsS fnS tsS
noncomputable def obS (s : PySem.W.SharedT) : AlFT := obsHT 5 fsS fnS tsS (HandSHeadRun.getT s)
theorem obS_eq (s : PySem.W.SharedT) : obS s = hkS.obs s.abs := obsHT_eq (HandSHeadRun.getT_eq s)
noncomputable def nmC0 : List Str := [("MainsError" : Str), ("NoFraction" : Str), ("NoPuts" : Str), ("NoBalance" : Str), ("NoLine" : Str), ("NoLoss" : Str), ("NoPaper" : Str), ("NoMaking" : Str), ("NoText" : Str), ("NoHouse" : Str), ("NoRow" : Str), ("NoNumber" : Str), ("NoDeed" : Str), ("is_whole" : Str), ("is_from" : Str), ("common" : Str), ("fraction" : Str), ("plus" : Str), ("minus" : Str), ("times" : Str), ("is_less" : Str), ("MOST_PLACES" : Str), ("MOST_LINES" : Str), ("STIFFEST" : Str), ("MOST_BORNE" : Str), ("is_line" : Str), ("hangs_together" : Str), ("is_net" : Str), ("left_lines" : Str), ("losable" : Str)]
noncomputable def nmC1 : List Str := [("without" : Str), ("limits" : Str), ("NONE_LOST" : Str), ("Bearing" : Str), ("without_place" : Str), ("size_number" : Str), ("stiff_table" : Str), ("heights_of_units" : Str), ("bearings_with" : Str), ("bearings" : Str), ("Turner" : Str), ("SIDES" : Str), ("whole" : Str), ("whole_making" : Str), ("bearing_of" : Str), ("prices_by" : Str), ("prices" : Str), ("puts_of" : Str), ("broken_by" : Str), ("weights_of" : Str), ("limit_added" : Str), ("made_by" : Str), ("first_broken" : Str), ("settled_row" : Str), ("cheapest_by" : Str), ("MOST_WORKS" : Str), ("MOST_WANTS" : Str), ("MOST_HOURS" : Str), ("MOST_LEAST" : Str), ("MOST_PRICE" : Str)]
noncomputable def nmC2 : List Str := [("MOST_WIDTH" : Str), ("MOST_SIZE_houses" : Str), ("FIRM" : Str), ("LONGEST" : Str), ("TOPMOST" : Str), ("is_row_of" : Str), ("is_piece" : Str), ("are_pieces" : Str), ("is_work" : Str), ("is_store" : Str), ("is_want" : Str), ("are_wants" : Str), ("is_house" : Str), ("MOVES" : Str), ("JUST_TURNED" : Str), ("LONG_AGO" : Str), ("truths" : Str), ("cases" : Str), ("store_put" : Str), ("base" : Str), ("blocks" : Str), ("keeps_of" : Str), ("starts_of" : Str), ("first_level" : Str), ("top_of" : Str), ("first_state" : Str), ("may_turn" : Str), ("next_state" : Str), ("is_last_state" : Str), ("NOUGHT" : Str)]
noncomputable def nmC3 : List Str := [("whole_money" : Str), ("sum_of" : Str), ("pieces_made" : Str), ("made" : Str), ("spent" : Str), ("gain" : Str), ("owed" : Str), ("MADE" : Str), ("Walk" : Str), ("cheapest_run" : Str), ("FIGURES" : Str), ("MOST_FIGURES" : Str), ("ON" : Str), ("OFF" : Str), ("number_of" : Str), ("must_be" : Str), ("numbers_of" : Str), ("parted_numbers" : Str), ("read_net" : Str), ("read_line" : Str), ("read_work" : Str), ("read_store" : Str), ("read_hour" : Str), ("rows_with" : Str), ("read_rows" : Str), ("read_house" : Str), ("shown_row" : Str), ("colons" : Str), ("shown_work" : Str), ("house_rows" : Str)]
noncomputable def nmC4 : List Str := [("show_house" : Str), ("show_fraction" : Str), ("MOST_SIZE_desk" : Str), ("MOST_WORTH" : Str), ("COUNTS" : Str), ("words_of" : Str), ("must_be_below" : Str), ("with_wants" : Str), ("behind_loss_of_line" : Str), ("behind_stop" : Str), ("behind_want" : Str), ("behind_deed" : Str), ("marks_of" : Str), ("Desk" : Str), ("_law_bag" : Str), ("_law_take" : Str), ("_law_size" : Str), ("_law_stiff" : Str), ("_law_losable" : Str), ("_law_net" : Str), ("_law_work" : Str), ("_law_wants" : Str), ("_law_store" : Str), ("_law_house" : Str), ("_law_text" : Str), ("_law_kind" : Str), ("_law_behind" : Str), ("_law_deed" : Str), ("_law_said" : Str), ("_law_limits" : Str)]
noncomputable def nmC5 : List Str := [("_law_row" : Str)]
noncomputable abbrev nmS : List Str := nmC0 ++ nmC1 ++ nmC2 ++ nmC3 ++ nmC4 ++ nmC5
noncomputable abbrev rowS : PySem.W.OpenRow := PySem.W.OpenLaw.row PySem.Challenge.rw_mainskeep_k80_desk_deeds
theorem runA_false (w : World) : RunA rowS (PySem.W.view rowS.prog [166]) 15000 nmS (w.withFollow "special-get-raises" false) := by
 intro os
 kernel_rfl
theorem runB_false (w : World) : RunB rowS hkS obS 15000 (w.withFollow "special-get-raises" false) := by
 intro os
 kernel_rfl
theorem runS_false (w : World) : HandSHeadRun.RunEq rowS (PySem.W.view rowS.prog [166]) hkS obS 15000 nmS (w.withFollow "special-get-raises" false) := run_two (runA_false w) (runB_false w)
theorem runA_true (w : World) : RunA rowS (PySem.W.view rowS.prog [166]) 15000 nmS (w.withFollow "special-get-raises" true) := by
 intro os
 kernel_rfl
theorem runB_true (w : World) : RunB rowS hkS obS 15000 (w.withFollow "special-get-raises" true) := by
 intro os
 kernel_rfl
theorem runS_true (w : World) : HandSHeadRun.RunEq rowS (PySem.W.view rowS.prog [166]) hkS obS 15000 nmS (w.withFollow "special-get-raises" true) := run_two (runA_true w) (runB_true w)
theorem runS (w : World) : HandSHeadRun.RunEq rowS (PySem.W.view rowS.prog [166]) hkS obS 15000 nmS w := PySem.W.byRow2 "special-get-raises" (P := fun w => HandSHeadRun.RunEq rowS (PySem.W.view rowS.prog [166]) hkS obS 15000 nmS w) runS_false runS_true w
theorem tw_app {top : Scope} {cx : TablesWhole.Ctx} {sc : Scope} (ys : List Stmt) : ∀ xs : List Stmt, TablesWhole.wSs TablesWhole.holds top cx sc (xs ++ ys) = (TablesWhole.wSs TablesWhole.holds top cx sc xs && TablesWhole.wSs TablesWhole.holds top cx sc ys)
 | [] => by simp [TablesWhole.wSs, TablesWhole.holds]
 | x :: xs => by
  rw [List.cons_append, TablesWhole.wSs, TablesWhole.wSs, tw_app ys xs]
  exact (Bool.and_assoc _ _ _).symm
theorem tg_app {top : Scope} {cx : TablesWhole.Ctx} {sc : Scope} (ys : List Stmt) : ∀ xs : List Stmt, TablesWhole.wSs TablesWhole.gather top cx sc (xs ++ ys) = TablesWhole.wSs TablesWhole.gather top cx sc xs ++ TablesWhole.wSs TablesWhole.gather top cx sc ys
 | [] => by simp [TablesWhole.wSs, TablesWhole.gather]
 | x :: xs => by
  rw [List.cons_append, TablesWhole.wSs, TablesWhole.wSs, tg_app ys xs]
  exact (List.append_assoc _ _ _).symm
noncomputable def twB (m : Module) (k : Nat) : Bool := (TablesWhole.wSs TablesWhole.gather m.scope ⟨m.scope, [], [], [], none⟩ m.scope ((m.body.drop (8 * k)).take 8)).isEmpty && TablesWhole.wSs TablesWhole.holds m.scope ⟨m.scope, [], [], [], none⟩ m.scope ((m.body.drop (8 * k)).take 8)
theorem tw_all {m : Module} : ∀ (n j : Nat) (b : List Stmt), b = m.body.drop (8 * j) → b.length ≤ 8 * n → (∀ k, j ≤ k → k < j + n → twB m k = true) →
  TablesWhole.wSs TablesWhole.gather m.scope ⟨m.scope, [], [], [], none⟩ m.scope b = [] ∧ TablesWhole.wSs TablesWhole.holds m.scope ⟨m.scope, [], [], [], none⟩ m.scope b = true
 | 0, j, b, e, hl, _ => by
  obtain rfl : b = [] := List.length_eq_zero_iff.mp (by omega)
  exact ⟨by simp [TablesWhole.wSs, TablesWhole.gather], by simp [TablesWhole.wSs, TablesWhole.holds]⟩
 | n + 1, j, b, e, hl, h => by
  obtain ⟨i1, i2⟩ := tw_all n (j + 1) (b.drop 8) (by rw [e, List.drop_drop, Nat.mul_add]) (by rw [List.length_drop]; omega) fun k hk hk' => h k (by omega) (by omega)
  have t := h j (Nat.le_refl _) (by omega)
  unfold twB at t
  rw [← e, Bool.and_eq_true] at t
  rw [← List.take_append_drop 8 b, tg_app, tw_app, i1, i2, t.2, List.isEmpty_iff.mp t.1]
  exact ⟨rfl, rfl⟩
theorem tw_prog {p : Program} (h1 : p.modules = []) (h2 : p.parses = []) (h3 : p.harvested = []) (ht : TablesWhole.noTwice p.main.scope = true) (n : Nat) (hl : p.main.body.length ≤ 8 * n) (h : ∀ k, k < n → twB p.main k = true) : p.tablesWhole = true := by
 obtain ⟨a, b⟩ := tw_all n 0 p.main.body rfl hl fun k _ hk => h k (by omega)
 unfold Program.tablesWhole TablesWhole.wProgram TablesWhole.wModule
 rw [h1, h2, h3]
 dsimp only
 rw [a, b, ht]
 rfl
theorem tw0 : twB rowS.prog.main 0 = true := by kernel_rfl
theorem tw1 : twB rowS.prog.main 1 = true := by kernel_rfl
theorem tw2 : twB rowS.prog.main 2 = true := by kernel_rfl
theorem tw3 : twB rowS.prog.main 3 = true := by kernel_rfl
theorem tw4 : twB rowS.prog.main 4 = true := by kernel_rfl
theorem tw5 : twB rowS.prog.main 5 = true := by kernel_rfl
theorem tw6 : twB rowS.prog.main 6 = true := by kernel_rfl
theorem tw7 : twB rowS.prog.main 7 = true := by kernel_rfl
theorem tw8 : twB rowS.prog.main 8 = true := by kernel_rfl
theorem tw9 : twB rowS.prog.main 9 = true := by kernel_rfl
theorem tw10 : twB rowS.prog.main 10 = true := by kernel_rfl
theorem tw11 : twB rowS.prog.main 11 = true := by kernel_rfl
theorem tw12 : twB rowS.prog.main 12 = true := by kernel_rfl
theorem tw13 : twB rowS.prog.main 13 = true := by kernel_rfl
theorem tw14 : twB rowS.prog.main 14 = true := by kernel_rfl
theorem tw15 : twB rowS.prog.main 15 = true := by kernel_rfl
theorem tw16 : twB rowS.prog.main 16 = true := by kernel_rfl
theorem tw17 : twB rowS.prog.main 17 = true := by kernel_rfl
theorem tw18 : twB rowS.prog.main 18 = true := by kernel_rfl
theorem tw19 : twB rowS.prog.main 19 = true := by kernel_rfl
theorem tw20 : twB rowS.prog.main 20 = true := by kernel_rfl
theorem tables : rowS.prog.tablesWhole = true := tw_prog rfl rfl rfl (by kernel_rfl) 21 (by decide +kernel) fun k hk => match k, hk with | 0, _ => tw0 | 1, _ => tw1 | 2, _ => tw2 | 3, _ => tw3 | 4, _ => tw4 | 5, _ => tw5 | 6, _ => tw6 | 7, _ => tw7 | 8, _ => tw8 | 9, _ => tw9 | 10, _ => tw10 | 11, _ => tw11 | 12, _ => tw12 | 13, _ => tw13 | 14, _ => tw14 | 15, _ => tw15 | 16, _ => tw16 | 17, _ => tw17 | 18, _ => tw18 | 19, _ => tw19 | 20, _ => tw20 | k + 21, h => absurd h (by omega)
theorem preS (h : (PySem.W.OpenLaw.row PySem.Challenge.rw_mainskeep_k80_desk_deeds).wellSaid = true → (PySem.W.OpenLaw.row PySem.Challenge.rw_mainskeep_k80_desk_deeds).Holds) : PySem.Challenge.rw_mainskeep_k80_desk_deeds.Holds := by
 w_on; o_law
 exact h ‹_›
inductive W where
 | non | bl (b : Bool) | int (i : Int) | str (x : Str)
 | tup (ws : List W) | lst (ws : List W) | scr (ws : List W) | ins (C : Str) (fs : List (Str × W)) | ref (a : Addr) | ty (n : String) | dic (kvs : List (NestedKey × W)) | exc (a : Addr) (d : Option Addr) (nm : Str) (fs : List (Str × W)) | dcn (kvs : List (W × W))
inductive GO where
 | lst (ws : List W) | ins (C : Str) (fs : List (Str × W)) | dic (kvs : List (NestedKey × W)) | dcn (p : Addr) (kvs : List (W × W)) | tbl (p : Addr) (nm : Str)
noncomputable abbrev Gp := Addr → Option GO
noncomputable abbrev Zp := Addr → Prop
noncomputable def gup (G : Gp) (a : Addr) (o : GO) : Gp := fun b => if b = a then some o else G b
noncomputable def gdel (G : Gp) (a : Addr) : Gp := fun b => if b = a then none else G b
theorem gup_same {G : Gp} {a : Addr} {o : GO} : gup G a o a = some o := by unfold gup; rw [if_pos rfl]
theorem gup_ne {G : Gp} {a b : Addr} {o : GO} (h : b ≠ a) : gup G a o b = G b := by unfold gup; rw [if_neg h]
theorem gup_gup {G : Gp} {a : Addr} {o u : GO} : gup (gup G a o) a u = gup G a u := by funext b; unfold gup; split <;> rfl
theorem gdel_same {G : Gp} {a : Addr} : gdel G a a = none := by unfold gdel; rw [if_pos rfl]
theorem gdel_ne {G : Gp} {a b : Addr} (h : b ≠ a) : gdel G a b = G b := by unfold gdel; rw [if_neg h]
theorem gdel_gup {G : Gp} {a : Addr} {o : GO} (h : G a = none) : gdel (gup G a o) a = G := by
 funext b; unfold gdel gup
 by_cases e : b = a
 ·rw [if_pos e, e, h]
 ·rw [if_neg e, if_neg e]
theorem gup_self {G : Gp} {a : Addr} {o : GO} (h : G a = some o) : gup G a o = G := by
 funext b; unfold gup
 by_cases e : b = a
 ·rw [if_pos e, e, h]
 ·rw [if_neg e]
noncomputable def SqF (K : PySem.W.Frag) (H : Hp) (p : Addr) (vs : List V) : Prop := (∃ o, H p = some (.frz o (.lst vs))) ∨ SqL K (fun _ => none) p vs
theorem SqF.sq {K : PySem.W.Frag} {H : Hp} {p : Addr} {vs : List V} (h : SqF K H p vs) : SqL K H p vs := by
 rcases h with h | (h | ⟨o, h⟩) | h
 ·exact .inl (.inr h)
 ·cases h
 ·cases h
 ·exact .inr h
noncomputable def nk : Key → NestedKey
 | .inl n => .num n
 | .inr s => .text s
theorem nk_inj {a b : Key} (h : nk a = nk b) : a = b := by
 cases a <;> cases b <;> simp only [nk, NestedKey.num.injEq, NestedKey.text.injEq, reduceCtorEq] at h <;> rw [h]
noncomputable def ClsA (K : PySem.W.Frag) (nm : Str) (C : Addr) : Prop := PySem.W.nsIn K mainGlobals nm = some (some (.ref C))
theorem ClsA.one {K : PySem.W.Frag} {nm : Str} {C D : Addr} (h : ClsA K nm C) (h' : ClsA K nm D) : C = D := by
 unfold ClsA at h h'
 rw [h] at h'
 simpa using h'
mutual
noncomputable def keyN0 : W → Option NestedKey
 | .non => some .none
 | .bl b => some (.num (if b = true then 1 else 0))
 | .int i => some (.num i)
 | .tup ws => (keysN0 ws).map .tup
 | _ => none
noncomputable def keysN0 : List W → Option (List NestedKey)
 | [] => some []
 | w :: ws => match keyN0 w, keysN0 ws with
  | some k, some ks => some (k :: ks)
  | _, _ => none
end
noncomputable def keyN (w : W) : Option NestedKey := match w with
 | .tup ws => match keyN0 (.tup ws) with
  | some k => if k.depth ≤ 8 then some k else none
  | none => none
 | _ => none
mutual
noncomputable def txtless : NestedKey → Bool
 | .none => true
 | .num _ => true
 | .text _ => false
 | .tup ks => txtlesss ks
noncomputable def txtlesss : List NestedKey → Bool
 | [] => true
 | k :: ks => txtless k && txtlesss ks
end
mutual
theorem hash_any (v w : World) : ∀ k : NestedKey, txtless k = true → k.hash v = k.hash w
 | .none, _ => by simp only [NestedKey.hash]
 | .num _, _ => by simp only [NestedKey.hash]
 | .text _, h => by simp [txtless] at h
 | .tup ks, h => by
  simp only [NestedKey.hash]
  rw [hashes_any v w ks (by simpa [txtless] using h)]
theorem hashes_any (v w : World) : ∀ ks : List NestedKey, txtlesss ks = true → NestedKey.hashes v ks = NestedKey.hashes w ks
 | [], _ => by simp only [NestedKey.hashes]
 | k :: ks, h => by
  simp only [txtlesss, Bool.and_eq_true] at h
  simp only [NestedKey.hashes]
  rw [hash_any v w k h.1, hashes_any v w ks h.2]
end
noncomputable def hashN (k : NestedKey) : Int := @dite Int (Nonempty World) (Classical.propDecidable _) (fun h => k.hash (Classical.choice h)) fun _ => 0
theorem hashN_eq (w : World) {k : NestedKey} (h : txtless k = true) : k.hash w = hashN k := by
 unfold hashN
 rw [dif_pos ⟨w⟩]
 exact hash_any _ _ k h
noncomputable def entN (x : NestedKey × Addr × Value) : DictEntry := ⟨hashN x.1, .ref x.2.1, x.2.2⟩
noncomputable def dknF (d : Addr) (xs : List (NestedKey × Addr × Value)) : Heap → Prop := fun h => ∃ o es ep, h.get? d = some o ∧ o.ExactDict ∧ o.data = .dict es ep ∧ es.toList = xs.map entN
mutual
inductive Rw (K : PySem.W.Frag) (Z : Zp) (H : Hp) : W → V → Prop
 | non : Rw K Z H .non .non
 | bl {b} : Rw K Z H (.bl b) (.bl b)
 | int {i} : Rw K Z H (.int i) (.int i)
 | str {x} : Rw K Z H (.str x) (.str x)
 | ref {a} : Rw K Z H (.ref a) (.ref a)
 | tup {p ws vs} : SqT K H p vs → RwL K Z H ws vs → Rw K Z H (.tup ws) (.ref p)
 | lst {p ws vs} : Z p → H p = some (.lst vs) → RwL K Z H ws vs → Rw K Z H (.lst ws) (.ref p)
 | scr {p ws vs} : SqF K H p vs → RwL K Z H ws vs → Rw K Z H (.scr ws) (.ref p)
 | ty {n} : Rw K Z H (.ty n) (.ty n)
 | ins {p nm C dx fs gs} : ClsA K nm C → Z p → H p = some (.ins C dx gs) → RwF K Z H fs gs → Rw K Z H (.ins nm fs) (.ref p)
 | dic {p kvs us} : Z p → H p = some (.dK us) → RwD K Z H kvs us → Rw K Z H (.dic kvs) (.ref p)
 | exc0 {a nm} : Rw K Z H (.exc a none nm []) (.ref a)
 | dcn {p xs φ kvs} : Z p → H p = some (.ext φ) → φ = dknF p xs → (p == sysModules) = false → xs.length ≤ sizeLine → (xs.map (·.1)).Nodup → RwN K Z H xs kvs → Rw K Z H (.dcn kvs) (.ref p)
 | excF {a dd nm fs gs} : Z dd → H dd = some (.xd gs) → RwF K Z H fs gs → Rw K Z H (.exc a (some dd) nm fs) (.ref a)
inductive RwL (K : PySem.W.Frag) (Z : Zp) (H : Hp) : List W → List V → Prop
 | nil : RwL K Z H [] []
 | cons {w v ws vs} : Rw K Z H w v → RwL K Z H ws vs → RwL K Z H (w :: ws) (v :: vs)
inductive RwF (K : PySem.W.Frag) (Z : Zp) (H : Hp) : List (Str × W) → List (Str × V) → Prop
 | nil : RwF K Z H [] []
 | cons {f w v ws vs} : Rw K Z H w v → RwF K Z H ws vs → RwF K Z H ((f, w) :: ws) ((f, v) :: vs)
inductive RwD (K : PySem.W.Frag) (Z : Zp) (H : Hp) : List (NestedKey × W) → List (Key × V) → Prop
 | nil : RwD K Z H [] []
 | cons {k w v ws vs} : Rw K Z H w v → RwD K Z H ws vs → RwD K Z H ((nk k, w) :: ws) ((k, v) :: vs)
inductive RwN (K : PySem.W.Frag) (Z : Zp) (H : Hp) : List (NestedKey × Addr × Value) → List (W × W) → Prop
 | nil : RwN K Z H [] []
 | cons {k b u kw vw v xs kvs} : keyN kw = some k → Rw K Z H kw (.ref b) → Rw K Z H vw v → RelV v u → RwN K Z H xs kvs → RwN K Z H ((k, b, u) :: xs) ((kw, vw) :: kvs)
end
noncomputable def codeAd (K : PySem.W.Frag) (f : Addr) : Addr := match K.lookup f with
 | some ⟨_, _, .func fd, _⟩ => (match fd.code with
  | .ref c => c
  | _ => 0)
 | _ => 0
noncomputable def tabAd (K : PySem.W.Frag) (c : Addr) : Addr := match K.lookup c with
 | some ⟨_, _, .fields vs, _⟩ => (match vs.getD 11 .none with
  | .ref P => P
  | _ => 0)
 | _ => 0
noncomputable def lamQ (nm : Str) : Str := nm ++ ".<locals>." ++ "<lambda>"
noncomputable def TabO (Z : Zp) (H : Hp) (q : Str) (ps : Array Value) : Prop := TriplesOk ps.toList ∧ ∀ (pos : Pos) (cv : Value), codeAmong pos ps.toList = some cv → ∃ c, cv = .ref c ∧ Z c ∧ H c = some (LamX.CodeO c q)
inductive Rgo (K : PySem.W.Frag) (Z : Zp) (H : Hp) : GO → HO → Prop
 | lst {ws vs} : RwL K Z H ws vs → Rgo K Z H (.lst ws) (.lst vs)
 | ins {nm C dx fs gs} : ClsA K nm C → RwF K Z H fs gs → Rgo K Z H (.ins nm fs) (.ins C dx gs)
 | dic {kvs us} : RwD K Z H kvs us → Rgo K Z H (.dic kvs) (.dK us)
 | dcn {p xs φ kvs} : φ = dknF p xs → (p == sysModules) = false → xs.length ≤ sizeLine → (xs.map (·.1)).Nodup → RwN K Z H xs kvs → Rgo K Z H (.dcn p kvs) (.ext φ)
 | tbl {p nm f ps} : ClsA K nm f → tabAd K (codeAd K f) = p → TabO Z H (lamQ nm) ps → Rgo K Z H (.tbl p nm) (.tbl ps)
structure HRel (K : PySem.W.Frag) (Z : Zp) (G : Gp) (H : Hp) : Prop where
 z : ∀ p, Z p → G p = none ∧ H p ≠ none
 g : ∀ p o, G p = some o → ∃ u, H p = some u ∧ Rgo K Z H o u
structure Ext (Z : Zp) (G : Gp) (H : Hp) (Z' : Zp) (G' : Gp) (H' : Hp) : Prop where
 z : ∀ p, Z p → Z' p
 f : ∀ p u, H p = some u → G p = none → H' p = some u ∧ G' p = none
 n : ∀ p, H p ≠ none → G p = none → Z' p → Z p
theorem Ext.refl {Z : Zp} {G : Gp} {H : Hp} : Ext Z G H Z G H := ⟨fun _ h => h, fun _ _ h g => ⟨h, g⟩, fun _ _ _ z => z⟩
theorem Ext.trans {Z1 Z2 Z3 : Zp} {G1 G2 G3 : Gp} {H1 H2 H3 : Hp} (a : Ext Z1 G1 H1 Z2 G2 H2) (b : Ext Z2 G2 H2 Z3 G3 H3) : Ext Z1 G1 H1 Z3 G3 H3 :=
 ⟨fun p h => b.z p (a.z p h), fun p u h g => let ⟨x, y⟩ := a.f p u h g; b.f p u x y, fun p h g z => by
  obtain ⟨u, e⟩ := Option.ne_none_iff_exists'.mp h
  obtain ⟨x, y⟩ := a.f p u e g
  exact a.n p h g (b.n p (by rw [x]; simp) y z)⟩
structure Keep (Z : Zp) (H : Hp) (Z' : Zp) (H' : Hp) : Prop where
 z : ∀ p, Z p → Z' p
 k : ∀ p u, H p = some u → Z p → H' p = some u
 t : ∀ p vs, H p = some (.tup vs) → H' p = some (.tup vs)
 o : ∀ p ob u, H p = some (.frz ob u) → H' p = some (.frz ob u)
section
variable {K : PySem.W.Frag} {Z Z' : Zp} {G G' : Gp} {H H' : Hp}
theorem HRel.nog (h : HRel K Z G H) {p : Addr} {u : HO} (e : H p = some u) (n : ∀ o, ¬ Rgo K Z H o u) : G p = none := by
 cases q : G p with
 | none => rfl
 | some o =>
  obtain ⟨u', e', r⟩ := h.g p o q
  rw [e] at e'; cases e'
  exact absurd r (n o)
theorem HRel.fresh (h : HRel K Z G H) {p : Addr} (e : H p = none) : G p = none := by
 cases q : G p with
 | none => rfl
 | some o =>
  obtain ⟨u', e', r⟩ := h.g p o q
  rw [e] at e'; cases e'
theorem HRel.freshZ (h : HRel K Z G H) {p : Addr} (e : H p = none) : ¬ Z p := fun z => (h.z p z).2 e
theorem Ext.keep (h : HRel K Z G H) (x : Ext Z G H Z' G' H') : Keep Z H Z' H' :=
 ⟨x.z, fun p u e z => (x.f p u e (h.z p z).1).1, fun p vs e => (x.f p _ e (h.nog e fun o r => by cases r)).1, fun p ob u e => (x.f p _ e (h.nog e fun o r => by cases r)).1⟩
theorem Keep.hid {D : Addr} {xs : List V} {o : HO} (e : H D = some (.lst xs)) (z : ¬ Z D) : Keep Z H Z (upd H D o) :=
 ⟨fun _ z => z, fun p u e' zp => by rw [upd_ne (fun c => z (by rw [← c]; exact zp))]; exact e', fun p vs e' => by rw [upd_ne (fun c => by rw [c, e] at e'; cases e')]; exact e', fun p ob u e' => by rw [upd_ne (fun c => by rw [c, e] at e'; cases e')]; exact e'⟩
theorem SqT.keep {p : Addr} {vs : List V} (x : Keep Z H Z' H') (s : SqT K H p vs) : SqT K H' p vs := by
 rcases s with (s | ⟨o, s⟩) | s
 ·exact .inl (.inl (x.t p _ s))
 ·exact .inl (.inr ⟨o, x.o p _ _ s⟩)
 ·exact .inr s
theorem SqF.keep {p : Addr} {vs : List V} (x : Keep Z H Z' H') (s : SqF K H p vs) : SqF K H' p vs := by
 rcases s with ⟨o, s⟩ | s
 ·exact .inl ⟨o, x.o p _ _ s⟩
 ·exact .inr s
mutual
theorem Rw.keep (x : Keep Z H Z' H') : ∀ {w : W} {v : V}, Rw K Z H w v → Rw K Z' H' w v
 | _, _, .non => .non
 | _, _, .bl => .bl
 | _, _, .int => .int
 | _, _, .str => .str
 | _, _, .ref => .ref
 | _, _, .tup s r => .tup (SqT.keep x s) (RwL.keep x r)
 | _, _, .lst z e r => .lst (x.z _ z) (x.k _ _ e z) (RwL.keep x r)
 | _, _, .scr s r => .scr (SqF.keep x s) (RwL.keep x r)
 | _, _, .ty => .ty
 | _, _, .ins c z e r => .ins c (x.z _ z) (x.k _ _ e z) (RwF.keep x r)
 | _, _, .dic z e r => .dic (x.z _ z) (x.k _ _ e z) (RwD.keep x r)
 | _, _, .exc0 => .exc0
 | _, _, .dcn z e f n l d r => .dcn (x.z _ z) (x.k _ _ e z) f n l d (RwN.keep x r)
 | _, _, .excF z e r => .excF (x.z _ z) (x.k _ _ e z) (RwF.keep x r)
theorem RwL.keep (x : Keep Z H Z' H') : ∀ {ws : List W} {vs : List V}, RwL K Z H ws vs → RwL K Z' H' ws vs
 | _, _, .nil => .nil
 | _, _, .cons r t => .cons (Rw.keep x r) (RwL.keep x t)
theorem RwF.keep (x : Keep Z H Z' H') : ∀ {ws : List (Str × W)} {vs : List (Str × V)}, RwF K Z H ws vs → RwF K Z' H' ws vs
 | _, _, .nil => .nil
 | _, _, .cons r t => .cons (Rw.keep x r) (RwF.keep x t)
theorem RwD.keep (x : Keep Z H Z' H') : ∀ {ws : List (NestedKey × W)} {vs : List (Key × V)}, RwD K Z H ws vs → RwD K Z' H' ws vs
 | _, _, .nil => .nil
 | _, _, .cons r t => .cons (Rw.keep x r) (RwD.keep x t)
theorem RwN.keep (x : Keep Z H Z' H') : ∀ {xs : List (NestedKey × Addr × Value)} {kvs : List (W × W)}, RwN K Z H xs kvs → RwN K Z' H' xs kvs
 | _, _, .nil => .nil
 | _, _, .cons k a b u t => .cons k (Rw.keep x a) (Rw.keep x b) u (RwN.keep x t)
end
theorem SqT.ext {p : Addr} {vs : List V} (h : HRel K Z G H) (x : Ext Z G H Z' G' H') (s : SqT K H p vs) : SqT K H' p vs := SqT.keep (x.keep h) s
theorem SqF.ext {p : Addr} {vs : List V} (h : HRel K Z G H) (x : Ext Z G H Z' G' H') (s : SqF K H p vs) : SqF K H' p vs := SqF.keep (x.keep h) s
theorem Rw.ext (h : HRel K Z G H) (x : Ext Z G H Z' G' H') {w : W} {v : V} (r : Rw K Z H w v) : Rw K Z' H' w v := r.keep (x.keep h)
theorem RwL.ext (h : HRel K Z G H) (x : Ext Z G H Z' G' H') {w : List W} {v : List V} (r : RwL K Z H w v) : RwL K Z' H' w v := r.keep (x.keep h)
theorem RwF.ext (h : HRel K Z G H) (x : Ext Z G H Z' G' H') {w : List (Str × W)} {v : List (Str × V)} (r : RwF K Z H w v) : RwF K Z' H' w v := r.keep (x.keep h)
theorem TabO.keep (x : Keep Z H Z' H') {q : Str} {ps : Array Value} (t : TabO Z H q ps) : TabO Z' H' q ps := ⟨t.1, fun pos cv e => by
 obtain ⟨c, a, z, h⟩ := t.2 pos cv e
 exact ⟨c, a, x.z _ z, x.k _ _ h z⟩⟩
theorem Rgo.keep (x : Keep Z H Z' H') {o : GO} {u : HO} (r : Rgo K Z H o u) : Rgo K Z' H' o u := by
 cases r with
 | lst r => exact .lst (r.keep x)
 | ins c r => exact .ins c (r.keep x)
 | dic r => exact .dic (r.keep x)
 | dcn f n l d r => exact .dcn f n l d (r.keep x)
 | tbl a b c => exact .tbl a b (c.keep x)
theorem Rgo.ext (h : HRel K Z G H) (x : Ext Z G H Z' G' H') {o : GO} {u : HO} (r : Rgo K Z H o u) : Rgo K Z' H' o u := by
 cases r with
 | lst r => exact .lst (r.ext h x)
 | ins c r => exact .ins c (r.ext h x)
 | dic r => exact .dic (r.keep (x.keep h))
 | dcn f n l d r => exact .dcn f n l d (r.keep (x.keep h))
 | tbl a b c => exact .tbl a b (c.keep (x.keep h))
theorem RwL.length : ∀ {ws : List W} {vs : List V}, RwL K Z H ws vs → ws.length = vs.length
 | _, _, .nil => rfl
 | _, _, .cons _ t => by rw [List.length_cons, List.length_cons, RwL.length t]
theorem RwL.get : ∀ {ws : List W} {vs : List V} (i : Nat) {w : W}, RwL K Z H ws vs → ws[i]? = some w → ∃ v, vs[i]? = some v ∧ Rw K Z H w v
 | _, _, _, _, .nil, e => by simp at e
 | _, _, 0, _, .cons r _, e => by simp at e; subst e; exact ⟨_, rfl, r⟩
 | _, _, i + 1, w, .cons _ t, e => by
  obtain ⟨v, h1, h2⟩ := RwL.get i (w := w) t (by simpa using e)
  exact ⟨v, by simpa using h1, h2⟩
theorem RwL.get' : ∀ {ws : List W} {vs : List V} (i : Nat) {v : V}, RwL K Z H ws vs → vs[i]? = some v → ∃ w, ws[i]? = some w ∧ Rw K Z H w v
 | _, _, _, _, .nil, e => by simp at e
 | _, _, 0, _, .cons r _, e => by simp at e; subst e; exact ⟨_, rfl, r⟩
 | _, _, i + 1, w, .cons _ t, e => by
  obtain ⟨v, h1, h2⟩ := RwL.get' i t (by simpa using e)
  exact ⟨v, by simpa using h1, h2⟩
theorem RwL.append : ∀ {ws ws' : List W} {vs vs' : List V}, RwL K Z H ws vs → RwL K Z H ws' vs' → RwL K Z H (ws ++ ws') (vs ++ vs')
 | _, _, _, _, .nil, s => s
 | _, _, _, _, .cons r t, s => .cons r (RwL.append t s)
theorem RwL.set {w : W} {v : V} (r : Rw K Z H w v) : ∀ {ws : List W} {vs : List V} (i : Nat), RwL K Z H ws vs → RwL K Z H (ws.set i w) (vs.set i v)
 | _, _, _, .nil => .nil
 | _, _, 0, .cons _ t => .cons r t
 | _, _, i + 1, .cons q t => .cons q (RwL.set r i t)
theorem RwL.take : ∀ {ws : List W} {vs : List V} (n : Nat), RwL K Z H ws vs → RwL K Z H (ws.take n) (vs.take n)
 | _, _, 0, _ => .nil
 | _, _, _ + 1, .nil => .nil
 | _, _, n + 1, .cons r t => .cons r (RwL.take n t)
theorem RwL.drop : ∀ {ws : List W} {vs : List V} (n : Nat), RwL K Z H ws vs → RwL K Z H (ws.drop n) (vs.drop n)
 | _, _, 0, r => r
 | _, _, _ + 1, .nil => .nil
 | _, _, n + 1, .cons _ t => RwL.drop n t
theorem RwL.dropLast : ∀ {ws : List W} {vs : List V}, RwL K Z H ws vs → RwL K Z H ws.dropLast vs.dropLast
 | _, _, .nil => .nil
 | _, _, .cons _ .nil => .nil
 | _, _, .cons r (.cons r2 t) => .cons r (RwL.dropLast (.cons r2 t))
theorem RwL.ints : ∀ (ns : List Int), RwL K Z H (ns.map W.int) (ns.map V.int)
 | [] => .nil
 | _ :: ns => .cons .int (RwL.ints ns)
theorem RwF.get : ∀ {ws : List (Str × W)} {vs : List (Str × V)} {f : Str} {w : W}, RwF K Z H ws vs → ws.lookup f = some w → ∃ v, vs.lookup f = some v ∧ Rw K Z H w v
 | _, _, _, _, .nil, e => by simp [List.lookup] at e
 | _, _, f, w, .cons (f := g) r t, e => by
  rw [List.lookup_cons] at e ⊢
  cases q : f == g with
  | true => rw [q] at e; simp only [Option.some.injEq] at e; subst e; exact ⟨_, rfl, r⟩
  | false => rw [q] at e; exact RwF.get t e
theorem RwF.none : ∀ {ws : List (Str × W)} {vs : List (Str × V)} {f : Str}, RwF K Z H ws vs → ws.lookup f = none → vs.lookup f = none
 | _, _, _, .nil, _ => rfl
 | _, _, f, .cons (f := g) r t, e => by
  rw [List.lookup_cons] at e ⊢
  cases q : f == g with
  | true => rw [q] at e; cases e
  | false => rw [q] at e; exact RwF.none t e
theorem RwF.length : ∀ {ws : List (Str × W)} {vs : List (Str × V)}, RwF K Z H ws vs → ws.length = vs.length
 | _, _, .nil => rfl
 | _, _, .cons _ t => by rw [List.length_cons, List.length_cons, RwF.length t]
end
noncomputable abbrev SW := List (Option W)
noncomputable abbrev SV := L2.St
inductive RwS (K : PySem.W.Frag) (Z : Zp) (H : Hp) : SW → SV → Prop
 | nil : RwS K Z H [] []
 | skip {v ws vs} : RwS K Z H ws vs → RwS K Z H (Option.none :: ws) (v :: vs)
 | cons {w v ws vs} : Rw K Z H w v → RwS K Z H ws vs → RwS K Z H (some w :: ws) (some v :: vs)
noncomputable def slot : SW → Nat → Option W
 | [], _ => none
 | a :: _, 0 => a
 | _ :: l, i + 1 => slot l i
noncomputable def sset : SW → Nat → W → SW
 | [], _, _ => []
 | _ :: l, 0, w => some w :: l
 | a :: l, i + 1, w => a :: sset l i w
noncomputable def skill : SW → List Bool → SW
 | a :: l, true :: ks => none :: skill l ks
 | a :: l, false :: ks => a :: skill l ks
 | l, _ => l
section
variable {K : PySem.W.Frag} {Z Z' : Zp} {G G' : Gp} {H H' : Hp}
theorem RwS.ext (h : HRel K Z G H) (x : Ext Z G H Z' G' H') : ∀ {ws : SW} {vs : SV}, RwS K Z H ws vs → RwS K Z' H' ws vs
 | _, _, .nil => .nil
 | _, _, .skip t => .skip (RwS.ext h x t)
 | _, _, .cons r t => .cons (r.ext h x) (RwS.ext h x t)
theorem RwS.get : ∀ {ws : SW} {vs : SV} (i : Nat) {w : W}, RwS K Z H ws vs → slot ws i = some w → ∃ v, vs[i]? = some (some v) ∧ Rw K Z H w v
 | _, _, _, _, .nil, e => by simp [slot] at e
 | _, _, 0, _, .skip _, e => by simp [slot] at e
 | _, _, 0, _, .cons r _, e => by simp [slot] at e; subst e; exact ⟨_, rfl, r⟩
 | _, _, i + 1, w, .skip t, e => by
  obtain ⟨v, h1, h2⟩ := RwS.get i (w := w) t (by simpa [slot] using e)
  exact ⟨v, by simpa using h1, h2⟩
 | _, _, i + 1, w, .cons _ t, e => by
  obtain ⟨v, h1, h2⟩ := RwS.get i (w := w) t (by simpa [slot] using e)
  exact ⟨v, by simpa using h1, h2⟩
theorem RwS.set {w : W} {v : V} (r : Rw K Z H w v) : ∀ {ws : SW} {vs : SV} (i : Nat), RwS K Z H ws vs → RwS K Z H (sset ws i w) (vs.set i (some v))
 | _, _, _, .nil => .nil
 | _, _, 0, .skip t => .cons r t
 | _, _, 0, .cons _ t => .cons r t
 | _, _, i + 1, .skip t => .skip (RwS.set r i t)
 | _, _, i + 1, .cons q t => .cons q (RwS.set r i t)
theorem RwS.kill : ∀ {ws : SW} {vs : SV} (ks : List Bool), RwS K Z H ws vs → RwS K Z H (skill ws ks) vs
 | _, _, [], .nil => .nil
 | _, _, [], .skip t => .skip t
 | _, _, [], .cons r t => .cons r t
 | _, _, true :: _, .nil => .nil
 | _, _, false :: _, .nil => .nil
 | _, _, true :: ks, .skip t => .skip (RwS.kill ks t)
 | _, _, true :: ks, .cons _ t => .skip (RwS.kill ks t)
 | _, _, false :: ks, .skip t => .skip (RwS.kill ks t)
 | _, _, false :: ks, .cons r t => .cons r (RwS.kill ks t)
end
noncomputable def startW (N : List Str) (ws : List W) : SW := ws.map some ++ List.replicate (N.length - ws.length) none
section
variable {K : PySem.W.Frag} {Z : Zp} {H : Hp}
theorem RwS.repl : ∀ (n : Nat), RwS K Z H (List.replicate n none) (List.replicate n none)
 | 0 => .nil
 | n + 1 => by rw [List.replicate_succ, List.replicate_succ]; exact .skip (RwS.repl n)
theorem RwS.app : ∀ {ws : List W} {vs : List V} {s : SW} {t : SV}, RwL K Z H ws vs → RwS K Z H s t → RwS K Z H (ws.map some ++ s) (vs.map some ++ t)
 | _, _, _, _, .nil, r => r
 | _, _, _, _, .cons a b, r => .cons a (RwS.app b r)
theorem RwS.start {N : List Str} {ws : List W} {vs : List V} (r : RwL K Z H ws vs) : RwS K Z H (startW N ws) (L2.start N vs) := by
 unfold startW L2.start
 rw [r.length]
 exact RwS.app r (RwS.repl _)
end
noncomputable abbrev QW := W → Gp → Prop
noncomputable abbrev TEw := SW → Gp → QW → Prop
noncomputable abbrev TTw := SW → Gp → (Bool → Gp → Prop) → Prop
noncomputable abbrev TAw := SW → Gp → (List W → Gp → Prop) → Prop
noncomputable abbrev TGw := W → SW → Gp → (SW → Gp → Prop) → Prop
noncomputable abbrev TGsw := List W → SW → Gp → (SW → Gp → Prop) → Prop
structure EndsW where
 nx : SW → Gp → Prop
 rt : QW
 bk : SW → Gp → Prop := fun _ _ => False
 ct : SW → Gp → Prop := fun _ _ => False
 ex : Str → List (Str × W) → SW → Gp → Prop := fun _ _ _ _ => False
noncomputable abbrev TSw := EndsW → SW → Gp → Prop
noncomputable def KE (K : PySem.W.Frag) (Z : Zp) (G : Gp) (H : Hp) (Qw : QW) (Q : VK) : Prop := ∀ Z' G' H' w v, Ext Z G H Z' G' H' → HRel K Z' G' H' → Rw K Z' H' w v → Qw w G' → Q v H'
noncomputable def KS (K : PySem.W.Frag) (Z : Zp) (G : Gp) (H : Hp) (Qw : SW → Gp → Prop) (Q : SV → Hp → Prop) : Prop := ∀ Z' G' H' σ' σ, Ext Z G H Z' G' H' → HRel K Z' G' H' → RwS K Z' H' σ' σ → Qw σ' G' → Q σ H'
noncomputable def wishOf (X : Cx) : WX := fun cls d σ H => ∀ (a : Addr) (B : Heap) (sI : Shared) (pins : List (Addr × Obj)) (s' : Shared), Inv X pins σ H sI → (∀ b o, sI.heap.get? b = some o → b ∉ frs X.stack → B.get? b = some o) → sI.heap.UpToSlots s'.heap →
 Sky B X.stack a (L2N.Zn cls d) X.env.locals s'.heap → H a = none → s'.os = sI.os → AllBare s'.gens → X.xe (.ref a) s'
theorem takes_wish {X : Cx} : L2N.Takes X (wishOf X) := fun _ s' ⟨a, B, sI, pins, σ, H, cls, d, e, I, nb, up, sky, na, os, ag, w⟩ => by
 subst e
 exact w a B sI pins s' I nb up sky na os ag
theorem wish_of {X : Cx} {V : WX} (t : L2N.Takes X V) {cls : Value} {d : Option Addr} {σ : SV} {H : Hp} (h : V cls d σ H) : wishOf X cls d σ H := fun a B sI pins s' I nb up sky na os ag =>
 t _ s' ⟨a, B, sI, pins, σ, H, cls, d, rfl, I, nb, up, sky, na, os, ag, h⟩
noncomputable def ExF (K : PySem.W.Frag) (Z : Zp) (H : Hp) (fs : List (Str × W)) (d : Option Addr) : Prop := fs = [] ∧ d = none ∨ ∃ a gs, d = some a ∧ Z a ∧ H a = some (.xd gs) ∧ RwF K Z H fs gs
noncomputable def KX (X : Cx) (Z : Zp) (G : Gp) (H : Hp) (Ew : Str → List (Str × W) → SW → Gp → Prop) : Prop := ∀ Z' G' H' σ' σ nm C fs d, Ext Z G H Z' G' H' → HRel X.K Z' G' H' → RwS X.K Z' H' σ' σ → ClsA X.K nm C → ExF X.K Z' H' fs d → Ew nm fs σ' G' → wishOf X (.ref C) d σ H'
structure EndsR (X : Cx) (Z : Zp) (G : Gp) (H : Hp) (Dw : EndsW) (D : Ends) : Prop where
 nx : KS X.K Z G H Dw.nx D.nx
 rt : KE X.K Z G H Dw.rt D.rt
 bk : KS X.K Z G H Dw.bk D.bk
 ct : KS X.K Z G H Dw.ct D.ct
 ex : KX X Z G H Dw.ex
noncomputable def liftE (K : PySem.W.Frag) (t : TEw) : TE := fun σ H Q => ∃ Z σ' G Qw, RwS K Z H σ' σ ∧ HRel K Z G H ∧ t σ' G Qw ∧ KE K Z G H Qw Q
noncomputable def liftT (K : PySem.W.Frag) (t : TTw) : TT := fun σ H Q => ∃ Z σ' G Qw, RwS K Z H σ' σ ∧ HRel K Z G H ∧ t σ' G Qw ∧ ∀ Z' G' H' b, Ext Z G H Z' G' H' → HRel K Z' G' H' → Qw b G' → Q b H'
noncomputable def liftA (K : PySem.W.Frag) (t : TAw) : TA := fun σ H Q => ∃ Z σ' G Qw, RwS K Z H σ' σ ∧ HRel K Z G H ∧ t σ' G Qw ∧ ∀ Z' G' H' ws vs, Ext Z G H Z' G' H' → HRel K Z' G' H' → RwL K Z' H' ws vs → Qw ws G' → Q vs H'
noncomputable def liftG (K : PySem.W.Frag) (t : TGw) : TG := fun v σ H Q => ∃ Z σ' G w Qw, RwS K Z H σ' σ ∧ HRel K Z G H ∧ Rw K Z H w v ∧ t w σ' G Qw ∧ KS K Z G H Qw Q
noncomputable def liftGs (K : PySem.W.Frag) (t : TGsw) : TGs := fun vs σ H Q => ∃ Z σ' G ws Qw, RwS K Z H σ' σ ∧ HRel K Z G H ∧ RwL K Z H ws vs ∧ t ws σ' G Qw ∧ KS K Z G H Qw Q
noncomputable def liftS (X : Cx) (t : TSw) : TS := fun D σ H => ∃ Z σ' G Dw, RwS X.K Z H σ' σ ∧ HRel X.K Z G H ∧ t Dw σ' G ∧ EndsR X Z G H Dw D
noncomputable def PEw (X : Cx) (e : Expr) (t : TEw) : Prop := PE X e (liftE X.K t)
noncomputable def PTw (X : Cx) (e : Expr) (t : TTw) : Prop := PT X e (liftT X.K t)
noncomputable def PWw (X : Cx) (e : Expr) (t : TTw) : Prop := PW X e (liftT X.K t)
noncomputable def PAw (X : Cx) (es : List Expr) (t : TAw) : Prop := PA X es (liftA X.K t)
noncomputable def PGw (X : Cx) (e : Expr) (t : TGw) : Prop := PG X e (liftG X.K t)
noncomputable def PGsw (X : Cx) (es : List Expr) (t : TGsw) : Prop := PGs X es (liftGs X.K t)
noncomputable def PSw (X : Cx) (st : Stmt) (t : TSw) : Prop := PS X st (liftS X t)
noncomputable def PSsw (X : Cx) (st : List Stmt) (t : TSw) : Prop := PSs X st (liftS X t)
section
variable {X : Cx}
theorem PE.imp {e : Expr} {t t' : TE} (h : PE X e t) (i : ∀ σ H Q, t' σ H Q → t σ H Q) : PE X e t' := ⟨fun pins s σ H Q I q => h.run pins s σ H Q I (i _ _ _ q)⟩
theorem PT.imp {e : Expr} {t t' : TT} (h : PT X e t) (i : ∀ σ H Q, t' σ H Q → t σ H Q) : PT X e t' := ⟨fun pins s σ H Q I q => h.run pins s σ H Q I (i _ _ _ q)⟩
theorem PW.imp {e : Expr} {t t' : TT} (h : PW X e t) (i : ∀ σ H Q, t' σ H Q → t σ H Q) : PW X e t' := ⟨fun whole pins s σ H Q I q => h.run whole pins s σ H Q I (i _ _ _ q)⟩
theorem PA.imp {es : List Expr} {t t' : TA} (h : PA X es t) (i : ∀ σ H Q, t' σ H Q → t σ H Q) : PA X es t' := ⟨fun pos pins s σ H Q I q => h.run pos pins s σ H Q I (i _ _ _ q)⟩
theorem PS.imp {st : Stmt} {t t' : TS} (h : PS X st t) (i : ∀ D σ H, t' D σ H → t D σ H) : PS X st t' := ⟨fun pins s σ H D I q => h.run pins s σ H D I (i _ _ _ q)⟩
theorem PSs.imp {st : List Stmt} {t t' : TS} (h : PSs X st t) (i : ∀ D σ H, t' D σ H → t D σ H) : PSs X st t' := ⟨fun pins s σ H D I q => h.run pins s σ H D I (i _ _ _ q)⟩
theorem PG.imp {e : Expr} {t t' : TG} (h : PG X e t) (i : ∀ v σ H Q, t' v σ H Q → t v σ H Q) : PG X e t' := ⟨fun pins s σ H v u Q I r q => h.run pins s σ H v u Q I r (i _ _ _ _ q)⟩
theorem PGs.imp {e : List Expr} {t t' : TGs} (h : PGs X e t) (i : ∀ v σ H Q, t' v σ H Q → t v σ H Q) : PGs X e t' := ⟨fun pins s σ H v u Q I r q => h.run pins s σ H v u Q I r (i _ _ _ _ q)⟩
end
section
variable {K : PySem.W.Frag} {Z Z' : Zp} {G G' : Gp} {H H' : Hp}
theorem KE.mono {Qw : QW} {Q : VK} (k : KE K Z G H Qw Q) (x : Ext Z G H Z' G' H') : KE K Z' G' H' Qw Q := fun Z2 G2 H2 w v x2 => k Z2 G2 H2 w v (x.trans x2)
theorem KS.mono {Qw : SW → Gp → Prop} {Q : SV → Hp → Prop} (k : KS K Z G H Qw Q) (x : Ext Z G H Z' G' H') : KS K Z' G' H' Qw Q := fun Z2 G2 H2 w v x2 => k Z2 G2 H2 w v (x.trans x2)
theorem KX.mono {X : Cx} {Ew : Str → List (Str × W) → SW → Gp → Prop} (k : KX X Z G H Ew) (x : Ext Z G H Z' G' H') : KX X Z' G' H' Ew := fun Z2 G2 H2 a b c d e f x2 => k Z2 G2 H2 a b c d e f (x.trans x2)
theorem EndsR.mono {X : Cx} {Dw : EndsW} {D : Ends} (k : EndsR X Z G H Dw D) (x : Ext Z G H Z' G' H') : EndsR X Z' G' H' Dw D := ⟨k.nx.mono x, k.rt.mono x, k.bk.mono x, k.ct.mono x, k.ex.mono x⟩
theorem KE.at {Qw : QW} {Q : VK} (k : KE K Z G H Qw Q) (h : HRel K Z G H) {w : W} {v : V} (r : Rw K Z H w v) (q : Qw w G) : Q v H := k Z G H w v Ext.refl h r q
theorem Ext.laid (h : HRel K Z G H) {p : Addr} {o : HO} (n : H p = none) : Ext Z G H Z G (upd H p o) :=
 ⟨fun _ z => z, fun q u e g => ⟨by rw [upd_ne (ne_of_none e n)]; exact e, g⟩, fun _ _ _ z => z⟩
theorem HRel.laid (h : HRel K Z G H) {p : Addr} {o : HO} (n : H p = none) : HRel K Z G (upd H p o) := by
 have x : Ext Z G H Z G (upd H p o) := Ext.laid h n
 refine ⟨fun q z => ⟨(h.z q z).1, ?_⟩, fun q g e => ?_⟩
 ·by_cases e : q = p
  ·rw [e, upd_same]; simp
  ·rw [upd_ne e]; exact (h.z q z).2
 ·obtain ⟨u, e', r⟩ := h.g q g e
  exact ⟨u, by rw [upd_ne (ne_of_none e' n)]; exact e', r.ext h x⟩
theorem HRel.track (h : HRel K Z G H) {p : Addr} {o : GO} {u : HO} (e : H p = some u) (nz : ¬ Z p) (r : Rgo K Z H o u) : HRel K Z (gup G p o) H := by
 refine ⟨fun q z => ⟨?_, (h.z q z).2⟩, fun q g e' => ?_⟩
 ·rw [gup_ne (show q ≠ p from fun c => nz (by rw [← c]; exact z))]; exact (h.z q z).1
 ·by_cases c : q = p
  ·rw [c, gup_same] at e'; cases e'; exact ⟨u, c ▸ e, r⟩
  ·rw [gup_ne c] at e'; exact h.g q g e'
theorem HRel.frz (h : HRel K Z G H) {p : Addr} (e : H p ≠ none) : HRel K (fun q => Z q ∨ q = p) (gdel G p) H ∧ Keep Z H (fun q => Z q ∨ q = p) H := by
 have x : Keep Z H (fun q => Z q ∨ q = p) H := ⟨fun q z => .inl z, fun _ _ e _ => e, fun _ _ e => e, fun _ _ _ e => e⟩
 refine ⟨⟨fun q z => ?_, fun q g e' => ?_⟩, x⟩
 ·rcases z with z | z
  ·refine ⟨?_, (h.z q z).2⟩
   unfold gdel; split
   ·rfl
   ·exact (h.z q z).1
  ·subst z; exact ⟨gdel_same, e⟩
 ·have e2 : G q = some g := by
   by_cases c : q = p
   ·rw [c, gdel_same] at e'; cases e'
   ·rw [gdel_ne c] at e'; exact e'
  obtain ⟨u, e3, r⟩ := h.g q g e2
  exact ⟨u, e3, Rgo.keep x r⟩
theorem HRel.freeze (h : HRel K Z G H) {p : Addr} (g : G p ≠ none) : HRel K (fun q => Z q ∨ q = p) (gdel G p) H ∧ Ext Z G H (fun q => Z q ∨ q = p) (gdel G p) H := by
 have e : H p ≠ none := by
  obtain ⟨o, go⟩ := Option.ne_none_iff_exists'.mp g
  obtain ⟨u, e, _⟩ := h.g p o go
  rw [e]; simp
 refine ⟨(h.frz e).1, fun q z => .inl z, fun q u e g => ⟨e, ?_⟩, fun q _ gq z => ?_⟩
 ·unfold gdel; split
  ·rfl
  ·exact g
 ·rcases z with z | z
  ·exact z
  ·rw [z] at gq; exact absurd gq g
theorem new_tup (h : HRel K Z G H) {p : Addr} {ws : List W} {vs : List V} (n : H p = none) (r : RwL K Z H ws vs) :
  HRel K Z G (upd H p (.tup vs)) ∧ Ext Z G H Z G (upd H p (.tup vs)) ∧ Rw K Z (upd H p (.tup vs)) (.tup ws) (.ref p) :=
 ⟨h.laid n, Ext.laid h n, .tup (.inl (.inl upd_same)) (r.ext h (Ext.laid h n))⟩
theorem new_lst (h : HRel K Z G H) {p : Addr} {ws : List W} {vs : List V} (n : H p = none) (r : RwL K Z H ws vs) :
  G p = none ∧ HRel K Z (gup G p (.lst ws)) (upd H p (.lst vs)) ∧ Ext Z G H Z (gup G p (.lst ws)) (upd H p (.lst vs)) := by
 have x : Ext Z G H Z G (upd H p (.lst vs)) := Ext.laid h n
 refine ⟨h.fresh n, (h.laid n).track upd_same (h.freshZ n) (.lst (r.ext h x)), ⟨fun _ z => z, fun q u e g => ?_, fun _ _ _ z => z⟩⟩
 have c : q ≠ p := ne_of_none e n
 exact ⟨by rw [upd_ne c]; exact e, by rw [gup_ne c]; exact g⟩
theorem new_frz (h : HRel K Z G H) {p : Addr} {ws : List W} {vs : List V} (n : H p = none) (r : RwL K Z H ws vs) :
  HRel K (fun q => Z q ∨ q = p) G (upd H p (.lst vs)) ∧ Ext Z G H (fun q => Z q ∨ q = p) G (upd H p (.lst vs)) ∧ Rw K (fun q => Z q ∨ q = p) (upd H p (.lst vs)) (.lst ws) (.ref p) := by
 have x : Ext Z G H Z G (upd H p (.lst vs)) := Ext.laid h n
 have h1 := h.laid (o := .lst vs) n
 obtain ⟨h2, x2⟩ := h1.frz (p := p) (by rw [upd_same]; simp)
 have e2 : gdel G p = G := by
  funext b; unfold gdel; split
  ·rename_i c; rw [c, h.fresh n]
  ·rfl
 rw [e2] at h2
 refine ⟨h2, ⟨fun q z => .inl z, x.f, fun q e _ z => ?_⟩, .lst (.inr rfl) upd_same ((r.ext h x).keep x2)⟩
 rcases z with z | z
 ·exact z
 ·rw [z] at e; exact absurd n e
theorem chg_lst (h : HRel K Z G H) {p : Addr} {ws ws' : List W} {vs' : List V} (e : G p = some (.lst ws)) (r : RwL K Z H ws' vs') :
  HRel K Z (gup G p (.lst ws')) (upd H p (.lst vs')) ∧ Ext Z G H Z (gup G p (.lst ws')) (upd H p (.lst vs')) := by
 have x : Ext Z G H Z (gup G p (.lst ws')) (upd H p (.lst vs')) := ⟨fun _ z => z, fun q u e' g => by
  have c : q ≠ p := fun c => by rw [c, e] at g; cases g
  exact ⟨by rw [upd_ne c]; exact e', by rw [gup_ne c]; exact g⟩, fun _ _ _ z => z⟩
 refine ⟨⟨fun q z => ?_, fun q g e' => ?_⟩, x⟩
 ·have c : q ≠ p := fun c => by
   have := (h.z q z).1
   rw [c, e] at this; cases this
  exact ⟨by rw [gup_ne c]; exact (h.z q z).1, by rw [upd_ne c]; exact (h.z q z).2⟩
 ·by_cases c : q = p
  ·rw [c, gup_same] at e'; cases e'
   exact ⟨_, by rw [c]; exact upd_same, .lst (r.ext h x)⟩
  ·rw [gup_ne c] at e'
   obtain ⟨u, e2, r2⟩ := h.g q g e'
   exact ⟨u, by rw [upd_ne c]; exact e2, r2.ext h x⟩
theorem HRel.lst (h : HRel K Z G H) {p : Addr} {ws : List W} (e : G p = some (.lst ws)) : ∃ vs, H p = some (.lst vs) ∧ RwL K Z H ws vs := by
 obtain ⟨u, e', r⟩ := h.g p _ e
 cases r with
 | lst r => exact ⟨_, e', r⟩
noncomputable def asL (G : Gp) : W → Option (List W)
 | .lst ws => some ws
 | .scr ws => some ws
 | .ref p => match G p with
  | some (.lst ws) => some ws
  | _ => none
 | _ => none
theorem asL_sq (h : HRel K Z G H) {w : W} {v : V} {ws : List W} (r : Rw K Z H w v) (e : asL G w = some ws) : ∃ p vs, v = .ref p ∧ SqL K H p vs ∧ RwL K Z H ws vs := by
 cases r with
 | lst _ s t => simp only [asL, Option.some.injEq] at e; subst e; exact ⟨_, _, rfl, SqL.of s, t⟩
 | scr s t => simp only [asL, Option.some.injEq] at e; subst e; exact ⟨_, _, rfl, s.sq, t⟩
 | @ref a =>
  simp only [asL] at e
  cases q : G a with
  | none => rw [q] at e; cases e
  | some o =>
   rw [q] at e
   cases o with
   | lst us =>
    simp only [Option.some.injEq] at e; subst e
    obtain ⟨vs, e', t⟩ := h.lst q
    exact ⟨_, _, rfl, SqL.of e', t⟩
   | _ => cases e
 | _ => cases e
end
noncomputable abbrev RW2 := W → W → Gp → QW → Prop
noncomputable def Sim2 (K : PySem.W.Frag) (r : R2) (wr : RW2) : Prop := ∀ Z G H x y v u Qw Q, HRel K Z G H → Rw K Z H x v → Rw K Z H y u → wr x y G Qw → KE K Z G H Qw Q → r v u H Q
noncomputable def Sim1 (K : PySem.W.Frag) (r : V → Hp → VK → Prop) (wr : W → Gp → QW → Prop) : Prop := ∀ Z G H x v Qw Q, HRel K Z G H → Rw K Z H x v → wr x G Qw → KE K Z G H Qw Q → r v H Q
noncomputable def SimN (K : PySem.W.Frag) (r : List V → Hp → VK → Prop) (wr : List W → Gp → QW → Prop) : Prop := ∀ Z G H ws vs Qw Q, HRel K Z G H → RwL K Z H ws vs → wr ws G Qw → KE K Z G H Qw Q → r vs H Q
noncomputable def wOp (wr : RW2) (ta tb : TEw) : TEw := fun σ G Q => ta σ G fun x G1 => tb σ G1 fun y G2 => wr x y G2 Q
noncomputable def wUn (wr : W → Gp → QW → Prop) (ta : TEw) : TEw := fun σ G Q => ta σ G fun x G1 => wr x G1 Q
noncomputable def wCB (wr : List W → Gp → QW → Prop) (t : TAw) : TEw := fun σ G Q => t σ G fun ws G1 => wr ws G1 Q
noncomputable def isS {α : Type} (o : Option α) (P : α → Prop) : Prop := match o with
 | some w => P w
 | none => False
theorem isS_some {α : Type} {a : α} {P : α → Prop} : isS (some a) P = P a := rfl
theorem isS_ex {α : Type} {o : Option α} {P : α → Prop} (h : isS o P) : ∃ w, o = some w ∧ P w := by
 cases o with
 | none => exact h.elim
 | some w => exact ⟨w, rfl, h⟩
noncomputable def isG (o : Option GO) (P : List W → Prop) : Prop := match o with
 | some (.lst ws) => P ws
 | _ => False
theorem isG_lst {ws : List W} {P : List W → Prop} : isG (some (.lst ws)) P = P ws := rfl
theorem isG_ex {o : Option GO} {P : List W → Prop} (h : isG o P) : ∃ ws, o = some (.lst ws) ∧ P ws := by
 cases o with
 | none => exact h.elim
 | some g =>
  cases g with
  | lst ws => exact ⟨ws, rfl, h⟩
  | _ => exact h.elim
noncomputable def wVar (i : Nat) : TEw := fun σ G Q => isS (slot σ i) fun w => Q w G
noncomputable def wC (w : W) : TEw := fun _ G Q => Q w G
noncomputable def wNil : TAw := fun _ G Q => Q [] G
noncomputable def wCons (ta : TEw) (t : TAw) : TAw := fun σ G Q => ta σ G fun x G1 => t σ G1 fun xs G2 => Q (x :: xs) G2
section
variable {X : Cx} {K : PySem.W.Frag}
theorem lift2 {r : R2} {wr : RW2} (hs : Sim2 K r wr) {ta tb : TEw} {σ : SV} {H : Hp} {Q : VK} (h : liftE K (wOp wr ta tb) σ H Q) : tOp r (liftE K ta) (liftE K tb) σ H Q := by
 obtain ⟨Z, σ', G, Qw, e, hr, t, k⟩ := h
 refine ⟨Z, σ', G, _, e, hr, t, fun Z1 G1 H1 x v x1 h1 r1 t1 => ?_⟩
 refine ⟨Z1, σ', G1, _, e.ext hr x1, h1, t1, fun Z2 G2 H2 y u x2 h2 r2 t2 => ?_⟩
 exact hs Z2 G2 H2 x y v u Qw Q h2 (r1.ext h1 x2) r2 t2 (k.mono (x1.trans x2))
theorem lift1 {r : V → Hp → VK → Prop} {wr : W → Gp → QW → Prop} (hs : Sim1 K r wr) {ta : TEw} {σ : SV} {H : Hp} {Q : VK} (h : liftE K (wUn wr ta) σ H Q) : tUn r (liftE K ta) σ H Q := by
 obtain ⟨Z, σ', G, Qw, e, hr, t, k⟩ := h
 exact ⟨Z, σ', G, _, e, hr, t, fun Z1 G1 H1 x v x1 h1 r1 t1 => hs Z1 G1 H1 x v Qw Q h1 r1 t1 (k.mono x1)⟩
theorem liftN {r : List V → Hp → VK → Prop} {wr : List W → Gp → QW → Prop} (hs : SimN K r wr) {ta : TAw} {σ : SV} {H : Hp} {Q : VK} (h : liftE K (wCB wr ta) σ H Q) : tCB r (liftA K ta) σ H Q := by
 obtain ⟨Z, σ', G, Qw, e, hr, t, k⟩ := h
 exact ⟨Z, σ', G, _, e, hr, t, fun Z1 G1 H1 ws vs x1 h1 r1 t1 => hs Z1 G1 H1 ws vs Qw Q h1 r1 t1 (k.mono x1)⟩
theorem lvar {i : Nat} {σ : SV} {H : Hp} {Q : VK} (h : liftE K (wVar i) σ H Q) : tVar i σ H Q := by
 obtain ⟨Z, σ', G, Qw, e, hr, q, k⟩ := h
 obtain ⟨w, t, q⟩ := isS_ex q
 obtain ⟨v, ev, r⟩ := e.get i t
 exact ⟨v, ev, k.at hr r q⟩
theorem qv (i : Nat) {x : Str} {pos : Pos} (hN : X.N[i]? = some x := by rfl) (hv : Vis X.env.scope x := by first | exact Or.inl rfl | exact Or.inr (Or.inl rfl) | exact Or.inr (Or.inr rfl)) (hd : (x == ("__debug__" : Str)) = false := by decide)
  (hcd : (x == ("__classdict__" : Str)) = false := by decide) : PEw X (.Name x pos) (wVar i) := PE.imp (pe_var hN hv hd hcd) fun _ _ _ h => lvar h
theorem lC {w : W} {v : V} (r : ∀ Z H, Rw K Z H w v) {σ : SV} {H : Hp} {Q : VK} (h : liftE K (wC w) σ H Q) : tC v σ H Q := by
 obtain ⟨Z, σ', G, Qw, e, hr, q, k⟩ := h
 exact k.at hr (r Z H) q
theorem qint {i j pos} : PEw X (.Constant (.int i) j pos) (wC (.int i)) := PE.imp pe_int fun _ _ _ h => lC (fun _ _ => .int) h
theorem qbl {b j pos} : PEw X (.Constant (.bool b) j pos) (wC (.bl b)) := PE.imp pe_bl fun _ _ _ h => lC (fun _ _ => .bl) h
theorem qnon {j pos} : PEw X (.Constant .none j pos) (wC .non) := PE.imp pe_non fun _ _ _ h => lC (fun _ _ => .non) h
theorem qstr {x j pos} : PEw X (.Constant (.str x) j pos) (wC (.str x)) := PE.imp pe_str fun _ _ _ h => lC (fun _ _ => .str) h
theorem qop {op : Operator} {r : R2} {wr : RW2} {a b : Expr} {ta tb : TEw} {pos : Pos} (ho : OpR X (binaryOp op) r) (hs : Sim2 X.K r wr) (ha : PEw X a ta) (hb : PEw X b tb) : PEw X (.BinOp a op b pos) (wOp wr ta tb) :=
 PE.imp (pe_op ho ha hb) fun _ _ _ h => lift2 hs h
theorem qcmp {op : CmpOp} {r : R2} {wr : RW2} {a b : Expr} {ta tb : TEw} {pos : Pos} (ho : OpR X (compareOp op) r) (hs : Sim2 X.K r wr) (ha : PEw X a ta) (hb : PEw X b tb) (hm : behindInMarks op b = false) : PEw X (.Compare a [op] [b] pos) (wOp wr ta tb) :=
 PE.imp (pe_cmpR ho ha hb hm) fun _ _ _ h => lift2 hs h
noncomputable def wTest (t : TEw) : TTw := fun σ G Q => t σ G fun x G1 => ∃ k, x = .bl k ∧ Q k G1
theorem ltest {te : TEw} {t : TE} {σ : SV} {H : Hp} {Q : Bool → Hp → Prop} (i : ∀ σ H Q, liftE K te σ H Q → t σ H Q) (h : liftT K (wTest te) σ H Q) : tTest t σ H Q := by
 obtain ⟨Z, σ', G, Qw, e, hr, t', k⟩ := h
 refine i _ _ _ ⟨Z, σ', G, _, e, hr, t', fun Z1 G1 H1 w v x1 h1 r1 t1 => ?_⟩
 obtain ⟨b, rfl, q⟩ := t1
 cases r1
 exact ⟨b, rfl, k Z1 G1 H1 b x1 h1 q⟩
theorem qtcmp {op : CmpOp} {r : R2} {wr : RW2} {a b : Expr} {ta tb : TEw} {pos : Pos} (ho : OpR X (compareOp op) r) (hs : Sim2 X.K r wr) (ha : PEw X a ta) (hb : PEw X b tb) (hm : behindInMarks op b = false) : PTw X (.Compare a [op] [b] pos) (wTest (wOp wr ta tb)) :=
 PT.imp (pt_cmpR ho ha hb hm) fun _ _ _ h => ltest (fun _ _ _ => lift2 hs) h
theorem lA_nil {σ : SV} {H : Hp} {Q} (h : liftA K wNil σ H Q) : tNil σ H Q := by
 obtain ⟨Z, σ', G, Qw, e, hr, t, k⟩ := h
 exact k Z G H _ _ Ext.refl hr .nil t
theorem qa_nil : PAw X [] wNil := PA.imp pa_nil fun _ _ _ h => lA_nil h
theorem qa_cons {e : Expr} {es : List Expr} {te : TEw} {t : TAw} (h1 : PEw X e te) (h2 : PAw X es t)
  (hs : starEach (e :: es) X.env = (false, eval e X.env) :: starEach es X.env := by rfl) : PAw X (e :: es) (wCons te t) :=
 PA.imp (pa_cons h1 h2 hs) fun σ H Q h => by
  obtain ⟨Z, σ', G, Qw, e, hr, t', k⟩ := h
  refine ⟨Z, σ', G, _, e, hr, t', fun Z1 G1 H1 x v x1 h1 r1 t1 => ?_⟩
  refine ⟨Z1, σ', G1, _, e.ext hr x1, h1, t1, fun Z2 G2 H2 xs vs x2 h2 r2 t2 => ?_⟩
  exact k Z2 G2 H2 _ _ (x1.trans x2) h2 (.cons (r1.ext h1 x2) r2) t2
end
noncomputable def wI2 (C : Int → Int → Prop) (g : Int → Int → W) : RW2 := fun x y G Q => match x, y with
 | .int i, .int j => C i j ∧ Q (g i j) G
 | _, _ => False
noncomputable def wII (g : Int → Int → W) : RW2 := fun x y G Q => match x, y with
 | .int i, .int j => Q (g i j) G
 | _, _ => False
noncomputable def wI1 (g : Int → W) : W → Gp → QW → Prop := fun x G Q => match x with
 | .int i => Q (g i) G
 | _ => False
structure Deep (X : Cx) : Prop where
 seer : X.base.NoSeer
 tree : X.prog.given.tree = none
 room : X.A.depth + Builtin.pylongFrames < recursionLimit
 frame : ∃ env l, X.stack = env :: l ∧ env.scope.isGenerator = false ∧ env.scope.isCoroutine = false ∧ env.builtins = builtinsNs ∧ env.globals = mainGlobals
noncomputable def CMulX (i j : Int) : Prop := i.natAbs.log2 + j.natAbs.log2 < 134217000
noncomputable def wAdd : RW2 := fun x y G Q => match x, y with
 | .int i, .int j => Q (.int (i + j)) G
 | .str a, .str b => a.length + b.length ≤ sizeLine ∧ Q (.str (a ++ b)) G
 | .tup a, .tup b => a.length + b.length ≤ sizeLine ∧ Q (.tup (a ++ b)) G
 | .lst a, .lst b => a.length + b.length ≤ sizeLine ∧ Q (.lst (a ++ b)) G
 | _, _ => False
noncomputable abbrev wSub : RW2 := wII fun i j => .int (i - j)
noncomputable abbrev wMod : RW2 := wI2 (fun _ j => j ≠ 0) fun i j => .int (i.fmod j)
noncomputable abbrev wFdiv : RW2 := wI2 (fun _ j => j ≠ 0) fun i j => .int (i.fdiv j)
noncomputable abbrev wMul : RW2 := wI2 CMulX fun i j => .int (i * j)
noncomputable abbrev wPow : RW2 := wI2 CPow fun i j => .int (i ^ j.toNat)
noncomputable abbrev wLt : RW2 := wII fun i j => .bl (decide (i < j))
noncomputable abbrev wLe : RW2 := wII fun i j => .bl (decide (i ≤ j))
noncomputable abbrev wGt : RW2 := wII fun i j => .bl (decide (j < i))
noncomputable abbrev wGe : RW2 := wII fun i j => .bl (decide (j ≤ i))
section
variable {X : Cx} {K : PySem.W.Frag}
theorem op_fdivX (hd : Deep X) : OpR X (binaryOp .FloorDiv) (rI (fun _ j => j ≠ 0) fun i j => .int (i.fdiv j)) := by
 intro pins s σ H x y v u Q I rx ry h
 obtain ⟨i, j, rfl, rfl, c, q⟩ := h
 obtain ⟨t, rfl⟩ := rx
 obtain ⟨t', rfl⟩ := ry
 obtain ⟨env, l, e1, e2, e3, e4, e5⟩ := hd.frame
 exact floordiv_int c ⟨.int _, H, I.tok _, ⟨_, rfl⟩, q⟩ (.inr (PylongRoom.of I.nolimit hd.room (SeerAt.of (hd.seer.keeps I.bk) hd.tree (I.ok.frames.trans (by rw [e1])) e2 e3 e4 e5)))
theorem CMulX.ok {i j : Int} (h : CMulX i j) : IntMulOk i j := by
 have b : ∀ x : Int, Builtin.Int.intBits x ≤ x.natAbs.log2 + 1 := fun x => by
  show (if (x == 0) = true then 0 else x.natAbs.log2 + 1) ≤ _
  split <;> omega
 have h1 := b i
 have h2 := b j
 have hz : i.natAbs.log2 + j.natAbs.log2 < 134217000 := h
 have hb : bitsLine = 134217728 := by decide
 intro z
 simp only [Builtin.Int.intTooBig, Bool.and_eq_true, decide_eq_true_eq, hb] at z
 omega
theorem op_mulX : OpR X (binaryOp .Mult) (rI CMulX fun i j => .int (i * j)) := opI fun _ _ _ _ _ _ _ hc q => mul_int q hc.ok
theorem sim_I {C : Int → Int → Prop} {g : Int → Int → W} {g' : Int → Int → V} (hg : ∀ i j Z H, Rw K Z H (g i j) (g' i j)) : Sim2 K (rI C g') (wI2 C g) := by
 intro Z G H x y v u Qw Q h rx ry t k
 cases rx <;> cases ry <;> first
  | exact False.elim t
  | exact ⟨_, _, rfl, rfl, t.1, k.at h (hg _ _ Z H) t.2⟩
theorem sim_II {g : Int → Int → W} {g' : Int → Int → V} (hg : ∀ i j Z H, Rw K Z H (g i j) (g' i j)) : Sim2 K (rI0 g') (wII g) := by
 intro Z G H x y v u Qw Q h rx ry t k
 cases rx <;> cases ry <;> first
  | exact False.elim t
  | exact ⟨_, _, rfl, rfl, k.at h (hg _ _ Z H) t⟩
theorem sim_U {g : Int → W} {g' : Int → V} (hg : ∀ i Z H, Rw K Z H (g i) (g' i)) : Sim1 K (rU g') (wI1 g) := by
 intro Z G H x v Qw Q h rx t k
 cases rx <;> first
  | exact False.elim t
  | exact ⟨_, rfl, k.at h (hg _ Z H) t⟩
noncomputable def rAddU (K : PySem.W.Frag) : R2 := fun x y H Q => (rI0 fun i j => .int (i + j)) x y H Q ∨ (∃ i j, x = .str i ∧ y = .str j ∧ i.length + j.length ≤ sizeLine ∧ Q (.str (i ++ j)) H) ∨ rCatA K x y H Q ∨ rCat x y H Q
theorem op_addU : OpR X (binaryOp .Add) (rAddU X.K) := OpR.or op_add (OpR.or op_add_str (OpR.or op_catA op_cat))
theorem sim_add : Sim2 K (rAddU K) wAdd := by
 intro Z G H x y v u Qw Q h rx ry t k
 cases rx with
 | int =>
  cases ry <;> first
   | exact False.elim t
   | exact .inl ⟨_, _, rfl, rfl, k.at h .int t⟩
 | str =>
  cases ry <;> first
   | exact False.elim t
   | exact .inr (.inl ⟨_, _, rfl, rfl, t.1, k.at h .str t.2⟩)
 | @tup p a vs s1 r1 =>
  cases ry with
  | @tup p2 b us s2 r2 =>
   obtain ⟨t2, t3⟩ := t
   refine .inr (.inr (.inl ⟨_, _, vs, us, rfl, rfl, s1, s2, ?_, fun z => ?_, fun _ z => ?_, fun _ z q n => ?_⟩))
   ·rw [← r1.length, ← r2.length]; exact t2
   ·subst z
    cases r1
    exact k.at h (.tup s2 r2) t3
   ·subst z
    cases r2
    rw [List.append_nil] at t3
    exact k.at h (.tup s1 r1) t3
   ·obtain ⟨h2, x2, r⟩ := new_tup h n (r1.append r2)
    exact k Z G _ _ _ x2 h2 r t3
  | _ => exact False.elim t
 | @lst p a vs z1 s1 r1 =>
  cases ry with
  | @lst p2 b us z2 s2 r2 =>
   obtain ⟨t2, t3⟩ := t
   refine .inr (.inr (.inr ⟨_, _, vs, us, rfl, rfl, s1, s2, ?_, fun q n => ?_⟩))
   ·rw [← r1.length, ← r2.length]; exact t2
   ·obtain ⟨h2, x2, r⟩ := new_frz h n (r1.append r2)
    exact k _ G _ _ _ x2 h2 r t3
  | _ => exact False.elim t
 | _ => exact False.elim t
variable {a b : Expr} {ta tb : TEw} {pos : Pos}
theorem qadd (ha : PEw X a ta) (hb : PEw X b tb) : PEw X (.BinOp a .Add b pos) (wOp wAdd ta tb) := qop op_addU sim_add ha hb
theorem qsub (ha : PEw X a ta) (hb : PEw X b tb) : PEw X (.BinOp a .Sub b pos) (wOp wSub ta tb) := qop op_sub (sim_II fun _ _ _ _ => .int) ha hb
theorem qmul (ha : PEw X a ta) (hb : PEw X b tb) : PEw X (.BinOp a .Mult b pos) (wOp wMul ta tb) := qop op_mulX (sim_I fun _ _ _ _ => .int) ha hb
theorem qmod (ha : PEw X a ta) (hb : PEw X b tb) : PEw X (.BinOp a .Mod b pos) (wOp wMod ta tb) := qop op_modN (sim_I fun _ _ _ _ => .int) ha hb
theorem qfdiv (hd : Deep X) (ha : PEw X a ta) (hb : PEw X b tb) : PEw X (.BinOp a .FloorDiv b pos) (wOp wFdiv ta tb) := qop (op_fdivX hd) (sim_I fun _ _ _ _ => .int) ha hb
theorem qpow (ha : PEw X a ta) (hb : PEw X b tb) : PEw X (.BinOp a .Pow b pos) (wOp wPow ta tb) := qop op_pow (sim_I fun _ _ _ _ => .int) ha hb
noncomputable abbrev wNeg (ta : TEw) : TEw := wUn (wI1 fun i => .int (-i)) ta
theorem qneg (ha : PEw X a ta) : PEw X (.UnaryOp .USub a pos) (wNeg ta) := PE.imp (pe_un un_neg ha) fun _ _ _ h => lift1 (sim_U fun _ _ _ => .int) h
theorem qle (ha : PEw X a ta) (hb : PEw X b tb) : PEw X (.Compare a [.LtE] [b] pos) (wOp wLe ta tb) := qcmp op_le (sim_II fun _ _ _ _ => .bl) ha hb (nomark _)
theorem qgt (ha : PEw X a ta) (hb : PEw X b tb) : PEw X (.Compare a [.Gt] [b] pos) (wOp wGt ta tb) := qcmp op_gt (sim_II fun _ _ _ _ => .bl) ha hb (nomark _)
theorem qge (ha : PEw X a ta) (hb : PEw X b tb) : PEw X (.Compare a [.GtE] [b] pos) (wOp wGe ta tb) := qcmp op_ge (sim_II fun _ _ _ _ => .bl) ha hb (nomark _)
theorem qtlt (ha : PEw X a ta) (hb : PEw X b tb) : PTw X (.Compare a [.Lt] [b] pos) (wTest (wOp wLt ta tb)) := qtcmp op_lt (sim_II fun _ _ _ _ => .bl) ha hb (nomark _)
theorem qtgt (ha : PEw X a ta) (hb : PEw X b tb) : PTw X (.Compare a [.Gt] [b] pos) (wTest (wOp wGt ta tb)) := qtcmp op_gt (sim_II fun _ _ _ _ => .bl) ha hb (nomark _)
theorem qtge (ha : PEw X a ta) (hb : PEw X b tb) : PTw X (.Compare a [.GtE] [b] pos) (wTest (wOp wGe ta tb)) := qtcmp op_ge (sim_II fun _ _ _ _ => .bl) ha hb (nomark _)
end
mutual
noncomputable def wdat : W → PyData
 | .non => .none
 | .bl b => .bool b
 | .int i => .int i
 | .str x => .str x
 | .tup ws => .tuple (wdats ws)
 | .lst ws => .list (wdats ws)
 | .scr ws => .list (wdats ws)
 | _ => .none
noncomputable def wdats : List W → List PyData
 | [] => []
 | w :: ws => wdat w :: wdats ws
end
mutual
noncomputable def wpure : W → Bool
 | .ins _ _ => false
 | .dic _ => false
 | .exc _ _ _ _ => false
 | .dcn _ => false
 | .ref _ => false
 | .ty _ => false
 | .tup ws => wpures ws
 | .lst ws => wpures ws
 | .scr ws => wpures ws
 | _ => true
noncomputable def wpures : List W → Bool
 | [] => true
 | w :: ws => wpure w && wpures ws
end
noncomputable def wder (G : Gp) : W → W
 | .ref p => match G p with
  | some (.lst ws) => .lst ws
  | _ => .ref p
 | w => w
noncomputable def weqb (x y : W) : Bool := PyData.eqv (wdat x) (wdat y)
noncomputable def wOk (w : W) : Prop := wpure w = true ∧ SeqAt.shaped (wdat w) = true
noncomputable def wEq : RW2 := fun x y G Q => match x, y with
 | .int i, .int j => Q (.bl (decide (i = j))) G
 | .str i, .str j => Q (.bl (decide (i = j))) G
 | x, y => wOk (wder G x) ∧ wOk (wder G y) ∧ Q (.bl (weqb (wder G x) (wder G y))) G
noncomputable def wNe : RW2 := fun x y G Q => match x, y with
 | .int i, .int j => Q (.bl (!decide (i = j))) G
 | .str i, .str j => Q (.bl (!decide (i = j))) G
 | x, y => wOk (wder G x) ∧ wOk (wder G y) ∧ Q (.bl (!weqb (wder G x) (wder G y))) G
section
variable {X : Cx} {K : PySem.W.Frag} {Z : Zp} {G : Gp} {H : Hp}
mutual
theorem Rw.dp : ∀ {w : W} {v : V}, Rw K Z H w v → wpure w = true → Dp K H v (wdat w)
 | _, _, .non, _ => by simp only [wdat]; exact .non
 | _, _, .bl, _ => by simp only [wdat]; exact .bl _
 | _, _, .int, _ => by simp only [wdat]; exact .int _
 | _, _, .str, _ => by simp only [wdat]; exact .str _
 | _, _, .ref, p => by simp [wpure] at p
 | _, _, .ty, p => by simp [wpure] at p
 | _, _, .ins _ _ _ _, p => by simp [wpure] at p
 | _, _, .dic _ _ _, p => by simp [wpure] at p
 | _, _, .exc0, p => by simp [wpure] at p
 | _, _, .dcn _ _ _ _ _ _ _, p => by simp [wpure] at p
 | _, _, .excF _ _ _, p => by simp [wpure] at p
 | _, _, .tup s r, p => by simp only [wdat]; exact .tup s (RwL.dp r (by simpa [wpure] using p))
 | _, _, .lst _ s r, p => by simp only [wdat]; exact .lst (SqL.of s) (RwL.dp r (by simpa [wpure] using p))
 | _, _, .scr s r, p => by simp only [wdat]; exact .lst s.sq (RwL.dp r (by simpa [wpure] using p))
theorem RwL.dp : ∀ {ws : List W} {vs : List V}, RwL K Z H ws vs → wpures ws = true → DpAll K H vs (wdats ws)
 | _, _, .nil, _ => by simp only [wdats]; exact .nil
 | _, _, .cons r t, p => by
  simp only [wpures, Bool.and_eq_true] at p
  simp only [wdats]
  exact .cons (Rw.dp r p.1) (RwL.dp t p.2)
end
theorem dp_der (h : HRel K Z G H) {w : W} {v : V} (r : Rw K Z H w v) (p : wpure (wder G w) = true) : Dp K H v (wdat (wder G w)) := by
 cases r with
 | @ref a =>
  simp only [wder] at p ⊢
  cases q : G a with
  | none => rw [q] at p; simp [wpure] at p
  | some o =>
   rw [q] at p
   cases o with
   | lst ws =>
    simp only [wpure] at p
    simp only [wdat]
    obtain ⟨vs, e, t⟩ := h.lst q
    exact .lst (SqL.of e) (RwL.dp t p)
   | ins _ _ => simp [wpure] at p
   | dic _ => simp [wpure] at p
   | dcn _ _ => simp [wpure] at p
   | tbl _ _ => simp [wpure] at p
 | _ => first
  | exact Rw.dp (Z := Z) (by constructor <;> assumption) p
  | exact Rw.dp (Z := Z) (by constructor) p
noncomputable def rEqU (K : PySem.W.Frag) : R2 := fun x y H Q => rEq x y H Q ∨ rEqD K x y H Q
noncomputable def rNeU (K : PySem.W.Frag) : R2 := fun x y H Q => rNe x y H Q ∨ rNeD K x y H Q
theorem sim_eq : Sim2 K (rEqU K) wEq := by
 intro Z G H x y v u Qw Q h rx ry t k
 have gen : (wOk (wder G x) ∧ wOk (wder G y) ∧ Qw (.bl (weqb (wder G x) (wder G y))) G) → rEqU K v u H Q := fun t =>
  .inr ⟨_, _, dp_der h rx t.1.1, dp_der h ry t.2.1.1, t.1.2, t.2.1.2, k.at h .bl t.2.2⟩
 cases rx with
 | @int i =>
  cases ry with
  | @int j =>
   refine .inl ⟨rfl, ?_⟩
   rw [show decide (V.int i = V.int j) = decide (i = j) by simp]
   exact k.at h .bl t
  | _ => exact gen t
 | @str i =>
  cases ry with
  | @str j =>
   refine .inl ⟨rfl, ?_⟩
   rw [show decide (V.str i = V.str j) = decide (i = j) by simp]
   exact k.at h .bl t
  | _ => exact gen t
 | _ => exact gen t
theorem sim_ne : Sim2 K (rNeU K) wNe := by
 intro Z G H x y v u Qw Q h rx ry t k
 have gen : (wOk (wder G x) ∧ wOk (wder G y) ∧ Qw (.bl (!weqb (wder G x) (wder G y))) G) → rNeU K v u H Q := fun t =>
  .inr ⟨_, _, dp_der h rx t.1.1, dp_der h ry t.2.1.1, t.1.2, t.2.1.2, k.at h .bl t.2.2⟩
 cases rx with
 | @int i =>
  cases ry with
  | @int j =>
   refine .inl ⟨rfl, ?_⟩
   rw [show decide (V.int i = V.int j) = decide (i = j) by simp]
   exact k.at h .bl t
  | _ => exact gen t
 | @str i =>
  cases ry with
  | @str j =>
   refine .inl ⟨rfl, ?_⟩
   rw [show decide (V.str i = V.str j) = decide (i = j) by simp]
   exact k.at h .bl t
  | _ => exact gen t
 | _ => exact gen t
variable {a b : Expr} {ta tb : TEw} {pos : Pos}
theorem hu64 {A : Around} {k : Nat} (hr : Room k A) : A.units + 64 < cLine := by have := hr.un; omega
theorem qeq {k : Nat} (hr : Room k X.A) (ha : PEw X a ta) (hb : PEw X b tb) : PEw X (.Compare a [.Eq] [b] pos) (wOp wEq ta tb) := qcmp (OpR.or op_eq (op_eqD (hu64 hr))) sim_eq ha hb (nomark _)
theorem qteq {k : Nat} (hr : Room k X.A) (ha : PEw X a ta) (hb : PEw X b tb) : PTw X (.Compare a [.Eq] [b] pos) (wTest (wOp wEq ta tb)) := qtcmp (OpR.or op_eq (op_eqD (hu64 hr))) sim_eq ha hb (nomark _)
theorem qtne {k : Nat} (hr : Room k X.A) (ha : PEw X a ta) (hb : PEw X b tb) : PTw X (.Compare a [.NotEq] [b] pos) (wTest (wOp wNe ta tb)) := qtcmp (OpR.or op_ne (op_neD (hu64 hr))) sim_ne ha hb (nomark _)
noncomputable def isNon : W → Bool
 | .non => true
 | _ => false
noncomputable def wIsN (ta : TEw) : TEw := wUn (fun x G Q => Q (.bl (isNon x)) G) ta
noncomputable def wNotN (ta : TEw) : TEw := wUn (fun x G Q => Q (.bl (!isNon x)) G) ta
theorem Rw.isNon {w : W} {v : V} (r : Rw K Z H w v) : decide (v = .non) = isNon w := by
 cases r <;> simp [WL.isNon]
theorem qnotN {j p2} (ha : PEw X a ta) : PEw X (.Compare a [.IsNot] [.Constant .none j p2] pos) (wNotN ta) := PE.imp (pe_cmp (pc_notN ha) rfl) fun σ H Q h => by
 obtain ⟨Z, σ', G, Qw, e, hr, t, k⟩ := h
 exact ⟨Z, σ', G, _, e, hr, t, fun Z1 G1 H1 x v x1 h1 r1 t1 => by show Q (V.bl (!decide (v = .non))) H1; rw [r1.isNon]; exact k Z1 G1 H1 _ _ x1 h1 .bl t1⟩
end
section
variable {X : Cx} {K : PySem.W.Frag} {a b c : Expr} {ta tb : TEw} {t u : TTw} {rest : List Expr} {pos : Pos}
theorem qtv (ha : PEw X a ta) (he : ∀ whole, isTrue a X.env whole = (do let v ← whole; standAt a.pos; holding [v] (truthy v)) := by intro _; rfl) : PTw X a (wTest ta) :=
 PT.imp (pt_val ha he) fun σ H Q h => by
  obtain ⟨Z, σ', G, Qw, e, hr, t', k⟩ := h
  refine ⟨Z, σ', G, _, e, hr, t', fun Z1 G1 H1 w v x1 h1 r1 t1 => ?_⟩
  obtain ⟨b, rfl, q⟩ := t1
  cases r1
  exact ⟨b, rfl, k Z1 G1 H1 b x1 h1 q⟩
noncomputable def wAnd (t u : TTw) : TTw := fun σ G Q => t σ G fun c G1 => if c = true then u σ G1 Q else Q false G1
noncomputable def wOr (t u : TTw) : TTw := fun σ G Q => t σ G fun c G1 => if c = true then Q true G1 else u σ G1 Q
noncomputable def wNot (t : TTw) : TTw := fun σ G Q => t σ G fun c G1 => Q (!c) G1
theorem qand1 (ha : PTw X a t) : PWw X (.BoolOp .And [a] pos) t := pw_and1 ha
theorem qor1 (ha : PTw X a t) : PWw X (.BoolOp .Or [a] pos) t := pw_or1 ha
theorem qand (ha : PTw X a t) (hb : PWw X (.BoolOp .And (b :: rest) pos) u) : PWw X (.BoolOp .And (a :: b :: rest) pos) (wAnd t u) :=
 PW.imp (pw_and ha hb) fun σ H Q h => by
  obtain ⟨Z, σ', G, Qw, e, hr, t', k⟩ := h
  refine ⟨Z, σ', G, _, e, hr, t', fun Z1 G1 H1 b x1 h1 t1 => ?_⟩
  cases b with
  | true => exact ⟨Z1, σ', G1, Qw, e.ext hr x1, h1, t1, fun Z2 G2 H2 b x2 => k Z2 G2 H2 b (x1.trans x2)⟩
  | false => exact k Z1 G1 H1 _ x1 h1 t1
theorem qor (ha : PTw X a t) (hb : PWw X (.BoolOp .Or (b :: rest) pos) u) : PWw X (.BoolOp .Or (a :: b :: rest) pos) (wOr t u) :=
 PW.imp (pw_or ha hb) fun σ H Q h => by
  obtain ⟨Z, σ', G, Qw, e, hr, t', k⟩ := h
  refine ⟨Z, σ', G, _, e, hr, t', fun Z1 G1 H1 b x1 h1 t1 => ?_⟩
  cases b with
  | false => exact ⟨Z1, σ', G1, Qw, e.ext hr x1, h1, t1, fun Z2 G2 H2 b x2 => k Z2 G2 H2 b (x1.trans x2)⟩
  | true => exact k Z1 G1 H1 _ x1 h1 t1
theorem qwt (h : PWw X a t) : PTw X a t := PW.pt h
theorem qnot (ha : PTw X a t) : PTw X (.UnaryOp .Not a pos) (wNot t) :=
 PT.imp (pt_not ha) fun σ H Q h => by
  obtain ⟨Z, σ', G, Qw, e, hr, t', k⟩ := h
  exact ⟨Z, σ', G, _, e, hr, t', fun Z1 G1 H1 b x1 h1 t1 => k Z1 G1 H1 _ x1 h1 t1⟩
noncomputable def wAndV (ta tb : TEw) : TEw := fun σ G Q => ta σ G fun x G1 => ∃ c, x = .bl c ∧ if c = true then tb σ G1 Q else Q (.bl false) G1
noncomputable def wNotV (ta : TEw) : TEw := fun σ G Q => ta σ G fun x G1 => ∃ c, x = .bl c ∧ Q (.bl (!c)) G1
theorem qone {op} (ha : PEw X a ta) : PEw X (.BoolOp op [a] pos) ta := pe_one ha
theorem qandV (ha : PEw X a ta) (hb : PEw X (.BoolOp .And (b :: rest) pos) tb) : PEw X (.BoolOp .And (a :: b :: rest) pos) (wAndV ta tb) :=
 PE.imp (pe_and ha hb) fun σ H Q h => by
  obtain ⟨Z, σ', G, Qw, e, hr, t', k⟩ := h
  refine ⟨Z, σ', G, _, e, hr, t', fun Z1 G1 H1 x v x1 h1 r1 t1 => ?_⟩
  obtain ⟨c, rfl, t1⟩ := t1
  cases r1
  refine ⟨c, rfl, ?_⟩
  cases c with
  | true => exact ⟨Z1, σ', G1, Qw, e.ext hr x1, h1, t1, k.mono x1⟩
  | false => exact k Z1 G1 H1 _ _ x1 h1 .bl t1
theorem qnotV (ha : PEw X a ta) : PEw X (.UnaryOp .Not a pos) (wNotV ta) :=
 PE.imp (pe_not ha) fun σ H Q h => by
  obtain ⟨Z, σ', G, Qw, e, hr, t', k⟩ := h
  refine ⟨Z, σ', G, _, e, hr, t', fun Z1 G1 H1 x v x1 h1 r1 t1 => ?_⟩
  obtain ⟨c, rfl, t1⟩ := t1
  cases r1
  exact ⟨c, rfl, k Z1 G1 H1 _ _ x1 h1 .bl t1⟩
noncomputable def wIf (t : TTw) (ta tb : TEw) : TEw := fun σ G Q => t σ G fun c G1 => if c = true then ta σ G1 Q else tb σ G1 Q
theorem qifExp (hc : PTw X c t) (ha : PEw X a ta) (hb : PEw X b tb) : PEw X (.IfExp c a b pos) (wIf t ta tb) :=
 PE.imp (pe_ifExp hc ha hb) fun σ H Q h => by
  obtain ⟨Z, σ', G, Qw, e, hr, t', k⟩ := h
  refine ⟨Z, σ', G, _, e, hr, t', fun Z1 G1 H1 b x1 h1 t1 => ?_⟩
  cases b with
  | true => exact ⟨Z1, σ', G1, Qw, e.ext hr x1, h1, t1, k.mono x1⟩
  | false => exact ⟨Z1, σ', G1, Qw, e.ext hr x1, h1, t1, k.mono x1⟩
noncomputable def wChain (r r' : RW2) (ta tb tc : TEw) : TEw := fun σ G Q => ta σ G fun x G1 => tb σ G1 fun y G2 => r x y G2 fun z G3 => ∃ k, z = .bl k ∧ (if k = true then tc σ G3 fun w G4 => r' y w G4 Q else Q (.bl false) G3)
theorem lchain {r r' : R2} {wr wr' : RW2} {tc : TEw} (hs : Sim2 K r wr) (hs' : Sim2 K r' wr') {σ : SV} {H : Hp} {Q : VK} (h : liftE K (wChain wr wr' ta tb tc) σ H Q) : tChain r r' (liftE K ta) (liftE K tb) (liftE K tc) σ H Q := by
 obtain ⟨Z, σ', G, Qw, e, hr, t, k⟩ := h
 refine ⟨Z, σ', G, _, e, hr, t, fun Z1 G1 H1 x v x1 h1 r1 t1 => ?_⟩
 refine ⟨Z1, σ', G1, _, e.ext hr x1, h1, t1, fun Z2 G2 H2 y u x2 h2 r2 t2 => ?_⟩
 refine hs Z2 G2 H2 x y v u _ _ h2 (r1.ext h1 x2) r2 t2 fun Z3 G3 H3 z zv x3 h3 r3 t3 => ?_
 obtain ⟨b, rfl, t3⟩ := t3
 cases r3
 refine ⟨b, rfl, ?_⟩
 cases b with
 | false => exact k Z3 G3 H3 _ _ ((x1.trans x2).trans x3) h3 .bl t3
 | true =>
  refine ⟨Z3, σ', G3, _, e.ext hr ((x1.trans x2).trans x3), h3, t3, fun Z4 G4 H4 w wv x4 h4 r4 t4 => ?_⟩
  exact hs' Z4 G4 H4 y w u wv Qw Q h4 (r2.ext h2 (x3.trans x4)) r4 t4 (k.mono (((x1.trans x2).trans x3).trans x4))
theorem qchain {op op' : CmpOp} {r r' : R2} {wr wr' : RW2} {tc : TEw} (ho : OpR X (compareOp op) r) (ho' : OpR X (compareOp op') r') (hs : Sim2 X.K r wr) (hs' : Sim2 X.K r' wr') (ha : PEw X a ta) (hb : PEw X b tb) (hc : PEw X c tc)
  (hm : lastMarks [op, op'] [b, c] = false := by with_unfolding_all rfl) : PEw X (.Compare a [op, op'] [b, c] pos) (wChain wr wr' ta tb tc) := PE.imp (pe_chain ho ho' ha hb hc hm) fun _ _ _ h => lchain hs hs' h
theorem qtchain {op op' : CmpOp} {r r' : R2} {wr wr' : RW2} {tc : TEw} (ho : OpR X (compareOp op) r) (ho' : OpR X (compareOp op') r') (hs : Sim2 X.K r wr) (hs' : Sim2 X.K r' wr') (ha : PEw X a ta) (hb : PEw X b tb) (hc : PEw X c tc)
  (hm : lastMarks [op, op'] [b, c] = false := by with_unfolding_all rfl) : PTw X (.Compare a [op, op'] [b, c] pos) (wTest (wChain wr wr' ta tb tc)) := PT.imp (pt_chain ho ho' ha hb hc hm) fun _ _ _ h => ltest (fun _ _ _ => lchain hs hs') h
theorem qlele {tc : TEw} (ha : PEw X a ta) (hb : PEw X b tb) (hc : PEw X c tc) (hm : lastMarks [.LtE, .LtE] [b, c] = false := by with_unfolding_all rfl) : PEw X (.Compare a [.LtE, .LtE] [b, c] pos) (wChain wLe wLe ta tb tc) :=
 qchain op_le op_le (sim_II fun _ _ _ _ => .bl) (sim_II fun _ _ _ _ => .bl) ha hb hc hm
theorem qtlele {tc : TEw} (ha : PEw X a ta) (hb : PEw X b tb) (hc : PEw X c tc) (hm : lastMarks [.LtE, .LtE] [b, c] = false := by with_unfolding_all rfl) : PTw X (.Compare a [.LtE, .LtE] [b, c] pos) (wTest (wChain wLe wLe ta tb tc)) :=
 qtchain op_le op_le (sim_II fun _ _ _ _ => .bl) (sim_II fun _ _ _ _ => .bl) ha hb hc hm
end
noncomputable def wTup (t : TAw) : TEw := fun σ G Q => t σ G fun ws G1 => ws.length ≤ sizeLine ∧ Q (.tup ws) G1
noncomputable def wLst (t : TAw) : TEw := fun σ G Q => t σ G fun ws G1 => ws.length ≤ sizeLine ∧ Q (.lst ws) G1
noncomputable def wLstM (t : TAw) : TEw := fun σ G Q => t σ G fun ws G1 => ws.length ≤ sizeLine ∧ ∀ p, G1 p = none → Q (.ref p) (gup G1 p (.lst ws))
noncomputable def wIx : RW2 := fun x y G Q => match x, y with
 | .tup ws, .int i => isS (atI ws i) fun w => Q w G
 | .str z, .int i => z.length ≤ sizeLine ∧ isS (atI z.cps.toList i) fun c => Q (.str ⟨#[c]⟩) G
 | x, .int i => isS (asL G x) fun ws => isS (atI ws i) fun w => Q w G
 | _, _ => False
section
variable {X : Cx} {K : PySem.W.Frag} {Z : Zp} {G : Gp} {H : Hp}
theorem RwL.atI {ws : List W} {vs : List V} (r : RwL K Z H ws vs) {i : Int} {w : W} (e : L2.atI ws i = some w) : ∃ v, L2.atI vs i = some v ∧ Rw K Z H w v := by
 unfold L2.atI at e ⊢
 rw [← r.length]
 cases q : ixN ws.length i with
 | none => rw [q] at e; cases e
 | some j =>
  rw [q] at e
  exact r.get j e
theorem sim_ix : Sim2 K (rIx K) wIx := by
 intro Z G H x y v u Qw Q h rx ry t k
 have gen : ∀ {i : Int}, (isS (asL G x) fun ws => isS (L2.atI ws i) fun w => Qw w G) → rIx K v (.int i) H Q := fun q => by
  obtain ⟨ws, e, q⟩ := isS_ex q
  obtain ⟨w, a, q⟩ := isS_ex q
  obtain ⟨p, vs, rfl, s, r⟩ := asL_sq h rx e
  obtain ⟨v', a', r'⟩ := r.atI a
  exact .inl ⟨p, vs, _, v', rfl, rfl, s, a', k.at h r' q⟩
 cases ry with
 | @int i =>
  cases rx with
  | @tup p ws vs s r =>
   obtain ⟨w, a, q⟩ := isS_ex t
   obtain ⟨v', a', r'⟩ := r.atI a
   exact .inr (.inl ⟨p, vs, _, v', rfl, rfl, s, a', k.at h r' q⟩)
  | str =>
   obtain ⟨l, t⟩ := t
   obtain ⟨c, a, q⟩ := isS_ex t
   exact .inr (.inr ⟨_, _, c, rfl, rfl, l, a, k.at h .str q⟩)
  | _ => exact gen t
 | _ => cases rx <;> exact False.elim t
variable {a b : Expr} {ta tb : TEw} {es : List Expr} {t : TAw} {pos : Pos}
theorem qtup {x1} (h : PAw X es t) : PEw X (.Tuple es x1 pos) (wTup t) := PE.imp (pe_tup h) fun σ H Q h => by
 obtain ⟨Z, σ', G, Qw, e, hr, t', k⟩ := h
 refine ⟨Z, σ', G, _, e, hr, t', fun Z1 G1 H1 ws vs x1 h1 r1 t1 => ⟨by rw [← r1.length]; exact t1.1, fun p n => ?_⟩⟩
 obtain ⟨h2, x2, r2⟩ := new_tup h1 n r1
 exact k Z1 G1 _ _ _ (x1.trans x2) h2 r2 t1.2
theorem qlst (h : PAw X es t) : PEw X (.List es pos) (wLst t) := PE.imp (pe_lst h) fun σ H Q h => by
 obtain ⟨Z, σ', G, Qw, e, hr, t', k⟩ := h
 refine ⟨Z, σ', G, _, e, hr, t', fun Z1 G1 H1 ws vs x1 h1 r1 t1 => ⟨by rw [← r1.length]; exact t1.1, fun p n => ?_⟩⟩
 obtain ⟨h2, x2, r2⟩ := new_frz h1 n r1
 exact k _ G1 _ _ _ (x1.trans x2) h2 r2 t1.2
theorem qlstM (h : PAw X es t) : PEw X (.List es pos) (wLstM t) := PE.imp (pe_lst h) fun σ H Q h => by
 obtain ⟨Z, σ', G, Qw, e, hr, t', k⟩ := h
 refine ⟨Z, σ', G, _, e, hr, t', fun Z1 G1 H1 ws vs x1 h1 r1 t1 => ⟨by rw [← r1.length]; exact t1.1, fun p n => ?_⟩⟩
 obtain ⟨g, h2, x2⟩ := new_lst h1 n r1
 exact k Z1 _ _ _ _ (x1.trans x2) h2 .ref (t1.2 p g)
theorem qix (ha : PEw X a ta) (hb : PEw X b tb) (hp : PlainIx b := by exact fun _ _ => rfl) : PEw X (.Subscript a b pos) (wOp wIx ta tb) := PE.imp (pe_ix ix_seq ha hb hp) fun _ _ _ h => lift2 sim_ix h
noncomputable def wLen : List W → Gp → QW → Prop := fun ws G Q => match ws with
 | [.tup us] => Q (.int us.length) G
 | [.str z] => z.length ≤ sizeLine ∧ Q (.int z.length) G
 | [x] => isS (asL G x) fun us => Q (.int us.length) G
 | _ => False
theorem sim_len : SimN K (fun xs H Q => ∃ x n, xs = [x] ∧ LenV K x H n ∧ Q (.int n) H) wLen := by
 intro Z G H ws vs Qw Q h r t k
 cases r with
 | nil => exact False.elim t
 | @cons w v ws vs rx rr =>
  cases rr with
  | cons _ _ => cases rx <;> exact False.elim t
  | nil =>
   have gen : (isS (asL G w) fun us => Qw (.int us.length) G) → ∃ x n, [v] = [x] ∧ LenV K x H n ∧ Q (.int n) H := fun q => by
    obtain ⟨us, e, q⟩ := isS_ex q
    obtain ⟨p, vs, rfl, s, r⟩ := asL_sq h rx e
    exact ⟨_, vs.length, rfl, .inl ⟨vs, s, rfl⟩, by rw [← r.length]; exact k.at h .int q⟩
   cases rx with
   | @tup p us vs s r => exact ⟨_, vs.length, rfl, .inr ⟨vs, s, rfl⟩, by rw [← r.length]; exact k.at h .int t⟩
   | str => exact ⟨_, _, rfl, ⟨t.1, rfl⟩, k.at h .int t.2⟩
   | _ => exact gen t
noncomputable def wI1N (g : Int → W) : List W → Gp → QW → Prop := fun ws G Q => match ws with
 | [.int i] => Q (g i) G
 | _ => False
noncomputable def wI2N (g : Int → Int → W) : List W → Gp → QW → Prop := fun ws G Q => match ws with
 | [.int i, .int j] => Q (g i j) G
 | _ => False
theorem sim_1N {g : Int → W} {g' : Int → V} (hg : ∀ i Z H, Rw K Z H (g i) (g' i)) : SimN K (fun xs H Q => ∃ i, xs = [.int i] ∧ Q (g' i) H) (wI1N g) := by
 intro Z G H ws vs Qw Q h r t k
 cases r with
 | nil => exact False.elim t
 | cons rx rr =>
  cases rr with
  | cons _ _ => cases rx <;> exact False.elim t
  | nil => cases rx <;> first
   | exact False.elim t
   | exact ⟨_, rfl, k.at h (hg _ _ _) t⟩
theorem sim_2N {g : Int → Int → W} {g' : Int → Int → V} (hg : ∀ i j Z H, Rw K Z H (g i j) (g' i j)) : SimN K (fun xs H Q => ∃ i j, xs = [.int i, .int j] ∧ Q (g' i j) H) (wI2N g) := by
 intro Z G H ws vs Qw Q h r t k
 cases r with
 | nil => exact False.elim t
 | cons rx rr =>
  cases rr with
  | nil => cases rx <;> exact False.elim t
  | cons ry rr =>
   cases rr with
   | cons _ _ => cases rx <;> cases ry <;> exact False.elim t
   | nil => cases rx <;> cases ry <;> first
    | exact False.elim t
    | exact ⟨_, _, rfl, k.at h (hg _ _ _ _) t⟩
variable {x : Str} {p : Pos} {e : Expr}
theorem qlen (hg : Gl X "len") (hm : X.mg "len" = none) (ha : PAw X (e :: es) t) (he : starEach (e :: es) X.env = (false, eval e X.env) :: starEach es X.env := by rfl) (hpl : (backTo pos (starEach es X.env)).any (·.1) = false := by rfl) :
  PEw X (.Call (.Name "len" p) (e :: es) [] pos) (wCB wLen t) := PE.imp (pe_callB call_len hg hm PySem.boot_len ha (by decide) (by decide) he hpl) fun _ _ _ h => liftN sim_len h
theorem qabs (hg : Gl X "abs") (hm : X.mg "abs" = none) (ha : PAw X (e :: es) t) (he : starEach (e :: es) X.env = (false, eval e X.env) :: starEach es X.env := by rfl) (hpl : (backTo pos (starEach es X.env)).any (·.1) = false := by rfl) :
  PEw X (.Call (.Name "abs" p) (e :: es) [] pos) (wCB (wI1N fun i => .int (if i < 0 then -i else i)) t) := PE.imp (pe_callB call_abs hg hm (by decide +kernel) ha (by decide) (by decide) he hpl) fun _ _ _ h => liftN (sim_1N fun _ _ _ => .int) h
theorem qmin2 (hc : X.calm = true) (hg : Gl X "min") (hm : X.mg "min" = none) (ha : PAw X (e :: es) t) (he : starEach (e :: es) X.env = (false, eval e X.env) :: starEach es X.env := by rfl) (hpl : (backTo pos (starEach es X.env)).any (·.1) = false := by rfl) :
  PEw X (.Call (.Name "min" p) (e :: es) [] pos) (wCB (wI2N fun i j => .int (if j < i then j else i)) t) := PE.imp (pe_callB (call_min2 hc) hg hm (by decide +kernel) ha (by decide) (by decide) he hpl) fun _ _ _ h => liftN (sim_2N fun _ _ _ _ => .int) h
noncomputable def wInt : List W → Gp → QW → Prop := fun ws G Q => match ws with
 | [.int i] => Q (.int i) G
 | [.bl b] => Q (.int (if b then 1 else 0)) G
 | _ => False
theorem sim_int : SimN K (fun xs H Q => (∃ i, xs = [.int i] ∧ Q (.int i) H) ∨ ∃ k, xs = [.bl k] ∧ Q (.int (if k then 1 else 0)) H) wInt := by
 intro Z G H ws vs Qw Q h r t k
 cases r with
 | nil => exact False.elim t
 | cons rx rr =>
  cases rr with
  | cons _ _ => cases rx <;> exact False.elim t
  | nil => cases rx <;> first
   | exact False.elim t
   | exact .inl ⟨_, rfl, k.at h .int t⟩
   | exact .inr ⟨_, rfl, k.at h .int t⟩
theorem qint1 (hg : Gl X "int") (hm : X.mg "int" = none) (ha : PAw X (e :: es) t) (he : starEach (e :: es) X.env = (false, eval e X.env) :: starEach es X.env := by rfl) (hpl : (backTo pos (starEach es X.env)).any (·.1) = false := by rfl) :
  PEw X (.Call (.Name "int" p) (e :: es) [] pos) (wCB wInt t) := PE.imp (pe_callTy call_int1 hg hm (by decide +kernel) ha (by decide) (by decide) he hpl) fun _ _ _ h => liftN sim_int h
noncomputable def wStrI : List W → Gp → QW → Prop := fun ws G Q => match ws with
 | [.int i] => i.natAbs.log2 < 1920 ∧ Q (.str (Str.ofString (toString i))) G
 | _ => False
theorem sim_strI : SimN K (fun xs H Q => ∃ i, xs = [V.int i] ∧ i.natAbs.log2 < 1920 ∧ Q (V.str (Str.ofString (toString i))) H) wStrI := by
 intro Z G H ws vs Qw Q h r t k
 cases r with
 | nil => exact False.elim t
 | cons rx rr =>
  cases rr with
  | cons _ _ => cases rx <;> exact False.elim t
  | nil => cases rx <;> first
   | exact False.elim t
   | exact ⟨_, rfl, t.1, k.at h .str t.2⟩
theorem qstrI (hg : Gl X "str") (hm : X.mg "str" = none) (ha : PAw X (e :: es) t) (he : starEach (e :: es) X.env = (false, eval e X.env) :: starEach es X.env := by rfl) (hpl : (backTo pos (starEach es X.env)).any (·.1) = false := by rfl) :
  PEw X (.Call (.Name "str" p) (e :: es) [] pos) (wCB wStrI t) := PE.imp (pe_callTy call_str_int hg hm (by decide +kernel) ha (by decide) (by decide) he hpl) fun _ _ _ h => liftN sim_strI h
end
noncomputable def wNext : TSw := fun D σ G => D.nx σ G
noncomputable def wSeq (t u : TSw) : TSw := fun D σ G => t { D with nx := u D } σ G
noncomputable def wDrop (te : TEw) : TSw := fun D σ G => te σ G fun _ G1 => D.nx σ G1
noncomputable def wRet (te : TEw) : TSw := fun D σ G => te σ G D.rt
noncomputable def wIfS (c : TTw) (t u : TSw) : TSw := fun D σ G => c σ G fun b G1 => if b = true then t D σ G1 else u D σ G1
noncomputable def wNever : TSw := fun _ _ _ => False
noncomputable def gN (i : Nat) : TGw := fun w σ G Q => Q (sset σ i w) G
noncomputable def gsN : TGsw := fun ws σ G Q => match ws with
 | [] => Q σ G
 | _ => False
noncomputable def gsC (t : TGw) (u : TGsw) : TGsw := fun ws σ G Q => match ws with
 | w :: r => t w σ G fun σ1 G1 => u r σ1 G1 Q
 | [] => False
noncomputable def gT (n : Nat) (t : TGsw) : TGw := fun w σ G Q => match w with
 | .tup ws => ws.length = n ∧ t ws σ G Q
 | .lst ws => ws.length = n ∧ t ws σ G Q
 | .ref p => isG (G p) fun ws => ws.length = n ∧ t ws σ G Q
 | _ => False
noncomputable def setIx (o i w : W) (G : Gp) (Q : Gp → Prop) : Prop := match o, i with
 | .ref p, .int k => isG (G p) fun ws => isS (ixN ws.length k) fun j => Q (gup G p (.lst (ws.set j w)))
 | _, _ => False
theorem setIx_ex {o i w : W} {G : Gp} {Q : Gp → Prop} (h : setIx o i w G Q) : ∃ p k ws j, o = .ref p ∧ i = .int k ∧ G p = some (.lst ws) ∧ ixN ws.length k = some j ∧ Q (gup G p (.lst (ws.set j w))) := by
 unfold setIx at h
 split at h
 ·obtain ⟨ws, g, h⟩ := isG_ex h
  obtain ⟨j, e, h⟩ := isS_ex h
  exact ⟨_, _, ws, j, rfl, rfl, g, e, h⟩
 ·exact h.elim
noncomputable def gIx (to ti : TEw) : TGw := fun w σ G Q => to σ G fun o G1 => ti σ G1 fun i G2 => setIx o i w G2 (Q σ)
noncomputable def wAsg (te : TEw) (g : TGw) : TSw := fun D σ G => te σ G fun w G1 => g w σ G1 D.nx
noncomputable def wPar (i j : Nat) (t : TAw) : TSw := fun D σ G => t σ G fun ws G1 => match ws with
 | [a, b] => D.nx (sset (sset σ i a) j b) G1
 | _ => False
noncomputable def wAug (i : Nat) (te : TEw) (r : RW2) : TSw := fun D σ G => isS (slot σ i) fun x => te σ G fun y G1 => r x y G1 fun z G2 => D.nx (sset σ i z) G2
section
variable {X : Cx} {K : PySem.W.Frag} {st : Stmt} {rest : List Stmt} {t u : TSw} {e : Expr} {te : TEw} {pos : Pos}
theorem qs_nil : PSsw X [] wNext := PSs.imp pss_nil fun D σ H h => by
 obtain ⟨Z, σ', G, Dw, e, hr, t, k⟩ := h
 exact k.nx Z G H σ' σ Ext.refl hr e t
theorem qs_cons (h1 : PSw X st t) (h2 : PSsw X rest u) : PSsw X (st :: rest) (wSeq t u) := PSs.imp (pss_cons h1 h2) fun D σ H h => by
 obtain ⟨Z, σ', G, Dw, e, hr, t, k⟩ := h
 exact ⟨Z, σ', G, _, e, hr, t, ⟨fun Z1 G1 H1 s1 s2 x1 h1 r1 q => ⟨Z1, s1, G1, Dw, r1, h1, q, k.mono x1⟩, k.rt, k.bk, k.ct, k.ex⟩⟩
theorem qs_one (h1 : PSw X st t) : PSsw X [st] t := pss_one h1
theorem qexpr (he : PEw X e te) (hs : swapsWith e none pos.line X.env = pure false := by rfl) : PSw X (.Expr e pos) (wDrop te) := PS.imp (ps_expr he hs) fun D σ H h => by
 obtain ⟨Z, σ', G, Dw, e, hr, t, k⟩ := h
 exact ⟨Z, σ', G, _, e, hr, t, fun Z1 G1 H1 w v x1 h1 r1 q => k.nx Z1 G1 H1 σ' σ x1 h1 (e.ext hr x1) q⟩
theorem qret (he : PEw X e te) : PSw X (.Return (some e) pos) (wRet te) := PS.imp (ps_ret he) fun D σ H h => by
 obtain ⟨Z, σ', G, Dw, e, hr, t, k⟩ := h
 exact ⟨Z, σ', G, _, e, hr, t, k.rt⟩
theorem qif {c : Expr} {a b : List Stmt} {tc : TTw} (hc : PTw X c tc) (ha : PSsw X a t) (hb : PSsw X b u) : PSw X (.If c a b pos) (wIfS tc t u) := PS.imp (ps_if hc ha hb) fun D σ H h => by
 obtain ⟨Z, σ', G, Dw, e, hr, t, k⟩ := h
 refine ⟨Z, σ', G, _, e, hr, t, fun Z1 G1 H1 b x1 h1 q => ?_⟩
 cases b with
 | true => exact ⟨Z1, σ', G1, Dw, e.ext hr x1, h1, q, k.mono x1⟩
 | false => exact ⟨Z1, σ', G1, Dw, e.ext hr x1, h1, q, k.mono x1⟩
theorem qnever : PSw X st wNever := PS.imp ps_never fun D σ H h => by
 obtain ⟨Z, σ', G, Dw, e, hr, t, k⟩ := h
 exact t
theorem qs_never {sts : List Stmt} : PSsw X sts wNever := PSs.imp pss_never fun D σ H h => by
 obtain ⟨Z, σ', G, Dw, e, hr, t, k⟩ := h
 exact t
theorem lgN {i : Nat} {v : V} {σ : SV} {H : Hp} {Q : SV → Hp → Prop} (h : liftG K (gN i) v σ H Q) : gName i v σ H Q := by
 obtain ⟨Z, σ', G, w, Qw, e, hr, r, t, k⟩ := h
 exact k Z G H _ _ Ext.refl hr (e.set r i) t
theorem qgN {i : Nat} {x : Str} (hN : X.N.Nodup) (hi : X.N[i]? = some x) (hx : Loc X.env.scope x := by first | exact Or.inl rfl | exact Or.inr rfl) (hf : X.fn x = true ∨ X.env.scope.names.lookup x = some .local := by first | exact .inl rfl | exact .inr rfl | assumption) : PGw X (.Name x pos) (gN i) :=
 PG.imp (pg_name hN hi hx hf) fun _ _ _ _ h => lgN h
theorem qgs_nil : PGsw X [] gsN := PGs.imp pgs_nil fun vs σ H Q h => by
 obtain ⟨Z, σ', G, ws, Qw, e, hr, r, t, k⟩ := h
 cases r with
 | nil => exact ⟨rfl, k Z G H _ _ Ext.refl hr e t⟩
 | cons _ _ => exact False.elim t
theorem qgs_cons {e : Expr} {es : List Expr} {t : TGw} {u : TGsw} (h1 : PGw X e t) (h2 : PGsw X es u)
  (hs : (assignEach (e :: es) X.env).map (·.2) = assign e X.env :: (assignEach es X.env).map (·.2) := by rfl) : PGsw X (e :: es) (gsC t u) := PGs.imp (pgs_cons h1 h2 hs) fun vs σ H Q h => by
 obtain ⟨Z, σ', G, ws, Qw, e, hr, r, t, k⟩ := h
 cases r with
 | nil => exact False.elim t
 | @cons w v us vs r rr =>
  refine ⟨_, _, rfl, Z, σ', G, w, _, e, hr, r, t, fun Z1 G1 H1 s1 s2 x1 h1 r1 q1 => ?_⟩
  exact ⟨Z1, s1, G1, us, Qw, r1, h1, rr.ext hr x1, q1, k.mono x1⟩
theorem PG.or {e : Expr} {t u : TG} (h1 : PG X e t) (h2 : PG X e u) : PG X e (fun v σ H Q => t v σ H Q ∨ u v σ H Q) := ⟨fun pins s σ H v x Q I r q => q.elim (fun q => h1.run pins s σ H v x Q I r q) (fun q => h2.run pins s σ H v x Q I r q)⟩
theorem qgT {es : List Expr} {k : Nat} {t : TGsw} {n : Nat} (hc : X.calm = true) (h : PGsw X es t)
  (hn : (assignEach es X.env).length = n := by rfl) (hst : (assignEach es X.env).findIdx? (·.1) = none := by rfl) : PGw X (.Tuple es k pos) (gT n t) := PG.imp (PG.or (pg_tup hc h hn hst) (pg_lst hc h hn hst)) fun v σ H Q h => by
 obtain ⟨Z, σ', G, w, Qw, e, hr, r, t, k⟩ := h
 cases r with
 | tup s r => exact .inl ⟨_, _, rfl, s, by rw [← r.length]; exact t.1, Z, σ', G, _, Qw, e, hr, r, t.2, k⟩
 | lst z s r => exact .inr ⟨_, _, rfl, SqL.of s, by rw [← r.length]; exact t.1, Z, σ', G, _, Qw, e, hr, r, t.2, k⟩
 | @ref p =>
  obtain ⟨ws, g, t1, t2⟩ := isG_ex t
  obtain ⟨vs, s, r⟩ := hr.lst g
  exact .inr ⟨_, _, rfl, SqL.of s, by rw [← r.length]; exact t1, Z, σ', G, _, Qw, e, hr, r, t2, k⟩
 | _ => exact False.elim t
theorem qgIx {o i : Expr} {to ti : TEw} (ho : PEw X o to) (hi : PEw X i ti)
  (ha : ∀ v, assign (.Subscript o i pos) X.env v = (do
   let ov ← holding [v] (eval o X.env)
   let iv ← holding [v, ov] (eval i X.env)
   standAt pos
   holding [v, ov, iv] (setItem ov iv v)
   release [v, ov, iv] []) := by intro _; rfl) : PGw X (.Subscript o i pos) (gIx to ti) := PG.imp (pg_sub ho hi set_list ha) fun v σ H Q h => by
 obtain ⟨Z, σ', G, w, Qw, e, hr, r, t, k⟩ := h
 refine ⟨Z, σ', G, _, e, hr, t, fun Z1 G1 H1 ow ov x1 h1 r1 t1 => ⟨Z1, σ', G1, _, e.ext hr x1, h1, t1, fun Z2 G2 H2 iw iv x2 h2 r2 t2 => ?_⟩⟩
 obtain ⟨p, kk, ws, j, rfl, rfl, g, l, q⟩ := setIx_ex t2
 cases r1
 cases r2
 obtain ⟨vs, e2, rr⟩ := h2.lst g
 obtain ⟨h3, x3⟩ := chg_lst h2 g (((r.ext hr (x1.trans x2)) : Rw _ _ _ w v) |> fun r => RwL.set r j rr)
 refine ⟨p, vs, kk, j, rfl, rfl, e2, by rw [← rr.length]; exact l, ?_⟩
 exact k Z2 _ _ _ _ ((x1.trans x2).trans x3) h3 ((e.ext hr (x1.trans x2)).ext h2 x3) q
theorem qasg {tg : Expr} {g : TGw} (he : PEw X e te) (hg : PGw X tg g) (hs : swapsWithSole [tg] e pos.line X.env = pure false := by rfl) (hw : swappedStores [tg] e X.env = pure none := by rfl)
  (h1 : (assignEach [tg] X.env).map (·.2) = [assign tg X.env] := by rfl) : PSw X (.Assign [tg] e pos) (wAsg te g) := PS.imp (ps_asg he hg hs hw h1) fun D σ H h => by
 obtain ⟨Z, σ', G, Dw, e, hr, t, k⟩ := h
 exact ⟨Z, σ', G, _, e, hr, t, fun Z1 G1 H1 w v x1 h1 r1 q => ⟨Z1, σ', G1, w, _, e.ext hr x1, h1, r1, q, k.nx.mono x1⟩⟩
theorem qset {i : Nat} {x : Str} {pos' : Pos} (hN : X.N.Nodup) (hi : X.N[i]? = some x) (hx : Loc X.env.scope x := by first | exact Or.inl rfl | exact Or.inr rfl) (he : PEw X e te) (hs : swapsWith e (some (.Name x pos')) pos.line X.env = pure false := by rfl) (hf : X.fn x = true ∨ X.env.scope.names.lookup x = some .local := by first | exact .inl rfl | exact .inr rfl | assumption) :
  PSw X (.Assign [.Name x pos'] e pos) (wAsg te (gN i)) := PS.imp (ps_set hN hi hx he hs hf) fun D σ H h => by
 obtain ⟨Z, σ', G, Dw, e, hr, t, k⟩ := h
 exact ⟨Z, σ', G, _, e, hr, t, fun Z1 G1 H1 w v x1 h1 r1 q => lgN ⟨Z1, σ', G1, w, _, e.ext hr x1, h1, r1, q, k.nx.mono x1⟩⟩
theorem qaug {i : Nat} {x : Str} {op : Operator} {ti : TIp} {wr : RW2} {pos' : Pos} (hN : X.N.Nodup) (hi : X.N[i]? = some x) (hx : Loc X.env.scope x := by first | exact Or.inl rfl | exact Or.inr rfl) (he : PEw X e te) (ho : PIp X op ti) (hs : Sim2 X.K ti wr) (hf : X.fn x = true ∨ X.env.scope.names.lookup x = some .local := by first | exact .inl rfl | exact .inr rfl | assumption) :
  PSw X (.AugAssign (.Name x pos') op e pos) (wAug i te wr) := PS.imp (ps_aug hN hi hx he ho hf) fun D σ H h => by
 obtain ⟨Z, σ', G, Dw, e, hr, t, k⟩ := h
 obtain ⟨xw, es, t⟩ := isS_ex t
 obtain ⟨xv, ev, rx⟩ := e.get i es
 refine ⟨xv, ev, Z, σ', G, _, e, hr, t, fun Z1 G1 H1 w v x1 h1 r1 q => ?_⟩
 exact hs Z1 G1 H1 xw w xv v _ _ h1 (rx.ext hr x1) r1 q fun Z2 G2 H2 z zv x2 h2 r2 q2 => k.nx Z2 G2 H2 _ _ (x1.trans x2) h2 ((e.ext hr (x1.trans x2)).set r2 i) q2
noncomputable abbrev wAddI : RW2 := wII fun i j => .int (i + j)
theorem sim_ip {g : Int → Int → Int} : Sim2 K (ipI g) (wII fun i j => .int (g i j)) := by
 intro Z G H x y v u Qw Q h rx ry t k
 cases rx <;> cases ry <;> first
  | exact False.elim t
  | exact ⟨_, _, rfl, rfl, k.at h .int t⟩
theorem qaugA {i : Nat} {x : Str} {pos' : Pos} (hN : X.N.Nodup) (hi : X.N[i]? = some x) (hx : Loc X.env.scope x := by first | exact Or.inl rfl | exact Or.inr rfl) (he : PEw X e te) (hf : X.fn x = true ∨ X.env.scope.names.lookup x = some .local := by first | exact .inl rfl | exact .inr rfl | assumption) : PSw X (.AugAssign (.Name x pos') .Add e pos) (wAug i te wAddI) := qaug hN hi hx he ip_add sim_ip hf
end
noncomputable def wWhile (ks : List Bool) (c : TTw) (tb : TSw) : TSw := fun D σ G => ∃ P : Nat → SW → Gp → Prop, (∃ m, P m (skill σ ks) G) ∧ ∀ m σ G, P m σ G →
 c σ G fun b G1 => if b = true then tb { nx := fun σ' G' => ∃ m', m' < m ∧ P m' (skill σ' ks) G', ct := fun σ' G' => ∃ m', m' < m ∧ P m' (skill σ' ks) G', bk := D.nx, rt := D.rt, ex := D.ex } σ G1 else D.nx σ G1
section
variable {X : Cx} {K : PySem.W.Frag} {pos : Pos}
theorem lwhile {ks : List Bool} {c : TTw} {tb : TSw} {D : Ends} {σ : SV} {H : Hp} (h : liftS X (wWhile ks c tb) D σ H) : tWhile (liftT X.K c) (liftS X tb) D σ H := by
 obtain ⟨Z, σ', G, Dw, e, hr, ⟨P, ⟨m0, p0⟩, step⟩, k⟩ := h
 refine ⟨fun m σ1 H1 => ∃ Z1 σ1' G1, Ext Z G H Z1 G1 H1 ∧ HRel X.K Z1 G1 H1 ∧ RwS X.K Z1 H1 σ1' σ1 ∧ P m σ1' G1, ⟨m0, Z, _, G, Ext.refl, hr, e.kill ks, p0⟩, ?_⟩
 rintro m σ1 H1 ⟨Z1, σ1', G1, x1, h1, e1, p1⟩
 refine ⟨Z1, σ1', G1, _, e1, h1, step m σ1' G1 p1, fun Z2 G2 H2 b x2 h2 q => ?_⟩
 cases b with
 | false => exact k.nx Z2 G2 H2 _ _ (x1.trans x2) h2 (e1.ext h1 x2) q
 | true =>
  refine iteT ⟨fun σ' H' => ∃ m', m' < m ∧ ∃ Z1 σ1' G1, Ext Z G H Z1 G1 H' ∧ HRel X.K Z1 G1 H' ∧ RwS X.K Z1 H' σ1' σ' ∧ P m' σ1' G1, fun σ' H' n => n, ?_⟩
  refine ⟨Z2, σ1', G2, _, e1.ext h1 x2, h2, q, ⟨fun Z3 G3 H3 s3 t3 x3 h3 e3 q3 => ?_, k.rt.mono (x1.trans x2), k.nx.mono (x1.trans x2), fun Z3 G3 H3 s3 t3 x3 h3 e3 q3 => ?_, k.ex.mono (x1.trans x2)⟩⟩
  ·obtain ⟨m', hm, p3⟩ := q3
   exact ⟨m', hm, Z3, _, G3, (x1.trans x2).trans x3, h3, e3.kill ks, p3⟩
  ·obtain ⟨m', hm, p3⟩ := q3
   exact ⟨m', hm, Z3, _, G3, (x1.trans x2).trans x3, h3, e3.kill ks, p3⟩
theorem qwhile {ks : List Bool} {c : Expr} {body : List Stmt} {tc : TTw} {tb : TSw} (hp : PassesOwn (model X.prog X.w) X.A X.env X.xe) (hc : PTw X c tc) (hb : PSsw X body tb) : PSw X (.While c body [] pos) (wWhile ks tc tb) :=
 PS.imp (ps_while hp hc hb) fun _ _ _ h => lwhile h
end
noncomputable def WalkW (K : PySem.W.Frag) (J : It) (Z : Zp) (G : Gp) (H : Hp) (ws : List W) : Prop := ∃ (Gd : Hp → Prop) (Y : Nat → Hp → V → Hp → Prop), Walk J ws.length Gd Y ∧
 ∀ Z' G' H', Ext Z G H Z' G' H' → HRel K Z' G' H' → Gd H' ∧ ∀ i v H'', i < ws.length → Y i H' v H'' → ∃ w, ws[i]? = some w ∧ Rw K Z' H'' w v ∧ Ext Z' G' H' Z' G' H'' ∧ HRel K Z' G' H''
noncomputable abbrev TIw := SW → Gp → (List W → Gp → Prop) → Prop
noncomputable def liftI (K : PySem.W.Frag) (t : TIw) : TI := fun σ H R => ∃ Z σ' G Rw', RwS K Z H σ' σ ∧ HRel K Z G H ∧ t σ' G Rw' ∧ ∀ Z' G' H' ws J, Ext Z G H Z' G' H' → HRel K Z' G' H' → WalkW K J Z' G' H' ws → Rw' ws G' → R J H'
noncomputable def PIw (X : Cx) (tg iter : Expr) (t : TIw) : Prop := PI X tg iter (liftI X.K t)
noncomputable def forW (ks : List Bool) (g : TGw) (tb : TSw) : List W → TSw
 | [], D, σ, G => D.nx σ G
 | w :: ws, D, σ, G => g w σ G fun σ1 G1 => tb { nx := fun σ2 G2 => forW ks g tb ws D (skill σ2 ks) G2, ct := fun σ2 G2 => forW ks g tb ws D (skill σ2 ks) G2, bk := D.nx, rt := D.rt, ex := D.ex } σ1 G1
noncomputable def wFor (ks : List Bool) (ti : TIw) (g : TGw) (tb : TSw) : TSw := fun D σ G => ti σ G fun ws G1 => forW ks g tb ws D (skill σ ks) G1
section
variable {X : Cx} {K : PySem.W.Frag} {pos : Pos}
theorem PI.imp {tg iter : Expr} {t t' : TI} (h : PI X tg iter t) (i : ∀ σ H R, t' σ H R → t σ H R) : PI X tg iter t' := ⟨fun pins s σ H R I q => h.run pins s σ H R I (i _ _ _ q)⟩
theorem lfor {ks : List Bool} {ti : TIw} {g : TGw} {tb : TSw} {D : Ends} {σ : SV} {H : Hp} (h : liftS X (wFor ks ti g tb) D σ H) : tFor (liftI X.K ti) (liftG X.K g) (liftS X tb) D σ H := by
 obtain ⟨Z, σ', G, Dw, e, hr, t, k⟩ := h
 refine ⟨Z, σ', G, _, e, hr, t, fun Z1 G1 H1 ws J x1 h1 ⟨Gd, Y, wk, hY⟩ t1 => ?_⟩
 refine for_it wk (fun i σ2 H2 => ∃ Z2 σ2' G2, Ext Z1 G1 H1 Z2 G2 H2 ∧ HRel X.K Z2 G2 H2 ∧ RwS X.K Z2 H2 σ2' σ2 ∧ forW ks g tb (ws.drop i) Dw σ2' G2) ?_ ?_ ?_ ?_
 ·exact ⟨Z1, _, G1, Ext.refl, h1, (e.ext hr x1).kill ks, t1⟩
 ·rintro i σ2 H2 _ ⟨Z2, σ2', G2, x2, h2, _, _⟩
  exact (hY Z2 G2 H2 x2 h2).1
 ·rintro i v σ2 H2 H3 hi ⟨Z2, σ2', G2, x2, h2, e2, t2⟩ y
  obtain ⟨w, ew, rw', x3, h3⟩ := (hY Z2 G2 H2 x2 h2).2 i v H3 hi y
  have ed : ws.drop i = w :: ws.drop (i + 1) := by
   obtain ⟨hl, e⟩ := List.getElem?_eq_some_iff.mp ew
   rw [← e]; exact List.drop_eq_getElem_cons hl
  rw [ed] at t2
  refine ⟨Z2, σ2', G2, w, _, e2.ext h2 x3, h3, rw', t2, fun Z4 G4 H4 s4 t4 x4 h4 e4 q4 => ?_⟩
  have x24 := (x2.trans x3).trans x4
  have xx := x1.trans x24
  exact ⟨Z4, s4, G4, _, e4, h4, q4, ⟨fun Z5 G5 H5 s5 t5 x5 h5 e5 q5 => ⟨Z5, _, G5, x24.trans x5, h5, e5.kill ks, q5⟩, k.rt.mono xx, k.nx.mono xx, fun Z5 G5 H5 s5 t5 x5 h5 e5 q5 => ⟨Z5, _, G5, x24.trans x5, h5, e5.kill ks, q5⟩, k.ex.mono xx⟩⟩
 ·rintro σ2 H2 ⟨Z2, σ2', G2, x2, h2, e2, t2⟩
  rw [List.drop_length] at t2
  exact k.nx Z2 G2 H2 _ _ (x1.trans x2) h2 e2 t2
theorem qfor {ks : List Bool} {tg iter : Expr} {body : List Stmt} {ti : TIw} {g : TGw} {tb : TSw} (hp : PassesOwn (model X.prog X.w) X.A X.env X.xe) (hc : X.calm = true) (hi : PIw X tg iter ti) (hg : PGw X tg g) (hb : PSsw X body tb)
  (hs : ∀ x, foldedSetIterable iter X.env x = pure x := by intro _; rfl) : PSw X (.For tg iter body [] pos) (wFor ks ti g tb) := PS.imp (ps_for hp hc hi hg hb hs) fun _ _ _ h => lfor h
variable {tg : Expr} {te : TEw} {ta : TAw}
noncomputable def iSeqW (te : TEw) : TIw := fun σ G R => te σ G fun w G1 => match w with
 | .tup ws => R ws G1
 | .lst ws => R ws G1
 | .scr ws => R ws G1
 | .ref p => isG (G1 p) fun ws => R ws (gdel G1 p)
 | _ => False
noncomputable def iSeq (K : PySem.W.Frag) (tl : TE) : TI := fun σ H R => tl σ H fun x H1 => (∃ a, x = .ref a ∧ (∃ xs, SqL K H1 a xs) ∧ R (Itl K a) H1) ∨ (∃ a, x = .ref a ∧ (∃ xs, SqT K H1 a xs) ∧ R (Itt K a) H1)
theorem pi_seq {l : Expr} {tl : TE} (hl : PE X l tl) : PI X tg l (iSeq X.K tl) := by
 refine ⟨fun pins s σ H R I h => ?_⟩
 have two : ∀ v s1, EP X pins σ (fun x H1 => (∃ a, x = .ref a ∧ (∃ xs, SqL X.K H1 a xs) ∧ R (Itl X.K a) H1) ∨ (∃ a, x = .ref a ∧ (∃ xs, SqT X.K H1 a xs) ∧ R (Itt X.K a) H1)) v s1 →
   EP X pins σ (fun x H1 => ∃ a, x = .ref a ∧ (∃ xs, SqL X.K H1 a xs) ∧ R (Itl X.K a) H1) v s1 ∨ EP X pins σ (fun x H1 => ∃ a, x = .ref a ∧ (∃ xs, SqT X.K H1 a xs) ∧ R (Itt X.K a) H1) v s1 := fun v s1 ⟨x, H1, I1, r1, q⟩ => by
  rcases q with q | q
  ·exact .inl ⟨x, H1, I1, r1, q⟩
  ·exact .inr ⟨x, H1, I1, r1, q⟩
 -- the two rules of the layer, each over an expression that is already evaluated
 refine thn (hl.run pins s σ H _ I h) fun v s1 q => ?_
 rcases two v s1 q with ⟨x, H1, I1, r1, a, rfl, ⟨xs, hq⟩, q1⟩ | ⟨x, H1, I1, r1, a, rfl, ⟨xs, hq⟩, q1⟩
 ·cases r1
  obtain ⟨its, _, pl, _⟩ := I1.list hq
  refine wpAny_pyIter_list pl.isList ⟨_, [s1.heap.objs.size], _, _, H1, rfl, I1.kept (t' := s1.toks) (fun b o e => Heap.get?_push_of_some _ e), turn_list a _, ⟨_, Heap.get?_push_size _ rfl, rfl, rfl⟩, ?_, q1⟩
  intro b hb
  rw [List.mem_singleton.mp hb]
  exact I1.fpOk (Nat.le_refl _) (I1.hok.fresh (Nat.le_refl _))
 ·cases r1
  obtain ⟨its, _, pl, _⟩ := I1.tuple hq
  refine wpAny_pyIter_tuple (show s1.heap.IsTuple a its.toArray from pl) ⟨_, [s1.heap.objs.size], _, _, H1, rfl, I1.kept (t' := s1.toks) (fun b o e => Heap.get?_push_of_some _ e), turn_tuple a _, ⟨_, Heap.get?_push_size _ rfl, rfl, rfl⟩, ?_, q1⟩
  intro b hb
  rw [List.mem_singleton.mp hb]
  exact I1.fpOk (Nat.le_refl _) (I1.hok.fresh (Nat.le_refl _))
theorem walkT {Z : Zp} {G : Gp} {H : Hp} {a : Addr} {ws : List W} {vs : List V} (h : HRel K Z G H) (s : SqT K H a vs) (r : RwL K Z H ws vs) : WalkW K (Itt K a) Z G H ws := by
 refine ⟨_, _, by rw [r.length]; exact walk_tup (K := K) (a := a) (xs := vs), fun Z' G' H' x h' => ⟨SqT.ext h x s, fun i v H'' hi y => ?_⟩⟩
 obtain ⟨rfl, ev⟩ := y
 obtain ⟨w, ew, rw'⟩ := (r.ext h x).get' i ev
 exact ⟨w, ew, rw', Ext.refl, h'⟩
theorem walkL {Z : Zp} {G : Gp} {H : Hp} {a : Addr} {ws : List W} {vs : List V} (h : HRel K Z G H) (z : Z a) (s : H a = some (.lst vs)) (r : RwL K Z H ws vs) : WalkW K (Itl K a) Z G H ws := by
 refine ⟨_, _, by rw [r.length]; exact walk_list (K := K) (a := a) (xs := vs), fun Z' G' H' x h' => ⟨SqL.of (x.f a _ s (h.z a z).1).1, fun i v H'' hi y => ?_⟩⟩
 obtain ⟨rfl, ev⟩ := y
 obtain ⟨w, ew, rw'⟩ := (r.ext h x).get' i ev
 exact ⟨w, ew, rw', Ext.refl, h'⟩
theorem walkS {Z : Zp} {G : Gp} {H : Hp} {a : Addr} {ws : List W} {vs : List V} (h : HRel K Z G H) (s : SqF K H a vs) (r : RwL K Z H ws vs) : WalkW K (Itl K a) Z G H ws := by
 refine ⟨_, _, by rw [r.length]; exact walk_list (K := K) (a := a) (xs := vs), fun Z' G' H' x h' => ⟨(s.ext h x).sq, fun i v H'' hi y => ?_⟩⟩
 obtain ⟨rfl, ev⟩ := y
 obtain ⟨w, ew, rw'⟩ := (r.ext h x).get' i ev
 exact ⟨w, ew, rw', Ext.refl, h'⟩
theorem qiseq {l : Expr} (hl : PEw X l te) : PIw X tg l (iSeqW te) := PI.imp (pi_seq hl) fun σ H R h => by
 obtain ⟨Z, σ', G, Qw, e, hr, t, k⟩ := h
 refine ⟨Z, σ', G, _, e, hr, t, fun Z1 G1 H1 w v x1 h1 r1 t1 => ?_⟩
 cases r1 with
 | tup s r => exact .inr ⟨_, rfl, ⟨_, s⟩, k Z1 G1 H1 _ _ x1 h1 (walkT h1 s r) t1⟩
 | lst z s r => exact .inl ⟨_, rfl, ⟨_, SqL.of s⟩, k Z1 G1 H1 _ _ x1 h1 (walkL h1 z s r) t1⟩
 | scr s r => exact .inl ⟨_, rfl, ⟨_, s.sq⟩, k Z1 G1 H1 _ _ x1 h1 (walkS h1 s r) t1⟩
 | @ref p =>
  obtain ⟨ws, g, q⟩ := isG_ex t1
  obtain ⟨vs, s, r⟩ := h1.lst g
  obtain ⟨h2, x2⟩ := h1.freeze (p := p) (by rw [g]; simp)
  exact .inl ⟨_, rfl, ⟨_, SqL.of s⟩, k _ _ H1 _ _ (x1.trans x2) h2 (walkL h2 (.inr rfl) s (r.ext h1 x2)) q⟩
 | _ => exact False.elim t1
noncomputable def rangeW (lo : Int) (n : Nat) : List W := (List.range n).map fun i => W.int (lo + (i : Nat))
theorem walkR {Z : Zp} {G : Gp} {H : Hp} {lo : Int} {n : Nat} : WalkW K (Itr lo n) Z G H (rangeW lo n) := by
 refine ⟨_, _, by unfold rangeW; rw [List.length_map, List.length_range]; exact walk_range, fun Z' G' H' x h' => ⟨trivial, fun i v H'' hi y => ?_⟩⟩
 obtain ⟨rfl, rfl⟩ := y
 unfold rangeW at hi ⊢
 rw [List.length_map, List.length_range] at hi
 exact ⟨.int (lo + i), by rw [List.getElem?_map, List.getElem?_range hi]; rfl, .int, Ext.refl, h'⟩
noncomputable def rng1 (ws : List W) (G : Gp) (R : List W → Gp → Prop) : Prop := match ws with
 | [.int j] => j < 4611686018427387904 ∧ -4611686018427387904 ≤ j ∧ R (rangeW 0 j.toNat) G
 | _ => False
noncomputable def rng2 (ws : List W) (G : Gp) (R : List W → Gp → Prop) : Prop := match ws with
 | [.int i, .int j] => (-4611686018427387904 ≤ i ∧ i < 4611686018427387904 ∧ -4611686018427387904 ≤ j ∧ j < 4611686018427387904) ∧ R (rangeW i (j - i).toNat) G
 | _ => False
theorem rng1_int {j : Int} {G : Gp} {R : List W → Gp → Prop} : rng1 [.int j] G R = (j < 4611686018427387904 ∧ -4611686018427387904 ≤ j ∧ R (rangeW 0 j.toNat) G) := rfl
theorem rng2_int {i j : Int} {G : Gp} {R : List W → Gp → Prop} : rng2 [.int i, .int j] G R = ((-4611686018427387904 ≤ i ∧ i < 4611686018427387904 ∧ -4611686018427387904 ≤ j ∧ j < 4611686018427387904) ∧ R (rangeW i (j - i).toNat) G) := rfl
noncomputable def iR1 (ta : TAw) : TIw := fun σ G R => ta σ G fun ws G1 => rng1 ws G1 R
noncomputable def iR2 (ta : TAw) : TIw := fun σ G R => ta σ G fun ws G1 => rng2 ws G1 R
theorem qrange1 {a : Expr} {p pos : Pos} (hg : Gl X "range") (hm : X.mg "range" = none) (ha : PAw X [a] ta) (hs : starEach [a] X.env = [(false, eval a X.env)] := by rfl) : PIw X tg (.Call (.Name "range" p) [a] [] pos) (iR1 ta) :=
 PI.imp (pi_range1 hg hm ha hs) fun σ H R h => by
  obtain ⟨Z, σ', G, Qw, e, hr, t, k⟩ := h
  refine ⟨Z, σ', G, _, e, hr, t, fun Z1 G1 H1 ws vs x1 h1 r1 t1 => ?_⟩
  cases r1 with
  | nil => exact False.elim t1
  | cons ra rr =>
   cases rr with
   | cons _ _ => cases ra <;> exact False.elim t1
   | nil => cases ra <;> first
    | exact False.elim t1
    | exact ⟨_, rfl, t1.2.1, t1.1, k Z1 G1 H1 _ _ x1 h1 walkR t1.2.2⟩
theorem qrange2 {a b : Expr} {p pos : Pos} (hg : Gl X "range") (hm : X.mg "range" = none) (ha : PAw X [a, b] ta) (hs : starEach [a, b] X.env = [(false, eval a X.env), (false, eval b X.env)] := by rfl) (hs2 : starEach [b] X.env = [(false, eval b X.env)] := by rfl) :
  PIw X tg (.Call (.Name "range" p) [a, b] [] pos) (iR2 ta) :=
 PI.imp (pi_range2 hg hm ha hs hs2) fun σ H R h => by
  obtain ⟨Z, σ', G, Qw, e, hr, t, k⟩ := h
  refine ⟨Z, σ', G, _, e, hr, t, fun Z1 G1 H1 ws vs x1 h1 r1 t1 => ?_⟩
  cases r1 with
  | nil => exact False.elim t1
  | cons ra rr =>
   cases rr with
   | nil => cases ra <;> exact False.elim t1
   | cons rb rr =>
    cases rr with
    | cons _ _ => cases ra <;> cases rb <;> exact False.elim t1
    | nil => cases ra <;> cases rb <;> first
     | exact False.elim t1
     | exact ⟨_, _, rfl, t1.1, k Z1 G1 H1 _ _ x1 h1 walkR t1.2⟩
end
noncomputable abbrev EXw := Str → List (Str × W) → Gp → Prop
noncomputable abbrev Spw := List W → Gp → QW → EXw → Prop
noncomputable def KXE (K : PySem.W.Frag) (Z : Zp) (G : Gp) (H : Hp) (Ew : EXw) (E : XK) : Prop := ∀ Z' G' H' nm C fs d, Ext Z G H Z' G' H' → HRel K Z' G' H' → ClsA K nm C → ExF K Z' H' fs d → Ew nm fs G' → E (.ref C) d H'
noncomputable def liftSp (K : PySem.W.Frag) (sp : Spw) : Sp := fun vs H Q E => ∃ Z ws G Qw Ew, RwL K Z H ws vs ∧ HRel K Z G H ∧ sp ws G Qw Ew ∧ KE K Z G H Qw Q ∧ KXE K Z G H Ew E
noncomputable def Cl0 (Q : QW) : QW := fun w G => Q w G ∨ ∃ p ws, w = .ref p ∧ G p = some (.lst ws) ∧ Q (.lst ws) (gdel G p)
noncomputable def Cl (Q : QW) : QW := fun w G => Q w G ∨ ∃ ps : List Addr, Cl0 Q w (ps.foldl gdel G)
theorem KE.cl0 {K : PySem.W.Frag} {Z : Zp} {G : Gp} {H : Hp} {Qw : QW} {Q : VK} (k : KE K Z G H Qw Q) : KE K Z G H (Cl0 Qw) Q := by
 intro Z1 G1 H1 w v x1 h1 r1 q
 rcases q with q | ⟨p, ws, rfl, g, q⟩
 ·exact k Z1 G1 H1 w v x1 h1 r1 q
 ·cases r1
  obtain ⟨vs, s, r⟩ := h1.lst g
  obtain ⟨h2, x2⟩ := h1.freeze (p := p) (by rw [g]; simp)
  exact k _ _ H1 (.lst ws) _ (x1.trans x2) h2 (.lst (.inr rfl) s (r.ext h1 x2)) q
theorem KE.drops {K : PySem.W.Frag} {Qw : QW} {Q : VK} : ∀ (ps : List Addr) {Z : Zp} {G : Gp} {H : Hp}, KE K Z G H Qw Q → ∀ Z1 G1 w v, Ext Z G H Z1 G1 H → HRel K Z1 G1 H → Rw K Z1 H w v → Qw w (ps.foldl gdel G1) → Q v H
 | [], Z, G, H, k, Z1, G1, w, v, x1, h1, r1, q => k Z1 G1 H w v x1 h1 r1 q
 | p :: ps, Z, G, H, k, Z1, G1, w, v, x1, h1, r1, q => by
  by_cases c : G1 p = none
  ·have e : gdel G1 p = G1 := by
    funext b; unfold gdel; split
    ·rename_i z; rw [z, c]
    ·rfl
   rw [List.foldl_cons, e] at q
   exact KE.drops ps k Z1 G1 w v x1 h1 r1 q
  ·obtain ⟨h2, x2⟩ := h1.freeze (p := p) c
   exact KE.drops ps k _ _ w v (x1.trans x2) h2 (r1.ext h1 x2) q
theorem KE.cl {K : PySem.W.Frag} {Z : Zp} {G : Gp} {H : Hp} {Qw : QW} {Q : VK} (k : KE K Z G H Qw Q) : KE K Z G H (Cl Qw) Q := by
 intro Z1 G1 H1 w v x1 h1 r1 q
 rcases q with q | ⟨ps, q⟩
 ·exact k Z1 G1 H1 w v x1 h1 r1 q
 ·exact KE.drops ps (k.cl0.mono x1) Z1 G1 w v Ext.refl h1 r1 q
theorem Cl.drop {Q : QW} {w : W} {G : Gp} {p : Addr} {o : GO} (n : G p = none) (q : Q w G) : Cl Q w (gup G p o) := .inr ⟨[p], .inl (by show Q w (gdel (gup G p o) p); rw [gdel_gup n]; exact q)⟩
noncomputable def tellL (ws : List W) (Q : QW) (G : Gp) : Prop := Q (.lst ws) G ∨ ∀ p, G p = none → Q (.ref p) (gup G p (.lst ws))
theorem tellL.cl {ws : List W} {Q : QW} {G : Gp} (h : tellL ws Q G) {p : Addr} (n : G p = none) : Cl Q (.ref p) (gup G p (.lst ws)) := by
 rcases h with h | h
 ·exact .inr ⟨[], .inr ⟨p, ws, rfl, gup_same, by show Q (.lst ws) (gdel (gup G p (.lst ws)) p); rw [gdel_gup n]; exact h⟩⟩
 ·exact .inl (h p n)
structure Cal (P : Program) (w : World) (K : PySem.W.Frag) (mg : Str → Option Value) (base : Heap) (CX : CXT) (k : Nat) (x : Str) (sp : Spw) : Prop where
 ex : ∃ f fd ps, FnOk P w K mg base CX k f fd ps (liftSp K sp) ∧ mg x = some (.ref f) ∧ PySem.W.keepIn K (.ref f) = true ∧ Binds K fd ps []
noncomputable def E0w : EXw := fun _ _ _ => False
noncomputable def wCall (sp : Spw) (t : TAw) : TEw := fun σ G Q => t σ G fun ws G1 => sp ws G1 Q E0w
section
variable {X : Cx} {K : PySem.W.Frag} {x : Str} {p pos : Pos} {e : Expr} {es : List Expr} {t : TAw} {sp : Spw} {k : Nat}
theorem lcall {σ : SV} {H : Hp} {Q : VK} (h : liftE K (wCall sp t) σ H Q) : tCall (liftSp K sp) [] E0 (liftA K t) σ H Q := by
 obtain ⟨Z, σ', G, Qw, e, hr, t, k⟩ := h
 refine ⟨Z, σ', G, _, e, hr, t, fun Z1 G1 H1 ws vs x1 h1 r1 t1 => ?_⟩
 show liftSp K sp (vs ++ []) H1 Q E0
 rw [List.append_nil]
 exact ⟨Z1, ws, G1, Qw, E0w, r1, h1, t1, k.mono x1, fun _ _ _ _ _ _ _ _ _ _ _ z => z.elim⟩
theorem qcall (c : Cal X.prog X.w X.K X.mg X.base CX0 k x sp) (hr : Room k X.A) (hg : Gl X x) (ha : PAw X (e :: es) t) (hdb : (x == ("__debug__" : Str)) = false := by decide)
  (he : starEach (e :: es) X.env = (false, eval e X.env) :: starEach es X.env := by rfl) (hpl : (backTo pos (starEach es X.env)).any (·.1) = false := by rfl) : PEw X (.Call (.Name x p) (e :: es) [] pos) (wCall sp t) := by
 obtain ⟨f, fd, ps, F, m, kp, b⟩ := c.ex
 exact PE.imp (pe_call F hr hg m kp b .nil pass0 ha hdb he hpl) fun _ _ _ h => lcall h
end
section
variable {P : Program} {w : World} {K : PySem.W.Frag} {mg : Str → Option Value} {base : Heap}
theorem okW {x qual : Str} {st : Stmt} {f : Addr} {fd : FuncData} {N ps : List Str} {k : Nat} {sp : Spw} (F : Fun K x qual st f fd) (S : FnScope N ps (defScope st)) (seer : base.NoSeer) (tree : P.given.tree = none) (big : 32 ≤ k) (len : ∀ ws G Q E, sp ws G Q E → ws.length = ps.length)
  (hbody : ∀ (cdv : Value) (A : Around) (outer : List Env) (s : Shared) (H : Hp) (E : XK), Room k (A.deeper (envOfC qual (defScope st) s.heap.objs.size f cdv)) → Deep (cxOf CX0 P w K mg base N qual (defScope st) f cdv A outer s H E).nox →
   ∃ t, PSsw (cxOf CX0 P w K mg base N qual (defScope st) f cdv A outer s H E).nox (defBody st) t ∧ ∀ ws G Q E, sp ws G Q E → t { nx := fun _ G' => Q .non G', rt := Cl Q } (startW N ws) G) :
  FnOk P w K mg base CX0 (k + 1) f fd ps (liftSp K sp) := by
 refine F.ok S (fun vs H Q E h => ?_) fun cdv A outer s H vs Q E hr h => ?_
 ·obtain ⟨Z, ws, G, Qw, Ew, r, _, s, _⟩ := h
  rw [← r.length]
  exact len _ _ _ _ s
 ·obtain ⟨Z, ws, G, Qw, Ew, r, hh, s1, kq, ke⟩ := h
  have dp : Deep (cxOf CX0 P w K mg base N qual (defScope st) f cdv A outer s H E).nox := ⟨seer, tree, by
   have h1 := hr.dp
   have h2 : Builtin.pylongFrames = 100 := rfl
   show (A.deeper (envOfC qual (defScope st) s.heap.objs.size f cdv)).depth + _ < _
   omega, _, _, rfl, S.gen, S.co, rfl, rfl⟩
  obtain ⟨t, ht, q⟩ := hbody cdv A outer s H E hr dp
  exact ⟨_, ht, Z, _, G, _, RwS.start r, hh, q ws G Qw Ew s1, ⟨fun Z1 G1 H1 _ _ x1 h1 _ q1 => kq Z1 G1 H1 _ _ x1 h1 .non q1, kq.cl, fun _ _ _ _ _ _ _ _ z => z.elim, fun _ _ _ _ _ _ _ _ z => z.elim, fun _ _ _ _ _ _ _ _ _ _ _ _ _ _ z => z.elim⟩⟩
theorem okNX {x qual : Str} {st : Stmt} {f : Addr} {fd : FuncData} {N ps : List Str} {k : Nat} {sp : Sp} (F : Fun K x qual st f fd) (S : FnScope N ps (defScope st)) (len : ∀ vs H Q E, sp vs H Q E → vs.length = ps.length)
  (hbody : ∀ (cdv : Value) (A : Around) (outer : List Env) (s : Shared) (H : Hp) (vs : List V) (Q : VK) (E : XK), Room k (A.deeper (envOfC qual (defScope st) s.heap.objs.size f cdv)) → sp vs H Q E →
   ∃ t, PSs (cxOf (L2N.CX P w) P w K mg base N qual (defScope st) f cdv A outer s H E) (defBody st) t ∧ t { nx := fun _ H' => Q .non H', rt := Q } (start N vs) H) : FnOk P w K mg base (L2N.CX P w) (k + 1) f fd ps sp := by
 obtain ⟨oc, od, kV, doc, pm, an, cdv, ct, osl, rfl, lk, hcd⟩ := F.ex
 exact fn_of lk hcd S len fun A outer s H vs Q E hr hsp => hbody cdv A outer s H vs Q E hr hsp
theorem okWX {x qual : Str} {st : Stmt} {f : Addr} {fd : FuncData} {N ps : List Str} {k : Nat} {sp : Spw} (F : Fun K x qual st f fd) (S : FnScope N ps (defScope st)) (seer : base.NoSeer) (tree : P.given.tree = none) (big : 32 ≤ k) (len : ∀ ws G Q E, sp ws G Q E → ws.length = ps.length)
  (hbody : ∀ (cdv : Value) (A : Around) (outer : List Env) (s : Shared) (H : Hp) (E : XK), Room k (A.deeper (envOfC qual (defScope st) s.heap.objs.size f cdv)) → Deep (cxOf (L2N.CX P w) P w K mg base N qual (defScope st) f cdv A outer s H E) →
   PassesOwn (model P w) (A.deeper (envOfC qual (defScope st) s.heap.objs.size f cdv)) (envOfC qual (defScope st) s.heap.objs.size f cdv) (cxOf (L2N.CX P w) P w K mg base N qual (defScope st) f cdv A outer s H E).xe →
   ∃ t, PSsw (cxOf (L2N.CX P w) P w K mg base N qual (defScope st) f cdv A outer s H E) (defBody st) t ∧ ∀ ws G Q E, sp ws G Q E → t { nx := fun _ G' => Q .non G', rt := Cl Q, ex := fun nm fs _ G' => E nm fs G' } (startW N ws) G) :
  FnOk P w K mg base (L2N.CX P w) (k + 1) f fd ps (liftSp K sp) := by
 refine okNX F S (fun vs H Q E h => ?_) fun cdv A outer s H vs Q E hr h => ?_
 ·obtain ⟨Z, ws, G, Qw, Ew, r, _, s, _⟩ := h
  rw [← r.length]
  exact len _ _ _ _ s
 ·obtain ⟨Z, ws, G, Qw, Ew, r, hh, s1, kq, ke⟩ := h
  have dp : Deep (cxOf (L2N.CX P w) P w K mg base N qual (defScope st) f cdv A outer s H E) := ⟨seer, tree, by
   have h1 := hr.dp
   have h2 : Builtin.pylongFrames = 100 := rfl
   show (A.deeper (envOfC qual (defScope st) s.heap.objs.size f cdv)).depth + _ < _
   omega, _, _, rfl, S.gen, S.co, rfl, rfl⟩
  obtain ⟨t, ht, q⟩ := hbody cdv A outer s H E hr dp (passes_of (X := cxOf (L2N.CX P w) P w K mg base N qual (defScope st) f cdv A outer s H E) rfl)
  refine ⟨_, ht, Z, _, G, _, RwS.start r, hh, q ws G Qw Ew s1, ⟨fun Z1 G1 H1 _ _ x1 h1 _ q1 => kq Z1 G1 H1 _ _ x1 h1 .non q1, kq.cl, fun _ _ _ _ _ _ _ _ z => z.elim, fun _ _ _ _ _ _ _ _ z => z.elim, fun Z1 G1 H1 σ' σ nm C fs d x1 h1 r1 c1 f1 q1 => ?_⟩⟩
  exact wish_of (L2N.takes_of (X := cxOf (L2N.CX P w) P w K mg base N qual (defScope st) f cdv A outer s H E) (E := E) rfl rfl rfl rfl) (ke Z1 G1 H1 nm C fs d x1 h1 c1 f1 q1)
end
noncomputable abbrev RWM := W → List W → Gp → QW → Prop
noncomputable def SimM (K : PySem.W.Frag) (r : V → List V → Hp → VK → Prop) (wr : RWM) : Prop := ∀ Z G H x v ws vs Qw Q, HRel K Z G H → Rw K Z H x v → RwL K Z H ws vs → wr x ws G Qw → KE K Z G H Qw Q → r v vs H Q
noncomputable def wBM (wr : RWM) (to : TEw) (t : TAw) : TEw := fun σ G Q => to σ G fun o G1 => (asL G1 o).isSome = true ∧ t σ G1 fun ws G2 => wr o ws G2 Q
noncomputable def wBM0 (wr : RWM) (to : TEw) : TEw := fun σ G Q => to σ G fun o G1 => (asL G1 o).isSome = true ∧ wr o [] G1 Q
section
variable {X : Cx} {K : PySem.W.Frag} {o e : Expr} {es : List Expr} {to : TEw} {t : TAw} {cpos apos : Pos}
theorem lbm {r : V → List V → Hp → VK → Prop} {wr : RWM} (hs : SimM K r wr) {σ : SV} {H : Hp} {Q : VK} (h : liftE K (wBM wr to t) σ H Q) : tBM K "list" r (liftE K to) (liftA K t) σ H Q := by
 obtain ⟨Z, σ', G, Qw, ev, hr, t, k⟩ := h
 refine ⟨Z, σ', G, _, ev, hr, t, fun Z1 G1 H1 w v x1 h1 r1 t1 => ?_⟩
 obtain ⟨eu, t1⟩ := t1
 obtain ⟨us, eu⟩ := Option.isSome_iff_exists.mp eu
 obtain ⟨p, vs, rfl, s, _⟩ := asL_sq h1 r1 eu
 refine ⟨.inl ⟨rfl, vs, s⟩, Z1, σ', G1, _, ev.ext hr x1, h1, t1, fun Z2 G2 H2 ws us x2 h2 r2 t2 => ?_⟩
 exact hs Z2 G2 H2 w _ ws us Qw Q h2 (r1.ext h1 x2) r2 t2 (k.mono (x1.trans x2))
theorem lbm0 {r : V → List V → Hp → VK → Prop} {wr : RWM} (hs : SimM K r wr) {σ : SV} {H : Hp} {Q : VK} (h : liftE K (wBM0 wr to) σ H Q) : tBM0 K "list" r (liftE K to) σ H Q := by
 obtain ⟨Z, σ', G, Qw, ev, hr, t, k⟩ := h
 refine ⟨Z, σ', G, _, ev, hr, t, fun Z1 G1 H1 w v x1 h1 r1 t1 => ?_⟩
 obtain ⟨eu, t1⟩ := t1
 obtain ⟨us, eu⟩ := Option.isSome_iff_exists.mp eu
 obtain ⟨p, vs, rfl, s, _⟩ := asL_sq h1 r1 eu
 exact ⟨.inl ⟨rfl, vs, s⟩, hs Z1 G1 H1 w _ [] [] Qw Q h1 r1 .nil t1 (k.mono x1)⟩
noncomputable def wAppend : RWM := fun o ws G Q => match o, ws with
 | .ref p, [w] => isG (G p) fun us => us.length < sizeLine ∧ Q .non (gup G p (.lst (us ++ [w])))
 | _, _ => False
theorem sim_append : SimM K rAppend wAppend := by
 intro Z G H x v ws vs Qw Q h rx rs t k
 cases rx with
 | @ref p =>
  cases rs with
  | nil => exact False.elim t
  | cons r1 rs =>
   cases rs with
   | cons _ _ => exact False.elim t
   | nil =>
    obtain ⟨us, g, l, q⟩ := isG_ex t
    obtain ⟨xs, s, r⟩ := h.lst g
    obtain ⟨h2, x2⟩ := chg_lst h g (r.append (.cons r1 .nil))
    exact ⟨p, xs, _, rfl, rfl, s, by rw [← r.length]; exact l, k _ _ _ _ _ x2 h2 .non q⟩
 | _ => exact False.elim t
noncomputable def wPop : RWM := fun o ws G Q => match o, ws with
 | .ref p, [] => isG (G p) fun us => isS us[us.length - 1]? fun w => Q w (gup G p (.lst us.dropLast))
 | _, _ => False
theorem sim_pop : SimM K rPop wPop := by
 intro Z G H x v ws vs Qw Q h rx rs t k
 cases rx with
 | @ref p =>
  cases rs with
  | cons _ _ => exact False.elim t
  | nil =>
   obtain ⟨us, g, t⟩ := isG_ex t
   obtain ⟨w, l, q⟩ := isS_ex t
   obtain ⟨xs, s, r⟩ := h.lst g
   obtain ⟨y, ey, ry⟩ := r.get _ l
   obtain ⟨h2, x2⟩ := chg_lst h g r.dropLast
   exact ⟨p, xs, y, rfl, rfl, s, by rw [← r.length]; exact ey, k _ _ _ _ _ x2 h2 (ry.ext h x2) q⟩
 | _ => exact False.elim t
noncomputable def wExtend : RWM := fun o ws G Q => match o, ws with
 | .ref p, [.lst zs] => isG (G p) fun us => us.length + zs.length ≤ sizeLine ∧ Q .non (gup G p (.lst (us ++ zs)))
 | _, _ => False
theorem sim_extend : SimM K rExtend wExtend := by
 intro Z G H x v ws vs Qw Q h rx rs t k
 cases rx with
 | @ref p =>
  cases rs with
  | nil => exact False.elim t
  | cons r1 rs =>
   cases rs with
   | cons _ _ => cases r1 <;> exact False.elim t
   | nil =>
    cases r1 with
    | lst z s1 r1 =>
     obtain ⟨us, g, l, q⟩ := isG_ex t
     obtain ⟨xs, s, r⟩ := h.lst g
     obtain ⟨h2, x2⟩ := chg_lst h g (r.append r1)
     exact ⟨p, _, xs, _, rfl, rfl, s, s1, by rw [← r.length, ← r1.length]; exact l, k _ _ _ _ _ x2 h2 .non q⟩
    | _ => exact False.elim t
 | _ => exact False.elim t
theorem qbm {nm : Str} {id : String} {r : V → List V → Hp → VK → Prop} {wr : RWM} (slot : Slot "list" nm id) (hty : typeOf (.builtin id) = pure (.type "method_descriptor")) (hm : MtR X id r) (hs : SimM X.K r wr) (ho : PEw X o to) (ha : PAw X (e :: es) t)
  (hbase : attributeBase o nm X.env (eval o X.env) = eval o X.env := by rfl)
  (hfew : ((backTo cpos (starEach (e :: es) X.env)).all (fun x => !x.1) && (backToKw cpos (keywordEach [] X.env)).all (fun x => x.1.isSome)
   && decide ((e :: es).length + ([] : List Keyword).length + (if ([] : List Keyword).isEmpty then 0 else 1) < 30)) = true := by rfl)
  (hline : (apos.endLine == cpos.line) = true := by rfl) (h1 : starEach (e :: es) X.env = (false, eval e X.env) :: starEach es X.env := by rfl) (h2 : (backTo cpos (starEach es X.env)).any (·.1) = false := by rfl) :
  PEw X (.Call (.Attribute o nm apos) (e :: es) [] cpos) (wBM wr to t) := PE.imp (pe_bm PySem.F.plainAttrs_list slot hty hm ho ha hbase hfew hline h1 h2) fun _ _ _ h => lbm hs h
end
section
variable {α : Type} {a b c d e f g h : α} {l : List α} {n : Nat}
theorem at0 : atI (a :: l) 0 = some a := atI_nat (j := 0) rfl
theorem at1 : atI (a :: b :: l) 1 = some b := atI_nat (j := 1) rfl
theorem at2 : atI (a :: b :: c :: l) 2 = some c := atI_nat (j := 2) rfl
theorem at3 : atI (a :: b :: c :: d :: l) 3 = some d := atI_nat (j := 3) rfl
theorem at4 : atI (a :: b :: c :: d :: e :: l) 4 = some e := atI_nat (j := 4) rfl
theorem at5 : atI (a :: b :: c :: d :: e :: f :: l) 5 = some f := atI_nat (j := 5) rfl
theorem at6 : atI (a :: b :: c :: d :: e :: f :: g :: l) 6 = some g := atI_nat (j := 6) rfl
theorem at7 : atI (a :: b :: c :: d :: e :: f :: g :: h :: l) 7 = some h := atI_nat (j := 7) rfl
theorem ixK {k : Nat} (h : k < n) : ixN n (k : Int) = some k := by
 unfold ixN
 rw [if_pos (by omega), if_pos (by omega)]
 rfl
theorem ix0 : ixN (n + 1) 0 = some 0 := ixK (k := 0) (by omega)
theorem ix1 : ixN (n + 1 + 1) 1 = some 1 := ixK (k := 1) (by omega)
theorem ix2 : ixN (n + 1 + 1 + 1) 2 = some 2 := ixK (k := 2) (by omega)
theorem ix3 : ixN (n + 1 + 1 + 1 + 1) 3 = some 3 := ixK (k := 3) (by omega)
theorem ix4 : ixN (n + 1 + 1 + 1 + 1 + 1) 4 = some 4 := ixK (k := 4) (by omega)
theorem ix5 : ixN (n + 1 + 1 + 1 + 1 + 1 + 1) 5 = some 5 := ixK (k := 5) (by omega)
theorem at_nat {k : Nat} {v : α} (h : l[k]? = some v) : atI l (k : Int) = some v := atI_nat h
theorem at_in {i : Int} (h0 : 0 ≤ i) (h1 : i < l.length) : ∃ v, atI l i = some v ∧ v ∈ l := by
 obtain ⟨k, rfl⟩ : ∃ k : Nat, i = (k : Int) := ⟨i.toNat, by omega⟩
 have hk : k < l.length := by omega
 exact ⟨l[k], atI_nat (List.getElem?_eq_getElem hk), List.getElem_mem hk⟩
end
section
variable {G : Gp} {Q : QW} {i j : Int} {ws us : List W} {x y : Str} {p : Addr} {a b w : W}
theorem asL_lst : asL G (.lst ws) = some ws := rfl
theorem asL_scr : asL G (.scr ws) = some ws := rfl
theorem asL_ref (h : G p = some (.lst ws)) : asL G (.ref p) = some ws := by simp only [asL, h]
theorem asL_gup : asL (gup G p (.lst ws)) (.ref p) = some ws := asL_ref gup_same
theorem wIx_tup : wIx (.tup ws) (.int i) G Q = isS (atI ws i) fun w => Q w G := rfl
theorem wIx_lst : wIx (.lst ws) (.int i) G Q = isS (atI ws i) fun w => Q w G := rfl
theorem wIx_scr : wIx (.scr ws) (.int i) G Q = isS (atI ws i) fun w => Q w G := rfl
theorem wIx_ref : wIx (.ref p) (.int i) G Q = isS (asL G (.ref p)) fun ws => isS (atI ws i) fun w => Q w G := rfl
theorem wIx_str : wIx (.str x) (.int i) G Q = (x.length ≤ sizeLine ∧ isS (atI x.cps.toList i) fun c => Q (.str ⟨#[c]⟩) G) := rfl
theorem wAdd_int : wAdd (.int i) (.int j) G Q = Q (.int (i + j)) G := rfl
theorem wAdd_str : wAdd (.str x) (.str y) G Q = (x.length + y.length ≤ sizeLine ∧ Q (.str (x ++ y)) G) := rfl
theorem wAdd_tup : wAdd (.tup ws) (.tup us) G Q = (ws.length + us.length ≤ sizeLine ∧ Q (.tup (ws ++ us)) G) := rfl
theorem wAdd_lst : wAdd (.lst ws) (.lst us) G Q = (ws.length + us.length ≤ sizeLine ∧ Q (.lst (ws ++ us)) G) := rfl
theorem wII_int {g : Int → Int → W} : wII g (.int i) (.int j) G Q = Q (g i j) G := rfl
theorem wI2_int {C : Int → Int → Prop} {g : Int → Int → W} : wI2 C g (.int i) (.int j) G Q = (C i j ∧ Q (g i j) G) := rfl
theorem wI1_int {g : Int → W} : wI1 g (.int i) G Q = Q (g i) G := rfl
theorem wI1N_int {g : Int → W} : wI1N g [.int i] G Q = Q (g i) G := rfl
theorem wI2N_int {g : Int → Int → W} : wI2N g [.int i, .int j] G Q = Q (g i j) G := rfl
theorem wLen_tup : wLen [.tup us] G Q = Q (.int us.length) G := rfl
theorem wLen_lst : wLen [.lst us] G Q = Q (.int us.length) G := rfl
theorem wLen_scr : wLen [.scr us] G Q = Q (.int us.length) G := rfl
theorem wLen_ref : wLen [.ref p] G Q = isS (asL G (.ref p)) fun us => Q (.int us.length) G := rfl
theorem wLen_str : wLen [.str x] G Q = (x.length ≤ sizeLine ∧ Q (.int x.length) G) := rfl
theorem wInt_int : wInt [.int i] G Q = Q (.int i) G := rfl
theorem wInt_bl {c : Bool} : wInt [.bl c] G Q = Q (.int (if c then 1 else 0)) G := rfl
theorem wStrI_int : wStrI [.int i] G Q = (i.natAbs.log2 < 1920 ∧ Q (.str (Str.ofString (toString i))) G) := rfl
theorem wEq_int : wEq (.int i) (.int j) G Q = Q (.bl (decide (i = j))) G := rfl
theorem wEq_str : wEq (.str x) (.str y) G Q = Q (.bl (decide (x = y))) G := rfl
theorem wNe_int : wNe (.int i) (.int j) G Q = Q (.bl (!decide (i = j))) G := rfl
theorem wNe_str : wNe (.str x) (.str y) G Q = Q (.bl (!decide (x = y))) G := rfl
theorem wEq_tup : wEq (.tup ws) (.tup us) G Q = (wOk (.tup ws) ∧ wOk (.tup us) ∧ Q (.bl (weqb (.tup ws) (.tup us))) G) := rfl
theorem wNe_tup : wNe (.tup ws) (.tup us) G Q = (wOk (.tup ws) ∧ wOk (.tup us) ∧ Q (.bl (!weqb (.tup ws) (.tup us))) G) := rfl
theorem wEq_lst : wEq (.lst ws) (.lst us) G Q = (wOk (.lst ws) ∧ wOk (.lst us) ∧ Q (.bl (weqb (.lst ws) (.lst us))) G) := rfl
theorem wNe_lst : wNe (.lst ws) (.lst us) G Q = (wOk (.lst ws) ∧ wOk (.lst us) ∧ Q (.bl (!weqb (.lst ws) (.lst us))) G) := rfl
theorem setIx_ref {P : Gp → Prop} : setIx (.ref p) (.int i) w G P = isG (G p) fun ws => isS (ixN ws.length i) fun j => P (gup G p (.lst (ws.set j w))) := rfl
theorem gT_tup {n : Nat} {t : TGsw} {σ : SW} {P : SW → Gp → Prop} : gT n t (.tup ws) σ G P = (ws.length = n ∧ t ws σ G P) := rfl
theorem gT_lst {n : Nat} {t : TGsw} {σ : SW} {P : SW → Gp → Prop} : gT n t (.lst ws) σ G P = (ws.length = n ∧ t ws σ G P) := rfl
theorem gT_ref {n : Nat} {t : TGsw} {σ : SW} {P : SW → Gp → Prop} : gT n t (.ref p) σ G P = isG (G p) fun ws => ws.length = n ∧ t ws σ G P := rfl
theorem gsC_cons {t : TGw} {u : TGsw} {σ : SW} {P : SW → Gp → Prop} : gsC t u (w :: ws) σ G P = t w σ G fun σ1 G1 => u ws σ1 G1 P := rfl
theorem gsN_nil {σ : SW} {P : SW → Gp → Prop} : gsN [] σ G P = P σ G := rfl
theorem wAppend_ref : wAppend (.ref p) [w] G Q = isG (G p) fun us => us.length < sizeLine ∧ Q .non (gup G p (.lst (us ++ [w]))) := rfl
theorem wPop_ref : wPop (.ref p) [] G Q = isG (G p) fun us => isS us[us.length - 1]? fun w => Q w (gup G p (.lst us.dropLast)) := rfl
theorem wExtend_ref : wExtend (.ref p) [.lst ws] G Q = isG (G p) fun us => us.length + ws.length ≤ sizeLine ∧ Q .non (gup G p (.lst (us ++ ws))) := rfl
end
noncomputable def seqOf (w : W) (G : Gp) (R : List W → Gp → Prop) : Prop := match w with
 | .tup ws => R ws G
 | .lst ws => R ws G
 | .scr ws => R ws G
 | .ref p => isG (G p) fun ws => R ws (gdel G p)
 | _ => False
section
variable {G : Gp} {ws : List W} {p : Addr} {R : List W → Gp → Prop}
theorem seqOf_tup : seqOf (.tup ws) G R = R ws G := rfl
theorem seqOf_lst : seqOf (.lst ws) G R = R ws G := rfl
theorem seqOf_scr : seqOf (.scr ws) G R = R ws G := rfl
theorem seqOf_ref : seqOf (.ref p) G R = isG (G p) fun ws => R ws (gdel G p) := rfl
end
theorem log2_lt_pow {m : Nat} {b : Nat} (h : m < 2 ^ b) (h0 : 0 < b) : m.log2 < b := PySem.Flt.log2_lt_of h0 h
theorem cmX {i j : Int} {a b : Nat} (ha : i.natAbs < 2 ^ a) (hb : j.natAbs < 2 ^ b) (h0 : 0 < a) (h1 : 0 < b) (h : a + b ≤ 134217000) : CMulX i j := by
 have x := log2_lt_pow ha h0
 have y := log2_lt_pow hb h1
 unfold CMulX
 omega
theorem cm64 {i j : Int} (h1 : -18446744073709551616 < i ∧ i < 18446744073709551616) (h2 : -18446744073709551616 < j ∧ j < 18446744073709551616) : CMulX i j :=
 cmX (a := 64) (b := 64) (by omega) (by omega) (by decide) (by decide) (by decide)
theorem cp64 {i j : Int} (h1 : -18446744073709551616 < i ∧ i < 18446744073709551616) (h2 : 0 ≤ j ∧ j ≤ 1000000) : CPow i j := ⟨h2.1, h2.2, by omega⟩
theorem fmodP {i j : Int} (h : 0 ≤ j := by decide) : i.fmod j = i % j := Int.fmod_eq_emod_of_nonneg i h
theorem fdivP {i j : Int} (h : 0 ≤ j := by decide) : i.fdiv j = i / j := Int.fdiv_eq_ediv_of_nonneg i h
theorem forW_inv {ks : List Bool} {g : TGw} {tb : TSw} {D : EndsW} (P : SW → Gp → Prop) : ∀ (items : List W) (σ : SW) (G : Gp), P σ G →
  (∀ w ∈ items, ∀ σ G (N : SW → Gp → Prop), P σ G → (∀ σ' G', P (skill σ' ks) G' → N σ' G') → g w σ G fun σ1 G1 => tb { nx := N, ct := N, bk := D.nx, rt := D.rt, ex := D.ex } σ1 G1) →
  (∀ σ G, P σ G → D.nx σ G) → forW ks g tb items D σ G
 | [], σ, G, p, _, hd => hd σ G p
 | w :: ws, σ, G, p, hs, hd => hs w (.head _) σ G _ p fun σ' G' p' => forW_inv P ws _ G' p' (fun w' hw => hs w' (.tail _ hw)) hd
theorem rangeW_mem {lo : Int} {n : Nat} {w : W} (h : w ∈ rangeW lo n) : ∃ i : Nat, i < n ∧ w = .int (lo + i) := by
 unfold rangeW at h
 obtain ⟨i, hi, e⟩ := List.mem_map.mp h
 exact ⟨i, List.mem_range.mp hi, e.symm⟩
noncomputable abbrev bagO (c x : Int) : GO := .lst [.int c, .int x]
noncomputable def sp_ztake : Spw := fun ws G Q _ => ∃ p m c x, ws = [.ref p, .int m] ∧ G p = some (bagO c x) ∧ 0 ≤ c ∧ 0 ≤ x ∧ x < 2147483648 ∧ 0 < m ∧
 ∀ d c' x', 0 ≤ d → d < m → 0 ≤ c' → 0 ≤ x' → x' < 2147483648 → Q (.int d) (gup G p (bagO c' x'))
noncomputable def sp_zbag : Spw := fun ws G Q _ => ∃ (ns : List Int) (k : Int), ws = [.scr (ns.map W.int), .int k] ∧ ns.length ≤ 63 ∧ 0 ≤ k ∧ k < 1000 ∧
 ∀ p c x, G p = none → 0 ≤ c → 0 ≤ x → x < 2147483648 → Q (.ref p) (gup G p (bagO c x))
noncomputable def sp_law : Spw := fun ws _ Q _ => ∃ ns : List Int, ws = [.scr (ns.map W.int)] ∧ ns.length ≤ 63 ∧ ∀ G', Q (.bl true) G'
theorem law_sp {K : PySem.W.Frag} {H : Hp} {a : Addr} {ns : List Int} (hl : ns.length ≤ 63) (hO : Only H) (hS : SqL K H a (ns.map V.int)) : liftSp K sp_law [.ref a] H (fun v _ => v = .bl true) fun _ _ _ => False := by
 have hF : SqF K H a (ns.map V.int) := by
  rcases hS with (hS | ⟨o, hS⟩) | hS
  ·rcases hO a with z | ⟨o, xs, z⟩
   ·rw [z] at hS; cases hS
   ·rw [z] at hS; cases hS
  ·exact .inl ⟨o, hS⟩
  ·exact .inr (.inr hS)
 refine ⟨fun _ => False, [.scr (ns.map W.int)], fun _ => none, fun w _ => w = .bl true, E0w, .cons (.scr hF (RwL.ints ns)) .nil, ⟨fun _ z => z.elim, fun _ _ z => (by cases z)⟩, ⟨ns, rfl, hl, fun _ => rfl⟩, fun Z' G' H' w v _ _ r e => ?_, fun _ _ _ _ _ _ _ _ _ _ _ z => z.elim⟩
 subst e
 cases r
 rfl
inductive Kd where | non | bool | int | str | tuple | list
 deriving DecidableEq
noncomputable def kdName : Kd → String
 | .non => "NoneType" | .bool => "bool" | .int => "int" | .str => "str" | .tuple => "tuple" | .list => "list"
noncomputable def kdIs : Kd → Kd → Bool
 | .bool, .bool => true | .bool, .int => true | .int, .int => true | .str, .str => true | .tuple, .tuple => true | .list, .list => true
 | _, _ => false
theorem kd_kit : ∀ d k : Kd, k ≠ .non → kitB (kdName d) (kdName k) = some (kdIs d k) := by
 intro d k h
 cases d <;> cases k <;> first
  | exact absurd rfl h
  | decide +kernel
noncomputable def wIsi (k : Kd) : W → Gp → QW → Prop := fun x G Q => match x with
 | .non => Q (.bl (kdIs .non k)) G
 | .bl _ => Q (.bl (kdIs .bool k)) G
 | .int _ => Q (.bl (kdIs .int k)) G
 | .str _ => Q (.bl (kdIs .str k)) G
 | .tup _ => Q (.bl (kdIs .tuple k)) G
 | .lst _ => Q (.bl (kdIs .list k)) G
 | .scr _ => Q (.bl (kdIs .list k)) G
 | .ref p => isG (G p) fun _ => Q (.bl (kdIs .list k)) G
 | _ => False
section
variable {k : Kd} {G : Gp} {Q : QW} {b : Bool} {i : Int} {x : Str} {ws : List W} {p : Addr}
theorem wIsi_non : wIsi k .non G Q = Q (.bl (kdIs .non k)) G := rfl
theorem wIsi_bl : wIsi k (.bl b) G Q = Q (.bl (kdIs .bool k)) G := rfl
theorem wIsi_int : wIsi k (.int i) G Q = Q (.bl (kdIs .int k)) G := rfl
theorem wIsi_str : wIsi k (.str x) G Q = Q (.bl (kdIs .str k)) G := rfl
theorem wIsi_tup : wIsi k (.tup ws) G Q = Q (.bl (kdIs .tuple k)) G := rfl
theorem wIsi_lst : wIsi k (.lst ws) G Q = Q (.bl (kdIs .list k)) G := rfl
theorem wIsi_ref : wIsi k (.ref p) G Q = isG (G p) fun _ => Q (.bl (kdIs .list k)) G := rfl
end
noncomputable def wIsiN (k : Kd) : List W → Gp → QW → Prop := fun ws G Q => match ws with
 | [x, .ty n] => n = kdName k ∧ wIsi k x G Q
 | _ => False
section
variable {X : Cx} {K : PySem.W.Frag}
theorem sim_isi {k : Kd} (hk : k ≠ .non) : SimN K (rIsi K) (wIsiN k) := by
 intro Z G H ws vs Qw Q h r t kq
 cases r with
 | nil => exact False.elim t
 | @cons w v ws vs rx rr =>
  cases rr with
  | nil => cases rx <;> exact False.elim t
  | cons ry rr =>
   cases rr with
   | cons _ _ => cases ry <;> exact False.elim t
   | nil =>
    cases ry with
    | @ty n =>
     obtain ⟨rfl, t⟩ := t
     have fin : ∀ d, TyX K H v (.type (kdName d)) → Qw (.bl (kdIs d k)) G → rIsi K [v, .ty (kdName k)] H Q := fun d ty q =>
      ⟨v, _, _, _, _, rfl, .ty _, ty, kit_ty (kd_kit d k hk), kq.at h .bl q⟩
     cases rx with
     | non => exact fin .non (.base .non) t
     | bl => exact fin .bool (.base (.bl _)) t
     | int => exact fin .int (.base (.int _)) t
     | str => exact fin .str (.base (.str _)) t
     | tup s r =>
      refine fin .tuple ?_ t
      rcases s with (s | ⟨o, s⟩) | ⟨o, its, n, e, c, _⟩
      ·exact .base (.tup s)
      ·exact .fTuple s
      ·exact .kTuple e c
     | lst z s r => exact fin .list (.base (.lst s)) t
     | scr s r =>
      refine fin .list ?_ t
      rcases s with ⟨o, s⟩ | (s | ⟨o, s⟩) | ⟨o, its, n, e, c, _⟩
      ·exact .base (.frz s)
      ·cases s
      ·cases s
      ·exact .kList e c
     | @ref p =>
      obtain ⟨us, g, q⟩ := isG_ex t
      obtain ⟨vs, s, _⟩ := h.lst g
      exact fin .list (.base (.lst s)) q
     | _ => exact False.elim t
    | _ => exact False.elim t
variable {e : Expr} {te : TEw} {p p2 pos : Pos}
theorem qisi {k : Kd} {T : Str} (hk : k ≠ .non) (hb : bootBuiltins T = some (.type (kdName k))) (hn : T ≠ "__name__") (hd : (T == ("__debug__" : Str)) = false) (hg : Gl X "isinstance") (hm : X.mg "isinstance" = none) (hg2 : Gl X T) (hm2 : X.mg T = none) (he : PEw X e te)
  (h1 : starEach [e, .Name T p2] X.env = (false, eval e X.env) :: starEach [.Name T p2] X.env := by rfl) (h2 : (backTo pos (starEach [.Name T p2] X.env)).any (·.1) = false := by rfl) (h3 : starEach [.Name T p2] X.env = (false, eval (.Name T p2) X.env) :: starEach [] X.env := by rfl) :
  PEw X (.Call (.Name "isinstance" p) [e, .Name T p2] [] pos) (wUn (wIsi k) te) := by
 have ht : PEw X (.Name T p2) (wC (.ty (kdName k))) := PE.imp (pe_bltn hg2 hm2 hb (show RelV (.ty (kdName k)) (.type (kdName k)) from rfl) hn hd) fun _ _ _ h => lC (fun _ _ => .ty) h
 refine PE.imp (pe_callB call_isi hg hm (by decide +kernel) (qa_cons he (qa_cons ht qa_nil h3) h1) (by decide) (by decide) h1 h2) fun σ H Q h => liftN (sim_isi (k := k) hk) (wr := wIsiN k) ?_
 obtain ⟨Z, σ', G, Qw, ev, hr, t, kk⟩ := h
 exact ⟨Z, σ', G, Qw, ev, hr, (show te σ' G _ from by
  have t' : te σ' G fun x G1 => wIsi k x G1 Qw := t
  simpa only [wCons, wC, wNil, wIsiN, true_and] using t'), kk⟩
end
section
variable {X : Cx} {K : PySem.W.Frag} {a : Expr} {ta : TEw} {pos : Pos}
theorem qtisN {j p2} (ha : PEw X a ta) : PTw X (.Compare a [.Is] [.Constant .none j p2] pos) (wTest (wIsN ta)) := PT.imp (pt_cmpR op_isN ha (pe_non (j := j) (pos := p2)) (nomark _)) fun σ H Q h => by
 obtain ⟨Z, σ', G, Qw, e, hr, t, k⟩ := h
 refine ⟨Z, σ', G, _, e, hr, t, fun Z1 G1 H1 x v x1 h1 r1 t1 => ?_⟩
 obtain ⟨b, eb, q⟩ := t1
 refine ⟨rfl, b, ?_, k Z1 G1 H1 b x1 h1 q⟩
 rw [r1.isNon]
 injection eb with eb
 rw [eb]
theorem qtnotN {j p2} (ha : PEw X a ta) : PTw X (.Compare a [.IsNot] [.Constant .none j p2] pos) (wTest (wNotN ta)) := PT.imp (pt_cmpR op_notN ha (pe_non (j := j) (pos := p2)) (nomark _)) fun σ H Q h => by
 obtain ⟨Z, σ', G, Qw, e, hr, t, k⟩ := h
 refine ⟨Z, σ', G, _, e, hr, t, fun Z1 G1 H1 x v x1 h1 r1 t1 => ?_⟩
 obtain ⟨b, eb, q⟩ := t1
 refine ⟨rfl, b, ?_, k Z1 G1 H1 b x1 h1 q⟩
 rw [r1.isNon]
 injection eb with eb
 rw [eb]
end
noncomputable def wAll : List W → Gp → QW → Prop := fun ws G Q => match ws with
 | [x] => isS (asL G x) fun us => ∃ bs : List Bool, us = bs.map W.bl ∧ Q (.bl (bs.all id)) G
 | _ => False
noncomputable def wTuple : List W → Gp → QW → Prop := fun ws G Q => match ws with
 | [.tup us] => Q (.tup us) G
 | [x] => isS (asL G x) fun us => Q (.tup us) G
 | _ => False
section
variable {K : PySem.W.Frag} {Z : Zp} {H : Hp} {G : Gp} {Q : QW} {us : List W} {p : Addr}
theorem wAll_lst : wAll [.lst us] G Q = ∃ bs : List Bool, us = bs.map W.bl ∧ Q (.bl (bs.all id)) G := rfl
theorem wTuple_tup : wTuple [.tup us] G Q = Q (.tup us) G := rfl
theorem wTuple_lst : wTuple [.lst us] G Q = Q (.tup us) G := rfl
theorem RwL.unbl : ∀ {bs : List Bool} {vs : List V}, RwL K Z H (bs.map W.bl) vs → vs = bs.map V.bl
 | [], _, r => by cases r; rfl
 | b :: bs, _, r => by
  rw [List.map_cons] at r
  cases r with
  | cons r t => cases r; rw [RwL.unbl t]; rfl
theorem sim_all : SimN K (rAll K) wAll := by
 intro Z G H ws vs Qw Q h r t k
 cases r with
 | nil => exact False.elim t
 | cons rx rr =>
  cases rr with
  | cons _ _ => exact False.elim t
  | nil =>
   obtain ⟨us, e, bs, rfl, q⟩ := isS_ex t
   obtain ⟨p, vs, rfl, s, r⟩ := asL_sq h rx e
   cases r.unbl
   exact ⟨p, bs, rfl, s, k.at h .bl q⟩
theorem sim_tuple : SimN K (fun xs H Q => ∃ p ys, xs = [.ref p] ∧ ((SqL K H p ys ∧ ∀ l, H l = none → Q (.ref l) (upd H l (.tup ys))) ∨ (SqT K H p ys ∧ Q (.ref p) H))) wTuple := by
 intro Z G H ws vs Qw Q h r t k
 cases r with
 | nil => exact False.elim t
 | @cons w v ws vs rx rr =>
  cases rr with
  | cons _ _ => cases rx <;> exact False.elim t
  | nil =>
   have gen : (isS (asL G w) fun us => Qw (.tup us) G) → ∃ p ys, [v] = [.ref p] ∧ ((SqL K H p ys ∧ ∀ l, H l = none → Q (.ref l) (upd H l (.tup ys))) ∨ (SqT K H p ys ∧ Q (.ref p) H)) := fun t => by
    obtain ⟨us, e, q⟩ := isS_ex t
    obtain ⟨p, vs, rfl, s, r⟩ := asL_sq h rx e
    refine ⟨p, vs, rfl, .inl ⟨s, fun l n => ?_⟩⟩
    obtain ⟨h2, x2, r2⟩ := new_tup h n r
    exact k _ _ _ _ _ x2 h2 r2 q
   cases rx with
   | tup s r => exact ⟨_, _, rfl, .inr ⟨s, k.at h (.tup s r) t⟩⟩
   | _ => exact gen t
variable {X : Cx} {e : Expr} {es : List Expr} {t : TAw} {p pos : Pos}
theorem qall (hc : X.calm = true) (hg : Gl X "all") (hm : X.mg "all" = none) (ha : PAw X (e :: es) t) (he : starEach (e :: es) X.env = (false, eval e X.env) :: starEach es X.env := by rfl) (hpl : (backTo pos (starEach es X.env)).any (·.1) = false := by rfl) :
  PEw X (.Call (.Name "all" p) (e :: es) [] pos) (wCB wAll t) := PE.imp (pe_callB (cr_all hc) hg hm (by decide +kernel) ha (by decide) (by decide) he hpl) fun _ _ _ h => liftN sim_all h
theorem qtuple (hg : Gl X "tuple") (hm : X.mg "tuple" = none) (ha : PAw X (e :: es) t) (he : starEach (e :: es) X.env = (false, eval e X.env) :: starEach es X.env := by rfl) (hpl : (backTo pos (starEach es X.env)).any (·.1) = false := by rfl) :
  PEw X (.Call (.Name "tuple" p) (e :: es) [] pos) (wCB wTuple t) := PE.imp (pe_callTy call_tuple_of hg hm (by decide +kernel) ha (by decide) (by decide) he hpl) fun _ _ _ h => liftN sim_tuple h
end
end WL
namespace WL
open PySem PySem.Spec PyProof.Rows L2 RZ
noncomputable abbrev TOw := SW → Gp → (Option Int → Gp → Prop) → Prop
noncomputable def liftO (K : PySem.W.Frag) (t : TOw) : TO := fun σ H Q => ∃ Z σ' G Qw, RwS K Z H σ' σ ∧ HRel K Z G H ∧ t σ' G Qw ∧ ∀ Z' G' H' o, Ext Z G H Z' G' H' → HRel K Z' G' H' → Qw o G' → Q o H'
noncomputable def POw (X : Cx) (e : Option Expr) (t : TOw) : Prop := PO X e (liftO X.K t)
noncomputable def wpNone : TOw := fun _ G Q => Q none G
noncomputable def wpSome (t : TEw) : TOw := fun σ G Q => t σ G fun w G1 => match w with
 | .int i => Q (some i) G1
 | _ => False
noncomputable def cutW (xs : List W) (lo hi : Option Int) : List W := (xs.drop (HT.sIx xs.length 0 lo)).take (HT.sIx xs.length xs.length hi - HT.sIx xs.length 0 lo)
noncomputable def wCut (x : W) (lo hi : Option Int) (G : Gp) (Q : QW) : Prop := match x with
 | .tup ws => Q (.tup (cutW ws lo hi)) G
 | .str z => z.length ≤ sizeLine ∧ Q (.str (cutS z lo hi)) G
 | x => isS (asL G x) fun ws => Q (.lst (cutW ws lo hi)) G
noncomputable def wSlice (t : TEw) (lo hi : TOw) : TEw := fun σ G Q => t σ G fun x G1 => lo σ G1 fun l G2 => hi σ G2 fun h G3 => wCut x l h G3 Q
section
variable {K : PySem.W.Frag} {Z : Zp} {G : Gp} {H : Hp} {ws : List W} {lo hi : Option Int} {Q : QW} {p : Addr} {z : Str}
theorem wCut_tup : wCut (.tup ws) lo hi G Q = Q (.tup (cutW ws lo hi)) G := rfl
theorem wCut_lst : wCut (.lst ws) lo hi G Q = Q (.lst (cutW ws lo hi)) G := rfl
theorem wCut_ref : wCut (.ref p) lo hi G Q = isS (asL G (.ref p)) fun ws => Q (.lst (cutW ws lo hi)) G := rfl
theorem wCut_str : wCut (.str z) lo hi G Q = (z.length ≤ sizeLine ∧ Q (.str (cutS z lo hi)) G) := rfl
theorem RwL.cut {vs : List V} (r : RwL K Z H ws vs) : RwL K Z H (cutW ws lo hi) (cutV vs lo hi) := by
 unfold cutW cutV
 rw [← r.length]
 exact (r.drop _).take _
end
section
variable {X : Cx} {K : PySem.W.Frag} {e : Expr} {te : TEw} {lo hi : Option Expr} {tl th : TOw} {pos p2 : Pos}
theorem qp_none : POw X none wpNone := by
 refine ⟨fun pins s σ H Q I h => ?_⟩
 obtain ⟨Z, σ', G, Qw, ev, hr, t, k⟩ := h
 exact po_none.run pins s σ H Q I (k Z G H none Ext.refl hr t)
theorem qp_some (h : PEw X e te) : POw X (some e) (wpSome te) := by
 refine ⟨fun pins s σ H Q I h2 => (po_some h).run pins s σ H Q I ?_⟩
 obtain ⟨Z, σ', G, Qw, ev, hr, t, k⟩ := h2
 refine ⟨Z, σ', G, _, ev, hr, t, fun Z1 G1 H1 w v x1 h1 r1 t1 => ?_⟩
 cases r1 with
 | int => exact ⟨_, rfl, k Z1 G1 H1 _ x1 h1 t1⟩
 | _ => exact False.elim t1
noncomputable def rSlU (K : PySem.W.Frag) : V → Option Int → Option Int → Hp → VK → Prop := fun x lo hi H Q => rSlL K x lo hi H Q ∨ rSlA K x lo hi H Q ∨ rSlS x lo hi H Q
theorem lslice {r : V → Option Int → Option Int → Hp → VK → Prop} {wr : W → Option Int → Option Int → Gp → QW → Prop} {σ : SV} {H : Hp} {Q : VK}
  (hs : ∀ Z G H x v lo hi Qw Q, HRel K Z G H → Rw K Z H x v → wr x lo hi G Qw → KE K Z G H Qw Q → r v lo hi H Q)
  (h : liftE K (fun σ G Q => te σ G fun x G1 => tl σ G1 fun l G2 => th σ G2 fun h G3 => wr x l h G3 Q) σ H Q) : tSl r (liftE K te) (liftO K tl) (liftO K th) σ H Q := by
 obtain ⟨Z, σ', G, Qw, e, hr, t, k⟩ := h
 refine ⟨Z, σ', G, _, e, hr, t, fun Z1 G1 H1 x v x1 h1 r1 t1 => ?_⟩
 refine ⟨Z1, σ', G1, _, e.ext hr x1, h1, t1, fun Z2 G2 H2 l x2 h2 t2 => ?_⟩
 refine ⟨Z2, σ', G2, _, e.ext hr (x1.trans x2), h2, t2, fun Z3 G3 H3 u x3 h3 t3 => ?_⟩
 exact hs Z3 G3 H3 x v l u Qw Q h3 (r1.ext h1 (x2.trans x3)) t3 (k.mono ((x1.trans x2).trans x3))
theorem qslice (he : PEw X e te) (hl : POw X lo tl) (hh : POw X hi th) : PEw X (.Subscript e (.Slice lo hi none p2) pos) (wSlice te tl th) :=
 PE.imp (pe_slice (SlR.or sl_list (SlR.or sl_tupA sl_str)) he hl hh) fun σ H Q h => lslice (wr := wCut) (fun Z G H x v lo hi Qw Q h rx t k => by
  have gen : (isS (asL G x) fun ws => Qw (.lst (cutW ws lo hi)) G) → rSlU X.K v lo hi H Q := fun t => by
   obtain ⟨us, e, q⟩ := isS_ex t
   obtain ⟨p, vs, rfl, s, r⟩ := asL_sq h rx e
   refine .inl ⟨p, vs, rfl, s, fun l n => ?_⟩
   obtain ⟨h2, x2, r2⟩ := new_frz h n (r.cut (lo := lo) (hi := hi))
   exact k _ _ _ _ _ x2 h2 r2 q
  cases rx with
  | @tup p ws vs s r =>
   refine .inr (.inl ⟨_, _, rfl, s, fun hw => ?_, fun _ l n => ?_⟩)
   ·have e : cutW ws lo hi = ws := by
     unfold cutW
     rw [r.length, hw.1, hw.2, List.drop_zero, Nat.sub_zero, ← r.length, List.take_length]
    have t' : Qw (.tup (cutW ws lo hi)) G := t
    rw [e] at t'
    exact k.at h (.tup s r) t'
   ·obtain ⟨h2, x2, r2⟩ := new_tup h n (r.cut (lo := lo) (hi := hi))
    exact k _ _ _ _ _ x2 h2 r2 t
  | str => exact .inr (.inr ⟨_, rfl, t.1, k.at h .str t.2⟩)
  | _ => exact gen t) h
end
noncomputable def flatW : W → Bool
 | .non => true | .bl _ => true | .int _ => true | .str _ => true
 | _ => false
noncomputable def eqW : W → W → Bool
 | .non, .non => true
 | .bl a, .bl b => a == b
 | .bl a, .int b => (if a then 1 else 0) == b
 | .int a, .bl b => a == (if b then 1 else 0)
 | .int a, .int b => a == b
 | .str a, .str b => a == b
 | _, _ => false
noncomputable def inW (x : W) (xs : List W) : Bool := xs.any fun y => eqW y x
noncomputable def seqs (G : Gp) : W → Option (List W)
 | .tup ws => some ws
 | w => asL G w
noncomputable def wIn (neg : Bool) : RW2 := fun x y G Q => isS (seqs G y) fun ws => flatW x = true ∧ ws.all flatW = true ∧ Q (.bl (if neg then !inW x ws else inW x ws)) G
section
variable {X : Cx} {K : PySem.W.Frag} {Z : Zp} {H : Hp}
theorem Rw.flat {w : W} {v : V} (r : Rw K Z H w v) (f : flatW w = true) : flatV v = true := by cases r <;> first | rfl | cases f
theorem RwL.flat : ∀ {ws : List W} {vs : List V}, RwL K Z H ws vs → ws.all flatW = true → vs.all flatV = true
 | _, _, .nil, _ => rfl
 | _, _, .cons r t, f => by
  rw [List.all_cons, Bool.and_eq_true] at f ⊢
  exact ⟨r.flat f.1, RwL.flat t f.2⟩
theorem Rw.eqv {w w' : W} {v v' : V} (r : Rw K Z H w v) (r' : Rw K Z H w' v') (f : flatW w = true) (f' : flatW w' = true) : eqV v v' = eqW w w' := by
 cases r <;> cases r' <;> first | rfl | cases f | cases f'
theorem RwL.inv {w : W} {v : V} (r : Rw K Z H w v) (f : flatW w = true) : ∀ {ws : List W} {vs : List V}, RwL K Z H ws vs → ws.all flatW = true → inV v vs = inW w ws
 | _, _, .nil, _ => rfl
 | _, _, .cons q t, g => by
  rw [List.all_cons, Bool.and_eq_true] at g
  have ih := RwL.inv r f t g.2
  unfold inV inW at ih ⊢
  rw [List.any_cons, List.any_cons, ih, q.eqv r g.1 f]
theorem seqs_sq {G : Gp} (h : HRel K Z G H) {w : W} {v : V} {ws : List W} (r : Rw K Z H w v) (e : seqs G w = some ws) : ∃ p vs, v = .ref p ∧ (SqL K H p vs ∨ SqT K H p vs) ∧ RwL K Z H ws vs := by
 have gen : asL G w = some ws → ∃ p vs, v = .ref p ∧ (SqL K H p vs ∨ SqT K H p vs) ∧ RwL K Z H ws vs := fun e => by
  obtain ⟨p, vs, e1, s, t⟩ := asL_sq h r e
  exact ⟨p, vs, e1, .inl s, t⟩
 cases w with
 | tup us =>
  cases e
  cases r with
  | tup s r => exact ⟨_, _, rfl, .inr s, r⟩
 | _ => exact gen e
theorem sim_in {neg : Bool} : Sim2 K (rIn K neg) (wIn neg) := by
 intro Z G H x y v u Qw Q h rx ry t k
 obtain ⟨ws, e, f, g, q⟩ := isS_ex t
 obtain ⟨p, vs, e1, s, r⟩ := seqs_sq h ry e
 refine ⟨p, vs, e1, s, rx.flat f, r.flat g, ?_⟩
 rw [r.inv rx f g]
 exact k.at h .bl q
variable {a b : Expr} {ta tb : TEw} {pos : Pos}
theorem qin (ha : PEw X a ta) (hb : PEw X b tb) (hm : behindInMarks .In b = false := by rfl) : PEw X (.Compare a [.In] [b] pos) (wOp (wIn false) ta tb) := qcmp op_in_seq sim_in ha hb hm
theorem qtin (ha : PEw X a ta) (hb : PEw X b tb) (hm : behindInMarks .In b = false := by rfl) : PTw X (.Compare a [.In] [b] pos) (wTest (wOp (wIn false) ta tb)) := qtcmp op_in_seq sim_in ha hb hm
theorem qtnin (ha : PEw X a ta) (hb : PEw X b tb) (hm : behindInMarks .NotIn b = false := by rfl) : PTw X (.Compare a [.NotIn] [b] pos) (wTest (wOp (wIn true) ta tb)) := qtcmp op_notIn_seq sim_in ha hb hm
end
section
variable {X : Cx} {K : PySem.W.Frag} {Z : Zp} {H : Hp}
variable {a b : Expr} {ta tb : TEw} {pos : Pos}
end
inductive GlobW (K : PySem.W.Frag) (mg : Str → Option Value) (x : Str) : W → Prop
 | int {i : Int} {t : Tok} : mg x = some (.int i t) → GlobW K mg x (.int i)
 | str {z : Str} {t : Tok} : mg x = some (.str z t) → GlobW K mg x (.str z)
 | tup {a : Addr} {ws : List W} {vs : List V} : mg x = some (.ref a) → SqT K (fun _ => none) a vs → RwL K (fun _ => False) (fun _ => none) ws vs → GlobW K mg x (.tup ws)
mutual
theorem Rw.none {K : PySem.W.Frag} {Z : Zp} {H : Hp} : ∀ {w : W} {v : V}, Rw K (fun _ => False) (fun _ => none) w v → Rw K Z H w v
 | _, _, .non => .non
 | _, _, .bl => .bl
 | _, _, .int => .int
 | _, _, .str => .str
 | _, _, .ref => .ref
 | _, _, .ty => .ty
 | _, _, .tup s r => .tup (by
   rcases s with (s | ⟨o, s⟩) | s
   ·cases s
   ·cases s
   ·exact .inr s) (RwL.none r)
 | _, _, .lst z _ _ => z.elim
 | _, _, .ins _ z _ _ => z.elim
 | _, _, .dic z _ _ => z.elim
 | _, _, .exc0 => .exc0
 | _, _, .dcn z _ _ _ _ _ _ => z.elim
 | _, _, .excF z _ _ => z.elim
 | _, _, .scr s r => .scr (by
   rcases s with ⟨o, s⟩ | s
   ·cases s
   ·exact .inr s) (RwL.none r)
theorem RwL.none {K : PySem.W.Frag} {Z : Zp} {H : Hp} : ∀ {ws : List W} {vs : List V}, RwL K (fun _ => False) (fun _ => none) ws vs → RwL K Z H ws vs
 | _, _, .nil => .nil
 | _, _, .cons r t => .cons (Rw.none r) (RwL.none t)
end
section
variable {X : Cx} {x : Str} {w : W} {pos : Pos}
theorem qglob (hg : Gl X x) (c : GlobW X.K X.mg x w) (hd : (x == ("__debug__" : Str)) = false := by decide) : PEw X (.Name x pos) (wC w) := by
 cases c with
 | @int i t m => exact PE.imp (pe_glob (v := .int i) hg m ⟨_, rfl⟩ hd) fun _ _ _ h => lC (fun _ _ => .int) h
 | @str z t m => exact PE.imp (pe_glob (v := .str z) hg m ⟨_, rfl⟩ hd) fun _ _ _ h => lC (fun _ _ => .str) h
 | @tup a ws vs m s r =>
  refine PE.imp (pe_glob (v := .ref a) hg m rfl hd) fun _ _ _ h => lC (fun Z H => .tup ?_ r.none) h
  rcases s with (s | ⟨o, s⟩) | s
  ·cases s
  ·cases s
  ·exact .inr s
end
section
variable {X : Cx} {K : PySem.W.Frag} {o i e : Expr} {to ti te : TEw} {tpos pos : Pos}
end
noncomputable def tup2 (x y : W) : W := .tup [x, y]
section
variable {X : Cx} {K : PySem.W.Frag} {ta : TAw} {p pos tpos : Pos} {elts : List Expr} {kk : Nat}
end
noncomputable def enumFrom (n : Nat) : List W → List W
 | [] => []
 | w :: ws => tup2 (.int (n : Int)) w :: enumFrom (n + 1) ws
theorem enum_len : ∀ (n : Nat) (ws : List W), (enumFrom n ws).length = ws.length
 | _, [] => rfl
 | n, _ :: ws => by
  show (enumFrom (n + 1) ws).length + 1 = ws.length + 1
  rw [enum_len]
theorem enum_get : ∀ (n : Nat) (ws : List W) (i : Nat), (enumFrom n ws)[i]? = ws[i]?.map fun w => tup2 (.int ((n + i : Nat) : Int)) w
 | _, [], i => by simp [enumFrom]
 | n, w :: ws, 0 => rfl
 | n, w :: ws, i + 1 => by
  show (enumFrom (n + 1) ws)[i]? = ws[i]?.map _
  rw [enum_get (n + 1) ws i, show n + 1 + i = n + (i + 1) by omega]
section
variable {K : PySem.W.Frag} {X : Cx} {ta : TAw} {p pos tpos : Pos} {elts : List Expr} {kk : Nat}
end
noncomputable def wYes : TTw := fun _ G Q => Q true G
noncomputable def swipe (σ : SW) : List Nat → SW
 | [] => σ
 | i :: vs => sforget (swipe σ vs) i
where sforget : SW → Nat → SW
 | [], _ => []
 | _ :: l, 0 => none :: l
 | a :: l, i + 1 => a :: sforget l i
noncomputable def lcW (g : TGw) (tt : TTw) (te : TEw) (σ : SW) : List W → List W → Gp → (List W → Gp → Prop) → Prop
 | [], acc, G, Q => Q acc G
 | w :: ws, acc, G, Q => g w σ G fun σ1 G1 => tt σ1 G1 fun b G2 => if b = true then te σ1 G2 fun y G3 => lcW g tt te σ ws (acc ++ [y]) G3 Q else lcW g tt te σ ws acc G2 Q
noncomputable def wLc (vs : List Nat) (ti : TIw) (g : TGw) (tt : TTw) (te : TEw) : TEw := fun σ G Q => ti σ G fun ws G1 => ws.length ≤ sizeLine ∧ lcW g tt te (swipe σ vs) ws [] G1 fun us G2 => Q (.lst us) G2
noncomputable def wLcM (vs : List Nat) (ti : TIw) (g : TGw) (tt : TTw) (te : TEw) : TEw := fun σ G Q => ti σ G fun ws G1 => ws.length ≤ sizeLine ∧ lcW g tt te (swipe σ vs) ws [] G1 fun us G2 => ∀ p, G2 p = none → Q (.ref p) (gup G2 p (.lst us))
inductive SetsIn (vs : List Nat) (σ : SV) : SV → Prop
 | refl : SetsIn vs σ σ
 | set {τ : SV} {i : Nat} {v : V} : SetsIn vs σ τ → i ∈ vs → SetsIn vs σ (τ.set i (some v))
theorem wipe_set {σ : SV} {i : Nat} {o : Option V} : ∀ {vs : List Nat}, i ∈ vs → L2.wipe (σ.set i o) vs = L2.wipe σ vs
 | [], h => by cases h
 | v :: vs, h => by
  unfold L2.wipe
  by_cases hv : i ∈ vs
  ·rw [wipe_set hv]
  ·have e : i = v := by
    rcases List.mem_cons.mp h with h | h
    ·exact h
    ·exact absurd h hv
   subst e
   have out : ∀ us : List Nat, i ∉ us → L2.wipe (σ.set i o) us = (L2.wipe σ us).set i o := by
    intro us hu
    induction us with
    | nil => rfl
    | cons u us ih =>
     unfold L2.wipe
     rw [ih fun z => hu (.tail _ z), List.set_comm]
     exact fun z => hu (by rw [z]; exact .head _)
   rw [out vs hv, List.set_set]
theorem SetsIn.wipe {vs : List Nat} {σ τ : SV} (h : SetsIn vs σ τ) : L2.wipe τ vs = L2.wipe σ vs := by
 induction h with
 | refl => rfl
 | set _ hi ih => rw [wipe_set hi, ih]
theorem wipe_wipe {σ : SV} : ∀ (vs us : List Nat), (∀ i ∈ us, i ∈ vs) → L2.wipe (L2.wipe σ us) vs = L2.wipe σ vs
 | vs, [], _ => rfl
 | vs, u :: us, h => by
  show L2.wipe ((L2.wipe σ us).set u none) vs = _
  rw [wipe_set (h u (.head _)), wipe_wipe vs us fun i hi => h i (.tail _ hi)]
section
variable {K : PySem.W.Frag} {Z : Zp} {H : Hp} {σ' : SW} {σ : SV}
theorem RwS.forget1 : ∀ {ws : SW} {vs : SV} (i : Nat) (o : Option V), RwS K Z H ws vs → RwS K Z H (swipe.sforget ws i) (vs.set i o)
 | _, _, _, _, .nil => .nil
 | _, _, 0, _, .skip t => .skip t
 | _, _, 0, _, .cons _ t => .skip t
 | _, _, i + 1, o, .skip t => .skip (RwS.forget1 i o t)
 | _, _, i + 1, o, .cons r t => .cons r (RwS.forget1 i o t)
theorem RwS.wipe (h : RwS K Z H σ' σ) : ∀ vs : List Nat, RwS K Z H (swipe σ' vs) (L2.wipe σ vs)
 | [] => h
 | i :: vs => (RwS.wipe h vs).forget1 i none
noncomputable def SimG (K : PySem.W.Frag) (vs : List Nat) (g : TG) (gw : TGw) : Prop := ∀ Z G H σ' σ w v Qw Q, RwS K Z H σ' σ → HRel K Z G H → Rw K Z H w v → gw w σ' G Qw →
 (∀ τ' τ, RwS K Z H τ' τ → SetsIn vs σ τ → Qw τ' G → Q τ H) → g v σ H Q
theorem simg_name {vs : List Nat} {i : Nat} (hi : i ∈ vs) : SimG K vs (gName i) (gN i) := fun Z G H σ' σ w v Qw Q e h r t k => k _ _ (e.set r i) (.set .refl hi) t
noncomputable def SimGs (K : PySem.W.Frag) (vs : List Nat) (g : TGs) (gw : TGsw) : Prop := ∀ Z G H σ' σ ws us Qw Q, RwS K Z H σ' σ → HRel K Z G H → RwL K Z H ws us → gw ws σ' G Qw →
 (∀ τ' τ, RwS K Z H τ' τ → SetsIn vs σ τ → Qw τ' G → Q τ H) → g us σ H Q
theorem simgs_nil {vs : List Nat} : SimGs K vs gNil gsN := fun Z G H σ' σ ws us Qw Q e h r t k => by
 cases r with
 | nil => exact ⟨rfl, k _ _ e .refl t⟩
 | cons _ _ => exact False.elim t
theorem SetsIn.trans {vs : List Nat} {a b c : SV} (h : SetsIn vs a b) (h' : SetsIn vs b c) : SetsIn vs a c := by
 induction h' with
 | refl => exact h
 | set _ hi ih => exact .set ih hi
theorem simgs_cons {vs : List Nat} {i : Nat} {g : TGs} {gw : TGsw} (hi : i ∈ vs) (hg : SimGs K vs g gw) : SimGs K vs (gCons (gName i) g) (gsC (gN i) gw) := fun Z G H σ' σ ws us Qw Q e h r t k => by
 cases r with
 | nil => exact False.elim t
 | cons r rr => exact ⟨_, _, rfl, hg Z G H _ _ _ _ Qw Q (e.set r i) h rr t fun τ' τ e' s q => k τ' τ e' ((SetsIn.set .refl hi).trans s) q⟩
theorem simg_tup {vs : List Nat} {n : Nat} {g : TGs} {gw : TGsw} (hg : SimGs K vs g gw) : SimG K vs (fun v σ H Q => gTup K n g v σ H Q ∨ gLst K n g v σ H Q) (gT n gw) := fun Z G H σ' σ w v Qw Q e h r t k => by
 cases r with
 | tup s r => exact .inl ⟨_, _, rfl, s, by rw [← r.length]; exact t.1, hg Z G H _ _ _ _ Qw Q e h r t.2 k⟩
 | lst z s r => exact .inr ⟨_, _, rfl, SqL.of s, by rw [← r.length]; exact t.1, hg Z G H _ _ _ _ Qw Q e h r t.2 k⟩
 | @ref p =>
  obtain ⟨ws, g, t1, t2⟩ := isG_ex t
  obtain ⟨vs, s, r⟩ := h.lst g
  exact .inr ⟨_, _, rfl, SqL.of s, by rw [← r.length]; exact t1, hg Z G H _ _ _ _ Qw Q e h r t2 k⟩
 | _ => exact False.elim t
end
theorem llc {K : PySem.W.Frag} {vs : List Nat} {ti : TIw} {g : TG} {gw : TGw} {tt : TTw} {te : TEw} (sg : SimG K vs g gw) {σ : SV} {H : Hp} {Q : VK} {fin : List W → Gp → QW → Prop}
  (hfin : ∀ Z0 G0 H0 Z G H us xs D Qw, H0 D = none → Ext Z0 G0 H0 Z G H → HRel K Z G H → RwL K Z H us xs → H D = some (.lst xs) → G D = none → ¬ Z D → fin us G Qw → ∃ Z' G' w, Ext Z0 G0 H0 Z' G' H ∧ HRel K Z' G' H ∧ Rw K Z' H w (.ref D) ∧ Qw w G')
  (h : liftE K (fun σ G Q => ti σ G fun ws G1 => ws.length ≤ sizeLine ∧ lcW gw tt te (swipe σ vs) ws [] G1 fun us G2 => fin us G2 Q) σ H Q) : tLc (liftI K ti) g (liftT K tt) (liftE K te) vs σ H Q := by
 obtain ⟨Z, σ', G, Qw, e, hr, t, k⟩ := h
 refine ⟨Z, σ', G, _, e, hr, t, fun Z1 G1 H1 ws J x1 h1 ⟨Gd, Y, wk, hY⟩ t1 D hD => ?_⟩
 obtain ⟨hl, t1⟩ := t1
 have x0 : Ext Z1 G1 H1 Z1 G1 (upd H1 D (.lst [])) := Ext.laid h1 hD
 have h0 := h1.laid (o := .lst []) hD
 refine lc_it wk (fun i H2 => ∃ Z2 G2 us xs, Ext Z1 G1 H1 Z2 G2 H2 ∧ HRel K Z2 G2 H2 ∧ H2 D = some (.lst xs) ∧ G2 D = none ∧ ¬ Z2 D ∧ RwL K Z2 H2 us xs ∧ us.length ≤ i ∧ lcW gw tt te (swipe σ' vs) (ws.drop i) us G2 fun us G2 => fin us G2 Qw) ?_ ?_ ?_ ?_
 ·exact ⟨Z1, G1, [], [], x0, h0, upd_same, h1.fresh hD, h1.freshZ hD, .nil, Nat.le_refl _, t1⟩
 ·rintro i H2 _ ⟨Z2, G2, us, xs, x2, h2, _⟩
  exact (hY Z2 G2 H2 x2 h2).1
 ·rintro i v H2 H3 hi ⟨Z2, G2, us, xs, x2, h2, eD, gD, zD, rus, lus, t2⟩ y
  obtain ⟨w, ew, rw', x3, h3⟩ := (hY Z2 G2 H2 x2 h2).2 i v H3 hi y
  have ed : ws.drop i = w :: ws.drop (i + 1) := by
   obtain ⟨hl, e⟩ := List.getElem?_eq_some_iff.mp ew
   rw [← e]; exact List.drop_eq_getElem_cons hl
  rw [ed] at t2
  have x23 := x2.trans x3
  have eσ : RwS K Z2 H3 (swipe σ' vs) (L2.wipe σ vs) := (e.ext hr (x1.trans x23)).wipe vs
  refine sg Z2 G2 H3 _ _ w v _ _ eσ h3 rw' t2 fun τ' τ eτ sτ t3 => ⟨?_, ?_⟩
  ·rw [sτ.wipe, wipe_wipe vs vs fun i hi => hi]
  have eD3 := (x3.f D _ eD gD).1
  refine ⟨Z2, τ', G2, _, eτ, h3, t3, fun Z4 G4 H4 b x4 h4 t4 => ?_⟩
  have eD4 := x4.f D _ eD3 gD
  have zD4 : ¬ Z4 D := fun z => zD (x4.n D (by rw [eD3]; simp) gD z)
  have rus4 := (rus.ext h2 x3).ext h3 x4
  cases b with
  | false => exact ⟨Z4, G4, us, xs, x23.trans x4, h4, eD4.1, eD4.2, zD4, rus4, by omega, t4⟩
  | true =>
   refine ⟨Z4, τ', G4, _, eτ.ext h3 x4, h4, t4, fun Z5 G5 H5 yw yv x5 h5 r5 t5 => ?_⟩
   have eD5 := x5.f D _ eD4.1 eD4.2
   have zD5 : ¬ Z5 D := fun z => zD4 (x5.n D (by rw [eD4.1]; simp) eD4.2 z)
   have rus5 := rus4.ext h4 x5
   have kp : Keep Z5 H5 Z5 (upd H5 D (.lst (xs ++ [yv]))) := Keep.hid eD5.1 zD5
   have xx := (x23.trans x4).trans x5
   refine ⟨xs, eD5.1, by rw [← rus.length]; omega, Z5, G5, us ++ [yw], xs ++ [yv], ⟨xx.z, fun p u e' g' => ?_, xx.n⟩, ⟨fun p z => ?_, fun p o g' => ?_⟩, upd_same, eD5.2, zD5, (rus5.append (.cons r5 .nil)).keep kp, by simp; omega, t5⟩
   ·rw [upd_ne (ne_of_none e' hD)]; exact xx.f p u e' g'
   ·have := h5.z p z
    rw [upd_ne (fun c => zD5 (by rw [← c]; exact z))]
    exact this
   ·obtain ⟨u, e', r⟩ := h5.g p o g'
    have c : p ≠ D := fun c => by rw [c, eD5.2] at g'; cases g'
    exact ⟨u, by rw [upd_ne c]; exact e', r.keep kp⟩
 ·rintro H2 ⟨Z2, G2, us, xs, x2, h2, eD, gD, zD, rus, lus, t2⟩
  rw [List.drop_length] at t2
  obtain ⟨Z3, G3, w, x3, h3, r3, q⟩ := hfin Z1 G1 H1 Z2 G2 H2 us xs D Qw hD x2 h2 rus eD gD zD t2
  exact k Z3 G3 H2 w _ (x1.trans x3) h3 r3 q
theorem lc_frz {K : PySem.W.Frag} : ∀ Z0 G0 H0 Z G H us xs D (Qw : QW), H0 D = none → Ext Z0 G0 H0 Z G H → HRel K Z G H → RwL K Z H us xs → H D = some (.lst xs) → G D = none → ¬ Z D → Qw (.lst us) G → ∃ Z' G' w, Ext Z0 G0 H0 Z' G' H ∧ HRel K Z' G' H ∧ Rw K Z' H w (.ref D) ∧ Qw w G' := by
 intro Z0 G0 H0 Z G H us xs D Qw n x h r e g z q
 obtain ⟨h2, kp⟩ := h.frz (p := D) (by rw [e]; simp)
 have e2 : gdel G D = G := by
  funext b; unfold gdel; split
  ·rename_i c; rw [c, g]
  ·rfl
 rw [e2] at h2
 refine ⟨_, G, .lst us, ⟨fun q z => .inl (x.z q z), x.f, fun q e' g' z' => ?_⟩, h2, .lst (.inr rfl) e (r.keep kp), q⟩
 rcases z' with z' | z'
 ·exact x.n q e' g' z'
 ·rw [z'] at e'; exact absurd n e'
theorem lc_mut {K : PySem.W.Frag} : ∀ Z0 G0 H0 Z G H us xs D (Qw : QW), H0 D = none → Ext Z0 G0 H0 Z G H → HRel K Z G H → RwL K Z H us xs → H D = some (.lst xs) → G D = none → ¬ Z D → (∀ p, G p = none → Qw (.ref p) (gup G p (.lst us))) → ∃ Z' G' w, Ext Z0 G0 H0 Z' G' H ∧ HRel K Z' G' H ∧ Rw K Z' H w (.ref D) ∧ Qw w G' := by
 intro Z0 G0 H0 Z G H us xs D Qw n x h r e g z q
 refine ⟨Z, _, .ref D, ⟨x.z, fun p u e' g' => ?_, x.n⟩, h.track e z (.lst r), .ref, q D g⟩
 have c : p ≠ D := ne_of_none e' n
 have y := x.f p u e' g'
 exact ⟨y.1, by rw [gup_ne c]; exact y.2⟩
noncomputable def PTsw (X : Cx) (ifs : List Expr) (t : TTw) : Prop := PTs X ifs (liftT X.K t)
theorem qts_nil {X : Cx} : PTsw X [] wYes := ⟨fun pins s σ H Q I h => by
 obtain ⟨Z, σ', G, Qw, e, hr, t, k⟩ := h
 exact pts_nil.run pins s σ H Q I (k Z G H true Ext.refl hr t)⟩
theorem qts_one {X : Cx} {c : Expr} {t : TTw} (h : PTw X c t) : PTsw X [c] t := pts_one h
structure TgW (X : Cx) (vs : List Nat) (tg : Expr) (scope : Scope) (gw : TGw) : Prop where
 ex : ∃ g, (∀ (s : Shared) (H : Hp) (C : Addr) (cl : List (Str × Addr)) (fp : List Addr), PG (X.blk s H scope (compEnvC scope cl C X.env) fp) tg g) ∧ SimG X.K vs g gw
structure TgsW (X : Cx) (vs : List Nat) (tg : List Expr) (scope : Scope) (gw : TGsw) : Prop where
 ex : ∃ g, (∀ (s : Shared) (H : Hp) (C : Addr) (cl : List (Str × Addr)) (fp : List Addr), PGs (X.blk s H scope (compEnvC scope cl C X.env) fp) tg g) ∧ SimGs X.K vs g gw
section
variable {X : Cx} {vs : List Nat} {scope : Scope} {pos : Pos}
theorem gcN {i : Nat} {x : Str} (hN : X.N.Nodup) (hi : X.N[i]? = some x) (hv : i ∈ vs := by decide) (hx : ∀ (cl : List (Str × Addr)) (C : Addr), L2.Loc (compEnvC scope cl C X.env).scope x := by intro _ _; first | exact Or.inl rfl | exact Or.inr rfl) (hf : ∀ (cl : List (Str × Addr)) (C : Addr), (scope.names.lookup x == some .cell) = true ∨ (compEnvC scope cl C X.env).scope.names.lookup x = some .local := by intro _ _; first | exact .inl rfl | exact .inr rfl) : TgW X vs (.Name x pos) scope (gN i) :=
 ⟨_, fun s H C cl fp => pg_name hN hi (hx cl C) (hf cl C), simg_name hv⟩
theorem lookup_relabel {env : Env} {x : Str} : ∀ (names : List (Str × NameKind)), (names.map fun (n, k) => if (k == NameKind.free && env.scope.kind == .function && env.kindOf n == some .cell) then (n, NameKind.cell) else (n, k)).lookup x = (names.lookup x).map fun k => if (k == NameKind.free && env.scope.kind == .function && env.kindOf x == some .cell) then .cell else k
 | [] => rfl
 | (n, k) :: r => by
  have ih := lookup_relabel (env := env) (x := x) r
  show List.lookup x ((if (k == NameKind.free && env.scope.kind == .function && env.kindOf n == some .cell) = true then (n, NameKind.cell) else (n, k)) :: _) = _
  by_cases c : x = n
  ·subst c
   have e : (x == x) = true := by simp
   split <;> rename_i h
   ·rw [List.lookup_cons, List.lookup_cons]
    dsimp only
    rw [e]
    dsimp only
    rw [Option.map_some, if_pos h]
   ·rw [List.lookup_cons, List.lookup_cons]
    dsimp only
    rw [e]
    dsimp only
    rw [Option.map_some, if_neg h]
  ·have e : (x == n) = false := by simpa using c
   split <;> simp only [List.lookup_cons, e] <;> exact ih
theorem blkOk_nest {N : List Str} {scope1 scope : Scope} {own : List (Str × Nat)} {cl : List (Str × Addr)} {C : Addr} {env : Env} (h : blkC N scope1 scope own = true) : BlkOk N (compEnvC scope1 cl C env).scope scope own := by
 obtain ⟨a, b, c, d, e⟩ := blkOk_by h
 refine ⟨a, b, c, fun y hy z => ?_, e⟩
 have l := lookup_relabel (env := env) (x := y.1) scope1.names
 have l' : (compEnvC scope1 cl C env).scope.names.lookup y.1 = (scope1.names.lookup y.1).map fun k => if (k == NameKind.free && env.scope.kind == .function && env.kindOf y.1 == some .cell) then .cell else k := l
 rw [l']
 rcases d y hy z with q | q
 ·rw [q]; exact .inl rfl
 ·rw [q, Option.map_some]
  split
  ·exact .inl rfl
  ·exact .inr rfl
theorem gcs_nil : TgsW X vs [] scope gsN := ⟨_, fun _ _ _ _ _ => pgs_nil, simgs_nil⟩
theorem gcs_cons {i : Nat} {x : Str} {es : List Expr} {gw : TGsw} (hN : X.N.Nodup) (hi : X.N[i]? = some x) (h2 : TgsW X vs es scope gw) (hv : i ∈ vs := by decide) (hx : ∀ (cl : List (Str × Addr)) (C : Addr), L2.Loc (compEnvC scope cl C X.env).scope x := by intro _ _; first | exact Or.inl rfl | exact Or.inr rfl) (hf : ∀ (cl : List (Str × Addr)) (C : Addr), (scope.names.lookup x == some .cell) = true ∨ (compEnvC scope cl C X.env).scope.names.lookup x = some .local := by intro _ _; first | exact .inl rfl | exact .inr rfl)
  (hs : ∀ (cl : List (Str × Addr)) (C : Addr), (assignEach (.Name x pos :: es) (compEnvC scope cl C X.env)).map (·.2) = assign (.Name x pos) (compEnvC scope cl C X.env) :: (assignEach es (compEnvC scope cl C X.env)).map (·.2) := by intro _ _; rfl) : TgsW X vs (.Name x pos :: es) scope (gsC (gN i) gw) := by
 obtain ⟨g, pg, sg⟩ := h2.ex
 exact ⟨_, fun s H C cl fp => pgs_cons (pg_name hN hi (hx cl C) (hf cl C)) (pg s H C cl fp) (hs cl C), simgs_cons hv sg⟩
theorem gcT {es : List Expr} {k : Nat} {gw : TGsw} {n : Nat} (hc : X.calm = true) (h : TgsW X vs es scope gw) (hn : ∀ (cl : List (Str × Addr)) (C : Addr), (assignEach es (compEnvC scope cl C X.env)).length = n := by intro _ _; rfl)
  (hst : ∀ (cl : List (Str × Addr)) (C : Addr), (assignEach es (compEnvC scope cl C X.env)).findIdx? (·.1) = none := by intro _ _; rfl) : TgW X vs (.Tuple es k pos) scope (gT n gw) := by
 obtain ⟨g, pg, sg⟩ := h.ex
 exact ⟨_, fun s H C cl fp => PG.or (pg_tup (X := X.blk s H scope (compEnvC scope cl C X.env) fp) hc (pg s H C cl fp) (hn cl C) (hst cl C)) (pg_lst (X := X.blk s H scope (compEnvC scope cl C X.env) fp) hc (pg s H C cl fp) (hn cl C) (hst cl C)), simg_tup sg⟩
variable {elt tg iter : Expr} {ifs : List Expr} {own : List (Str × Nat)} {ti : TIw} {gw : TGw} {tt : TTw} {te : TEw}
theorem qlc (hc : X.calm = true) (hN : X.N.Nodup) (hi : PIw X tg iter ti) (ok : BlkOk X.N X.env.scope scope own) (hg : TgW X (own.map (·.2)) tg scope gw)
  (ht : ∀ (s : Shared) (H : Hp) (C : Addr) (cl : List (Str × Addr)) (fp : List Addr), PTsw (X.blk s H scope (compEnvC scope cl C X.env) fp) ifs tt) (he : ∀ (s : Shared) (H : Hp) (C : Addr) (cl : List (Str × Addr)) (fp : List Addr), PEw (X.blk s H scope (compEnvC scope cl C X.env) fp) elt te)
  (hs : ∀ x, foldedSetIterable iter X.env x = pure x := by intro _; rfl) : PEw X (.ListComp elt [⟨tg, iter, ifs, 0⟩] scope pos) (wLc (own.map (·.2)) ti gw tt te) := by
 obtain ⟨g, pg, sg⟩ := hg.ex
 exact PE.imp (pe_lc (tt := liftT X.K tt) (te := liftE X.K te) hc hN hi ok pg ht he hs) fun _ _ _ h => llc (fin := fun us G Q => Q (.lst us) G) sg lc_frz h
theorem qlcM (hc : X.calm = true) (hN : X.N.Nodup) (hi : PIw X tg iter ti) (ok : BlkOk X.N X.env.scope scope own) (hg : TgW X (own.map (·.2)) tg scope gw)
  (ht : ∀ (s : Shared) (H : Hp) (C : Addr) (cl : List (Str × Addr)) (fp : List Addr), PTsw (X.blk s H scope (compEnvC scope cl C X.env) fp) ifs tt) (he : ∀ (s : Shared) (H : Hp) (C : Addr) (cl : List (Str × Addr)) (fp : List Addr), PEw (X.blk s H scope (compEnvC scope cl C X.env) fp) elt te)
  (hs : ∀ x, foldedSetIterable iter X.env x = pure x := by intro _; rfl) : PEw X (.ListComp elt [⟨tg, iter, ifs, 0⟩] scope pos) (wLcM (own.map (·.2)) ti gw tt te) := by
 obtain ⟨g, pg, sg⟩ := hg.ex
 exact PE.imp (pe_lc (tt := liftT X.K tt) (te := liftE X.K te) hc hN hi ok pg ht he hs) fun _ _ _ h => llc (fin := fun us G Q => ∀ p, G p = none → Q (.ref p) (gup G p (.lst us))) sg lc_mut h
variable {j : Nat} {y : Str} {py spos : Pos}
theorem lsetLc {g : TG} {tA : TEw} (hl : ∀ σ H Q, liftE X.K tA σ H Q → tLc (liftI X.K ti) g (liftT X.K tt) (liftE X.K te) (own.map (·.2)) σ H Q) {D : Ends} {σ : SV} {H : Hp} (h : liftS X (wAsg tA (gN j)) D σ H) :
  tAsg (tLc (liftI X.K ti) g (liftT X.K tt) (liftE X.K te) (own.map (·.2))) (gName j) D σ H := by
 obtain ⟨Z, σ', G, Dw, e, hr, t, k⟩ := h
 exact hl _ _ _ ⟨Z, σ', G, _, e, hr, t, fun Z1 G1 H1 w v x1 h1 r1 q => lgN ⟨Z1, σ', G1, w, _, e.ext hr x1, h1, r1, q, k.nx.mono x1⟩⟩
theorem qsetLc (hc : X.calm = true) (hN : X.N.Nodup) (hy : X.N[j]? = some y) (hyl : X.env.scope.names.lookup y = some .local) (hsw : swapsWith (.ListComp elt [⟨tg, iter, ifs, 0⟩] scope pos) (some (.Name y py)) spos.line X.env = pure true) (hi : PIw X tg iter ti) (ok : BlkOk X.N X.env.scope scope own) (hg : TgW X (own.map (·.2)) tg scope gw)
  (ht : ∀ (s : Shared) (H : Hp) (C : Addr) (cl : List (Str × Addr)) (fp : List Addr), PTsw (X.blk s H scope (compEnvC scope cl C X.env) fp) ifs tt) (he : ∀ (s : Shared) (H : Hp) (C : Addr) (cl : List (Str × Addr)) (fp : List Addr), PEw (X.blk s H scope (compEnvC scope cl C X.env) fp) elt te)
  (hs : ∀ x, foldedSetIterable iter X.env x = pure x := by intro _; rfl) : PSw X (.Assign [.Name y py] (.ListComp elt [⟨tg, iter, ifs, 0⟩] scope pos) spos) (wAsg (wLc (own.map (·.2)) ti gw tt te) (gN j)) := by
 obtain ⟨g, pg, sg⟩ := hg.ex
 exact PS.imp (ps_setLc (tt := liftT X.K tt) (te := liftE X.K te) hc hN hy hyl hsw hi ok pg ht he hs) fun _ _ _ h => lsetLc (fun _ _ _ h => llc (fin := fun us G Q => Q (.lst us) G) sg lc_frz h) h
end
end WL
namespace WL
open PySem PySem.Spec PyProof.Rows L2 RZ
section
variable {X : Cx} {K : PySem.W.Frag} {o e : Expr} {es : List Expr} {to : TEw} {t : TAw} {cpos apos : Pos}
theorem qbm0 {nm : Str} {id : String} {r : V → List V → Hp → VK → Prop} {wr : RWM} (slot : Slot "list" nm id) (hty : typeOf (.builtin id) = pure (.type "method_descriptor")) (hm : MtR X id r) (hs : SimM X.K r wr) (ho : PEw X o to)
  (hbase : attributeBase o nm X.env (eval o X.env) = eval o X.env := by rfl) (hline : (apos.endLine == cpos.line) = true := by rfl) :
  PEw X (.Call (.Attribute o nm apos) [] [] cpos) (wBM0 wr to) := PE.imp (pe_bm0 PySem.F.plainAttrs_list slot hty hm ho hbase hline) fun _ _ _ h => lbm0 hs h
noncomputable abbrev wM_append := wAppend
noncomputable abbrev wM_extend := wExtend
noncomputable abbrev wM_pop := wPop
section
variable (ho : PEw X o to) (ha : PAw X (e :: es) t)
  (hbase : ∀ nm, attributeBase o nm X.env (eval o X.env) = eval o X.env := by intro _; rfl)
  (hfew : ((backTo cpos (starEach (e :: es) X.env)).all (fun x => !x.1) && (backToKw cpos (keywordEach [] X.env)).all (fun x => x.1.isSome)
   && decide ((e :: es).length + ([] : List Keyword).length + (if ([] : List Keyword).isEmpty then 0 else 1) < 30)) = true := by rfl)
  (hline : (apos.endLine == cpos.line) = true := by rfl) (h1 : starEach (e :: es) X.env = (false, eval e X.env) :: starEach es X.env := by rfl) (h2 : (backTo cpos (starEach es X.env)).any (·.1) = false := by rfl)
include ho ha hbase hfew hline h1 h2
theorem qm_append : PEw X (.Call (.Attribute o "append" apos) (e :: es) [] cpos) (wBM wM_append to t) := qbm PySem.F.slot_list_append PySem.F.type_list_append mt_append sim_append ho ha (hbase _) hfew hline h1 h2
theorem qm_extend : PEw X (.Call (.Attribute o "extend" apos) (e :: es) [] cpos) (wBM wM_extend to t) := qbm PySem.F.slot_list_extend PySem.F.type_list_extend mt_extend sim_extend ho ha (hbase _) hfew hline h1 h2
end
theorem qm_pop (ho : PEw X o to) (hbase : attributeBase o "pop" X.env (eval o X.env) = eval o X.env := by rfl) (hline : (apos.endLine == cpos.line) = true := by rfl) : PEw X (.Call (.Attribute o "pop" apos) [] [] cpos) (wBM0 wM_pop to) :=
 qbm0 PySem.F.slot_list_pop PySem.F.type_list_pop mt_pop sim_pop ho hbase hline
end
section
variable {K : PySem.W.Frag}
end
section
variable {X : Cx} {scope : Scope} {pos : Pos} {elt tg iter : Expr} {ifs : List Expr} {own : List (Str × Nat)} {t0 : TEw} {gw : TGw} {tt : TTw} {te : TEw}
end
section
variable {X : Cx} {K : PySem.W.Frag} {pos : Pos}
end
noncomputable def wFz (i : Nat) (t : TSw) : TSw := fun D σ G => isS (slot σ i) fun w => match w with
 | .ref p => isG (G p) fun ws => t D (sset σ i (.lst ws)) (gdel G p)
 | _ => t D σ G
theorem qfz {X : Cx} {st : Stmt} {t : TSw} (i : Nat) (h : PSw X st t) : PSw X st (wFz i t) := PS.imp h fun D σ H h => by
 obtain ⟨Z, σ', G, Dw, e, hr, t1, k⟩ := h
 obtain ⟨w, ew, t1⟩ := isS_ex t1
 cases w with
 | ref p =>
  obtain ⟨ws, g, t1⟩ := isG_ex t1
  obtain ⟨v, ev, rv⟩ := e.get i ew
  cases rv
  obtain ⟨vs, s, r⟩ := hr.lst g
  obtain ⟨h2, x2⟩ := hr.freeze (p := p) (by rw [g]; simp)
  have e2 := (e.ext hr x2).set (w := .lst ws) (v := .ref p) (.lst (.inr rfl) s (r.ext hr x2)) i
  have es : σ.set i (some (V.ref p)) = σ := by
   obtain ⟨hl, ee⟩ := List.getElem?_eq_some_iff.mp ev
   rw [← ee]
   exact List.set_getElem_self hl
  rw [es] at e2
  exact ⟨_, _, _, Dw, e2, h2, t1, k.mono x2⟩
 | _ => exact ⟨Z, σ', G, Dw, e, hr, t1, k⟩
noncomputable def fzL : List W → Gp → (List W → Gp → Prop) → Prop
 | [], G, R => R [] G
 | .ref p :: ws, G, R => isG (G p) fun us => fzL ws (gdel G p) fun zs G' => R (.lst us :: zs) G'
 | w :: ws, G, R => fzL ws G fun zs G' => R (w :: zs) G'
theorem fzL_ex {K : PySem.W.Frag} : ∀ {ws : List W} {vs : List V} {Z : Zp} {G : Gp} {H : Hp} {R : List W → Gp → Prop}, HRel K Z G H → RwL K Z H ws vs → fzL ws G R →
  ∃ Z' G' zs, HRel K Z' G' H ∧ Ext Z G H Z' G' H ∧ RwL K Z' H zs vs ∧ R zs G'
 | [], _, Z, G, H, R, h, .nil, t => ⟨Z, G, [], h, Ext.refl, .nil, t⟩
 | w :: ws, _, Z, G, H, R, h, .cons r rr, t => by
  have gen : (fzL ws G fun zs G' => R (w :: zs) G') → ∃ Z' G' zs, HRel K Z' G' H ∧ Ext Z G H Z' G' H ∧ RwL K Z' H zs (_ :: _) ∧ R zs G' := fun t => by
   obtain ⟨Z', G', zs, h', x, r', t'⟩ := fzL_ex h rr t
   exact ⟨Z', G', w :: zs, h', x, .cons (r.ext h x) r', t'⟩
  cases r with
  | @ref p =>
   obtain ⟨us, g, t⟩ := isG_ex t
   obtain ⟨vs, s, rv⟩ := h.lst g
   obtain ⟨h2, x2⟩ := h.freeze (p := p) (by rw [g]; simp)
   obtain ⟨Z', G', zs, h', x, r', t'⟩ := fzL_ex h2 (rr.ext h x2) t
   exact ⟨Z', G', .lst us :: zs, h', x2.trans x, .cons ((Rw.lst (.inr rfl) s (rv.ext h x2)).ext h2 x) r', t'⟩
  | non => exact gen t
  | bl => exact gen t
  | int => exact gen t
  | str => exact gen t
  | tup s r => exact gen t
  | lst z e r => exact gen t
  | scr s r => exact gen t
  | ty => exact gen t
  | ins c z e r => exact gen t
  | dic z e r => exact gen t
  | exc0 => exact gen t
  | dcn _ _ _ _ _ _ _ => exact gen t
  | excF z e r => exact gen t
noncomputable def wFzN (i : Nat) (t : TSw) : TSw := fun D σ G => isS (slot σ i) fun w => match w with
 | .lst ws => fzL ws G fun zs G' => t D (sset σ i (.lst zs)) G'
 | _ => t D σ G
theorem qfzN {X : Cx} {st : Stmt} {t : TSw} (i : Nat) (h : PSw X st t) : PSw X st (wFzN i t) := PS.imp h fun D σ H h => by
 obtain ⟨Z, σ', G, Dw, e, hr, t1, k⟩ := h
 obtain ⟨w, ew, t1⟩ := isS_ex t1
 cases w with
 | lst ws =>
  obtain ⟨v, ev, rv⟩ := e.get i ew
  cases rv with
  | @lst p _ vs z s r =>
   obtain ⟨Z', G', zs, h', x, r', t'⟩ := fzL_ex hr r t1
   have e2 := (e.ext hr x).set (w := .lst zs) (v := .ref p) (.lst (x.z p z) s r') i
   have es : σ.set i (some (V.ref p)) = σ := by
    obtain ⟨hl, ee⟩ := List.getElem?_eq_some_iff.mp ev
    rw [← ee]
    exact List.set_getElem_self hl
   rw [es] at e2
   exact ⟨_, _, _, Dw, e2, h', t', k.mono x⟩
 | _ => exact ⟨Z, σ', G, Dw, e, hr, t1, k⟩
theorem RwL.range {K : PySem.W.Frag} {Z : Zp} {H : Hp} {n : Int} : RwL K Z H (rangeW 0 n.toNat) (rgV 0 n) := by
 unfold rangeW rgV
 rw [Int.sub_zero]
 generalize List.range n.toNat = xs
 induction xs with
 | nil => exact .nil
 | cons x xs ih => exact .cons .int ih
section
variable {X : Cx} {K : PySem.W.Frag} {e : Expr} {te : TEw} {p p2 pos pos2 : Pos}
end
theorem wTuple_ref {p : Addr} {G : Gp} {Q : QW} : wTuple [.ref p] G Q = isS (asL G (.ref p)) fun us => Q (.tup us) G := rfl
section
variable {X : Cx} {K : PySem.W.Frag} {a b o : Expr} {ta tb to : TEw} {pos apos cpos : Pos}
end
section
variable {K : PySem.W.Frag}
end
section
variable {X : Cx} {scope : Scope} {pos : Pos} {elt tg iter : Expr} {ifs : List Expr} {own : List (Str × Nat)} {t0 : TEw} {gw : TGw} {tt : TTw} {te : TEw}
end
noncomputable def wAddM : RW2 := fun x y G Q => match x, y with
 | .lst a, .lst b => a.length + b.length ≤ sizeLine ∧ ∀ p, G p = none → Q (.ref p) (gup G p (.lst (a ++ b)))
 | _, _ => False
theorem wAddM_lst {a b : List W} {G : Gp} {Q : QW} : wAddM (.lst a) (.lst b) G Q = (a.length + b.length ≤ sizeLine ∧ ∀ p, G p = none → Q (.ref p) (gup G p (.lst (a ++ b)))) := rfl
theorem sim_addM {K : PySem.W.Frag} : Sim2 K rCat wAddM := by
 intro Z G H x y v u Qw Q h rx ry t k
 cases rx with
 | @lst p a vs z1 s1 r1 =>
  cases ry with
  | @lst p2 b us z2 s2 r2 =>
   refine ⟨_, _, vs, us, rfl, rfl, s1, s2, by rw [← r1.length, ← r2.length]; exact t.1, fun q n => ?_⟩
   obtain ⟨g, h2, x2⟩ := new_lst h n (r1.append r2)
   exact k _ _ _ _ _ x2 h2 .ref (t.2 q g)
  | _ => exact False.elim t
 | _ => exact False.elim t
theorem qaddM {X : Cx} {a b : Expr} {ta tb : TEw} {pos : Pos} (ha : PEw X a ta) (hb : PEw X b tb) : PEw X (.BinOp a .Add b pos) (wOp wAddM ta tb) := qop op_cat sim_addM ha hb
end WL
namespace WL
open PySem PySem.Spec PyProof.Rows L2
noncomputable def SqK (K : PySem.W.Frag) : Bool → Hp → Addr → List V → Prop
 | true => SqL K
 | false => SqT K
noncomputable def ItK : Bool → Heap → Addr → Addr → Nat → Prop
 | true => fun h it a i => h.IsListIter it a i
 | false => fun h it a i => h.IsTupleIter it a i
noncomputable def SeqK : Bool → Heap → Addr → Array Value → Prop
 | true => fun h a its => h.IsList a its
 | false => fun h a its => h.IsTuple a its
noncomputable def oK : Bool → Addr → Obj
 | true => fun a => { cls := .type "list_iterator", data := .fields #[.ref a, .int 0 0] }
 | false => fun a => { cls := .type "tuple_iterator", data := .fields #[.ref a, .int 0 0] }
theorem drawsK {P : Program} {w : World} {A : Around} (hh : A.handled = none) (k : Bool) (it a : Addr) (hne : a ≠ it) (items : Array Value) :
  Draws P w A it [it, a] items.size (fun i v => items[i]? = some v) (fun i h => ItK k h it a i ∧ SeqK k h a items) := by
 cases k with
 | true => exact Draws.list hh it a hne items
 | false => exact Draws.tuple hh it a hne items
theorem beginsK (k : Bool) (a : Addr) (items : Array Value) : Begins (.ref a) (oK k a) (fun h => SeqK k h a items) := by
 cases k with
 | true => exact begins_list a items
 | false => exact begins_tuple a items
theorem itK_new {k : Bool} {h : Heap} {it a : Addr} (e : h.get? it = some (oK k a)) : ItK k h it a 0 := by
 cases k with
 | true => exact ⟨_, e, rfl, rfl⟩
 | false => exact ⟨_, e, rfl, rfl⟩
theorem itK_obj {k : Bool} {h : Heap} {it a : Addr} {i : Nat} (q : ItK k h it a i) : ∃ o, h.get? it = some o ∧ ∀ v, o.data ≠ .cell v := by
 cases k with
 | true => obtain ⟨o, e, _, d⟩ := q; exact ⟨o, e, fun v z => by rw [d] at z; cases z⟩
 | false => obtain ⟨o, e, _, d⟩ := q; exact ⟨o, e, fun v z => by rw [d] at z; cases z⟩
theorem itK_keep {k : Bool} {h h' : Heap} {it a : Addr} {i : Nat} (q : ItK k h it a i) (e : ∀ o, h.get? it = some o → h'.get? it = some o) : ItK k h' it a i := by
 cases k with
 | true => exact Heap.IsListIter.at q e
 | false => exact Heap.IsTupleIter.at q e
section
variable {X : Cx} {pins : List (Addr × Obj)} {σ : L2.St} {H : Hp} {s : Shared} {a : Addr} {xs ys : List V}
theorem Inv.sqk (I : Inv X pins σ H s) {k : Bool} (h : SqK X.K k H a xs) : ∃ its : List Value, Vals xs its ∧ SeqK k s.heap a its.toArray ∧ a < s.heap.objs.size := by
 cases k with
 | true =>
  obtain ⟨its, rv, p, _⟩ := I.list h
  exact ⟨its, rv, p.isList, p.lt⟩
 | false =>
  obtain ⟨its, rv, p, _⟩ := I.tuple h
  obtain ⟨o, ho, _⟩ := id p
  exact ⟨its, rv, p, Heap.lt_size ho⟩
theorem Inv.sqk_inj (I : Inv X pins σ H s) {k : Bool} (h : SqK X.K k H a xs) (h' : SqK X.K k H a ys) : xs = ys := by
 cases k with
 | true => exact I.list_inj h h'
 | false => exact I.tuple_inj h h'
end
noncomputable def ItzG (K : PySem.W.Frag) (k1 k2 : Bool) (a b : Addr) : It :=
 ⟨fun i H => ∃ (xs ys : List V) (x y : V), SqK K k1 H a xs ∧ SqK K k2 H b ys ∧ xs[i]? = some x ∧ ys[i]? = some y,
  fun i H v H' => ∃ T x y, v = .ref T ∧ H T = none ∧ H' = upd H T (.tup [x, y]) ∧ (∀ xs, SqK K k1 H a xs → xs[i]? = some x) ∧ ∀ ys, SqK K k2 H b ys → ys[i]? = some y,
  fun i H => ∃ xs ys : List V, SqK K k1 H a xs ∧ SqK K k2 H b ys ∧ i ≤ xs.length ∧ i ≤ ys.length ∧ (i = xs.length ∨ i = ys.length)⟩
theorem turn_zipG {P : Program} {w : World} {K : PySem.W.Frag} {elts : List Expr} {kk : Nat} {tpos : Pos} {k1 k2 : Bool} {a b z TI TO i1 i2 : Addr} (D : ZipSep2 z TI TO i1 i2 [i1, a] [i2, b]) (n1 : a ≠ i1) (n2 : b ≠ i2) :
  Turn P w K (.Tuple elts kk tpos) (ItzG K k1 k2 a b) [z, TI, TO, i1, i2] z (fun i h => IsZip h z TI TO .none ∧ IsTupOf2 h TI (.ref i1) (.ref i2) ∧ (∃ x y, IsTupOf2 h TO x y) ∧ ItK k1 h i1 a i ∧ ItK k2 h i2 b i) where
 mem := by simp
 obj := fun i h st d hd => by
  obtain ⟨hz, hTI, ⟨x, y, hTO⟩, h1, h2⟩ := st
  have e' : d = z ∨ d = TI ∨ d = TO ∨ d = i1 ∨ d = i2 := by simpa using hd
  rcases e' with q | q | q | q | q
  ·rw [q]; exact ⟨_, hz, fun v q => nomatch q⟩
  ·rw [q]; exact ⟨_, hTI, fun v q => nomatch q⟩
  ·rw [q]; exact ⟨_, hTO, fun v q => nomatch q⟩
  ·rw [q]; exact itK_obj h1
  ·rw [q]; exact itK_obj h2
 keep := fun i h h' st k => by
  obtain ⟨hz, hTI, ⟨x, y, hTO⟩, h1, h2⟩ := st
  exact ⟨k z (by simp) _ hz, k TI (by simp) _ hTI, ⟨x, y, k TO (by simp) _ hTO⟩, itK_keep h1 fun o q => k i1 (by simp) o q, itK_keep h2 fun o q => k i2 (by simp) o q⟩
 item := by
  intro X hP hw hK hc i pins s σ H E I hf st hg
  subst hP hw hK
  obtain ⟨hz, hTI, ⟨x0, y0, hTO⟩, h1, h2⟩ := st
  obtain ⟨xs, ys, x, y, q1, q2, g1, g2⟩ := hg
  obtain ⟨t1, rv1, p1, _⟩ := Inv.sqk I q1
  obtain ⟨t2, rv2, p2, _⟩ := Inv.sqk I q2
  obtain ⟨u1, hu1, ru1⟩ := rv1.get g1
  obtain ⟨u2, hu2, ru2⟩ := rv2.get g2
  have hzl : z < s.heap.objs.size := Heap.lt_size hz
  have hh := I.ok.hd hc
  have D1 := drawsK (P := X.prog) (w := X.w) (A := X.A.in1) hh k1 i1 a n1 t1.toArray
  have l1 : i < t1.toArray.size := by obtain ⟨z, _⟩ := List.getElem?_eq_some_iff.mp hu1; simpa using z
  have D2 := drawsK (P := X.prog) (w := X.w) (A := X.A.in1) hh k2 i2 b n2 t2.toArray
  have l2 : i < t2.toArray.size := by obtain ⟨z, _⟩ := List.getElem?_eq_some_iff.mp hu2; simpa using z
  refine wpAny_pyNext_zipD2_item D D1 D2 hz hTI hTO ⟨h1, p1⟩ ⟨h2, p2⟩ l1 l2 fun x1 x2 h' tk y1 y2 z' TO' s1 s2 hT hsz hk => ?_
  have e1 : x1 = u1 := by rw [show t1.toArray[i]? = t1[i]? by simp, hu1] at y1; injection y1 with y1; exact y1.symm
  have e2 : x2 = u2 := by rw [show t2.toArray[i]? = t2[i]? by simp, hu2] at y2; injection y2 with y2; exact y2.symm
  subst e1 e2
  refine ⟨_, rfl, wpAny_letOwnedTupleGo_zip (s := { s with heap := h', toks := tk }) z' fun h'' z'' sb => ?_⟩
  have hT2 : h''.get? s.heap.objs.size = some { cls := .type "tuple", data := .seq #[x1, x2] } := (sb.2 _ (Nat.ne_of_gt hzl)).trans hT
  have new : ObjOk X.prog X.w (upd H s.heap.objs.size (.tup [x, y])) h'' s.heap.objs.size (.tup [x, y]) :=
   ⟨by show 2 ≤ sizeLine; decide, [x1, x2], (.cons ru1 (.cons ru2 .nil)), ⟨_, hT2, rfl, _, rfl⟩⟩
  have I1 : Inv X pins σ (upd H s.heap.objs.size (.tup [x, y])) { s with heap := h'', toks := tk } :=
   I.turnedNew (ch := [z, TI, TO, i1, i2]) (fun c o hb q => (sb.2 c (fun q' => hb (by simp [q']))).trans (hk c o (fun q' => hb (by simp [q'])) (fun q' => hb (by simp [q'])) (fun q' => hb (by simp [q'])) (fun q' => hb (by simp [q'])) q)) hf (Nat.le_refl _) new
  refine ⟨.ref s.heap.objs.size, _, I1, rfl, ⟨_, x, y, rfl, I.hok.fresh (Nat.le_refl _), rfl, fun l hl => by rw [Inv.sqk_inj I hl q1]; exact g1, fun l hl => by rw [Inv.sqk_inj I hl q2]; exact g2⟩, ⟨z'', ?_, ⟨x1, x2, ?_⟩, ?_, ?_⟩, fun d hcm => ?_⟩
  ·exact (sb.2 _ D.TIz).trans (hk _ _ D.TIz D.TITO D.TIi1 D.TIi2 hTI)
  ·exact (sb.2 _ D.TOz).trans TO'
  ·exact itK_keep s1.1 fun o q => (sb.2 _ (Ne.symm D.zi1)).trans q
  ·exact itK_keep s2.1 fun o q => (sb.2 _ (Ne.symm D.zi2)).trans q
  ·have hlt : d < s.heap.objs.size := by
    have e' : d = z ∨ d = TI ∨ d = TO ∨ d = i1 ∨ d = i2 := by simpa using hcm
    rcases e' with q | q | q | q | q
    ·rw [q]; exact hzl
    ·rw [q]; exact Heap.lt_size hTI
    ·rw [q]; exact Heap.lt_size hTO
    ·rw [q]; obtain ⟨_, e1, _⟩ := itK_obj h1; exact Heap.lt_size e1
    ·rw [q]; obtain ⟨_, e1, _⟩ := itK_obj h2; exact Heap.lt_size e1
   rw [upd_ne (Nat.ne_of_lt hlt)]
   exact (hf d hcm).1
 done := by
  intro X hP hw hK hc i pins s σ H E I hf st hg
  subst hP hw hK
  obtain ⟨hz, hTI, ⟨x0, y0, hTO⟩, h1, h2⟩ := st
  obtain ⟨xs, ys, q1, q2, g1, g2, hend⟩ := hg
  obtain ⟨t1, rv1, p1, _⟩ := Inv.sqk I q1
  have e1 := rv1.length
  obtain ⟨t2, rv2, p2, _⟩ := Inv.sqk I q2
  have e2 := rv2.length
  have hh := I.ok.hd hc
  have D1 := drawsK (P := X.prog) (w := X.w) (A := X.A.in1) hh k1 i1 a n1 t1.toArray
  have D2 := drawsK (P := X.prog) (w := X.w) (A := X.A.in1) hh k2 i2 b n2 t2.toArray
  refine wpAny_pyNext_zipD2_end D D1 D2 hz hTI hTO ⟨h1, p1⟩ ⟨h2, p2⟩ (by simp only [List.size_toArray]; omega) (by simp only [List.size_toArray]; omega) (by simp only [List.size_toArray]; omega) fun h' tk hk => ⟨rfl, I.turnedL (ch := [z, TI, TO, i1, i2]) (fun c o hb q => hk c o (fun q' => hb (by simp [q'])) (fun q' => hb (by simp [q'])) (fun q' => hb (by simp [q'])) (fun q' => hb (by simp [q'])) q) hf⟩
 self := fun A i s Q E st h => wpAny_pyIter_zip st.1 h
noncomputable def iZipG (K : PySem.W.Frag) (ta : TA) : TI := fun σ H R => ta σ H fun vs H1 => ∃ k1 k2 a b xs ys, vs = [.ref a, .ref b] ∧ SqK K k1 H1 a xs ∧ SqK K k2 H1 b ys ∧ R (ItzG K k1 k2 a b) H1
theorem pi_zipG {X : Cx} {e e2 : Expr} {ta : TA} {p pos tpos : Pos} {elts : List Expr} {kk : Nat} (hg : Gl X "zip") (hm : X.mg "zip" = none) (ha : PA X [e, e2] ta)
  (hs : starEach [e, e2] X.env = (false, eval e X.env) :: starEach [e2] X.env := by rfl) (hpl : (backTo pos (starEach [e2] X.env)).any (·.1) = false := by rfl) :
  PI X (.Tuple elts kk tpos) (.Call (.Name "zip" p) [e, e2] [] pos) (iZipG X.K ta) := by
 refine ⟨fun pins s σ H R I h => ?_⟩
 refine Call_ (ld_blt I hg hm PyProof.Rows.boot_zip (PyProof.Rows.callWith_type1 (thn (ha.run pos pins s σ H _ I h) fun us s1 ⟨vs, H1, I1, r1, q1⟩ => ?_) hs hpl))
 obtain ⟨k1, k2, a, b, xs, ys, ex, q1, q2, q⟩ := q1
 subst ex
 cases r1 with
 | cons r1' r1 =>
  cases r1 with
  | cons r2' r1 =>
   cases r1
   cases r1'
   cases r2'
   obtain ⟨t1, rv1, p1, lt1⟩ := Inv.sqk I1 q1
   obtain ⟨t2, rv2, p2, lt2⟩ := Inv.sqk I1 q2
   refine zip_begins2 (beginsK k1 a t1.toArray) (beginsK k2 b t2.toArray) p1 p2 fun h' hz hTI hTO b1 b2 hsz hk => wpAny_pyIter_zip hz ?_
   have I2 : Inv X pins σ H1 { s1 with heap := h' } := I1.kept (t' := s1.toks) hk
   refine ⟨s1.heap.objs.size + 4, [s1.heap.objs.size + 4, s1.heap.objs.size + 2, s1.heap.objs.size + 3, s1.heap.objs.size, s1.heap.objs.size + 1], _, _, H1, rfl, I2, turn_zipG (zip_sep2 (fun x hx => by rw [List.mem_singleton.mp hx]; exact lt1) (fun x hx => by rw [List.mem_singleton.mp hx]; exact lt2)) (Nat.ne_of_lt (Nat.lt_of_lt_of_le lt1 (Nat.le_refl _))) (Nat.ne_of_lt (Nat.lt_of_lt_of_le lt2 (Nat.le_add_right _ _))), ⟨hz, hTI, ⟨_, _, hTO⟩, itK_new b1, itK_new b2⟩, fun d hcm => ?_, q⟩
   have e' : d = s1.heap.objs.size + 4 ∨ d = s1.heap.objs.size + 2 ∨ d = s1.heap.objs.size + 3 ∨ d = s1.heap.objs.size ∨ d = s1.heap.objs.size + 1 := by simpa using hcm
   have hle : s1.heap.objs.size ≤ d := by
    rcases e' with z | z | z | z | z
    ·rw [z]; exact Nat.le_add_right _ _
    ·rw [z]; exact Nat.le_add_right _ _
    ·rw [z]; exact Nat.le_add_right _ _
    ·rw [z]; exact Nat.le_refl _
    ·rw [z]; exact Nat.le_add_right _ _
   exact I1.fpOk hle (I1.hok.fresh hle)
set_option maxHeartbeats 4000000 in
theorem meets_enumerate_newB1 {v : Value} {o : Obj} {Hh : Heap → Prop} (B : Begins v o Hh) :
  Meets (Builtin.«enumerate.__new__» ⟨[.type "enumerate", v], []⟩) (fun _ R s => Hh s.heap ∧
   R (.ok (.ret (.ref (s.heap.push o).objs.size))) { s with heap := (s.heap.push o).push { cls := .type "enumerate", data := .fields #[.none, .bool false, .ref s.heap.objs.size, rawInt 0, .none, .none] } }) :=
 .of_wp fun prog w A R s h => by
  obtain ⟨hp, g, d, tk, os⟩ := s; obtain ⟨h1, h⟩ := h
  have hsub := sub_enumerate
  have q1 : ∀ {A' : Around} {E : Value → Shared → Prop} {Q : Value → Shared → Prop}, Q (.ref hp.objs.size) ⟨hp.push o, g, d, tk, os⟩ → wpAny (model prog w) A' (pyIter v) Q E ⟨hp, g, d, tk, os⟩ :=
   fun q => B.iter prog w _ _ ⟨hp, g, d, tk, os⟩ _ h1 q
  wp_walk using q1
  refine wpAny_stack_any fun st => wpAny_pure ?_
  split
  ·rename_i c _ _ _ _ _
   cases (c == Value.type "enumerate")
   ·wp_walk using q1
    exact ⟨_, rfl, h⟩
   ·wp_walk using q1
    exact ⟨_, rfl, h⟩
  ·wp_walk using q1
   exact ⟨_, rfl, h⟩
theorem call_enumG {prog : Program} {w : World} {A : Around} {E : Value → Shared → Prop} {s : Shared} {v : Value} {o : Obj} {Hh : Heap → Prop} {Q : Value → Shared → Prop} (B : Begins v o Hh) (h1 : Hh s.heap)
  (h : ∀ h', IsEnum h' (s.heap.objs.size + 1) s.heap.objs.size 0 .none → h'.get? s.heap.objs.size = some o → h'.objs.size = s.heap.objs.size + 2 →
   (∀ b o, s.heap.get? b = some o → h'.get? b = some o) → Q (.ref (s.heap.objs.size + 1)) { s with heap := h' }) :
  wpAny (model prog w) A (call (.type "enumerate") [v]) Q E s := by
 refine callType_new F.called_enumerate (by decide) (F.typeCall_enumerate_1 _) (F.newCall_enumerate_1 _) (fun obj => F.args_object_init_2 obj _) F.entry_enumerate_new
  (meets_enumerate_newB1 B) ⟨h1, ?_⟩
 have hz : (s.heap.push o).objs.size = s.heap.objs.size + 1 := Heap.size_push ..
 show _ ∧ _
 rw [hz]
 have he : IsEnum ((s.heap.push o).push { cls := .type "enumerate", data := .fields #[.none, .bool false, .ref s.heap.objs.size, rawInt 0, .none, .none] }) (s.heap.objs.size + 1) s.heap.objs.size 0 .none := by
  have := Heap.get?_push_size (s.heap.push o) (o := { cls := .type "enumerate", data := .fields #[.none, .bool false, .ref s.heap.objs.size, rawInt 0, .none, .none] }) rfl
  rw [hz] at this; exact this
 refine ⟨⟨_, he, rfl⟩, h _ he (Heap.get?_push_of_some _ (Heap.get?_push_size _ B.free)) (by rw [Heap.size_push, hz]) fun b o x => Heap.get?_push_of_some _ (Heap.get?_push_of_some _ x)⟩
noncomputable def IteG (K : PySem.W.Frag) (k : Bool) (a : Addr) : It :=
 ⟨fun i H => ∃ (xs : List V) (x : V), SqK K k H a xs ∧ xs[i]? = some x, fun i H v H' => ∃ T x, v = .ref T ∧ H T = none ∧ H' = upd H T (.tup [.int (i : Nat), x]) ∧ ∀ xs, SqK K k H a xs → xs[i]? = some x, fun i H => ∃ xs : List V, SqK K k H a xs ∧ xs.length = i⟩
theorem turn_enumG {P : Program} {w : World} {K : PySem.W.Frag} {elts : List Expr} {kk : Nat} {tpos : Pos} (k : Bool) (a e it : Addr) (na : a ≠ it) (ea : e ≠ a) :
  Turn P w K (.Tuple elts kk tpos) (IteG K k a) [e, it] e (fun i h => (∃ old, IsEnum h e it ((i : Nat) : Int) old) ∧ ItK k h it a i ∧ e ≠ it) where
 mem := by simp
 obj := fun i h st b hb => by
  obtain ⟨⟨old, he⟩, hi, _⟩ := st
  have e' : b = e ∨ b = it := by simpa using hb
  rcases e' with z | z
  ·rw [z]; exact ⟨_, he, fun v q => nomatch q⟩
  ·rw [z]; exact itK_obj hi
 keep := fun i h h' st k => let ⟨⟨old, he⟩, hi, hne⟩ := st; ⟨⟨old, k e (by simp) _ he⟩, itK_keep hi fun o q => k it (by simp) o q, hne⟩
 item := by
  intro X hP hw hK hc i pins s σ H E I hf st hg
  subst hP hw hK
  obtain ⟨⟨old, he⟩, hit, hne⟩ := st
  obtain ⟨xs, x, hq, hx⟩ := hg
  obtain ⟨its, rv, p, _⟩ := Inv.sqk I hq
  obtain ⟨u, hu, ru⟩ := rv.get hx
  have hel : e < s.heap.objs.size := Heap.lt_size he
  have hil : it < s.heap.objs.size := by obtain ⟨_, q, _⟩ := itK_obj hit; exact Heap.lt_size q
  have D := drawsK (P := X.prog) (w := X.w) (A := X.A.in1) (I.ok.hd hc) k it a na its.toArray
  have lt : i < its.toArray.size := by obtain ⟨z, _⟩ := List.getElem?_eq_some_iff.mp hu; simpa using z
  refine wpAny_pyNext_enum_itemC D he ⟨hit, p⟩ lt hne (by simp [hne, ea]) fun y h' tk hy ho hst' hT hsz hk => ?_
  have ey : y = u := by rw [show its.toArray[i]? = its[i]? by simp, hu] at hy; injection hy with hy; exact hy.symm
  subst ey
  refine ⟨_, rfl, wpAny_letOwnedTupleGo_enum (s := { s with heap := h', toks := tk + 1 }) ho fun h'' he' sb => ?_⟩
  have hT2 : h''.get? s.heap.objs.size = some { cls := .type "tuple", data := .seq #[.int i tk, y] } := (sb.2 _ (Nat.ne_of_gt hel)).trans hT
  have new : ObjOk X.prog X.w (upd H s.heap.objs.size (.tup [.int (i : Nat), x])) h'' s.heap.objs.size (.tup [.int (i : Nat), x]) :=
   ⟨by show 2 ≤ sizeLine; decide, [.int i tk, y], .cons ⟨_, rfl⟩ (.cons ru .nil), ⟨_, hT2, rfl, _, rfl⟩⟩
  have I1 : Inv X pins σ (upd H s.heap.objs.size (.tup [.int (i : Nat), x])) { s with heap := h'', toks := tk + 1 } :=
   I.turnedNew (ch := [e, it]) (fun b ob hb q => (sb.2 b (fun z => hb (by simp [z]))).trans (hk b ob (fun z => hb (by simp [z])) (fun z => hb (by simp [z])) q)) hf (Nat.le_refl _) new
  refine ⟨.ref s.heap.objs.size, _, I1, rfl, ⟨_, x, rfl, I.hok.fresh (Nat.le_refl _), rfl, fun ys hy => by rw [Inv.sqk_inj I hy hq]; exact hx⟩, ⟨⟨y, ?_⟩, itK_keep hst'.1 fun o q => (sb.2 it (Ne.symm hne)).trans q, hne⟩, fun b hb => ?_⟩
  ·have e1 : ((i + 1 : Nat) : Int) = (i : Int) + 1 := by omega
   rw [e1]; exact he'
  ·have hb' : b < s.heap.objs.size := by
    have e' : b = e ∨ b = it := by simpa using hb
    rcases e' with z | z
    ·rw [z]; exact hel
    ·rw [z]; exact hil
   rw [upd_ne (Nat.ne_of_lt hb')]
   exact (hf b hb).1
 done := by
  intro X hP hw hK hc i pins s σ H E I hf st hg
  subst hP hw hK
  obtain ⟨⟨old, he⟩, hit, hne⟩ := st
  obtain ⟨xs, hq, hx⟩ := hg
  obtain ⟨its, rv, p, _⟩ := Inv.sqk I hq
  have hl := rv.length
  have D := drawsK (P := X.prog) (w := X.w) (A := X.A.in1) (I.ok.hd hc) k it a na its.toArray
  have en : i = its.toArray.size := by simp only [List.size_toArray]; omega
  subst en
  exact wpAny_pyNext_enum_endD D he ⟨hit, p⟩ fun h' eb => ⟨rfl, I.turnedL (t' := s.toks) (ch := [e, it]) (fun b o hb q => eb b o (fun z => hb (by simp [z])) q) hf⟩
 self := fun A i s Q E st h => let ⟨⟨_, he⟩, _⟩ := st; wpAny_pyIter_enum he h
noncomputable def iEnumG (K : PySem.W.Frag) (ta : TA) : TI := fun σ H R => ta σ H fun vs H1 => ∃ k a xs, vs = [.ref a] ∧ SqK K k H1 a xs ∧ R (IteG K k a) H1
theorem pi_enumG {X : Cx} {e : Expr} {ta : TA} {p pos tpos : Pos} {elts : List Expr} {kk : Nat} (hg : Gl X "enumerate") (hm : X.mg "enumerate" = none) (ha : PA X [e] ta) (hs : starEach [e] X.env = [(false, eval e X.env)] := by rfl) :
  PI X (.Tuple elts kk tpos) (.Call (.Name "enumerate" p) [e] [] pos) (iEnumG X.K ta) := by
 refine ⟨fun pins s σ H R I h => ?_⟩
 refine Call_ (ld_blt I hg hm boot_enumerate (PyProof.Rows.callWith_type1 (thn (ha.run pos pins s σ H _ I h) fun us s1 ⟨vs, H1, I1, r1, q1⟩ => ?_) hs rfl))
 obtain ⟨k, a, xs, ex, hq, q⟩ := q1
 subst ex
 cases r1 with
 | cons r rr =>
  cases rr
  cases r
  obtain ⟨its, rv, p', lt⟩ := Inv.sqk I1 hq
  refine call_enumG (beginsK k a its.toArray) p' fun h' he hit hsz hk => wpAny_pyIter_enum he ?_
  have I2 : Inv X pins σ H1 { s1 with heap := h' } := I1.kept (t' := s1.toks) hk
  refine ⟨s1.heap.objs.size + 1, [s1.heap.objs.size + 1, s1.heap.objs.size], _, _, H1, rfl, I2, turn_enumG k a (s1.heap.objs.size + 1) s1.heap.objs.size (Nat.ne_of_lt lt) (Nat.ne_of_gt (Nat.lt_of_lt_of_le lt (Nat.le_add_right _ _))), ⟨⟨.none, he⟩, itK_new hit, Nat.succ_ne_self _⟩, fun b hb => ?_, q⟩
  have e' : b = s1.heap.objs.size + 1 ∨ b = s1.heap.objs.size := by simpa using hb
  have hle : s1.heap.objs.size ≤ b := by
   rcases e' with z | z
   ·rw [z]; exact Nat.le_add_right _ _
   ·rw [z]; exact Nat.le_refl _
  exact I1.fpOk hle (I1.hok.fresh hle)
theorem seqOf_ex {K : PySem.W.Frag} {Z : Zp} {G : Gp} {H : Hp} {w : W} {v : V} {R : List W → Gp → Prop} (h : HRel K Z G H) (r : Rw K Z H w v) (t : seqOf w G R) :
  ∃ k a ws vs Z' G', v = .ref a ∧ HRel K Z' G' H ∧ Ext Z G H Z' G' H ∧ RwL K Z' H ws vs ∧ (∀ Z2 G2 H2, Ext Z' G' H Z2 G2 H2 → SqK K k H2 a vs) ∧ R ws G' := by
 cases r with
 | tup s r => exact ⟨false, _, _, _, Z, G, rfl, h, Ext.refl, r, fun Z2 G2 H2 x => SqT.ext h x s, t⟩
 | lst z s r => exact ⟨true, _, _, _, Z, G, rfl, h, Ext.refl, r, fun Z2 G2 H2 x => SqL.of (x.f _ _ s (h.z _ z).1).1, t⟩
 | scr s r => exact ⟨true, _, _, _, Z, G, rfl, h, Ext.refl, r, fun Z2 G2 H2 x => (s.ext h x).sq, t⟩
 | @ref p =>
  obtain ⟨ws, g, q⟩ := isG_ex t
  obtain ⟨vs, s, r⟩ := h.lst g
  obtain ⟨h2, x2⟩ := h.freeze (p := p) (by rw [g]; simp)
  exact ⟨true, p, ws, vs, _, _, rfl, h2, x2, r.ext h x2, fun Z2 G2 H2 x => SqL.of (x.f _ _ s gdel_same).1, q⟩
 | _ => exact False.elim t
section
variable {K : PySem.W.Frag} {k k1 k2 k3 : Bool} {a b c : Addr} {Z : Zp} {G : Gp} {H : Hp} {ws us ts : List W} {vs xs ys : List V}
theorem walkZ2 (h : HRel K Z G H) (s1 : ∀ Z2 G2 H2, Ext Z G H Z2 G2 H2 → SqK K k1 H2 a vs) (s2 : ∀ Z2 G2 H2, Ext Z G H Z2 G2 H2 → SqK K k2 H2 b xs) (r1 : RwL K Z H ws vs) (r2 : RwL K Z H us xs) : WalkW K (ItzG K k1 k2 a b) Z G H (ws.zipWith tup2 us) := by
 refine ⟨fun H => SqK K k1 H a vs ∧ SqK K k2 H b xs, YPair (fun i => vs[i]?) (fun i => xs[i]?), ⟨fun i H hi q => ?_, fun H q => ⟨vs, xs, q.1, q.2, ?_, ?_, ?_⟩, fun i H v H' hi q y => ?_⟩, fun Z' G' H' x h' => ⟨⟨s1 _ _ _ x, s2 _ _ _ x⟩, fun i v H'' hi y => ?_⟩⟩
 ·rw [List.length_zipWith, r1.length, r2.length] at hi
  exact ⟨vs, xs, _, _, q.1, q.2, List.getElem?_eq_getElem (by omega), List.getElem?_eq_getElem (by omega)⟩
 ·rw [List.length_zipWith, r1.length, r2.length]; omega
 ·rw [List.length_zipWith, r1.length, r2.length]; omega
 ·rw [List.length_zipWith, r1.length, r2.length]; omega
 ·obtain ⟨T, x, z, e1, e2, e3, f1, f2⟩ := y
  exact ⟨T, x, z, e1, e2, e3, f1 vs q.1, f2 xs q.2⟩
 ·obtain ⟨T, p, q, rfl, nT, rfl, e1, e2⟩ := y
  obtain ⟨w, ew, rw'⟩ := (r1.ext h x).get' i e1
  obtain ⟨u, eu, ru⟩ := (r2.ext h x).get' i e2
  obtain ⟨h2, x2, r3⟩ := new_tup h' nT (.cons rw' (.cons ru .nil))
  exact ⟨tup2 w u, by rw [List.getElem?_zipWith, ew, eu], r3, x2, h2⟩
theorem walkEG (h : HRel K Z G H) (s1 : ∀ Z2 G2 H2, Ext Z G H Z2 G2 H2 → SqK K k H2 a vs) (r : RwL K Z H ws vs) : WalkW K (IteG K k a) Z G H (enumFrom 0 ws) := by
 refine ⟨fun H => SqK K k H a vs, fun i H v H' => ∃ T x, v = .ref T ∧ H T = none ∧ H' = upd H T (.tup [.int (i : Nat), x]) ∧ vs[i]? = some x, ⟨fun i H hi q => ?_, fun H q => ⟨vs, q, ?_⟩, fun i H v H' hi q y => ?_⟩, fun Z' G' H' x h' => ⟨s1 _ _ _ x, fun i v H'' hi y => ?_⟩⟩
 ·rw [enum_len, r.length] at hi
  exact ⟨vs, _, q, List.getElem?_eq_getElem hi⟩
 ·rw [enum_len, r.length]
 ·obtain ⟨T, x, e1, e2, e3, f1⟩ := y
  exact ⟨T, x, e1, e2, e3, f1 vs q⟩
 ·obtain ⟨T, p, rfl, nT, rfl, e1⟩ := y
  obtain ⟨w, ew, rw'⟩ := (r.ext h x).get' i e1
  obtain ⟨h2, x2, r3⟩ := new_tup h' nT (.cons .int (.cons rw' .nil))
  exact ⟨tup2 (.int (i : Nat)) w, by rw [enum_get, ew]; simp, r3, x2, h2⟩
end
noncomputable def zipG2 (ws : List W) (G : Gp) (R : List W → Gp → Prop) : Prop := match ws with
 | [a, b] => seqOf a G fun xs G1 => seqOf b G1 fun ys G2 => R (xs.zipWith tup2 ys) G2
 | _ => False
noncomputable def enumG (ws : List W) (G : Gp) (R : List W → Gp → Prop) : Prop := match ws with
 | [a] => seqOf a G fun xs G1 => R (enumFrom 0 xs) G1
 | _ => False
noncomputable def i_zipG2 (ta : TAw) : TIw := fun σ G R => ta σ G fun ws G1 => zipG2 ws G1 R
noncomputable def i_enumG (ta : TAw) : TIw := fun σ G R => ta σ G fun ws G1 => enumG ws G1 R
theorem zipG2_eq {a b : W} {G : Gp} {R : List W → Gp → Prop} : zipG2 [a, b] G R = seqOf a G fun xs G1 => seqOf b G1 fun ys G2 => R (xs.zipWith tup2 ys) G2 := rfl
theorem enumG_eq {a : W} {G : Gp} {R : List W → Gp → Prop} : enumG [a] G R = seqOf a G fun xs G1 => R (enumFrom 0 xs) G1 := rfl
section
variable {X : Cx} {K : PySem.W.Frag} {ta : TAw} {p pos tpos : Pos} {elts : List Expr} {kk : Nat}
theorem qizipG2 {e e2 : Expr} (hg : Gl X "zip") (hm : X.mg "zip" = none) (ha : PAw X [e, e2] ta)
  (hs : starEach [e, e2] X.env = (false, eval e X.env) :: starEach [e2] X.env := by rfl) (hpl : (backTo pos (starEach [e2] X.env)).any (·.1) = false := by rfl) :
  PIw X (.Tuple elts kk tpos) (.Call (.Name "zip" p) [e, e2] [] pos) (i_zipG2 ta) := PI.imp (pi_zipG hg hm ha hs hpl) fun σ H R h => by
 obtain ⟨Z, σ', G, Qw, ev, hr, t, k⟩ := h
 refine ⟨Z, σ', G, _, ev, hr, t, fun Z1 G1 H1 ws vs x1 h1 r1 t1 => ?_⟩
 cases r1 with
 | nil => exact False.elim t1
 | cons ra rr =>
  cases rr with
  | nil => exact False.elim t1
  | cons rb rr =>
   cases rr with
   | cons _ _ => exact False.elim t1
   | nil =>
    rw [zipG2_eq] at t1
    obtain ⟨k1, a, xs, vs, Z2, G2, rfl, h2, x2, q1, s1, t2⟩ := seqOf_ex h1 ra t1
    obtain ⟨k2, b, ys, us, Z3, G3, rfl, h3, x3, q2, s2, t3⟩ := seqOf_ex h2 (rb.ext h1 x2) t2
    have s1' : ∀ Z4 G4 H4, Ext Z3 G3 H1 Z4 G4 H4 → SqK X.K k1 H4 a vs := fun Z4 G4 H4 x => s1 _ _ _ (x3.trans x)
    exact ⟨k1, k2, a, b, _, _, rfl, s1' _ _ _ Ext.refl, s2 _ _ _ Ext.refl, k Z3 G3 H1 _ _ ((x1.trans x2).trans x3) h3 (walkZ2 h3 s1' s2 (q1.ext h2 x3) q2) t3⟩
theorem qienumG {e : Expr} (hg : Gl X "enumerate") (hm : X.mg "enumerate" = none) (ha : PAw X [e] ta) (hs : starEach [e] X.env = [(false, eval e X.env)] := by rfl) :
  PIw X (.Tuple elts kk tpos) (.Call (.Name "enumerate" p) [e] [] pos) (i_enumG ta) := PI.imp (pi_enumG hg hm ha hs) fun σ H R h => by
 obtain ⟨Z, σ', G, Qw, ev, hr, t, k⟩ := h
 refine ⟨Z, σ', G, _, ev, hr, t, fun Z1 G1 H1 ws vs x1 h1 r1 t1 => ?_⟩
 cases r1 with
 | nil => exact False.elim t1
 | cons ra rr =>
  cases rr with
  | cons _ _ => exact False.elim t1
  | nil =>
   rw [enumG_eq] at t1
   obtain ⟨k1, a, xs, vs, Z2, G2, rfl, h2, x2, q1, s1, t2⟩ := seqOf_ex h1 ra t1
   exact ⟨k1, a, _, rfl, s1 _ _ _ Ext.refl, k Z2 G2 H1 _ _ (x1.trans x2) h2 (walkEG h2 s1 q1) t2⟩
end
section
variable {X : Cx} {K : PySem.W.Frag}
end
section
variable {K : PySem.W.Frag} {Z : Zp} {G : Gp} {H : Hp}
variable {X : Cx} {e : Expr} {es : List Expr} {t : TAw} {p pos : Pos}
end
section
variable {X : Cx} {a b : Expr} {ta tb : TEw} {pos : Pos}
end
section
variable {X : Cx} {K : PySem.W.Frag} {a b o : Expr} {ta tb to : TEw} {pos apos cpos : Pos}
end
section
variable {X : Cx} {K : PySem.W.Frag} {a b o : Expr} {ta tb to : TEw} {pos apos cpos : Pos}
end
section
variable {X : Cx}
end
section
variable {X : Cx} {a b : Expr} {ta tb : TEw} {pos : Pos}
end
structure FldOk (K : PySem.W.Frag) (nm f : Str) : Prop where
 ok : ∀ C, ClsA K nm C → Cls K C ∧ NoAttr K C f
noncomputable def insOf (G : Gp) : W → Option (Str × List (Str × W))
 | .ins n fs => some (n, fs)
 | .ref p => match G p with
  | some (.ins n fs) => some (n, fs)
  | _ => none
 | _ => none
theorem insOf_gup {G : Gp} {p : Addr} {n : Str} {fs : List (Str × W)} : insOf (gup G p (.ins n fs)) (.ref p) = some (n, fs) := by simp only [insOf, gup_same]
section
variable {K : PySem.W.Frag} {Z : Zp} {G : Gp} {H : Hp}
theorem insOf_at (h : HRel K Z G H) {w : W} {v : V} {n : Str} {fs : List (Str × W)} (r : Rw K Z H w v) (e : insOf G w = some (n, fs)) : ∃ p C dx gs, v = .ref p ∧ ClsA K n C ∧ H p = some (.ins C dx gs) ∧ RwF K Z H fs gs := by
 cases r with
 | ins c z s r => simp only [insOf, Option.some.injEq, Prod.mk.injEq] at e; obtain ⟨rfl, rfl⟩ := e; exact ⟨_, _, _, _, rfl, c, s, r⟩
 | @ref p =>
  simp only [insOf] at e
  cases q : G p with
  | none => rw [q] at e; cases e
  | some o =>
   rw [q] at e
   cases o with
   | ins n' fs' =>
    simp only [Option.some.injEq, Prod.mk.injEq] at e
    obtain ⟨rfl, rfl⟩ := e
    obtain ⟨u, eu, ru⟩ := h.g p _ q
    cases ru with
    | ins c r => exact ⟨p, _, _, _, rfl, c, eu, r⟩
   | lst _ => cases e
   | dic _ => cases e
   | dcn _ _ => cases e
   | tbl _ _ => cases e
 | _ => cases e
end
noncomputable def wFld (nm f : Str) : W → Gp → QW → Prop := fun x G Q => isS (insOf G x) fun o => o.1 = nm ∧ isS (o.2.lookup f) fun w => Q w G
noncomputable def rFld (K : PySem.W.Frag) (f : Str) : V → Hp → VK → Prop := fun x H Q => ∃ a C dx fs v, x = .ref a ∧ H a = some (.ins C dx fs) ∧ Cls K C ∧ NoAttr K C f ∧ fs.lookup f = some v ∧ Q v H
theorem sim_fld {K : PySem.W.Frag} {nm f : Str} (ok : FldOk K nm f) : Sim1 K (rFld K f) (wFld nm f) := by
 intro Z G H x v Qw Q h rx t k
 obtain ⟨⟨n, fs⟩, e, en, t5⟩ := isS_ex t
 have en : n = nm := en
 obtain ⟨w, el, q⟩ := isS_ex t5
 clear t5 t
 subst en
 obtain ⟨p, C, dx, gs, rfl, c, s, r⟩ := insOf_at h rx e
 obtain ⟨c1, c2⟩ := ok.ok C c
 obtain ⟨u, eu, ru⟩ := r.get el
 exact ⟨p, C, dx, gs, u, rfl, s, c1, c2, eu, k.at h ru q⟩
theorem qfld {X : Cx} {nm f : Str} {e : Expr} {te : TEw} {pos : Pos} (ok : FldOk X.K nm f) (he : PEw X e te) (hb : attributeBase e f X.env (eval e X.env) = eval e X.env := by rfl) : PEw X (.Attribute e f pos) (wUn (wFld nm f) te) :=
 PE.imp (pe_fld he hb) fun σ H Q h => lift1 (r := rFld X.K f) (sim_fld ok) h
noncomputable def putW (f : Str) (v : W) : List (Str × W) → List (Str × W)
 | [] => [(f, v)]
 | (g, x) :: r => if g = f then (g, v) :: r else (g, x) :: putW f v r
theorem RwF.put {K : PySem.W.Frag} {Z : Zp} {H : Hp} {f : Str} {w : W} {v : V} (rw' : Rw K Z H w v) : ∀ {ws : List (Str × W)} {vs : List (Str × V)}, RwF K Z H ws vs → RwF K Z H (putW f w ws) (putF f v vs)
 | _, _, .nil => .cons rw' .nil
 | _, _, .cons (f := g) r t => by
  simp only [putW, putF]
  split
  ·exact .cons rw' t
  ·exact .cons r (RwF.put rw' t)
theorem chg_ins {K : PySem.W.Frag} {Z : Zp} {G : Gp} {H : Hp} (h : HRel K Z G H) {p : Addr} {n : Str} {fs fs' : List (Str × W)} {C dx : Addr} {gs' : List (Str × V)} (e : G p = some (.ins n fs)) (c : ClsA K n C) (r : RwF K Z H fs' gs') :
  HRel K Z (gup G p (.ins n fs')) (upd H p (.ins C dx gs')) ∧ Ext Z G H Z (gup G p (.ins n fs')) (upd H p (.ins C dx gs')) := by
 have x : Ext Z G H Z (gup G p (.ins n fs')) (upd H p (.ins C dx gs')) := ⟨fun _ z => z, fun q u e' g => by
  have c : q ≠ p := fun c => by rw [c, e] at g; cases g
  exact ⟨by rw [upd_ne c]; exact e', by rw [gup_ne c]; exact g⟩, fun _ _ _ z => z⟩
 refine ⟨⟨fun q z => ?_, fun q g e' => ?_⟩, x⟩
 ·have c : q ≠ p := fun c => by
   have := (h.z q z).1
   rw [c, e] at this; cases this
  exact ⟨by rw [gup_ne c]; exact (h.z q z).1, by rw [upd_ne c]; exact (h.z q z).2⟩
 ·by_cases d : q = p
  ·rw [d, gup_same] at e'; cases e'
   exact ⟨_, by rw [d]; exact upd_same, .ins c (r.ext h x)⟩
  ·rw [gup_ne d] at e'
   obtain ⟨u, e2, r2⟩ := h.g q g e'
   exact ⟨u, by rw [upd_ne d]; exact e2, r2.ext h x⟩
noncomputable def isI (o : Option GO) (nm : Str) (P : List (Str × W) → Prop) : Prop := match o with
 | some (.ins n fs) => n = nm ∧ P fs
 | _ => False
theorem isI_ins {nm : Str} {fs : List (Str × W)} {P : List (Str × W) → Prop} : isI (some (.ins nm fs)) nm P = P fs := by
 unfold isI
 simp
theorem isI_ex {o : Option GO} {nm : Str} {P : List (Str × W) → Prop} (h : isI o nm P) : ∃ fs, o = some (.ins nm fs) ∧ P fs := by
 cases o with
 | none => exact h.elim
 | some g =>
  cases g with
  | lst ws => exact h.elim
  | dic _ => exact h.elim
  | dcn _ _ => exact h.elim
  | tbl _ _ => exact h.elim
  | ins n fs =>
   obtain ⟨rfl, h⟩ := h
   exact ⟨fs, rfl, h⟩
noncomputable def setF (nm f : Str) (y x : W) (G : Gp) (P : Gp → Prop) : Prop := match x with
 | .ref p => isI (G p) nm fun fs => fs.length < 1000 ∧ P (gup G p (.ins nm (putW f y fs)))
 | _ => False
theorem setF_ref {nm f : Str} {y : W} {p : Addr} {G : Gp} {P : Gp → Prop} : setF nm f y (.ref p) G P = isI (G p) nm fun fs => fs.length < 1000 ∧ P (gup G p (.ins nm (putW f y fs))) := rfl
noncomputable def wSetF (nm f : Str) (te to : TEw) : TSw := fun D σ G => te σ G fun y G1 => to σ G1 fun x G2 => setF nm f y x G2 fun G3 => D.nx σ G3
theorem qsetF {X : Cx} {nm f : Str} {o e : Expr} {te to : TEw} {pos pos' : Pos} (ok : FldOk X.K nm f) (ho : PEw X o to) (he : PEw X e te) (hs : swapsWith e (some (.Attribute o f pos')) pos.line X.env = pure false := by rfl) : PSw X (.Assign [.Attribute o f pos'] e pos) (wSetF nm f te to) :=
 PS.imp (ps_fld ho he hs) fun D σ H h => by
  obtain ⟨Z, σ', G, Dw, ev, hr, t, k⟩ := h
  refine ⟨Z, σ', G, _, ev, hr, t, fun Z1 G1 H1 yw yv x1 h1 r1 t1 => ⟨Z1, σ', G1, _, ev.ext hr x1, h1, t1, fun Z2 G2 H2 xw xv x2 h2 r2 t2 => ?_⟩⟩
  cases r2 with
  | @ref p =>
   obtain ⟨fs, g, l, q⟩ := isI_ex t2
   obtain ⟨u, eu, ru⟩ := h2.g p _ g
   cases ru with
   | ins c r =>
    obtain ⟨c1, c2⟩ := ok.ok _ c
    obtain ⟨h3, x3⟩ := chg_ins (fs' := putW f yw fs) h2 g c (RwF.put (r1.ext h1 x2) r)
    refine ⟨p, _, _, _, rfl, eu, c1, c2, by rw [← r.length]; exact l, ?_⟩
    have xx := (x1.trans x2).trans x3
    exact k.nx _ _ _ _ _ xx h3 (ev.ext hr xx) q
  | _ => exact False.elim t2
structure CalM (P : Program) (w : World) (K : PySem.W.Frag) (mg : Str → Option Value) (base : Heap) (CX : CXT) (k : Nat) (nm m : Str) (sp : Spw) : Prop where
 ex : ∃ C f fd ps, ClsA K nm C ∧ Cls K C ∧ Meth K C m f ∧ FnOk P w K mg base CX k f fd ps (liftSp K sp) ∧ Binds K fd ps []
structure CalC (P : Program) (w : World) (K : PySem.W.Frag) (mg : Str → Option Value) (base : Heap) (CX : CXT) (k : Nat) (nm : Str) (sp : Spw) : Prop where
 ex : ∃ C f fd ps, ClsA K nm C ∧ Mk K C f ∧ mg nm = some (.ref C) ∧ FnOk P w K mg base CX k f fd ps (liftSp K sp) ∧ Binds K fd ps []
noncomputable def wMeth (nm m : Str) (sp : Spw) (to : TEw) (t : TAw) : TEw := fun σ G Q => to σ G fun x G1 => isS (insOf G1 x) fun o => o.1 = nm ∧ o.2.lookup m = none ∧ t σ G1 fun ws G2 => sp (x :: ws) G2 Q E0w
noncomputable def wMake (nm : Str) (sp : Spw) (t : TAw) : TEw := fun σ G Q => t σ G fun ws G1 => ∀ p, G1 p = none → sp (.ref p :: ws) (gup G1 p (.ins nm [])) (fun w G2 => w = .non ∧ Q (.ref p) G2) E0w
section
variable {X : Cx} {K : PySem.W.Frag} {o e : Expr} {es : List Expr} {to : TEw} {t : TAw} {sp : Spw} {nm m : Str} {k : Nat} {p pos apos : Pos}
theorem lmeth {C : Addr} (c : ClsA K nm C) {σ : SV} {H : Hp} {Q : VK} (h : liftE K (wMeth nm m sp to t) σ H Q) : tMeth C m (liftSp K sp) [] E0 (liftE K to) (liftA K t) σ H Q := by
 obtain ⟨Z, σ', G, Qw, ev, hr, t, k⟩ := h
 refine ⟨Z, σ', G, _, ev, hr, t, fun Z1 G1 H1 w v x1 h1 r1 t1 => ?_⟩
 obtain ⟨⟨n, fs⟩, e, en, el, t5⟩ := isS_ex t1
 have en : n = nm := en
 clear t1
 subst en
 obtain ⟨p, C', dx, gs, rfl, c', s, r⟩ := insOf_at h1 r1 e
 cases c.one c'
 refine ⟨p, dx, gs, rfl, s, r.none el, Z1, σ', G1, _, ev.ext hr x1, h1, t5, fun Z2 G2 H2 ws vs x2 h2 r2 t2 => ?_⟩
 show liftSp K sp (.ref p :: (vs ++ [])) H2 Q E0
 rw [List.append_nil]
 exact ⟨Z2, w :: ws, G2, Qw, E0w, .cons (r1.ext h1 x2) r2, h2, t2, k.mono (x1.trans x2), fun _ _ _ _ _ _ _ _ _ _ _ z => z.elim⟩
theorem qmeth (c : CalM X.prog X.w X.K X.mg X.base CX0 k nm m sp) (hr : Room k X.A) (ho : PEw X o to) (ha : PAw X (e :: es) t) {pl : Sem Bool} (hst : starEach (e :: es) X.env = (false, eval e X.env) :: starEach es X.env := by rfl) (hpl : (backTo pos (starEach es X.env)).any (·.1) = false := by rfl)
  (ht : eval (.Call (.Attribute o m apos) (e :: es) [] pos) X.env = (do
   let ov ← eval o X.env
   standAt apos.atName
   let (f, first) ← holding [ov] (getMethod ov m pl)
   callWith pos f first (backTo pos (starEach (e :: es) X.env)) (backToKw pos (keywordEach [] X.env))) := by rfl) : PEw X (.Call (.Attribute o m apos) (e :: es) [] pos) (wMeth nm m sp to t) := by
 obtain ⟨C, f, fd, ps, ca, cl, hm, F, b⟩ := c.ex
 exact PE.imp (pe_meth ho cl hm F hr b .nil pass0 ha hst hpl ht) fun _ _ _ h => lmeth ca h
theorem qmeth0 (c : CalM X.prog X.w X.K X.mg X.base CX0 k nm m sp) (hr : Room k X.A) (ho : PEw X o to) {pl : Sem Bool}
  (ht : eval (.Call (.Attribute o m apos) [] [] pos) X.env = (do
   let ov ← eval o X.env
   standAt apos.atName
   let (f, first) ← holding [ov] (getMethod ov m pl)
   callWith pos f first (backTo pos (starEach [] X.env)) (backToKw pos (keywordEach [] X.env))) := by rfl) : PEw X (.Call (.Attribute o m apos) [] [] pos) (wMeth nm m sp to wNil) := by
 obtain ⟨C, f, fd, ps, ca, cl, hm, F, b⟩ := c.ex
 exact PE.imp (pe_meth0 ho cl hm F hr b .nil pass0 ht) fun σ H Q h => by
  obtain ⟨Z, σ', G, Qw, ev, hr, t, k⟩ := h
  refine ⟨Z, σ', G, _, ev, hr, t, fun Z1 G1 H1 w v x1 h1 r1 t1 => ?_⟩
  obtain ⟨⟨n, fs⟩, e, en, el, t5⟩ := isS_ex t1
  have en : n = nm := en
  clear t1
  subst en
  obtain ⟨p, C', dx, gs, rfl, c', s, r⟩ := insOf_at h1 r1 e
  cases ca.one c'
  exact ⟨p, dx, gs, rfl, s, r.none el, Z1, [w], G1, Qw, E0w, .cons r1 .nil, h1, t5, k.mono x1, fun _ _ _ _ _ _ _ _ _ _ _ z => z.elim⟩
theorem new_ins {Z : Zp} {G : Gp} {H : Hp} (h : HRel K Z G H) {nm : Str} {C x dx : Addr} (c : ClsA K nm C) (hx : H x = none) (hdx : H dx = none) (ne : dx ≠ x) :
  G x = none ∧ HRel K Z (gup G x (.ins nm [])) (upd (upd H dx (.own x)) x (.ins C dx [])) ∧ Ext Z G H Z (gup G x (.ins nm [])) (upd (upd H dx (.own x)) x (.ins C dx [])) := by
 have h1 := h.laid (o := .own x) hdx
 have x1 := Ext.laid (o := .own x) h hdx
 have hx1 : upd H dx (.own x) x = none := by rw [upd_ne (Ne.symm ne)]; exact hx
 have x2 : Ext Z G (upd H dx (.own x)) Z G (upd (upd H dx (.own x)) x (.ins C dx [])) := Ext.laid h1 hx1
 refine ⟨h.fresh hx, (h1.laid hx1).track upd_same (h1.freshZ hx1) (.ins c .nil), x1.trans ⟨fun _ z => z, fun q u e g => ?_, fun _ _ _ z => z⟩⟩
 have c : q ≠ x := ne_of_none e hx1
 exact ⟨by rw [upd_ne c]; exact e, by rw [gup_ne c]; exact g⟩
theorem lmake {C : Addr} (c : ClsA K nm C) {σ : SV} {H : Hp} {Q : VK} (h : liftE K (wMake nm sp t) σ H Q) : tMake C (liftSp K sp) [] E0 (liftA K t) σ H Q := by
 obtain ⟨Z, σ', G, Qw, ev, hr, t, k⟩ := h
 refine ⟨Z, σ', G, _, ev, hr, t, fun Z1 G1 H1 ws vs x1 h1 r1 t1 x dx hx hdx ne => ?_⟩
 obtain ⟨g, h2, x2⟩ := new_ins h1 c hx hdx ne
 show liftSp K sp (.ref x :: (vs ++ [])) _ _ E0
 rw [List.append_nil]
 refine ⟨Z1, .ref x :: ws, _, _, E0w, .cons .ref (r1.ext h1 x2), h2, t1 x g, fun Z3 G3 H3 w v x3 h3 r3 q => ?_, fun _ _ _ _ _ _ _ _ _ _ _ z => z.elim⟩
 obtain ⟨rfl, q⟩ := q
 cases r3
 exact ⟨rfl, k Z3 G3 H3 _ _ ((x1.trans x2).trans x3) h3 .ref q⟩
theorem qmake (c : CalC X.prog X.w X.K X.mg X.base CX0 k nm sp) (hr : Room (k + 1) X.A) (hg : Gl X nm) (ha : PAw X (e :: es) t) (hdb : (nm == ("__debug__" : Str)) = false := by decide) (he : starEach (e :: es) X.env = (false, eval e X.env) :: starEach es X.env := by rfl) (hpl : (backTo pos (starEach es X.env)).any (·.1) = false := by rfl) :
  PEw X (.Call (.Name nm p) (e :: es) [] pos) (wMake nm sp t) := by
 obtain ⟨C, f, fd, ps, ca, M, hm, F, b⟩ := c.ex
 exact PE.imp (pe_make M F hr hg hm b .nil pass0 ha hdb he hpl) fun _ _ _ h => lmake ca h
end
noncomputable def keyOf : W → Option Key
 | .int i => some (.inl i)
 | .str s => some (.inr s)
 | _ => none
noncomputable def valW (kvs : List (NestedKey × W)) (k : NestedKey) : Option W := (kvs.find? fun kv => decide (kv.1 = k)).map (·.2)
noncomputable def putD (kvs : List (NestedKey × W)) (k : NestedKey) (v : W) : List (NestedKey × W) := if (kvs.any fun kv => decide (kv.1 = k)) then kvs.map fun kv => if kv.1 = k then (kv.1, v) else kv else kvs ++ [(k, v)]
section
variable {K : PySem.W.Frag} {Z Z' : Zp} {G G' : Gp} {H H' : Hp}
theorem Rw.key {w : W} {v : V} {k : Key} (r : Rw K Z H w v) (e : keyOf w = some k) : v = kV k := by
 cases r <;> simp only [keyOf, Option.some.injEq, reduceCtorEq] at e <;> subst e <;> rfl
theorem nk_dec {a b : Key} : decide (nk a = nk b) = decide (a = b) := by
 by_cases c : a = b
 ·subst c; simp
 ·rw [decide_eq_false c, decide_eq_false fun h => c (nk_inj h)]
theorem RwD.length : ∀ {ws : List (NestedKey × W)} {vs : List (Key × V)}, RwD K Z H ws vs → ws.length = vs.length
 | _, _, .nil => rfl
 | _, _, .cons _ t => by rw [List.length_cons, List.length_cons, RwD.length t]
theorem RwD.val {k : Key} : ∀ {ws : List (NestedKey × W)} {vs : List (Key × V)} {w : W}, RwD K Z H ws vs → valW ws (nk k) = some w → ∃ v, valV vs k = some v ∧ Rw K Z H w v
 | _, _, _, .nil, e => by simp [valW] at e
 | _, _, w, .cons (k := k2) r t, e => by
  by_cases c : k2 = k
  ·subst c
   have e2 : ∀ (x : W) (ws : List (NestedKey × W)), valW ((nk k2, x) :: ws) (nk k2) = some x := fun x ws => by simp [valW, List.find?_cons]
   rw [e2] at e
   cases e
   exact ⟨_, valV_pos rfl, r⟩
  ·have c2 : ¬ nk k2 = nk k := fun h => c (nk_inj h)
   have e2 : ∀ (x : W) (ws : List (NestedKey × W)), valW ((nk k2, x) :: ws) (nk k) = valW ws (nk k) := fun x ws => by simp [valW, List.find?_cons, c2]
   rw [e2] at e
   obtain ⟨v, h1, h2⟩ := RwD.val t e
   exact ⟨v, by rw [valV_neg c]; exact h1, h2⟩
theorem RwD.repl {k : Key} {w : W} {v : V} (r : Rw K Z H w v) : ∀ {ws : List (NestedKey × W)} {vs : List (Key × V)}, RwD K Z H ws vs → RwD K Z H (ws.map fun kv => if kv.1 = nk k then (kv.1, w) else kv) (vs.map fun kv => if kv.1 = k then (kv.1, v) else kv)
 | _, _, .nil => .nil
 | _, _, .cons (k := k2) r2 t => by
  rw [List.map_cons, List.map_cons]
  by_cases c : k2 = k
  ·subst c
   simp only [if_true]
   exact .cons r (RwD.repl r t)
  ·have c2 : ¬ nk k2 = nk k := fun h => c (nk_inj h)
   simp only [if_neg c, if_neg c2]
   exact .cons r2 (RwD.repl r t)
theorem RwD.snoc {k : Key} {w : W} {v : V} (r : Rw K Z H w v) : ∀ {ws : List (NestedKey × W)} {vs : List (Key × V)}, RwD K Z H ws vs → RwD K Z H (ws ++ [(nk k, w)]) (vs ++ [(k, v)])
 | _, _, .nil => .cons r .nil
 | _, _, .cons r2 t => .cons r2 (RwD.snoc r t)
theorem RwD.any {k : Key} : ∀ {ws : List (NestedKey × W)} {vs : List (Key × V)}, RwD K Z H ws vs → (ws.any fun kv => decide (kv.1 = nk k)) = vs.any fun kv => decide (kv.1 = k)
 | _, _, .nil => rfl
 | _, _, .cons r2 t => by rw [List.any_cons, List.any_cons, RwD.any t, nk_dec]
theorem RwD.put {k : Key} {w : W} {v : V} (r : Rw K Z H w v) {ws : List (NestedKey × W)} {vs : List (Key × V)} (t : RwD K Z H ws vs) : RwD K Z H (putD ws (nk k) w) (putK vs k v) := by
 unfold putD putK
 rw [t.any]
 split
 ·exact t.repl r
 ·exact t.snoc r
end
section
variable {X : Cx} {K : PySem.W.Frag} {a b o i e : Expr} {ta tb td ty tv : TEw} {pos pos' tpos : Pos} {k : Nat}
theorem hu1 {A : Around} {k : Nat} (hr : Room k A) : A.units + 1 < cLine := by have := hr.un; omega
end
section
variable {K : PySem.W.Frag}
end
section
variable {X : Cx} {scope : Scope} {pos : Pos} {elt tg iter : Expr} {ifs : List Expr} {own : List (Str × Nat)} {t0 : TEw} {gw : TGw} {tt : TTw} {te : TEw}
end
noncomputable def subE (nm T : Str) : Bool := decide (nm = T) || (decide (T = "MainsError") || decide (T = "ValueError"))
structure Err (K : PySem.W.Frag) (mg : Str → Option Value) (nm : Str) : Prop where
 ex : ∃ C, mg nm = some (.ref C) ∧ ClsA K nm C ∧ PySem.W.keepIn K (.ref C) = true ∧ PySem.W.excIn K C [.type "ValueError", .type "Exception", .type "BaseException", .type "object"] "ValueError.__new__" = true ∧
  PySem.W.subIn K (.ref C) (.type "BaseException") = some true ∧ PySem.W.typeIn K (.ref C) = some (.type "type")
noncomputable def ErrT (K : PySem.W.Frag) (ES : List Str) (T : Str) (c : Value) : Prop := ∀ nm ∈ ES, ∀ C, ClsA K nm C → PySem.W.kitOne K (.ref C) c = some (subE nm T)
noncomputable def ErrM (K : PySem.W.Frag) (ES : List Str) (T : Str) (c : Value) : Prop := ∀ nm ∈ ES, ∀ C, ClsA K nm C → PySem.W.exmOne K (.ref C) c = some (subE nm T)
noncomputable def ErrC (K : PySem.W.Frag) (ES : List Str) : Prop := ∀ nm ∈ ES, ∀ C, ClsA K nm C → ExcC K C
noncomputable def wRaise (nm : Str) : TSw := fun D σ G => D.ex nm [] σ G
section
variable {X : Cx} {nm x m : Str} {j : Nat} {p p2 pos pos' apos : Pos} {e : Expr} {es : List Expr}
theorem qraise (E : Err X.K X.mg nm) (hc : X.calm = true) (hg : Gl X nm) (hdb : (nm == ("__debug__" : Str)) = false := by decide) : PSw X (.Raise (some (.Call (.Name nm p) [.Constant (.str m) j p2] [] pos)) none pos') (wRaise nm) := by
 obtain ⟨C, gC, cA, kC, xC, bC, tC⟩ := E.ex
 refine PS.imp (L2N.ps_raise (W := wishOf X) hc takes_wish (L2N.pmk_own F.excBase_ValueError xC gC kC (raises_own bC tC) hg hdb)) fun D σ H h => ?_
 obtain ⟨Z, σ', G, Dw, e, hr, t, k⟩ := h
 exact k.ex Z G H σ' σ nm C [] none Ext.refl hr e cA (.inl ⟨rfl, rfl⟩) t
noncomputable abbrev EXs := Str → List (Str × W) → SW → Gp → Prop
noncomputable def liftX (X : Cx) (Ex : EXs) (t : TEw) : TE := fun σ H Q => ∃ Z σ' G Qw, RwS X.K Z H σ' σ ∧ HRel X.K Z G H ∧ t σ' G Qw ∧ KE X.K Z G H Qw Q ∧ KX X Z G H Ex
noncomputable def PExw (X : Cx) (e : Expr) (te : EXs → TEw) : Prop := ∀ Ex, PE X e (liftX X Ex (te Ex))
noncomputable def wCallX (sp : Spw) (t : TAw) : EXs → TEw := fun Ex σ G Q => t σ G fun ws G1 => sp ws G1 Q fun nm fs G2 => Ex nm fs σ G2
theorem qcallX {k : Nat} {sp : Spw} {t : TAw} (c : Cal X.prog X.w X.K X.mg X.base (L2N.CX X.prog X.w) k x sp) (hr : Room k X.A) (hg : Gl X x) (ha : PAw X (e :: es) t) (hdb : (x == ("__debug__" : Str)) = false := by decide)
  (he : starEach (e :: es) X.env = (false, eval e X.env) :: starEach es X.env := by rfl) (hpl : (backTo pos (starEach es X.env)).any (·.1) = false := by rfl) : PExw X (.Call (.Name x p) (e :: es) [] pos) (wCallX sp t) := fun Ex => by
 obtain ⟨f, fd, ps, F, m, kp, b⟩ := c.ex
 refine PE.imp (pe_callS F hr hg m kp b (fun σ => L2N.passAt (W := wishOf X) takes_wish σ) ha hdb he hpl) fun σ H Q h => ?_
 obtain ⟨Z, σ', G, Qw, e, hh, t, k, kx⟩ := h
 exact ⟨Z, σ', G, _, e, hh, t, fun Z1 G1 H1 ws vs x1 h1 r1 t1 => ⟨Z1, ws, G1, Qw, _, r1, h1, t1, k.mono x1, fun Z2 G2 H2 nm C fs d x2 h2 c f q => kx Z2 G2 H2 σ' σ nm C fs d (x1.trans x2) h2 (e.ext hh (x1.trans x2)) c f q⟩⟩
noncomputable def wRetX (te : EXs → TEw) : TSw := fun D σ G => te D.ex σ G D.rt
noncomputable def wDropX (te : EXs → TEw) : TSw := fun D σ G => te D.ex σ G fun _ G1 => D.nx σ G1
variable {te : EXs → TEw}
theorem qretX (he : PExw X e te) : PSw X (.Return (some e) pos) (wRetX te) := ⟨fun pins s σ H D I h => by
 obtain ⟨Z, σ', G, Dw, ev, hr, t, k⟩ := h
 exact (ps_ret (he Dw.ex)).run pins s σ H D I ⟨Z, σ', G, _, ev, hr, t, k.rt, k.ex⟩⟩
theorem qexprX (he : PExw X e te) (hs : swapsWith e none pos.line X.env = pure false := by rfl) : PSw X (.Expr e pos) (wDropX te) := ⟨fun pins s σ H D I h => by
 obtain ⟨Z, σ', G, Dw, ev, hr, t, k⟩ := h
 exact (ps_expr (he Dw.ex) hs).run pins s σ H D I ⟨Z, σ', G, _, ev, hr, t, fun Z1 G1 H1 w v x1 h1 r1 q => k.nx Z1 G1 H1 σ' σ x1 h1 (ev.ext hr x1) q, k.ex⟩⟩
end
noncomputable def sdel : SW → Nat → SW
 | [], _ => []
 | _ :: l, 0 => none :: l
 | a :: l, i + 1 => a :: sdel l i
section
variable {K : PySem.W.Frag} {Z : Zp} {G : Gp} {H : Hp}
theorem RwS.del : ∀ {ws : SW} {vs : SV} (i : Nat), RwS K Z H ws vs → RwS K Z H (sdel ws i) (vs.set i none)
 | _, _, _, .nil => .nil
 | _, _, 0, .skip t => .skip t
 | _, _, 0, .cons _ t => .skip t
 | _, _, i + 1, .skip t => .skip (RwS.del i t)
 | _, _, i + 1, .cons r t => .cons r (RwS.del i t)
theorem ExF.exc {nm : Str} {a : Addr} {fs : List (Str × W)} {d : Option Addr} (f : ExF K Z H fs d) : Rw K Z H (.exc a d nm fs) (.ref a) := by
 rcases f with ⟨rfl, rfl⟩ | ⟨dd, gs, rfl, z, e, r⟩
 ·exact .exc0
 ·exact .excF z e r
end
noncomputable def wTryAs (i : Nat) (c : Str) (ES : List Str) (t : TSw) (ts : Addr → Option Addr → Str → List (Str × W) → TSw) : TSw := fun D σ G =>
 t { D with ex := fun nm fs σ1 G1 => nm ∈ ES ∧ (subE nm c = true → ∀ a d, G1 a = none → ts a d nm fs { nx := fun σ2 G2 => D.nx (sdel σ2 i) G2, rt := D.rt, bk := fun σ2 G2 => D.bk (sdel σ2 i) G2, ct := fun σ2 G2 => D.ct (sdel σ2 i) G2 } (sset σ1 i (.exc a d nm fs)) G1) ∧ (subE nm c = false → D.ex nm fs σ1 G1) } σ G
noncomputable def liftW (K : PySem.W.Frag) (V : WX) (t : TSw) : TS := fun D σ H => ∃ Z σ' G Dw, RwS K Z H σ' σ ∧ HRel K Z G H ∧ t Dw σ' G ∧ KS K Z G H Dw.nx D.nx ∧ KE K Z G H Dw.rt D.rt ∧ KS K Z G H Dw.bk D.bk ∧ KS K Z G H Dw.ct D.ct ∧
 ∀ Z' G' H' σ1' σ1 nm C fs d, Ext Z G H Z' G' H' → HRel K Z' G' H' → RwS K Z' H' σ1' σ1 → ClsA K nm C → ExF K Z' H' fs d → Dw.ex nm fs σ1' G' → V (.ref C) d σ1 H'
noncomputable def lift0 (K : PySem.W.Frag) (t : TSw) : TS := fun D σ H => ∃ Z σ' G Dw, RwS K Z H σ' σ ∧ HRel K Z G H ∧ t Dw σ' G ∧ KS K Z G H Dw.nx D.nx ∧ KE K Z G H Dw.rt D.rt ∧ KS K Z G H Dw.bk D.bk ∧ KS K Z G H Dw.ct D.ct ∧ Dw.ex = fun _ _ _ _ => False
theorem qtryAs {X : Cx} {c n : Str} {cv : Value} {i : Nat} {ES : List Str} {body suite : List Stmt} {b₀ : Stmt} {np pos pos' : Pos} {t : TSw} {ts : Addr → Option Addr → Str → List (Str × W) → TSw} (hs : X.stack = X.env :: X.outer) (hf : X.env.frame = some X.env.locals) (hN : X.N.Nodup) (hi : X.N[i]? = some n) (hln : X.env.kindOf n = some .local)
  (hc : Names X c cv) (hM : ErrM X.K ES c cv) (hb : ∀ (pn : List (Addr × Obj)) (xe : Value → Shared → Prop), PassesOwn (model X.prog X.w) X.A X.env xe → PSsw (X.tr pn xe) body t)
  (hsu : ∀ (a : Addr) (oe : Obj) (C : Addr) (d : Option Addr) (pn : List (Addr × Obj)) (nm : Str) (fs : List (Str × W)), ClsA X.K nm C → nm ∈ ES → L2N.Zn (.ref C) d oe → (∃ vs, oe.data = .fields vs) → PSsw (X.suite a ((a, oe) :: pn)) (b₀ :: suite) (ts a d nm fs)) :
  PSw X (.Try body [.ExceptHandler (some (.Name c np)) (some n) (b₀ :: suite) pos'] [] [] pos) (wTryAs i c ES t ts) := by
 refine PS.imp (L2N.ps_try_as (i := i) (c := cv) (tb := fun V => liftW X.K V t) (ts := fun a cls d D σ H => ∃ nm C fs, cls = .ref C ∧ ClsA X.K nm C ∧ nm ∈ ES ∧ lift0 X.K (ts a d nm fs) D σ H) (Wout := wishOf X) hs hf hN hi hln hc takes_wish
  (fun V pn xe tk pa => PSs.imp (hb pn xe pa) fun D σ H h => ?_) (fun a oe cls d pn hz hfl => ⟨fun pins s σ H D I h => ?_⟩)) fun D σ H h => ?_
 ·obtain ⟨Z, σ', G, Dw, ev, hr, t, k1, k2, k3, k4, kx⟩ := h
  exact ⟨Z, σ', G, Dw, ev, hr, t, ⟨k1, k2, k3, k4, fun Z1 G1 H1 s1' s1 nm C fs d x1 h1 r1 c1 f1 q => wish_of tk (kx Z1 G1 H1 s1' s1 nm C fs d x1 h1 r1 c1 f1 q)⟩⟩
 ·obtain ⟨nm, C, fs, rfl, cA, hm, Z, σ', G, Dw, ev, hr, t, k1, k2, k3, k4, k5⟩ := h
  exact (hsu a oe C d pn nm fs cA hm hz hfl).run pins s σ H D I ⟨Z, σ', G, Dw, ev, hr, t, ⟨k1, k2, k3, k4, fun _ _ _ _ _ _ _ _ _ _ _ _ _ _ z => by rw [k5] at z; exact z.elim⟩⟩
 ·obtain ⟨Z, σ', G, Dw, ev, hr, t, k⟩ := h
  refine ⟨Z, σ', G, _, ev, hr, t, k.nx, k.rt, k.bk, k.ct, fun Z1 G1 H1 s1' s1 nm C fs d x1 h1 r1 c1 f1 q => ?_⟩
  obtain ⟨q1, q2, q3⟩ := q
  refine ⟨subE nm c, hM nm q1 C c1, fun e a na => ⟨nm, C, fs, rfl, c1, q1, Z1, _, G1, _, r1.set f1.exc i, h1, q2 e a d (h1.fresh na), fun Z2 G2 H2 s2' s2 x2 h2 r2 q => k.nx Z2 G2 H2 _ _ (x1.trans x2) h2 (r2.del i) q, k.rt.mono x1,
   fun Z2 G2 H2 s2' s2 x2 h2 r2 q => k.bk Z2 G2 H2 _ _ (x1.trans x2) h2 (r2.del i) q, fun Z2 G2 H2 s2' s2 x2 h2 r2 q => k.ct Z2 G2 H2 _ _ (x1.trans x2) h2 (r2.del i) q, rfl⟩, fun e => k.ex Z1 G1 H1 s1' s1 nm C fs d x1 h1 r1 c1 f1 (q3 e)⟩
structure HotE (X : Cx) (a : Addr) (d : Option Addr) (nm : Str) : Prop where
 ex : ∃ oe C, L2H.Hot1 X.A (a, oe) ∧ (a, oe) ∈ X.pn ∧ ClsA X.K nm C ∧ L2N.Zn (.ref C) d oe
theorem hotE_suite {X : Cx} {a C : Addr} {oe : Obj} {d : Option Addr} {nm : Str} {pn : List (Addr × Obj)} (c : ClsA X.K nm C) (hz : L2N.Zn (.ref C) d oe) (hf : ∃ vs, oe.data = .fields vs) : HotE (X.suite a ((a, oe) :: pn)) a d nm :=
 ⟨oe, C, ⟨rfl, by obtain ⟨vs, e⟩ := hf; exact ⟨vs, e, hz.2.2 vs e⟩⟩, List.mem_cons_self, c, hz⟩
inductive ClsW : W → V → Value → Prop
 | own {D} : ClsW (.ref D) (.ref D) (.ref D)
 | ty {n} : ClsW (.ty n) (.ty n) (.type n)
noncomputable def DAt (d : Option Addr) (H : Hp) : Prop := d = none ∨ ∃ dd gs, d = some dd ∧ H dd = some (.xd gs)
theorem inst_at {X : Cx} {a C : Addr} {oe : Obj} {d : Option Addr} {pins : List (Addr × Obj)} {σ : SV} {H : Hp} {s : Shared} (I : Inv X pins σ H s) (hm : (a, oe) ∈ X.pn) (hz : L2N.Zn (.ref C) d oe) (hf : ∃ vs, oe.data = .fields vs) (hd : DAt d H) : ∃ od, PySem.W.InstAt s.heap a oe C od := by
 obtain ⟨hget, _⟩ := I.pin (a, oe) (List.mem_append_left _ hm)
 obtain ⟨vs, hv⟩ := hf
 obtain ⟨h1, h2, _⟩ := hz
 rcases hd with rfl | ⟨dd, gs, rfl, e⟩
 ·exact ⟨none, hget, h1, by unfold PySem.W.notCls; rw [hv] <;> rfl, by rw [h2]; trivial⟩
 ·have hx : ObjOk X.prog X.w H s.heap dd (.xd gs) := I.hok dd _ e
  obtain ⟨mA, hns, hr⟩ := hx
  obtain ⟨od, ho, hl⟩ := lookIn_ns hns
  exact ⟨some od, hget, h1, by unfold PySem.W.notCls; rw [hv] <;> rfl, by rw [h2]; exact ho⟩
theorem kit_at {K : PySem.W.Frag} {C a : Addr} {oe : Obj} {od : Option Obj} (T : ExcC K C) : PySem.W.KitX K (.ref a) (.ref C) (fun h => PySem.W.InstAt h a oe C od) :=
 PySem.W.kitx_exc (by obtain ⟨cd, e, _⟩ := PySem.W.any_some T.hd; rw [e]; rfl) T.hg T.hk T.hs T.ha T.hn T.ht T.hm
noncomputable def rIsX (K : PySem.W.Frag) (C a : Addr) (d : Option Addr) : List V → Hp → VK → Prop := fun xs H Q => ∃ c cv b, xs = [.ref a, c] ∧ (∀ u, RelV c u → u = cv) ∧ DAt d H ∧ PySem.W.kitOne K (.ref C) cv = some b ∧ Q (.bl b) H
section
variable {X : Cx} {a C : Addr} {d : Option Addr} {oe : Obj}
theorem call_isX (T : ExcC X.K C) (hm : (a, oe) ∈ X.pn) (hz : L2N.Zn (.ref C) d oe) (hf : ∃ vs, oe.data = .fields vs) : CallR X (.builtin "isinstance") (rIsX X.K C a d) := by
 intro pins s σ H xs us Q I r h
 obtain ⟨c, cv, b, rfl, hcv, hd, e, q⟩ := h
 cases r with
 | cons rx rr =>
  cases rr with
  | cons rt rr =>
   cases rr
   cases rx
   have ec := hcv _ rt
   subst ec
   obtain ⟨od, J⟩ := inst_at I hm hz hf hd
   exact PySem.W.kia_one (kit_at T) I.kIn J e (fun z => nomatch z) fun tk => ⟨.bl b, H, I.kept (t' := tk) fun _ _ z => z, rfl, q⟩
end
theorem Rw.dat {K : PySem.W.Frag} {Z : Zp} {H : Hp} {a : Addr} {d : Option Addr} {nm : Str} {fs : List (Str × W)} {v : V} (r : Rw K Z H (.exc a d nm fs) v) : v = .ref a ∧ DAt d H := by
 cases r with
 | exc0 => exact ⟨rfl, .inl rfl⟩
 | excF z e r => exact ⟨rfl, .inr ⟨_, _, rfl, e⟩⟩
noncomputable def wIsE (a : Addr) (d : Option Addr) (nm : Str) (T : Str) (te : TEw) : TEw := fun σ G Q => te σ G fun x G1 => ∃ fs, x = .exc a d nm fs ∧ Q (.bl (subE nm T)) G1
inductive ClsWs (K : PySem.W.Frag) (ES : List Str) : List Str → List W → List V → List Value → Prop
 | nil : ClsWs K ES [] [] [] []
 | cons {T cw cv c Ts cws cvs cs} : ErrT K ES T c → ClsW cw cv c → ClsWs K ES Ts cws cvs cs → ClsWs K ES (T :: Ts) (cw :: cws) (cv :: cvs) (c :: cs)
theorem ClsW.rel {K : PySem.W.Frag} {Z : Zp} {H : Hp} {cw : W} {cv v : V} {c : Value} (hw : ClsW cw cv c) (r : Rw K Z H cw v) : v = cv := by
 cases hw <;> cases r <;> rfl
theorem ClsW.val {cw : W} {cv : V} {c u : Value} (hw : ClsW cw cv c) (r : RelV cv u) : u = c := by
 cases hw <;> exact r
theorem ClsWs.rel {K : PySem.W.Frag} {ES : List Str} {Z : Zp} {H : Hp} : ∀ {Ts cws cvs cs vs}, ClsWs K ES Ts cws cvs cs → RwL K Z H cws vs → vs = cvs
 | _, _, _, _, _, .nil, r => by cases r; rfl
 | _, _, _, _, _, .cons _ hw t, r => by
  cases r with
  | cons ra rb => rw [hw.rel ra, ClsWs.rel t rb]
theorem ClsWs.val {K : PySem.W.Frag} {ES : List Str} : ∀ {Ts cws cvs cs us}, ClsWs K ES Ts cws cvs cs → Vals cvs us → us = cs
 | _, _, _, _, _, .nil, r => by cases r; rfl
 | _, _, _, _, _, .cons _ hw t, r => by
  cases r with
  | cons ra rb => rw [hw.val ra, ClsWs.val t rb]
section
variable {X : Cx} {a : Addr} {d : Option Addr} {nm T f : Str} {ES Ts : List Str} {c : Value} {cw : W} {cv : V} {cws : List W} {cvs : List V} {cs : List Value} {e : Expr} {es : List Expr} {te : TEw} {p p2 pos : Pos}
theorem qclsv {D : Addr} (hg : Gl X T) (hm : X.mg T = some (.ref D)) (hdb : (T == ("__debug__" : Str)) = false := by decide) : PEw X (.Name T p) (wC (.ref D)) := PE.imp (pe_glob (v := .ref D) hg hm rfl hdb) fun _ _ _ h => lC (fun _ _ => .ref) h
theorem qclsT {n : String} (hg : Gl X T) (hm : X.mg T = none) (hb : bootBuiltins T = some (.type n)) (hn : T ≠ "__name__" := by decide) (hd : (T == ("__debug__" : Str)) = false := by decide) : PEw X (.Name T p) (wC (.ty n)) := PE.imp (pe_bltn hg hm hb (show RelV (.ty n) (.type n) from rfl) hn hd) fun _ _ _ h => lC (fun _ _ => .ty) h
theorem qisE (hot : HotE X a d nm) (hn : nm ∈ ES) (hT : ErrT X.K ES T c) (hC : ErrC X.K ES) (hw : ClsW cw cv c) (hg : Gl X "isinstance") (hm : X.mg "isinstance" = none) (he : PEw X e te) (ht : PEw X (.Name T p2) (wC cw))
  (h1 : starEach [e, .Name T p2] X.env = (false, eval e X.env) :: starEach [.Name T p2] X.env := by rfl) (h2 : (backTo pos (starEach [.Name T p2] X.env)).any (·.1) = false := by rfl) (h3 : starEach [.Name T p2] X.env = (false, eval (.Name T p2) X.env) :: starEach [] X.env := by rfl) :
  PEw X (.Call (.Name "isinstance" p) [e, .Name T p2] [] pos) (wIsE a d nm T te) := by
 obtain ⟨oe, C, ⟨hh, vs, hd, _⟩, hp, cA, hz⟩ := hot.ex
 refine PE.imp (pe_callB (call_isX (hC nm hn C cA) hp hz ⟨vs, hd⟩) hg hm (by decide +kernel) (qa_cons he (qa_cons ht qa_nil h3) h1) (by decide) (by decide) h1 h2) fun σ H Q h => ?_
 obtain ⟨Z, σ', G, Qw, ev, hr, t, kk⟩ := h
 refine ⟨Z, σ', G, fun ws G1 => ∃ fs, ws = [.exc a d nm fs, cw] ∧ Qw (.bl (subE nm T)) G1, ev, hr, ?_, fun Z1 G1 H1 ws vs x1 h1 r1 t1 => ?_⟩
 ·have t' : te σ' G fun x G1 => ∃ fs, x = .exc a d nm fs ∧ Qw (.bl (subE nm T)) G1 := t
  show te σ' G fun x G1 => ∃ fs, [x, cw] = [.exc a d nm fs, cw] ∧ Qw (.bl (subE nm T)) G1
  have e2 : (fun x G1 => ∃ fs, [x, cw] = [W.exc a d nm fs, cw] ∧ Qw (.bl (subE nm T)) G1) = fun (x : W) (G1 : Gp) => ∃ fs, x = .exc a d nm fs ∧ Qw (.bl (subE nm T)) G1 := by
   funext x G1; simp
  rw [e2]; exact t'
 ·obtain ⟨fs, rfl, q⟩ := t1
  cases r1 with
  | cons ra r1 =>
   cases r1 with
   | cons rb r1 =>
    cases r1
    obtain ⟨rfl, da⟩ := ra.dat
    obtain rfl := hw.rel rb
    exact ⟨_, c, _, rfl, fun u r => hw.val r, da, hT nm hn C cA, kk Z1 G1 H1 _ _ x1 h1 .bl q⟩
end
noncomputable abbrev SpE := Addr → Option Addr → Str → List W → Gp → QW → Prop
noncomputable def liftSpE (K : PySem.W.Frag) (sp : SpE) (a : Addr) (d : Option Addr) (nm : Str) (vs : List V) (H : Hp) (Q : VK) : Prop := ∃ Z ws G Qw, RwL K Z H ws vs ∧ HRel K Z G H ∧ sp a d nm ws G Qw ∧ KE K Z G H Qw Q
structure FnE (P : Program) (w : World) (K : PySem.W.Frag) (mg : Str → Option Value) (base : Heap) (ES : List Str) (k : Nat) (f : Addr) (fd : FuncData) (ps : List Str) (sp : SpE) : Prop where
 len : ∀ a d nm ws G Q, sp a d nm ws G Q → ws.length = ps.length
 run : ∀ (A : Around) (outer : List Env) (s : Shared) (H : Hp) (args : Args) (us : List Value) (vs : List V) (Q : VK) (p : Addr × Obj) (C : Addr) (d : Option Addr) (nm : Str), L2H.RoomH k A → L2H.Hot1 A p → ClsA K nm C → nm ∈ ES → L2N.Zn (.ref C) d p.2 → L2H.PinOk outer H s p → Env0 P w K mg base A outer s H → BindsTo s fd args (ps.zip us) → Vals vs us → liftSpE K sp p.1 d nm vs H Q →
  codeAny (model P w) A (.call (.ref f) args) (CR CX0 outer P w H s Q L2.E0) s
structure CalE (P : Program) (w : World) (K : PySem.W.Frag) (mg : Str → Option Value) (base : Heap) (ES : List Str) (k : Nat) (x : Str) (sp : SpE) : Prop where
 ex : ∃ f fd ps, FnE P w K mg base ES k f fd ps sp ∧ mg x = some (.ref f) ∧ PySem.W.keepIn K (.ref f) = true ∧ Binds K fd ps []
theorem hu64H {A : Around} {k : Nat} (hr : L2H.RoomH k A) : A.units + 64 < cLine := by have := hr.un; omega
theorem okE {P : Program} {w : World} {K : PySem.W.Frag} {mg : Str → Option Value} {base : Heap} {ES : List Str} {x qual : Str} {st : Stmt} {f : Addr} {fd : FuncData} {N ps : List Str} {k : Nat} {sp : SpE} (F : Fun K x qual st f fd) (S : FnScope N ps (defScope st)) (len : ∀ a d nm ws G Q, sp a d nm ws G Q → ws.length = ps.length)
  (hbody : ∀ (cdv : Value) (A : Around) (outer : List Env) (s : Shared) (H : Hp) (p : Addr × Obj) (d : Option Addr) (nm : Str), nm ∈ ES → L2H.RoomH k (A.deeper (envOfC qual (defScope st) s.heap.objs.size f cdv)) → HotE (L2H.cxH CX0 P w K mg base N qual (defScope st) f cdv A outer s H L2.E0 p) p.1 d nm →
   ∃ t, PSsw (L2H.cxH CX0 P w K mg base N qual (defScope st) f cdv A outer s H L2.E0 p) (defBody st) t ∧ ∀ ws G Q, sp p.1 d nm ws G Q → t { nx := fun _ G' => Q .non G', rt := Cl Q } (startW N ws) G) :
  FnE P w K mg base ES (k + 1) f fd ps sp := by
 obtain ⟨oc, od, kV, doc, pm, an, cdv, ct, osl, rfl, lk, hcd⟩ := F.ex
 refine ⟨len, fun A outer s H args us vs Q p C d nm hr hot cA hn hz hpin e0 hb r hsp => ?_⟩
 obtain ⟨Z, ws, G, Qw, rr, hh, s1, kq⟩ := hsp
 have hl : vs.length = ps.length := by rw [← rr.length]; exact len _ _ _ _ _ _ s1
 have KX : K.In s.heap := e0.mod.kin.keeps fun b o e => (e0.bs b o e).1
 have lim : s.heap.NoLimit := e0.mod.nolimit.keeps fun b o e => (e0.bs b o e).1
 have hkind : ∀ y ∈ ps.zip us, (defScope st).names.lookup y.1 = some .local ∨ ((defScope st).names.lookup y.1 = some .cell ∧ ((cellsFrom (s.heap.objs.size + 1) (defScope st).names []).lookup y.1).isSome = true) := fun ⟨n, v⟩ hy => by
  rcases S.par n (List.of_mem_zip hy).1 with q | q
  ·exact .inl q
  ·exact .inr ⟨q, PySem.W.cellsFrom_some _ _ _ (.inl q)⟩
 refine codeAny_call_function hr.depth (KX _ _ lk) rfl S.co S.gen rfl (PySem.W.codeRec_of KX hcd) (hb _ _ _ _ ?_)
 refine wpAny_newFunctionEnv_cells S.kind hkind fun env he s1' x => ?_
 subst he
 refine ⟨lim.keeps x.toInCall.keep, codeAny_func ?_⟩
 obtain ⟨t, ht, hq⟩ := hbody cdv A outer s H p d nm hn (hr.deeper _) ⟨p.2, C, hot, List.mem_cons_self, cA, hz⟩
 have I : Inv (L2H.cxH CX0 P w K mg base N qual (defScope st) f cdv A outer s H L2.E0 p) [] (L2.start N vs) H s1' := L2H.inv_startH S hpin e0 hl r x
 refine wpAny_mono (ht.run [] s1' (L2.start N vs) H { nx := fun _ H' => Q .non H', rt := Q } I ⟨Z, _, G, _, RwS.start rr, hh, hq ws G Qw s1, ⟨fun Z1 G1 H1 _ _ x1 h1 _ q1 => kq Z1 G1 H1 _ _ x1 h1 .non q1, kq.cl, fun _ _ _ _ _ _ _ _ z => z.elim, fun _ _ _ _ _ _ _ _ z => z.elim, fun _ _ _ _ _ _ _ _ _ _ _ _ _ _ z => z.elim⟩⟩) (fun fl s' hs => ?_) fun e s' hs => hs
 have fin : ∀ {σ' : SV} {H' : Hp} {v : V} {u : Value}, Inv (L2H.cxH CX0 P w K mg base N qual (defScope st) f cdv A outer s H L2.E0 p) [] σ' H' s' → RelV v u → Q v H' → CE outer P w H s Q u s' :=
  fun {σ' H' v u} J rv q => ⟨v, H', J.os, J.bare, J.base, J.hok, rv, q⟩
 cases fl with
 | ret u =>
  obtain ⟨v, σ', H', J, rv, q⟩ := hs
  exact fin J rv q
 | next =>
  obtain ⟨σ', H', J, q⟩ := hs
  exact fin (v := V.non) (u := Value.none) J rfl q
 | brk =>
  obtain ⟨_, _, _, q⟩ := hs
  exact False.elim q
 | cont =>
  obtain ⟨_, _, _, q⟩ := hs
  exact False.elim q
noncomputable def wCallE (sp : SpE) (a : Addr) (d : Option Addr) (nm : Str) (t : TAw) : TEw := fun σ G Q => t σ G fun ws G1 => sp a d nm ws G1 Q
section
variable {X : Cx} {a : Addr} {d : Option Addr} {nm x : Str} {ES : List Str} {k : Nat} {sp : SpE} {t : TAw} {e : Expr} {es : List Expr} {p pos : Pos}
theorem qcallE (c : CalE X.prog X.w X.K X.mg X.base ES k x sp) (hot : HotE X a d nm) (hn : nm ∈ ES) (hr : L2H.RoomH k X.A) (hg : Gl X x) (ha : PAw X (e :: es) t) (hdb : (x == ("__debug__" : Str)) = false := by decide)
  (he : starEach (e :: es) X.env = (false, eval e X.env) :: starEach es X.env := by rfl) (hpl : (backTo pos (starEach es X.env)).any (·.1) = false := by rfl) : PEw X (.Call (.Name x p) (e :: es) [] pos) (wCallE sp a d nm t) := by
 obtain ⟨f, fd, ps, F, m, kp, b⟩ := c.ex
 obtain ⟨oe, C, hh, hp, cA, hz⟩ := hot.ex
 refine ⟨fun pins s σ H Q I h => ?_⟩
 obtain ⟨Z, σ', G, Qw, ev, hrl, t, kk⟩ := h
 refine wpAny_Call_Name_kw (ld_glob I hg m ?_ hdb)
 refine PySem.W.callWith_K (h₀ := X.base) I.ok.mod.kin kp (thn (ha.run pos pins s σ H (fun vs H1 => liftSpE X.K sp a d nm vs H1 Q) I ⟨Z, σ', G, _, ev, hrl, t, fun Z1 G1 H1 ws vs x1 h1 r1 t1 => ⟨Z1, ws, G1, Qw, r1, h1, t1, kk.mono x1⟩⟩) fun us s1 ⟨vs, H1, I1, r, q⟩ => ⟨I1.kIn, ?_⟩) he hpl
 have hl : us.length = ps.length := by
  obtain ⟨Z1, ws, G1, Qw1, r1, _, s1, _⟩ := q
  rw [← r.length, ← r1.length]; exact F.len _ _ _ _ _ _ s1
 have b := b s1 us I1.kIn (by rw [List.append_nil]; exact hl)
 rw [List.append_nil] at b
 have P1 := I1.pin (a, oe) (List.mem_append_left _ hp)
 have hpin : L2H.PinOk X.stack H1 s1 (a, oe) := ⟨P1.1, P1.2.1, fun hm => (List.mem_cons.mp (I1.stkSub a hm)).elim P1.2.2.1 P1.2.2.2.1, P1.2.2.2.2⟩
 refine wpAny_call (codeAny_mono (F.run X.A X.stack s1 H1 ⟨us, []⟩ us vs Q (a, oe) C d nm hr hh cA hn hz hpin I1.env0 b r q) fun r s' hq => ?_)
 cases r with
 | error e => exact hq.elim
 | ok fl =>
  cases fl with
  | ret u => exact I1.after hq
  | next => exact False.elim hq
  | brk => exact False.elim hq
  | cont => exact False.elim hq
end
section
variable {X : Cx} {a b : Expr} {ta tb : TEw} {pos : Pos} {k : Nat}
theorem qtneH (hr : L2H.RoomH k X.A) (ha : PEw X a ta) (hb : PEw X b tb) : PTw X (.Compare a [.NotEq] [b] pos) (wTest (wOp wNe ta tb)) := qtcmp (OpR.or op_ne (op_neD (hu64H hr))) sim_ne ha hb (nomark _)
end
theorem roomH_mark {k : Nat} {A : Around} {a_e : Addr} (hr : Room k A) : L2H.RoomH k (A.mark (some (.ref a_e))) := ⟨hr.dp, hr.un⟩
noncomputable def isExc (a : Addr) (d : Option Addr) (nm : Str) (x : W) (P : List (Str × W) → Prop) : Prop := ∃ fs, x = .exc a d nm fs ∧ P fs
theorem isExc_exc {a : Addr} {d : Option Addr} {nm : Str} {fs : List (Str × W)} {P : List (Str × W) → Prop} : isExc a d nm (.exc a d nm fs) P = P fs := by
 unfold isExc
 exact propext ⟨fun ⟨gs, e, h⟩ => (by injection e with _ _ _ e; subst e; exact h), fun h => ⟨fs, rfl, h⟩⟩
theorem kit_ref {K : PySem.W.Frag} {C D : Addr} {b : Bool} (h1 : PySem.W.isClsIn K D = true) (h2 : PySem.W.typeIn K (.ref D) = some (.type "type")) (h3 : PySem.W.subIn K (.ref C) (.ref D) = some b) (h0 : PySem.W.subIn K (.ref C) (.ref C) = some true) : PySem.W.kitOne K (.ref C) (.ref D) = some b := by
 unfold PySem.W.kitOne
 split
 ·rename_i e
  have e : C = D := Value.ref.inj (beq_iff_eq.mp e)
  subst e
  exact h0.symm.trans h3
 ·have h1 : (PySem.W.clsIn K D).isSome = true := h1
  show (if ((PySem.W.clsIn K D).isSome && PySem.W.typeIn K (.ref D) == some (.type "type")) = true then PySem.W.subIn K (.ref C) (.ref D) else none) = some b
  rw [if_pos (by rw [h1, h2]; rfl)]
  exact h3
theorem kit_typ {K : PySem.W.Frag} {C : Addr} {n : String} {b : Bool} (h1 : PySem.W.kitMeta n = true) (h3 : PySem.W.subIn K (.ref C) (.type n) = some b) : PySem.W.kitOne K (.ref C) (.type n) = some b := by
 unfold PySem.W.kitOne
 rw [if_neg (show ¬ ((Value.ref C == Value.type n) = true) from Bool.false_ne_true)]
 show (if PySem.W.kitMeta n = true then PySem.W.subIn K (.ref C) (.type n) else none) = some b
 rw [if_pos h1]
 exact h3
section
variable {prog : Program} {w : World} {A : Around} {E : Value → Shared → Prop} {s : Shared}
end
section
variable {X : Cx} {elt tg iter : Expr} {ifs : List Expr} {scope : Scope} {own : List (Str × Nat)} {pos : Pos} {g : TG} {tt : TT} {te tl : TE}
end
section
variable {X : Cx} {vs : List Nat} {scope : Scope} {pos : Pos}
variable {elt tg iter : Expr} {ifs : List Expr} {own : List (Str × Nat)} {gw : TGw} {tt : TTw} {te te0 : TEw}
end
mutual
inductive NkV (K : PySem.W.Frag) (H : Hp) : NestedKey → V → Prop
 | non : NkV K H .none .non
 | bl {b} : NkV K H (.num (if b = true then 1 else 0)) (.bl b)
 | int {i} : NkV K H (.num i) (.int i)
 | tup {p vs ks} : SqT K H p vs → NkVs K H ks vs → NkV K H (.tup ks) (.ref p)
inductive NkVs (K : PySem.W.Frag) (H : Hp) : List NestedKey → List V → Prop
 | nil : NkVs K H [] []
 | cons {k v ks vs} : NkV K H k v → NkVs K H ks vs → NkVs K H (k :: ks) (v :: vs)
end
section
variable {K : PySem.W.Frag} {Z Z' : Zp} {G G' : Gp} {H H' : Hp}
mutual
theorem Rw.nkv : ∀ {w : W} {v : V} {k : NestedKey}, Rw K Z H w v → keyN0 w = some k → NkV K H k v
 | _, _, _, .non, e => by simp only [keyN0, Option.some.injEq] at e; subst e; exact .non
 | _, _, _, .bl, e => by simp only [keyN0, Option.some.injEq] at e; subst e; exact .bl
 | _, _, _, .int, e => by simp only [keyN0, Option.some.injEq] at e; subst e; exact .int
 | _, _, _, .tup s r, e => by
  simp only [keyN0, Option.map_eq_some_iff] at e
  obtain ⟨ks, e, rfl⟩ := e
  exact .tup s (RwL.nkv r e)
 | _, _, _, .str, e => by simp [keyN0] at e
 | _, _, _, .ref, e => by simp [keyN0] at e
 | _, _, _, .lst _ _ _, e => by simp [keyN0] at e
 | _, _, _, .scr _ _, e => by simp [keyN0] at e
 | _, _, _, .ty, e => by simp [keyN0] at e
 | _, _, _, .ins _ _ _ _, e => by simp [keyN0] at e
 | _, _, _, .dic _ _ _, e => by simp [keyN0] at e
 | _, _, _, .exc0, e => by simp [keyN0] at e
 | _, _, _, .excF _ _ _, e => by simp [keyN0] at e
 | _, _, _, .dcn _ _ _ _ _ _ _, e => by simp [keyN0] at e
theorem RwL.nkv : ∀ {ws : List W} {vs : List V} {ks : List NestedKey}, RwL K Z H ws vs → keysN0 ws = some ks → NkVs K H ks vs
 | _, _, _, .nil, e => by simp only [keysN0, Option.some.injEq] at e; subst e; exact .nil
 | w :: ws, _, _, .cons r t, e => by
  simp only [keysN0] at e
  cases e1 : keyN0 w with
  | none => rw [e1] at e; cases e
  | some k =>
   cases e2 : keysN0 ws with
   | none => rw [e1, e2] at e; cases e
   | some ks =>
    rw [e1, e2] at e
    cases e
    exact .cons (Rw.nkv r e1) (RwL.nkv t e2)
end
mutual
theorem keyN0_txt : ∀ (w : W) {k : NestedKey}, keyN0 w = some k → txtless k = true
 | .non, _, e => by simp only [keyN0, Option.some.injEq] at e; subst e; rfl
 | .bl _, _, e => by simp only [keyN0, Option.some.injEq] at e; subst e; rfl
 | .int _, _, e => by simp only [keyN0, Option.some.injEq] at e; subst e; rfl
 | .tup ws, _, e => by
  simp only [keyN0, Option.map_eq_some_iff] at e
  obtain ⟨ks, e, rfl⟩ := e
  rw [txtless]
  exact keysN0_txt ws e
 | .str _, _, e => by simp [keyN0] at e
 | .ref _, _, e => by simp [keyN0] at e
 | .lst _, _, e => by simp [keyN0] at e
 | .scr _, _, e => by simp [keyN0] at e
 | .ty _, _, e => by simp [keyN0] at e
 | .ins _ _, _, e => by simp [keyN0] at e
 | .dic _, _, e => by simp [keyN0] at e
 | .exc _ _ _ _, _, e => by simp [keyN0] at e
 | .dcn _, _, e => by simp [keyN0] at e
theorem keysN0_txt : ∀ (ws : List W) {ks : List NestedKey}, keysN0 ws = some ks → txtlesss ks = true
 | [], _, e => by simp only [keysN0, Option.some.injEq] at e; subst e; rfl
 | w :: ws, _, e => by
  simp only [keysN0] at e
  cases e1 : keyN0 w with
  | none => rw [e1] at e; cases e
  | some k =>
   cases e2 : keysN0 ws with
   | none => rw [e1, e2] at e; cases e
   | some ks =>
    rw [e1, e2] at e
    cases e
    rw [txtlesss, keyN0_txt w e1, keysN0_txt ws e2]
    rfl
end
theorem keyN_ex {w : W} {k : NestedKey} (h : keyN w = some k) : ∃ ws, w = .tup ws ∧ keyN0 w = some k ∧ txtless k = true ∧ k.depth ≤ 8 := by
 unfold keyN at h
 split at h
 ·rename_i ws
  split at h
  ·rename_i k' e
   split at h
   ·rename_i l
    cases h
    exact ⟨ws, rfl, e, keyN0_txt _ e, l⟩
   ·cases h
  ·cases h
 ·cases h
theorem Rw.key3 {w : W} {v : V} {k : NestedKey} (r : Rw K Z H w v) (h : keyN w = some k) : ∃ b, v = .ref b ∧ NkV K H k (.ref b) ∧ txtless k = true ∧ k.depth ≤ 8 := by
 obtain ⟨ws, rfl, e, t, d⟩ := keyN_ex h
 have n := r.nkv e
 cases r with
 | tup s r => exact ⟨_, rfl, n, t, d⟩
end
section
variable {X : Cx} {pins : List (Addr × Obj)} {σ : SV} {H : Hp} {s : Shared}
mutual
theorem NkV.is (I : Inv X pins σ H s) : ∀ {k : NestedKey} {v : V} {u : Value}, NkV X.K H k v → RelV v u → NestedIs s.heap k u
 | _, _, _, .non, r => by obtain rfl := r; exact .none
 | _, _, _, .bl, r => by obtain rfl := r; exact .bool rfl
 | _, _, _, .int, r => by obtain ⟨t, rfl⟩ := r; exact .int _ _
 | _, _, _, .tup (p := p) hs n, r => by
  obtain rfl := r
  obtain ⟨its, rv, ⟨o, h1, h2, m, h3⟩, _⟩ := I.tuple hs
  exact .tup h1 h2 h3 (by simpa using NkVs.is I n rv)
theorem NkVs.is (I : Inv X pins σ H s) : ∀ {ks : List NestedKey} {vs : List V} {us : List Value}, NkVs X.K H ks vs → Vals vs us → NestedAll s.heap ks us
 | _, _, _, .nil, .nil => .nil
 | _, _, _, .cons n t, .cons r rr => .cons (NkV.is I n r) (NkVs.is I t rr)
end
inductive EnV (K : PySem.W.Frag) (H : Hp) : List (NestedKey × Addr × Value) → List (NestedKey × V) → Prop
 | nil : EnV K H [] []
 | cons {k b u v xs zs} : NkV K H k (.ref b) → txtless k = true → k.depth ≤ 8 → RelV v u → EnV K H xs zs → EnV K H ((k, b, u) :: xs) ((k, v) :: zs)
structure DkA (K : PySem.W.Frag) (H : Hp) (p : Addr) (xs : List (NestedKey × Addr × Value)) (zs : List (NestedKey × V)) : Prop where
 sys : (p == sysModules) = false
 at_ : H p = some (.ext (dknF p xs))
 len : xs.length ≤ sizeLine
 nd : (xs.map (·.1)).Nodup
 en : EnV K H xs zs
theorem EnV.mem {K : PySem.W.Frag} {xs : List (NestedKey × Addr × Value)} {zs : List (NestedKey × V)} (e : EnV K H xs zs) : ∀ x ∈ xs, NkV K H x.1 (.ref x.2.1) ∧ txtless x.1 = true ∧ x.1.depth ≤ 8 := by
 induction e with
 | nil => intro x hx; cases hx
 | cons a b c _ _ ih =>
  intro x hx
  rcases List.mem_cons.mp hx with rfl | hx
  ·exact ⟨a, b, c⟩
  ·exact ih x hx
theorem EnV.atK {K : PySem.W.Frag} {k : NestedKey} : ∀ {xs : List (NestedKey × Addr × Value)} {zs : List (NestedKey × V)}, EnV K H xs zs → (atKey xs k).isSome = (zs.find? fun z => decide (z.1 = k)).isSome ∧ ∀ v, (zs.find? fun z => decide (z.1 = k)).map (·.2) = some v → ∃ p, atKey xs k = some p ∧ RelV v p.2
 | _, _, .nil => ⟨rfl, fun v h => by simp at h⟩
 | _, _, .cons (k := k2) (b := b) (u := u) (v := v) (xs := xs) (zs := zs) _ _ _ r t => by
  obtain ⟨h1, h2⟩ := EnV.atK (k := k) t
  by_cases c : k2 = k
  ·subst c
   refine ⟨by simp [atKey, List.find?_cons], fun w h => ?_⟩
   simp only [List.find?_cons, decide_true, Option.map_some, Option.some.injEq] at h
   subst h
   exact ⟨(b, u), by simp [atKey, List.find?_cons], r⟩
  ·have e1 : atKey ((k2, b, u) :: xs) k = atKey xs k := by simp [atKey, List.find?_cons, c]
   have e2 : (((k2, v) :: zs).find? fun z => decide (z.1 = k)) = zs.find? fun z => decide (z.1 = k) := by simp [List.find?_cons, c]
   rw [e1, e2]
   exact ⟨h1, h2⟩
theorem DkA.dict {p : Addr} {xs : List (NestedKey × Addr × Value)} {zs : List (NestedKey × V)} (I : Inv X pins σ H s) (d : DkA X.K H p xs zs) : s.heap.DictOfH (nestedKind X.prog X.w) p xs := by
 have x : ObjOk X.prog X.w H s.heap p (.ext (dknF p xs)) := I.hok p _ d.at_
 obtain ⟨⟨o, es, ep, ho, hc, hd, he⟩, _⟩ := x
 have m := d.en.mem
 refine ⟨o, es, ep, ho, hc, hd, he.trans (List.map_congr_left fun x hx => ?_), fun x hx => ?_, d.nd⟩
 ·show (⟨hashN x.1, .ref x.2.1, x.2.2⟩ : DictEntry) = ⟨x.1.hash X.w, .ref x.2.1, x.2.2⟩
  rw [hashN_eq X.w (m x hx).2.1]
 ·exact ⟨(m x hx).1.is I rfl, (m x hx).2.2⟩
end
section
variable {X : Cx} {o i value : Expr} {td ty tv : TE} {pos pos' : Pos}
end
noncomputable def valN (kvs : List (W × W)) (k : NestedKey) : Option W := (kvs.find? fun kv => decide (keyN kv.1 = some k)).map (·.2)
noncomputable def putN (kvs : List (W × W)) (kw : W) (k : NestedKey) (v : W) : List (W × W) := if (valN kvs k).isSome = true then kvs.map fun kv => if keyN kv.1 = some k then (kv.1, v) else kv else kvs ++ [(kw, v)]
section
variable {K : PySem.W.Frag} {Z Z' : Zp} {G G' : Gp} {H H' : Hp}
theorem RwN.env : ∀ {xs : List (NestedKey × Addr × Value)} {kvs : List (W × W)}, RwN K Z H xs kvs → ∃ zs, EnV K H xs zs ∧ (∀ k w, valN kvs k = some w → ∃ v, (zs.find? fun z : NestedKey × V => decide (z.1 = k)).map (·.2) = some v ∧ Rw K Z H w v) ∧ (∀ k, (zs.find? fun z : NestedKey × V => decide (z.1 = k)).isSome = (valN kvs k).isSome)
 | _, _, .nil => ⟨[], .nil, fun k w h => by simp [valN] at h, fun k => rfl⟩
 | _, _, .cons (k := k2) (b := b) (u := u) (kw := kw) (vw := vw) (v := v) (xs := xs) (kvs := kvs) ek ra rb ru t => by
  obtain ⟨zs, e, h1, h2⟩ := RwN.env t
  obtain ⟨b', eb, n, tx, dp⟩ := ra.key3 ek
  cases eb
  refine ⟨(k2, v) :: zs, .cons n tx dp ru e, fun k w h => ?_, fun k => ?_⟩
  ·by_cases c : k2 = k
   ·subst c
    simp only [valN, List.find?_cons, ek, decide_true, Option.map_some, Option.some.injEq] at h
    subst h
    exact ⟨v, by simp [List.find?_cons], rb⟩
   ·have c2 : ¬ keyN kw = some k := fun z => c (by rw [ek] at z; exact Option.some.inj z)
    have e2 : valN ((kw, vw) :: kvs) k = valN kvs k := by simp [valN, List.find?_cons, c2]
    rw [e2] at h
    obtain ⟨v', q1, q2⟩ := h1 k w h
    exact ⟨v', by simp only [List.find?_cons, decide_eq_false c]; exact q1, q2⟩
  ·by_cases c : k2 = k
   ·subst c
    simp [valN, List.find?_cons, ek]
   ·have c2 : ¬ keyN kw = some k := fun z => c (by rw [ek] at z; exact Option.some.inj z)
    have e2 : valN ((kw, vw) :: kvs) k = valN kvs k := by simp [valN, List.find?_cons, c2]
    rw [e2, ← h2 k]
    simp only [List.find?_cons, decide_eq_false c]
theorem RwN.length : ∀ {xs : List (NestedKey × Addr × Value)} {kvs : List (W × W)}, RwN K Z H xs kvs → kvs.length = xs.length
 | _, _, .nil => rfl
 | _, _, .cons _ _ _ _ t => by rw [List.length_cons, List.length_cons, RwN.length t]
theorem RwN.atK {k : NestedKey} {xs : List (NestedKey × Addr × Value)} {kvs : List (W × W)} (r : RwN K Z H xs kvs) : (atKey xs k).isSome = (valN kvs k).isSome := by
 obtain ⟨zs, e, _, h2⟩ := r.env
 rw [e.atK.1, h2]
theorem RwN.repl {k : NestedKey} {w : W} {v : V} {u : Value} (rw' : Rw K Z H w v) (ru : RelV v u) : ∀ {xs : List (NestedKey × Addr × Value)} {kvs : List (W × W)}, RwN K Z H xs kvs → RwN K Z H (xs.map (putAt k u)) (kvs.map fun kv => if keyN kv.1 = some k then (kv.1, w) else kv)
 | _, _, .nil => .nil
 | _, _, .cons (k := k2) (b := b) (u := u2) (kw := kw) (vw := vw) ek ra rb rr t => by
  rw [List.map_cons, List.map_cons]
  by_cases c : k2 = k
  ·subst c
   have e1 : putAt k2 u (k2, b, u2) = (k2, b, u) := by simp [putAt]
   simp only [e1, ek, if_true]
   exact .cons ek ra rw' ru (RwN.repl rw' ru t)
  ·have c2 : ¬ keyN kw = some k := fun z => c (by rw [ek] at z; exact Option.some.inj z)
   have e1 : putAt k u (k2, b, u2) = (k2, b, u2) := by simp [putAt, c]
   simp only [e1, c2, if_false]
   exact .cons ek ra rb rr (RwN.repl rw' ru t)
theorem RwN.snoc {k : NestedKey} {kw w : W} {v : V} {u : Value} {b : Addr} (ek : keyN kw = some k) (ra : Rw K Z H kw (.ref b)) (rw' : Rw K Z H w v) (ru : RelV v u) : ∀ {xs : List (NestedKey × Addr × Value)} {kvs : List (W × W)}, RwN K Z H xs kvs → RwN K Z H (xs ++ [(k, b, u)]) (kvs ++ [(kw, w)])
 | _, _, .nil => .cons ek ra rw' ru .nil
 | _, _, .cons e a b r t => .cons e a b r (RwN.snoc ek ra rw' ru t)
theorem RwN.put {k : NestedKey} {kw w : W} {v : V} {u : Value} {b : Addr} (ek : keyN kw = some k) (ra : Rw K Z H kw (.ref b)) (rw' : Rw K Z H w v) (ru : RelV v u) {xs : List (NestedKey × Addr × Value)} {kvs : List (W × W)} (r : RwN K Z H xs kvs) : RwN K Z H (storedH xs k b u) (putN kvs kw k w) := by
 unfold storedH putN
 rw [r.atK]
 split
 ·exact r.repl rw' ru
 ·exact r.snoc ek ra rw' ru
end
section
variable {X : Cx} {a b o i e : Expr} {ta tb td ty tv : TEw} {pos pos' : Pos} {k : Nat}
end
section
variable {prog : Program} {w : World} {A : Around} {E : Value → Shared → Prop} {s : Shared}
end
section
variable {X : Cx} {K : PySem.W.Frag}
end
section
variable {X : Cx} {K : PySem.W.Frag}
end
mutual
noncomputable def wdr (G : Gp) : W → W
 | .tup ws => .tup (wdrs G ws)
 | .lst ws => .lst (wdrs G ws)
 | .ref p => match G p with
  | some (.lst ws) => .lst ws
  | _ => .ref p
 | w => w
noncomputable def wdrs (G : Gp) : List W → List W
 | [] => []
 | w :: ws => wdr G w :: wdrs G ws
end
section
variable {K : PySem.W.Frag} {Z : Zp} {G : Gp} {H : Hp}
theorem dp_ref (h : HRel K Z G H) {a : Addr} (p : wpure (wdr G (.ref a)) = true) : Dp K H (.ref a) (wdat (wdr G (.ref a))) := by
 have e : wdr G (.ref a) = wder G (.ref a) := rfl
 rw [e] at p ⊢
 exact dp_der h .ref p
mutual
theorem dp_dr (h : HRel K Z G H) : ∀ {w : W} {v : V}, Rw K Z H w v → wpure (wdr G w) = true → Dp K H v (wdat (wdr G w))
 | _, _, .non, _ => by simp only [wdr, wdat]; exact .non
 | _, _, .bl, _ => by simp only [wdr, wdat]; exact .bl _
 | _, _, .int, _ => by simp only [wdr, wdat]; exact .int _
 | _, _, .str, _ => by simp only [wdr, wdat]; exact .str _
 | _, _, .ref, p => dp_ref h p
 | _, _, .ty, p => by simp [wdr, wpure] at p
 | _, _, .ins _ _ _ _, p => by simp [wdr, wpure] at p
 | _, _, .dic _ _ _, p => by simp [wdr, wpure] at p
 | _, _, .exc0, p => by simp [wdr, wpure] at p
 | _, _, .dcn _ _ _ _ _ _ _, p => by simp [wdr, wpure] at p
 | _, _, .excF _ _ _, p => by simp [wdr, wpure] at p
 | _, _, .tup s r, p => by
  simp only [wdr, wdat]
  exact .tup s (dp_drs h r (by simpa [wdr, wpure] using p))
 | _, _, .lst z s r, p => by
  simp only [wdr, wdat]
  exact .lst (SqL.of s) (dp_drs h r (by simpa [wdr, wpure] using p))
 | _, _, .scr s r, p => by
  simp only [wdr, wpure] at p
  simp only [wdr, wdat]
  exact .lst s.sq (RwL.dp r p)
theorem dp_drs (h : HRel K Z G H) : ∀ {ws : List W} {vs : List V}, RwL K Z H ws vs → wpures (wdrs G ws) = true → DpAll K H vs (wdats (wdrs G ws))
 | _, _, .nil, _ => by simp only [wdrs, wdats]; exact .nil
 | _, _, .cons r t, p => by
  simp only [wdrs, wpures, Bool.and_eq_true] at p
  simp only [wdrs, wdats]
  exact .cons (dp_dr h r p.1) (dp_drs h t p.2)
end
end
section
variable {X : Cx} {e : Expr} {es : List Expr} {t : TAw} {p pos : Pos}
end
section
variable {X : Cx} {K : PySem.W.Frag} {a b : Expr} {ta tb : TEw} {pos : Pos}
end
section
variable {X : Cx} {e : Expr} {es : List Expr} {ta : TA} {B : Str} {D : Addr} {p p1 p2 pos : Pos}
end
section
variable {X : Cx} {e : Expr} {es : List Expr} {ta : TA} {p p1 p2 pos pos' : Pos}
end
end WL
namespace PySem
namespace PXN
open HandSPX
section
variable {M : Model} {A : Around} {E : Value → Shared → Prop} {s : Shared} {base : Heap} {env : Env} {outer : List Env} {L e : Addr} {Z : Obj → Prop}
end
end PXN
end PySem
namespace WL
open PySem PySem.Spec PyProof.Rows L2
section
variable {X : Cx} {scope : Scope} {pos : Pos} {elt tg iter : Expr} {ifs : List Expr} {own : List (Str × Nat)} {ti : TIw} {gw : TGw} {tt : TTw} {te : EXs → TEw}
end
end WL
namespace WL
open PySem PySem.Spec PyProof.Rows L2
theorem seer_hid {h : Heap} {H : Hp} (S : h.NoSeer) (hd : ∀ b o es ep, h.get? b = some o → o.data = .dict es ep → H b = none) (hm : ∀ b o d, h.get? b = some o → o.dict = some d → o.cls = .type "module" → H b = none) : (hidT h H).NoSeer := by
 have ns : ∀ {b : Addr} {m : Str → Option Value}, h.Ns b m → (hidT h H).Ns b m := by
  rintro b m ⟨o, es, ep, e, d, r⟩
  exact ⟨o, es, ep, hidT_get e (hd b o es ep e d), d, r⟩
 obtain ⟨⟨c, c1, c2, c3⟩, ⟨m, m1, m2⟩, ⟨i, i1, i2⟩, ⟨g, bm, ob, g1, g2, g3, g4, g5⟩⟩ := S
 exact ⟨⟨c, ns c1, c2, c3⟩, ⟨m, ns m1, m2⟩, ⟨i, ns i1, i2⟩, ⟨g, bm, ob, ns g1, g2, hidT_get g3 (hm bm ob _ g3 g5 g4), g4, g5⟩⟩
noncomputable def scrH (K : PySem.W.Frag) (a : Addr) (ob : Obj) (xs : List V) : Hp := fun b => if b = a ∧ (K.lookup a).isSome = false then some (.frz ob (.lst xs)) else none
structure RunG (P : Program) (w : World) (K : PySem.W.Frag) (mg : Str → Option Value) (base : Heap) (k : Nat) (f : Addr) (fd : FuncData) (ps : List Str) (sp : Sp) : Prop where
 run : ∀ (s : Shared) (H : Hp) (args : Args) (us : List Value) (vs : List V) (Q : VK) (E : XK), Room k callerA → Env0 P w K mg base callerA [] s H → BindsTo s fd args (ps.zip us) → Vals vs us → sp vs H Q E → codeAny (model P w) callerA (.call (.ref f) args) (CR CX0 [] P w H s Q E) s
theorem _root_.L2.FnOk.runG {P : Program} {w : World} {K : PySem.W.Frag} {mg : Str → Option Value} {base : Heap} {k : Nat} {f : Addr} {fd : FuncData} {ps : List Str} {sp : Sp} (F : FnOk P w K mg base CX0 k f fd ps sp) : RunG P w K mg base k f fd ps sp := ⟨fun s H args us vs Q E => F.run callerA [] s H args us vs Q E⟩
section
variable {P : Program} {w : World} {K : PySem.W.Frag} {mg : Str → Option Value} {base : Heap}
end
section
variable {P : Program} {w : World} {K : PySem.W.Frag} {mg mb : Str → Option Value} {k : Nat} {fa a : Addr} {fd : FuncData} {x : Str} {sp : Sp} {s1 : Shared} {vs : List Value} {ns : List Int}
theorem law_run (KX : K.In s1.heap) (gl : s1.heap.Ns mainGlobals mg) (bl : s1.heap.Ns builtinsNs mb) (bb : ∀ x : Str, x ≠ "__name__" → mb x = bootBuiltins x) (lim : s1.heap.NoLimit) (seer : s1.heap.NoSeer) (gens : s1.gens = #[])
  (obj : s1.heap.get? a = some { cls := .type "list", data := .seq vs.toArray }) (iar : IntsAre vs ns) (len : ns.length ≤ sizeLine) (hr : Room k callerA)
  (F : ∀ base : Heap, K.In base → base.Ns mainGlobals mg → base.NoSeer → RunG P w K mg base k fa fd [x] sp) (bind : ∀ (s : Shared) (u : Value), BindsTo s fd ⟨[u], []⟩ [(x, u)])
  (want : ∀ H : Hp, Only H → SqL K H a (ns.map V.int) → sp [.ref a] H (fun v _ => v = .bl true) fun _ _ _ => False) :
  codeAny (model P w) callerA (.call (.ref fa) ⟨[.ref a], []⟩) (fun r s' => r = .ok (.ret (.bool true)) ∧ OldK s1.heap s'.heap ∧ s'.os = s1.os ∧ AllBare s'.gens) s1 := by
 let ob : Obj := { cls := .type "list", data := .seq vs.toArray }
 let H : Hp := scrH K a ob (ns.map V.int)
 have rel : Vals (ns.map V.int) vs := vals_ints iar
 have only : Only H := fun b => by
  by_cases c : b = a ∧ (K.lookup a).isSome = false
  ·exact .inr ⟨ob, _, if_pos c⟩
  ·exact .inl (if_neg c)
 have at_ : ∀ b, H b ≠ none → b = a ∧ (K.lookup a).isSome = false := fun b z => by
  by_cases c : b = a ∧ (K.lookup a).isSome = false
  ·exact c
  ·exact absurd (if_neg c) z
 have isz : vs.length = ns.length := by
  have e := rel.length
  rw [List.length_map] at e
  exact e.symm
 have sq : SqL K H a (ns.map V.int) := by
  cases q : K.lookup a with
  | none => exact .inl (.inr ⟨ob, if_pos ⟨rfl, by rw [q]; rfl⟩⟩)
  | some o =>
   have e := KX a o q
   rw [obj] at e
   injection e with e
   subst e
   exact .inr ⟨_, vs.toArray, _, q, rfl, rfl, rfl, by rw [List.size_toArray, isz]; exact len, by simpa using rel⟩
 have hok : HOk P w H s1.heap := fun b u z => by
  have ne : H b ≠ none := by rw [z]; simp
  obtain ⟨rfl, q⟩ := at_ b ne
  have z' : some (HO.frz ob (.lst (ns.map V.int))) = some u := (show H b = some (HO.frz ob (.lst (ns.map V.int))) from if_pos ⟨rfl, q⟩).symm.trans z
  injection z' with z'
  subst z'
  exact ⟨obj, by rw [List.length_map]; exact len, vs, _, rel, obj⟩
 have noD : ∀ b o es ep, s1.heap.get? b = some o → o.data = .dict es ep → H b = none := fun b o es ep e d => by
  cases q : H b with
  | none => rfl
  | some u =>
   obtain ⟨rfl, _⟩ := at_ b (by rw [q]; simp)
   rw [obj] at e
   injection e with e
   subst e
   cases d
 have noM : ∀ b o d, s1.heap.get? b = some o → o.dict = some d → o.cls = .type "module" → H b = none := fun b o d e hd _ => by
  cases q : H b with
  | none => rfl
  | some u =>
   obtain ⟨rfl, _⟩ := at_ b (by rw [q]; simp)
   rw [obj] at e
   injection e with e
   subst e
   cases hd
 have ns' : ∀ {b : Addr} {m : Str → Option Value}, s1.heap.Ns b m → (hidT s1.heap H).Ns b m := by
  rintro b m ⟨o, es, ep, e, d, r⟩
  exact ⟨o, es, ep, hidT_get e (noD b o es ep e d), d, r⟩
 have kb : K.In (hidT s1.heap H) := fun b o e => hidT_get (KX b o e) (by
  cases q : H b with
  | none => rfl
  | some u =>
   obtain ⟨rfl, z⟩ := at_ b (by rw [q]; simp)
   rw [e] at z
   cases z)
 have md : Mod K mg (hidT s1.heap H) := by
  obtain ⟨mc, l1, l2⟩ := lim
  exact ⟨kb, ns' gl, ⟨mb, ns' bl, bb⟩, mc, ns' l1, l2⟩
 have e0 : Env0 P w K mg (hidT s1.heap H) callerA [] s1 H := ⟨rfl, md, fun b o e => of_hidT e, Nat.le_of_eq (hidT_size _ _), trivial, fun b hb => (by cases hb), hok, .of_eq gens⟩
 have run := (F _ kb (ns' gl) (seer_hid seer noD noM)).run s1 H ⟨[.ref a], []⟩ [.ref a] [.ref a] _ _ hr e0 (bind s1 (.ref a)) (.cons rfl .nil) (want H only sq)
 refine codeAny_mono run fun r s' h => ?_
 match r, h with
 | .ok (.ret u), h =>
  obtain ⟨v, H', os, bare, un, hok', rv, q⟩ := h
  cases (show v = .bl true from q)
  cases (show u = Value.bool true from rv)
  refine ⟨rfl, OldK.of_keep fun b o e => ?_, os, bare⟩
  rcases only b with z | ⟨oz, xz, z⟩
  ·exact un.keep b o e z (fun m => (by cases m)) (fun m => (by cases m))
  ·obtain ⟨e1, _⟩ := hok b _ z
   obtain ⟨e2, _⟩ := hok' b _ (un.frzs b oz _ z)
   rw [e1] at e
   rw [← e]
   exact e2
end
theorem forW_ix {ks : List Bool} {g : TGw} {tb : TSw} {D : EndsW} (P : Nat → SW → Gp → Prop) : ∀ (items : List W) (k : Nat) (σ : SW) (G : Gp), P k σ G →
  (∀ i w, items[i]? = some w → ∀ σ G (N : SW → Gp → Prop), P (k + i) σ G → (∀ σ' G', P (k + i + 1) (skill σ' ks) G' → N σ' G') → g w σ G fun σ1 G1 => tb { nx := N, ct := N, bk := D.nx, rt := D.rt, ex := D.ex } σ1 G1) →
  (∀ σ G, P (k + items.length) σ G → D.nx σ G) → forW ks g tb items D σ G
 | [], k, σ, G, p, _, hd => hd σ G p
 | w :: ws, k, σ, G, p, hs, hd => hs 0 w rfl σ G _ p fun σ' G' p' => forW_ix P ws (k + 1) _ G' p' (fun i w' hw => by
   have h := hs (i + 1) w' hw
   rw [show k + (i + 1) = k + 1 + i by omega] at h
   exact h) (by
   have h := hd
   rw [show k + (w :: ws).length = k + 1 + ws.length by rw [List.length_cons]; omega] at h
   exact h)
theorem rangeW_get {lo : Int} {n i : Nat} {w : W} (h : (rangeW lo n)[i]? = some w) : i < n ∧ w = .int (lo + i) := by
 unfold rangeW at h
 rw [List.getElem?_map] at h
 by_cases c : i < n
 ·rw [List.getElem?_range c] at h
  exact ⟨c, (Option.some.inj h).symm⟩
 ·rw [List.getElem?_eq_none (by rw [List.length_range]; omega)] at h
  cases h
theorem rangeW_length {lo : Int} {n : Nat} : (rangeW lo n).length = n := by unfold rangeW; rw [List.length_map, List.length_range]
theorem forW_range {ks : List Bool} {g : TGw} {tb : TSw} {D : EndsW} {lo : Int} {n : Nat} {σ : SW} {G : Gp} (P : Nat → SW → Gp → Prop) (h0 : P 0 σ G)
  (hs : ∀ i, i < n → ∀ σ G (N : SW → Gp → Prop), P i σ G → (∀ σ' G', P (i + 1) (skill σ' ks) G' → N σ' G') → g (.int (lo + i)) σ G fun σ1 G1 => tb { nx := N, ct := N, bk := D.nx, rt := D.rt, ex := D.ex } σ1 G1)
  (hd : ∀ σ G, P n σ G → D.nx σ G) : forW ks g tb (rangeW lo n) D σ G := by
 refine forW_ix P (rangeW lo n) 0 σ G h0 (fun i w hw => ?_) (by rw [rangeW_length, Nat.zero_add]; exact hd)
 obtain ⟨hi, rfl⟩ := rangeW_get hw
 rw [Nat.zero_add]
 exact hs i hi
theorem wOk_bl {a : Bool} : wOk (.bl a) := ⟨rfl, by simp [wdat, SeqAt.shaped, PyData.canLay0, PyData.depth]⟩
theorem weqb_bl {a b : Bool} : weqb (.bl a) (.bl b) = (a == b) := by simp [weqb, wdat, PyData.eqv]
theorem wEq_bl {a b : Bool} {G : Gp} {Q : QW} : wEq (.bl a) (.bl b) G Q = Q (.bl (a == b)) G := by
 have e : wEq (.bl a) (.bl b) G Q = (wOk (.bl a) ∧ wOk (.bl b) ∧ Q (.bl (weqb (.bl a) (.bl b))) G) := rfl
 rw [e, weqb_bl]
 exact propext ⟨fun h => h.2.2, fun h => ⟨wOk_bl, wOk_bl, h⟩⟩
theorem wNe_bl {a b : Bool} {G : Gp} {Q : QW} : wNe (.bl a) (.bl b) G Q = Q (.bl (!(a == b))) G := by
 have e : wNe (.bl a) (.bl b) G Q = (wOk (.bl a) ∧ wOk (.bl b) ∧ Q (.bl (!weqb (.bl a) (.bl b))) G) := rfl
 rw [e, weqb_bl]
 exact propext ⟨fun h => h.2.2, fun h => ⟨wOk_bl, wOk_bl, h⟩⟩
noncomputable def truO (x : W) (G : Gp) (P : Bool → Gp → Prop) : Prop := ∃ k, x = .bl k ∧ P k G
theorem truO_bl {b : Bool} {G : Gp} {P : Bool → Gp → Prop} : truO (.bl b) G P = P b G := by
 unfold truO
 exact propext ⟨fun ⟨k, e, h⟩ => (by injection e with e; subst e; exact h), fun h => ⟨b, rfl, h⟩⟩
noncomputable def intO (x : W) (G : Gp) (P : Option Int → Gp → Prop) : Prop := match x with
 | .int i => P (some i) G
 | _ => False
theorem intO_int {i : Int} {G : Gp} {P : Option Int → Gp → Prop} : intO (.int i) G P = P (some i) G := rfl
theorem a_seq {t u : TSw} {D : EndsW} {σ : SW} {G : Gp} : wSeq t u D σ G = t { D with nx := u D } σ G := rfl
theorem a_asg {te : TEw} {g : TGw} {D : EndsW} {σ : SW} {G : Gp} : wAsg te g D σ G = te σ G fun w G1 => g w σ G1 D.nx := rfl
theorem a_ifS {c : TTw} {t u : TSw} {D : EndsW} {σ : SW} {G : Gp} : wIfS c t u D σ G = c σ G fun b G1 => if b = true then t D σ G1 else u D σ G1 := rfl
theorem a_ret {te : TEw} {D : EndsW} {σ : SW} {G : Gp} : wRet te D σ G = te σ G D.rt := rfl
theorem a_next {D : EndsW} {σ : SW} {G : Gp} : wNext D σ G = D.nx σ G := rfl
theorem a_drop {te : TEw} {D : EndsW} {σ : SW} {G : Gp} : wDrop te D σ G = te σ G fun _ G1 => D.nx σ G1 := rfl
theorem a_for {ks : List Bool} {ti : TIw} {g : TGw} {tb : TSw} {D : EndsW} {σ : SW} {G : Gp} : wFor ks ti g tb D σ G = ti σ G fun ws G1 => forW ks g tb ws D (skill σ ks) G1 := rfl
theorem a_C {w : W} {σ : SW} {G : Gp} {Q : QW} : wC w σ G Q = Q w G := rfl
theorem a_op {wr : RW2} {ta tb : TEw} {σ : SW} {G : Gp} {Q : QW} : wOp wr ta tb σ G Q = ta σ G fun x G1 => tb σ G1 fun y G2 => wr x y G2 Q := rfl
theorem a_un {wr : W → Gp → QW → Prop} {ta : TEw} {σ : SW} {G : Gp} {Q : QW} : wUn wr ta σ G Q = ta σ G fun x G1 => wr x G1 Q := rfl
theorem a_neg {ta : TEw} {σ : SW} {G : Gp} {Q : QW} : wNeg ta σ G Q = ta σ G fun x G1 => wI1 (fun i => .int (-i)) x G1 Q := rfl
theorem a_CB {wr : List W → Gp → QW → Prop} {t : TAw} {σ : SW} {G : Gp} {Q : QW} : wCB wr t σ G Q = t σ G fun ws G1 => wr ws G1 Q := rfl
theorem a_call {sp : Spw} {t : TAw} {σ : SW} {G : Gp} {Q : QW} : wCall sp t σ G Q = t σ G fun ws G1 => sp ws G1 Q E0w := rfl
theorem a_nil {σ : SW} {G : Gp} {P : List W → Gp → Prop} : wNil σ G P = P [] G := rfl
theorem a_cons {ta : TEw} {t : TAw} {σ : SW} {G : Gp} {P : List W → Gp → Prop} : wCons ta t σ G P = ta σ G fun x G1 => t σ G1 fun xs G2 => P (x :: xs) G2 := rfl
theorem a_tup {t : TAw} {σ : SW} {G : Gp} {Q : QW} : wTup t σ G Q = t σ G fun ws G1 => ws.length ≤ sizeLine ∧ Q (.tup ws) G1 := rfl
theorem a_lst {t : TAw} {σ : SW} {G : Gp} {Q : QW} : wLst t σ G Q = t σ G fun ws G1 => ws.length ≤ sizeLine ∧ Q (.lst ws) G1 := rfl
theorem a_lstM {t : TAw} {σ : SW} {G : Gp} {Q : QW} : wLstM t σ G Q = t σ G fun ws G1 => ws.length ≤ sizeLine ∧ ∀ p, G1 p = none → Q (.ref p) (gup G1 p (.lst ws)) := rfl
theorem a_test {t : TEw} {σ : SW} {G : Gp} {P : Bool → Gp → Prop} : wTest t σ G P = t σ G fun x G1 => truO x G1 P := rfl
theorem a_and {t u : TTw} {σ : SW} {G : Gp} {P : Bool → Gp → Prop} : wAnd t u σ G P = t σ G fun c G1 => if c = true then u σ G1 P else P false G1 := rfl
theorem a_or {t u : TTw} {σ : SW} {G : Gp} {P : Bool → Gp → Prop} : wOr t u σ G P = t σ G fun c G1 => if c = true then P true G1 else u σ G1 P := rfl
theorem a_not {t : TTw} {σ : SW} {G : Gp} {P : Bool → Gp → Prop} : wNot t σ G P = t σ G fun c G1 => P (!c) G1 := rfl
theorem a_yes {σ : SW} {G : Gp} {P : Bool → Gp → Prop} : wYes σ G P = P true G := rfl
theorem a_andV {ta tb : TEw} {σ : SW} {G : Gp} {Q : QW} : wAndV ta tb σ G Q = ta σ G fun x G1 => truO x G1 fun c G1 => if c = true then tb σ G1 Q else Q (.bl false) G1 := rfl
theorem a_notV {ta : TEw} {σ : SW} {G : Gp} {Q : QW} : wNotV ta σ G Q = ta σ G fun x G1 => truO x G1 fun c G1 => Q (.bl (!c)) G1 := rfl
theorem a_if {t : TTw} {ta tb : TEw} {σ : SW} {G : Gp} {Q : QW} : wIf t ta tb σ G Q = t σ G fun c G1 => if c = true then ta σ G1 Q else tb σ G1 Q := rfl
theorem a_isN {ta : TEw} {σ : SW} {G : Gp} {Q : QW} : wIsN ta σ G Q = ta σ G fun x G1 => Q (.bl (isNon x)) G1 := rfl
theorem a_notN {ta : TEw} {σ : SW} {G : Gp} {Q : QW} : wNotN ta σ G Q = ta σ G fun x G1 => Q (.bl (!isNon x)) G1 := rfl
theorem a_chain {r r' : RW2} {ta tb tc : TEw} {σ : SW} {G : Gp} {Q : QW} : wChain r r' ta tb tc σ G Q = ta σ G fun x G1 => tb σ G1 fun y G2 => r x y G2 fun z G3 => truO z G3 fun k G3 => if k = true then tc σ G3 fun w G4 => r' y w G4 Q else Q (.bl false) G3 := rfl
theorem a_BM {wr : RWM} {to : TEw} {t : TAw} {σ : SW} {G : Gp} {Q : QW} : wBM wr to t σ G Q = to σ G fun o G1 => (asL G1 o).isSome = true ∧ t σ G1 fun ws G2 => wr o ws G2 Q := rfl
theorem a_BM0 {wr : RWM} {to : TEw} {σ : SW} {G : Gp} {Q : QW} : wBM0 wr to σ G Q = to σ G fun o G1 => (asL G1 o).isSome = true ∧ wr o [] G1 Q := rfl
theorem a_seqI {te : TEw} {σ : SW} {G : Gp} {P : List W → Gp → Prop} : iSeqW te σ G P = te σ G fun w G1 => seqOf w G1 P := rfl
theorem a_R1 {ta : TAw} {σ : SW} {G : Gp} {P : List W → Gp → Prop} : iR1 ta σ G P = ta σ G fun ws G1 => rng1 ws G1 P := rfl
theorem a_R2 {ta : TAw} {σ : SW} {G : Gp} {P : List W → Gp → Prop} : iR2 ta σ G P = ta σ G fun ws G1 => rng2 ws G1 P := rfl
theorem a_zipG2 {ta : TAw} {σ : SW} {G : Gp} {P : List W → Gp → Prop} : i_zipG2 ta σ G P = ta σ G fun ws G1 => zipG2 ws G1 P := rfl
theorem a_enumG {ta : TAw} {σ : SW} {G : Gp} {P : List W → Gp → Prop} : i_enumG ta σ G P = ta σ G fun ws G1 => enumG ws G1 P := rfl
theorem a_lc {vs : List Nat} {ti : TIw} {g : TGw} {tt : TTw} {te : TEw} {σ : SW} {G : Gp} {Q : QW} : wLc vs ti g tt te σ G Q = ti σ G fun ws G1 => ws.length ≤ sizeLine ∧ lcW g tt te (swipe σ vs) ws [] G1 fun us G2 => Q (.lst us) G2 := rfl
theorem a_lcM {vs : List Nat} {ti : TIw} {g : TGw} {tt : TTw} {te : TEw} {σ : SW} {G : Gp} {Q : QW} : wLcM vs ti g tt te σ G Q = ti σ G fun ws G1 => ws.length ≤ sizeLine ∧ lcW g tt te (swipe σ vs) ws [] G1 fun us G2 => ∀ p, G2 p = none → Q (.ref p) (gup G2 p (.lst us)) := rfl
theorem a_slice {t : TEw} {lo hi : TOw} {σ : SW} {G : Gp} {Q : QW} : wSlice t lo hi σ G Q = t σ G fun x G1 => lo σ G1 fun l G2 => hi σ G2 fun h G3 => wCut x l h G3 Q := rfl
theorem a_pN {σ : SW} {G : Gp} {P : Option Int → Gp → Prop} : wpNone σ G P = P none G := rfl
theorem a_pS {t : TEw} {σ : SW} {G : Gp} {P : Option Int → Gp → Prop} : wpSome t σ G P = t σ G fun w G1 => intO w G1 P := rfl
theorem a_gIx {to ti : TEw} {w : W} {σ : SW} {G : Gp} {P : SW → Gp → Prop} : gIx to ti w σ G P = to σ G fun o G1 => ti σ G1 fun i G2 => setIx o i w G2 (P σ) := rfl
theorem a_par {i j : Nat} {ta tb : TEw} {D : EndsW} {σ : SW} {G : Gp} : wPar i j (wCons ta (wCons tb wNil)) D σ G = ta σ G fun a G1 => tb σ G1 fun b G2 => D.nx (sset (sset σ i a) j b) G2 := rfl
theorem a_setF {nm f : Str} {te to : TEw} {D : EndsW} {σ : SW} {G : Gp} : wSetF nm f te to D σ G = te σ G fun y G1 => to σ G1 fun x G2 => setF nm f y x G2 fun G3 => D.nx σ G3 := rfl
theorem a_meth {nm m : Str} {sp : Spw} {to : TEw} {t : TAw} {σ : SW} {G : Gp} {Q : QW} : wMeth nm m sp to t σ G Q = to σ G fun x G1 => isS (insOf G1 x) fun o => o.1 = nm ∧ o.2.lookup m = none ∧ t σ G1 fun ws G2 => sp (x :: ws) G2 Q E0w := rfl
theorem a_make {nm : Str} {sp : Spw} {t : TAw} {σ : SW} {G : Gp} {Q : QW} : wMake nm sp t σ G Q = t σ G fun ws G1 => ∀ p, G1 p = none → sp (.ref p :: ws) (gup G1 p (.ins nm [])) (fun w G2 => w = .non ∧ Q (.ref p) G2) E0w := rfl
theorem a_raise {nm : Str} {D : EndsW} {σ : SW} {G : Gp} : wRaise nm D σ G = D.ex nm [] σ G := rfl
theorem a_callX {sp : Spw} {t : TAw} {Ex : EXs} {σ : SW} {G : Gp} {Q : QW} : wCallX sp t Ex σ G Q = t σ G fun ws G1 => sp ws G1 Q fun nm fs G2 => Ex nm fs σ G2 := rfl
theorem a_retX {te : EXs → TEw} {D : EndsW} {σ : SW} {G : Gp} : wRetX te D σ G = te D.ex σ G D.rt := rfl
theorem a_dropX {te : EXs → TEw} {D : EndsW} {σ : SW} {G : Gp} : wDropX te D σ G = te D.ex σ G fun _ G1 => D.nx σ G1 := rfl
theorem a_tryAs {i : Nat} {c : Str} {ES : List Str} {t : TSw} {ts : Addr → Option Addr → Str → List (Str × W) → TSw} {D : EndsW} {σ : SW} {G : Gp} : wTryAs i c ES t ts D σ G = t { D with ex := fun nm fs σ1 G1 => nm ∈ ES ∧ (subE nm c = true → ∀ a d, G1 a = none → ts a d nm fs { nx := fun σ2 G2 => D.nx (sdel σ2 i) G2, rt := D.rt, bk := fun σ2 G2 => D.bk (sdel σ2 i) G2, ct := fun σ2 G2 => D.ct (sdel σ2 i) G2 } (sset σ1 i (.exc a d nm fs)) G1) ∧ (subE nm c = false → D.ex nm fs σ1 G1) } σ G := rfl
theorem a_isE {a : Addr} {d : Option Addr} {nm : Str} {T : Str} {te : TEw} {σ : SW} {G : Gp} {Q : QW} : wIsE a d nm T te σ G Q = te σ G fun x G1 => isExc a d nm x fun _ => Q (.bl (subE nm T)) G1 := rfl
theorem a_callE {a : Addr} {d : Option Addr} {nm : Str} {sp : SpE} {t : TAw} {σ : SW} {G : Gp} {Q : QW} : wCallE sp a d nm t σ G Q = t σ G fun ws G1 => sp a d nm ws G1 Q := rfl
theorem v_0 {w : W} {G : Gp} {Q : QW} {σ : SW} : wVar 0 (some w :: σ) G Q = Q w G := rfl
theorem g_0 {w : W} {o : Option W} {G : Gp} {P : SW → Gp → Prop} {σ : SW} : gN 0 w (o :: σ) G P = P (some w :: σ) G := rfl
theorem u_0 {te : TEw} {r : RW2} {w : W} {D : EndsW} {G : Gp} {σ : SW} : wAug 0 te r D (some w :: σ) G = te (some w :: σ) G fun y G1 => r w y G1 fun z G2 => D.nx (some z :: σ) G2 := rfl
theorem v_1 {w : W} {G : Gp} {Q : QW} {σ : SW} {a0 : Option W} : wVar 1 (a0 :: some w :: σ) G Q = Q w G := rfl
theorem g_1 {w : W} {o : Option W} {G : Gp} {P : SW → Gp → Prop} {σ : SW} {a0 : Option W} : gN 1 w (a0 :: o :: σ) G P = P (a0 :: some w :: σ) G := rfl
theorem u_1 {te : TEw} {r : RW2} {w : W} {D : EndsW} {G : Gp} {σ : SW} {a0 : Option W} : wAug 1 te r D (a0 :: some w :: σ) G = te (a0 :: some w :: σ) G fun y G1 => r w y G1 fun z G2 => D.nx (a0 :: some z :: σ) G2 := rfl
theorem v_2 {w : W} {G : Gp} {Q : QW} {σ : SW} {a0 a1 : Option W} : wVar 2 (a0 :: a1 :: some w :: σ) G Q = Q w G := rfl
theorem g_2 {w : W} {o : Option W} {G : Gp} {P : SW → Gp → Prop} {σ : SW} {a0 a1 : Option W} : gN 2 w (a0 :: a1 :: o :: σ) G P = P (a0 :: a1 :: some w :: σ) G := rfl
theorem u_2 {te : TEw} {r : RW2} {w : W} {D : EndsW} {G : Gp} {σ : SW} {a0 a1 : Option W} : wAug 2 te r D (a0 :: a1 :: some w :: σ) G = te (a0 :: a1 :: some w :: σ) G fun y G1 => r w y G1 fun z G2 => D.nx (a0 :: a1 :: some z :: σ) G2 := rfl
theorem v_3 {w : W} {G : Gp} {Q : QW} {σ : SW} {a0 a1 a2 : Option W} : wVar 3 (a0 :: a1 :: a2 :: some w :: σ) G Q = Q w G := rfl
theorem g_3 {w : W} {o : Option W} {G : Gp} {P : SW → Gp → Prop} {σ : SW} {a0 a1 a2 : Option W} : gN 3 w (a0 :: a1 :: a2 :: o :: σ) G P = P (a0 :: a1 :: a2 :: some w :: σ) G := rfl
theorem u_3 {te : TEw} {r : RW2} {w : W} {D : EndsW} {G : Gp} {σ : SW} {a0 a1 a2 : Option W} : wAug 3 te r D (a0 :: a1 :: a2 :: some w :: σ) G = te (a0 :: a1 :: a2 :: some w :: σ) G fun y G1 => r w y G1 fun z G2 => D.nx (a0 :: a1 :: a2 :: some z :: σ) G2 := rfl
theorem v_4 {w : W} {G : Gp} {Q : QW} {σ : SW} {a0 a1 a2 a3 : Option W} : wVar 4 (a0 :: a1 :: a2 :: a3 :: some w :: σ) G Q = Q w G := rfl
theorem g_4 {w : W} {o : Option W} {G : Gp} {P : SW → Gp → Prop} {σ : SW} {a0 a1 a2 a3 : Option W} : gN 4 w (a0 :: a1 :: a2 :: a3 :: o :: σ) G P = P (a0 :: a1 :: a2 :: a3 :: some w :: σ) G := rfl
theorem u_4 {te : TEw} {r : RW2} {w : W} {D : EndsW} {G : Gp} {σ : SW} {a0 a1 a2 a3 : Option W} : wAug 4 te r D (a0 :: a1 :: a2 :: a3 :: some w :: σ) G = te (a0 :: a1 :: a2 :: a3 :: some w :: σ) G fun y G1 => r w y G1 fun z G2 => D.nx (a0 :: a1 :: a2 :: a3 :: some z :: σ) G2 := rfl
theorem v_5 {w : W} {G : Gp} {Q : QW} {σ : SW} {a0 a1 a2 a3 a4 : Option W} : wVar 5 (a0 :: a1 :: a2 :: a3 :: a4 :: some w :: σ) G Q = Q w G := rfl
theorem g_5 {w : W} {o : Option W} {G : Gp} {P : SW → Gp → Prop} {σ : SW} {a0 a1 a2 a3 a4 : Option W} : gN 5 w (a0 :: a1 :: a2 :: a3 :: a4 :: o :: σ) G P = P (a0 :: a1 :: a2 :: a3 :: a4 :: some w :: σ) G := rfl
theorem u_5 {te : TEw} {r : RW2} {w : W} {D : EndsW} {G : Gp} {σ : SW} {a0 a1 a2 a3 a4 : Option W} : wAug 5 te r D (a0 :: a1 :: a2 :: a3 :: a4 :: some w :: σ) G = te (a0 :: a1 :: a2 :: a3 :: a4 :: some w :: σ) G fun y G1 => r w y G1 fun z G2 => D.nx (a0 :: a1 :: a2 :: a3 :: a4 :: some z :: σ) G2 := rfl
theorem v_6 {w : W} {G : Gp} {Q : QW} {σ : SW} {a0 a1 a2 a3 a4 a5 : Option W} : wVar 6 (a0 :: a1 :: a2 :: a3 :: a4 :: a5 :: some w :: σ) G Q = Q w G := rfl
theorem g_6 {w : W} {o : Option W} {G : Gp} {P : SW → Gp → Prop} {σ : SW} {a0 a1 a2 a3 a4 a5 : Option W} : gN 6 w (a0 :: a1 :: a2 :: a3 :: a4 :: a5 :: o :: σ) G P = P (a0 :: a1 :: a2 :: a3 :: a4 :: a5 :: some w :: σ) G := rfl
theorem u_6 {te : TEw} {r : RW2} {w : W} {D : EndsW} {G : Gp} {σ : SW} {a0 a1 a2 a3 a4 a5 : Option W} : wAug 6 te r D (a0 :: a1 :: a2 :: a3 :: a4 :: a5 :: some w :: σ) G = te (a0 :: a1 :: a2 :: a3 :: a4 :: a5 :: some w :: σ) G fun y G1 => r w y G1 fun z G2 => D.nx (a0 :: a1 :: a2 :: a3 :: a4 :: a5 :: some z :: σ) G2 := rfl
theorem v_7 {w : W} {G : Gp} {Q : QW} {σ : SW} {a0 a1 a2 a3 a4 a5 a6 : Option W} : wVar 7 (a0 :: a1 :: a2 :: a3 :: a4 :: a5 :: a6 :: some w :: σ) G Q = Q w G := rfl
theorem g_7 {w : W} {o : Option W} {G : Gp} {P : SW → Gp → Prop} {σ : SW} {a0 a1 a2 a3 a4 a5 a6 : Option W} : gN 7 w (a0 :: a1 :: a2 :: a3 :: a4 :: a5 :: a6 :: o :: σ) G P = P (a0 :: a1 :: a2 :: a3 :: a4 :: a5 :: a6 :: some w :: σ) G := rfl
theorem u_7 {te : TEw} {r : RW2} {w : W} {D : EndsW} {G : Gp} {σ : SW} {a0 a1 a2 a3 a4 a5 a6 : Option W} : wAug 7 te r D (a0 :: a1 :: a2 :: a3 :: a4 :: a5 :: a6 :: some w :: σ) G = te (a0 :: a1 :: a2 :: a3 :: a4 :: a5 :: a6 :: some w :: σ) G fun y G1 => r w y G1 fun z G2 => D.nx (a0 :: a1 :: a2 :: a3 :: a4 :: a5 :: a6 :: some z :: σ) G2 := rfl
theorem v_8 {w : W} {G : Gp} {Q : QW} {σ : SW} {a0 a1 a2 a3 a4 a5 a6 a7 : Option W} : wVar 8 (a0 :: a1 :: a2 :: a3 :: a4 :: a5 :: a6 :: a7 :: some w :: σ) G Q = Q w G := rfl
theorem g_8 {w : W} {o : Option W} {G : Gp} {P : SW → Gp → Prop} {σ : SW} {a0 a1 a2 a3 a4 a5 a6 a7 : Option W} : gN 8 w (a0 :: a1 :: a2 :: a3 :: a4 :: a5 :: a6 :: a7 :: o :: σ) G P = P (a0 :: a1 :: a2 :: a3 :: a4 :: a5 :: a6 :: a7 :: some w :: σ) G := rfl
theorem u_8 {te : TEw} {r : RW2} {w : W} {D : EndsW} {G : Gp} {σ : SW} {a0 a1 a2 a3 a4 a5 a6 a7 : Option W} : wAug 8 te r D (a0 :: a1 :: a2 :: a3 :: a4 :: a5 :: a6 :: a7 :: some w :: σ) G = te (a0 :: a1 :: a2 :: a3 :: a4 :: a5 :: a6 :: a7 :: some w :: σ) G fun y G1 => r w y G1 fun z G2 => D.nx (a0 :: a1 :: a2 :: a3 :: a4 :: a5 :: a6 :: a7 :: some z :: σ) G2 := rfl
theorem v_9 {w : W} {G : Gp} {Q : QW} {σ : SW} {a0 a1 a2 a3 a4 a5 a6 a7 a8 : Option W} : wVar 9 (a0 :: a1 :: a2 :: a3 :: a4 :: a5 :: a6 :: a7 :: a8 :: some w :: σ) G Q = Q w G := rfl
theorem g_9 {w : W} {o : Option W} {G : Gp} {P : SW → Gp → Prop} {σ : SW} {a0 a1 a2 a3 a4 a5 a6 a7 a8 : Option W} : gN 9 w (a0 :: a1 :: a2 :: a3 :: a4 :: a5 :: a6 :: a7 :: a8 :: o :: σ) G P = P (a0 :: a1 :: a2 :: a3 :: a4 :: a5 :: a6 :: a7 :: a8 :: some w :: σ) G := rfl
theorem u_9 {te : TEw} {r : RW2} {w : W} {D : EndsW} {G : Gp} {σ : SW} {a0 a1 a2 a3 a4 a5 a6 a7 a8 : Option W} : wAug 9 te r D (a0 :: a1 :: a2 :: a3 :: a4 :: a5 :: a6 :: a7 :: a8 :: some w :: σ) G = te (a0 :: a1 :: a2 :: a3 :: a4 :: a5 :: a6 :: a7 :: a8 :: some w :: σ) G fun y G1 => r w y G1 fun z G2 => D.nx (a0 :: a1 :: a2 :: a3 :: a4 :: a5 :: a6 :: a7 :: a8 :: some z :: σ) G2 := rfl
theorem v_10 {w : W} {G : Gp} {Q : QW} {σ : SW} {a0 a1 a2 a3 a4 a5 a6 a7 a8 a9 : Option W} : wVar 10 (a0 :: a1 :: a2 :: a3 :: a4 :: a5 :: a6 :: a7 :: a8 :: a9 :: some w :: σ) G Q = Q w G := rfl
theorem g_10 {w : W} {o : Option W} {G : Gp} {P : SW → Gp → Prop} {σ : SW} {a0 a1 a2 a3 a4 a5 a6 a7 a8 a9 : Option W} : gN 10 w (a0 :: a1 :: a2 :: a3 :: a4 :: a5 :: a6 :: a7 :: a8 :: a9 :: o :: σ) G P = P (a0 :: a1 :: a2 :: a3 :: a4 :: a5 :: a6 :: a7 :: a8 :: a9 :: some w :: σ) G := rfl
theorem u_10 {te : TEw} {r : RW2} {w : W} {D : EndsW} {G : Gp} {σ : SW} {a0 a1 a2 a3 a4 a5 a6 a7 a8 a9 : Option W} : wAug 10 te r D (a0 :: a1 :: a2 :: a3 :: a4 :: a5 :: a6 :: a7 :: a8 :: a9 :: some w :: σ) G = te (a0 :: a1 :: a2 :: a3 :: a4 :: a5 :: a6 :: a7 :: a8 :: a9 :: some w :: σ) G fun y G1 => r w y G1 fun z G2 => D.nx (a0 :: a1 :: a2 :: a3 :: a4 :: a5 :: a6 :: a7 :: a8 :: a9 :: some z :: σ) G2 := rfl
theorem v_11 {w : W} {G : Gp} {Q : QW} {σ : SW} {a0 a1 a2 a3 a4 a5 a6 a7 a8 a9 a10 : Option W} : wVar 11 (a0 :: a1 :: a2 :: a3 :: a4 :: a5 :: a6 :: a7 :: a8 :: a9 :: a10 :: some w :: σ) G Q = Q w G := rfl
theorem g_11 {w : W} {o : Option W} {G : Gp} {P : SW → Gp → Prop} {σ : SW} {a0 a1 a2 a3 a4 a5 a6 a7 a8 a9 a10 : Option W} : gN 11 w (a0 :: a1 :: a2 :: a3 :: a4 :: a5 :: a6 :: a7 :: a8 :: a9 :: a10 :: o :: σ) G P = P (a0 :: a1 :: a2 :: a3 :: a4 :: a5 :: a6 :: a7 :: a8 :: a9 :: a10 :: some w :: σ) G := rfl
theorem u_11 {te : TEw} {r : RW2} {w : W} {D : EndsW} {G : Gp} {σ : SW} {a0 a1 a2 a3 a4 a5 a6 a7 a8 a9 a10 : Option W} : wAug 11 te r D (a0 :: a1 :: a2 :: a3 :: a4 :: a5 :: a6 :: a7 :: a8 :: a9 :: a10 :: some w :: σ) G = te (a0 :: a1 :: a2 :: a3 :: a4 :: a5 :: a6 :: a7 :: a8 :: a9 :: a10 :: some w :: σ) G fun y G1 => r w y G1 fun z G2 => D.nx (a0 :: a1 :: a2 :: a3 :: a4 :: a5 :: a6 :: a7 :: a8 :: a9 :: a10 :: some z :: σ) G2 := rfl
theorem v_12 {w : W} {G : Gp} {Q : QW} {σ : SW} {a0 a1 a2 a3 a4 a5 a6 a7 a8 a9 a10 a11 : Option W} : wVar 12 (a0 :: a1 :: a2 :: a3 :: a4 :: a5 :: a6 :: a7 :: a8 :: a9 :: a10 :: a11 :: some w :: σ) G Q = Q w G := rfl
theorem g_12 {w : W} {o : Option W} {G : Gp} {P : SW → Gp → Prop} {σ : SW} {a0 a1 a2 a3 a4 a5 a6 a7 a8 a9 a10 a11 : Option W} : gN 12 w (a0 :: a1 :: a2 :: a3 :: a4 :: a5 :: a6 :: a7 :: a8 :: a9 :: a10 :: a11 :: o :: σ) G P = P (a0 :: a1 :: a2 :: a3 :: a4 :: a5 :: a6 :: a7 :: a8 :: a9 :: a10 :: a11 :: some w :: σ) G := rfl
theorem u_12 {te : TEw} {r : RW2} {w : W} {D : EndsW} {G : Gp} {σ : SW} {a0 a1 a2 a3 a4 a5 a6 a7 a8 a9 a10 a11 : Option W} : wAug 12 te r D (a0 :: a1 :: a2 :: a3 :: a4 :: a5 :: a6 :: a7 :: a8 :: a9 :: a10 :: a11 :: some w :: σ) G = te (a0 :: a1 :: a2 :: a3 :: a4 :: a5 :: a6 :: a7 :: a8 :: a9 :: a10 :: a11 :: some w :: σ) G fun y G1 => r w y G1 fun z G2 => D.nx (a0 :: a1 :: a2 :: a3 :: a4 :: a5 :: a6 :: a7 :: a8 :: a9 :: a10 :: a11 :: some z :: σ) G2 := rfl
theorem v_13 {w : W} {G : Gp} {Q : QW} {σ : SW} {a0 a1 a2 a3 a4 a5 a6 a7 a8 a9 a10 a11 a12 : Option W} : wVar 13 (a0 :: a1 :: a2 :: a3 :: a4 :: a5 :: a6 :: a7 :: a8 :: a9 :: a10 :: a11 :: a12 :: some w :: σ) G Q = Q w G := rfl
theorem g_13 {w : W} {o : Option W} {G : Gp} {P : SW → Gp → Prop} {σ : SW} {a0 a1 a2 a3 a4 a5 a6 a7 a8 a9 a10 a11 a12 : Option W} : gN 13 w (a0 :: a1 :: a2 :: a3 :: a4 :: a5 :: a6 :: a7 :: a8 :: a9 :: a10 :: a11 :: a12 :: o :: σ) G P = P (a0 :: a1 :: a2 :: a3 :: a4 :: a5 :: a6 :: a7 :: a8 :: a9 :: a10 :: a11 :: a12 :: some w :: σ) G := rfl
theorem v_14 {w : W} {G : Gp} {Q : QW} {σ : SW} {a0 a1 a2 a3 a4 a5 a6 a7 a8 a9 a10 a11 a12 a13 : Option W} : wVar 14 (a0 :: a1 :: a2 :: a3 :: a4 :: a5 :: a6 :: a7 :: a8 :: a9 :: a10 :: a11 :: a12 :: a13 :: some w :: σ) G Q = Q w G := rfl
theorem g_14 {w : W} {o : Option W} {G : Gp} {P : SW → Gp → Prop} {σ : SW} {a0 a1 a2 a3 a4 a5 a6 a7 a8 a9 a10 a11 a12 a13 : Option W} : gN 14 w (a0 :: a1 :: a2 :: a3 :: a4 :: a5 :: a6 :: a7 :: a8 :: a9 :: a10 :: a11 :: a12 :: a13 :: o :: σ) G P = P (a0 :: a1 :: a2 :: a3 :: a4 :: a5 :: a6 :: a7 :: a8 :: a9 :: a10 :: a11 :: a12 :: a13 :: some w :: σ) G := rfl
theorem v_15 {w : W} {G : Gp} {Q : QW} {σ : SW} {a0 a1 a2 a3 a4 a5 a6 a7 a8 a9 a10 a11 a12 a13 a14 : Option W} : wVar 15 (a0 :: a1 :: a2 :: a3 :: a4 :: a5 :: a6 :: a7 :: a8 :: a9 :: a10 :: a11 :: a12 :: a13 :: a14 :: some w :: σ) G Q = Q w G := rfl
theorem g_15 {w : W} {o : Option W} {G : Gp} {P : SW → Gp → Prop} {σ : SW} {a0 a1 a2 a3 a4 a5 a6 a7 a8 a9 a10 a11 a12 a13 a14 : Option W} : gN 15 w (a0 :: a1 :: a2 :: a3 :: a4 :: a5 :: a6 :: a7 :: a8 :: a9 :: a10 :: a11 :: a12 :: a13 :: a14 :: o :: σ) G P = P (a0 :: a1 :: a2 :: a3 :: a4 :: a5 :: a6 :: a7 :: a8 :: a9 :: a10 :: a11 :: a12 :: a13 :: a14 :: some w :: σ) G := rfl
theorem v_16 {w : W} {G : Gp} {Q : QW} {σ : SW} {a0 a1 a2 a3 a4 a5 a6 a7 a8 a9 a10 a11 a12 a13 a14 a15 : Option W} : wVar 16 (a0 :: a1 :: a2 :: a3 :: a4 :: a5 :: a6 :: a7 :: a8 :: a9 :: a10 :: a11 :: a12 :: a13 :: a14 :: a15 :: some w :: σ) G Q = Q w G := rfl
theorem g_16 {w : W} {o : Option W} {G : Gp} {P : SW → Gp → Prop} {σ : SW} {a0 a1 a2 a3 a4 a5 a6 a7 a8 a9 a10 a11 a12 a13 a14 a15 : Option W} : gN 16 w (a0 :: a1 :: a2 :: a3 :: a4 :: a5 :: a6 :: a7 :: a8 :: a9 :: a10 :: a11 :: a12 :: a13 :: a14 :: a15 :: o :: σ) G P = P (a0 :: a1 :: a2 :: a3 :: a4 :: a5 :: a6 :: a7 :: a8 :: a9 :: a10 :: a11 :: a12 :: a13 :: a14 :: a15 :: some w :: σ) G := rfl
theorem v_17 {w : W} {G : Gp} {Q : QW} {σ : SW} {a0 a1 a2 a3 a4 a5 a6 a7 a8 a9 a10 a11 a12 a13 a14 a15 a16 : Option W} : wVar 17 (a0 :: a1 :: a2 :: a3 :: a4 :: a5 :: a6 :: a7 :: a8 :: a9 :: a10 :: a11 :: a12 :: a13 :: a14 :: a15 :: a16 :: some w :: σ) G Q = Q w G := rfl
theorem g_17 {w : W} {o : Option W} {G : Gp} {P : SW → Gp → Prop} {σ : SW} {a0 a1 a2 a3 a4 a5 a6 a7 a8 a9 a10 a11 a12 a13 a14 a15 a16 : Option W} : gN 17 w (a0 :: a1 :: a2 :: a3 :: a4 :: a5 :: a6 :: a7 :: a8 :: a9 :: a10 :: a11 :: a12 :: a13 :: a14 :: a15 :: a16 :: o :: σ) G P = P (a0 :: a1 :: a2 :: a3 :: a4 :: a5 :: a6 :: a7 :: a8 :: a9 :: a10 :: a11 :: a12 :: a13 :: a14 :: a15 :: a16 :: some w :: σ) G := rfl
theorem v_18 {w : W} {G : Gp} {Q : QW} {σ : SW} {a0 a1 a2 a3 a4 a5 a6 a7 a8 a9 a10 a11 a12 a13 a14 a15 a16 a17 : Option W} : wVar 18 (a0 :: a1 :: a2 :: a3 :: a4 :: a5 :: a6 :: a7 :: a8 :: a9 :: a10 :: a11 :: a12 :: a13 :: a14 :: a15 :: a16 :: a17 :: some w :: σ) G Q = Q w G := rfl
theorem g_18 {w : W} {o : Option W} {G : Gp} {P : SW → Gp → Prop} {σ : SW} {a0 a1 a2 a3 a4 a5 a6 a7 a8 a9 a10 a11 a12 a13 a14 a15 a16 a17 : Option W} : gN 18 w (a0 :: a1 :: a2 :: a3 :: a4 :: a5 :: a6 :: a7 :: a8 :: a9 :: a10 :: a11 :: a12 :: a13 :: a14 :: a15 :: a16 :: a17 :: o :: σ) G P = P (a0 :: a1 :: a2 :: a3 :: a4 :: a5 :: a6 :: a7 :: a8 :: a9 :: a10 :: a11 :: a12 :: a13 :: a14 :: a15 :: a16 :: a17 :: some w :: σ) G := rfl
theorem v_19 {w : W} {G : Gp} {Q : QW} {σ : SW} {a0 a1 a2 a3 a4 a5 a6 a7 a8 a9 a10 a11 a12 a13 a14 a15 a16 a17 a18 : Option W} : wVar 19 (a0 :: a1 :: a2 :: a3 :: a4 :: a5 :: a6 :: a7 :: a8 :: a9 :: a10 :: a11 :: a12 :: a13 :: a14 :: a15 :: a16 :: a17 :: a18 :: some w :: σ) G Q = Q w G := rfl
theorem g_19 {w : W} {o : Option W} {G : Gp} {P : SW → Gp → Prop} {σ : SW} {a0 a1 a2 a3 a4 a5 a6 a7 a8 a9 a10 a11 a12 a13 a14 a15 a16 a17 a18 : Option W} : gN 19 w (a0 :: a1 :: a2 :: a3 :: a4 :: a5 :: a6 :: a7 :: a8 :: a9 :: a10 :: a11 :: a12 :: a13 :: a14 :: a15 :: a16 :: a17 :: a18 :: o :: σ) G P = P (a0 :: a1 :: a2 :: a3 :: a4 :: a5 :: a6 :: a7 :: a8 :: a9 :: a10 :: a11 :: a12 :: a13 :: a14 :: a15 :: a16 :: a17 :: a18 :: some w :: σ) G := rfl
theorem v_20 {w : W} {G : Gp} {Q : QW} {σ : SW} {a0 a1 a2 a3 a4 a5 a6 a7 a8 a9 a10 a11 a12 a13 a14 a15 a16 a17 a18 a19 : Option W} : wVar 20 (a0 :: a1 :: a2 :: a3 :: a4 :: a5 :: a6 :: a7 :: a8 :: a9 :: a10 :: a11 :: a12 :: a13 :: a14 :: a15 :: a16 :: a17 :: a18 :: a19 :: some w :: σ) G Q = Q w G := rfl
theorem g_20 {w : W} {o : Option W} {G : Gp} {P : SW → Gp → Prop} {σ : SW} {a0 a1 a2 a3 a4 a5 a6 a7 a8 a9 a10 a11 a12 a13 a14 a15 a16 a17 a18 a19 : Option W} : gN 20 w (a0 :: a1 :: a2 :: a3 :: a4 :: a5 :: a6 :: a7 :: a8 :: a9 :: a10 :: a11 :: a12 :: a13 :: a14 :: a15 :: a16 :: a17 :: a18 :: a19 :: o :: σ) G P = P (a0 :: a1 :: a2 :: a3 :: a4 :: a5 :: a6 :: a7 :: a8 :: a9 :: a10 :: a11 :: a12 :: a13 :: a14 :: a15 :: a16 :: a17 :: a18 :: a19 :: some w :: σ) G := rfl
theorem f_0 {t : TSw} {p : Addr} {D : EndsW} {G : Gp} {σ : SW} : wFz 0 t D (some (.ref p) :: σ) G = isG (G p) fun ws => t D (some (.lst ws) :: σ) (gdel G p) := rfl
theorem fl_0 {t : TSw} {ws : List W} {D : EndsW} {G : Gp} {σ : SW} : wFz 0 t D (some (.lst ws) :: σ) G = t D (some (.lst ws) :: σ) G := rfl
theorem fn_0 {t : TSw} {ws : List W} {D : EndsW} {G : Gp} {σ : SW} : wFzN 0 t D (some (.lst ws) :: σ) G = fzL ws G fun zs G' => t D (some (.lst zs) :: σ) G' := rfl
theorem f_1 {t : TSw} {p : Addr} {D : EndsW} {G : Gp} {σ : SW} {a0 : Option W} : wFz 1 t D (a0 :: some (.ref p) :: σ) G = isG (G p) fun ws => t D (a0 :: some (.lst ws) :: σ) (gdel G p) := rfl
theorem fl_1 {t : TSw} {ws : List W} {D : EndsW} {G : Gp} {σ : SW} {a0 : Option W} : wFz 1 t D (a0 :: some (.lst ws) :: σ) G = t D (a0 :: some (.lst ws) :: σ) G := rfl
theorem fn_1 {t : TSw} {ws : List W} {D : EndsW} {G : Gp} {σ : SW} {a0 : Option W} : wFzN 1 t D (a0 :: some (.lst ws) :: σ) G = fzL ws G fun zs G' => t D (a0 :: some (.lst zs) :: σ) G' := rfl
theorem f_2 {t : TSw} {p : Addr} {D : EndsW} {G : Gp} {σ : SW} {a0 a1 : Option W} : wFz 2 t D (a0 :: a1 :: some (.ref p) :: σ) G = isG (G p) fun ws => t D (a0 :: a1 :: some (.lst ws) :: σ) (gdel G p) := rfl
theorem fl_2 {t : TSw} {ws : List W} {D : EndsW} {G : Gp} {σ : SW} {a0 a1 : Option W} : wFz 2 t D (a0 :: a1 :: some (.lst ws) :: σ) G = t D (a0 :: a1 :: some (.lst ws) :: σ) G := rfl
theorem fn_2 {t : TSw} {ws : List W} {D : EndsW} {G : Gp} {σ : SW} {a0 a1 : Option W} : wFzN 2 t D (a0 :: a1 :: some (.lst ws) :: σ) G = fzL ws G fun zs G' => t D (a0 :: a1 :: some (.lst zs) :: σ) G' := rfl
theorem f_3 {t : TSw} {p : Addr} {D : EndsW} {G : Gp} {σ : SW} {a0 a1 a2 : Option W} : wFz 3 t D (a0 :: a1 :: a2 :: some (.ref p) :: σ) G = isG (G p) fun ws => t D (a0 :: a1 :: a2 :: some (.lst ws) :: σ) (gdel G p) := rfl
theorem fl_3 {t : TSw} {ws : List W} {D : EndsW} {G : Gp} {σ : SW} {a0 a1 a2 : Option W} : wFz 3 t D (a0 :: a1 :: a2 :: some (.lst ws) :: σ) G = t D (a0 :: a1 :: a2 :: some (.lst ws) :: σ) G := rfl
theorem fn_3 {t : TSw} {ws : List W} {D : EndsW} {G : Gp} {σ : SW} {a0 a1 a2 : Option W} : wFzN 3 t D (a0 :: a1 :: a2 :: some (.lst ws) :: σ) G = fzL ws G fun zs G' => t D (a0 :: a1 :: a2 :: some (.lst zs) :: σ) G' := rfl
theorem f_4 {t : TSw} {p : Addr} {D : EndsW} {G : Gp} {σ : SW} {a0 a1 a2 a3 : Option W} : wFz 4 t D (a0 :: a1 :: a2 :: a3 :: some (.ref p) :: σ) G = isG (G p) fun ws => t D (a0 :: a1 :: a2 :: a3 :: some (.lst ws) :: σ) (gdel G p) := rfl
theorem fl_4 {t : TSw} {ws : List W} {D : EndsW} {G : Gp} {σ : SW} {a0 a1 a2 a3 : Option W} : wFz 4 t D (a0 :: a1 :: a2 :: a3 :: some (.lst ws) :: σ) G = t D (a0 :: a1 :: a2 :: a3 :: some (.lst ws) :: σ) G := rfl
theorem fn_4 {t : TSw} {ws : List W} {D : EndsW} {G : Gp} {σ : SW} {a0 a1 a2 a3 : Option W} : wFzN 4 t D (a0 :: a1 :: a2 :: a3 :: some (.lst ws) :: σ) G = fzL ws G fun zs G' => t D (a0 :: a1 :: a2 :: a3 :: some (.lst zs) :: σ) G' := rfl
theorem f_5 {t : TSw} {p : Addr} {D : EndsW} {G : Gp} {σ : SW} {a0 a1 a2 a3 a4 : Option W} : wFz 5 t D (a0 :: a1 :: a2 :: a3 :: a4 :: some (.ref p) :: σ) G = isG (G p) fun ws => t D (a0 :: a1 :: a2 :: a3 :: a4 :: some (.lst ws) :: σ) (gdel G p) := rfl
theorem fl_5 {t : TSw} {ws : List W} {D : EndsW} {G : Gp} {σ : SW} {a0 a1 a2 a3 a4 : Option W} : wFz 5 t D (a0 :: a1 :: a2 :: a3 :: a4 :: some (.lst ws) :: σ) G = t D (a0 :: a1 :: a2 :: a3 :: a4 :: some (.lst ws) :: σ) G := rfl
theorem fn_5 {t : TSw} {ws : List W} {D : EndsW} {G : Gp} {σ : SW} {a0 a1 a2 a3 a4 : Option W} : wFzN 5 t D (a0 :: a1 :: a2 :: a3 :: a4 :: some (.lst ws) :: σ) G = fzL ws G fun zs G' => t D (a0 :: a1 :: a2 :: a3 :: a4 :: some (.lst zs) :: σ) G' := rfl
theorem f_6 {t : TSw} {p : Addr} {D : EndsW} {G : Gp} {σ : SW} {a0 a1 a2 a3 a4 a5 : Option W} : wFz 6 t D (a0 :: a1 :: a2 :: a3 :: a4 :: a5 :: some (.ref p) :: σ) G = isG (G p) fun ws => t D (a0 :: a1 :: a2 :: a3 :: a4 :: a5 :: some (.lst ws) :: σ) (gdel G p) := rfl
theorem fl_6 {t : TSw} {ws : List W} {D : EndsW} {G : Gp} {σ : SW} {a0 a1 a2 a3 a4 a5 : Option W} : wFz 6 t D (a0 :: a1 :: a2 :: a3 :: a4 :: a5 :: some (.lst ws) :: σ) G = t D (a0 :: a1 :: a2 :: a3 :: a4 :: a5 :: some (.lst ws) :: σ) G := rfl
theorem fn_6 {t : TSw} {ws : List W} {D : EndsW} {G : Gp} {σ : SW} {a0 a1 a2 a3 a4 a5 : Option W} : wFzN 6 t D (a0 :: a1 :: a2 :: a3 :: a4 :: a5 :: some (.lst ws) :: σ) G = fzL ws G fun zs G' => t D (a0 :: a1 :: a2 :: a3 :: a4 :: a5 :: some (.lst zs) :: σ) G' := rfl
theorem f_7 {t : TSw} {p : Addr} {D : EndsW} {G : Gp} {σ : SW} {a0 a1 a2 a3 a4 a5 a6 : Option W} : wFz 7 t D (a0 :: a1 :: a2 :: a3 :: a4 :: a5 :: a6 :: some (.ref p) :: σ) G = isG (G p) fun ws => t D (a0 :: a1 :: a2 :: a3 :: a4 :: a5 :: a6 :: some (.lst ws) :: σ) (gdel G p) := rfl
theorem fl_7 {t : TSw} {ws : List W} {D : EndsW} {G : Gp} {σ : SW} {a0 a1 a2 a3 a4 a5 a6 : Option W} : wFz 7 t D (a0 :: a1 :: a2 :: a3 :: a4 :: a5 :: a6 :: some (.lst ws) :: σ) G = t D (a0 :: a1 :: a2 :: a3 :: a4 :: a5 :: a6 :: some (.lst ws) :: σ) G := rfl
theorem fn_7 {t : TSw} {ws : List W} {D : EndsW} {G : Gp} {σ : SW} {a0 a1 a2 a3 a4 a5 a6 : Option W} : wFzN 7 t D (a0 :: a1 :: a2 :: a3 :: a4 :: a5 :: a6 :: some (.lst ws) :: σ) G = fzL ws G fun zs G' => t D (a0 :: a1 :: a2 :: a3 :: a4 :: a5 :: a6 :: some (.lst zs) :: σ) G' := rfl
theorem f_8 {t : TSw} {p : Addr} {D : EndsW} {G : Gp} {σ : SW} {a0 a1 a2 a3 a4 a5 a6 a7 : Option W} : wFz 8 t D (a0 :: a1 :: a2 :: a3 :: a4 :: a5 :: a6 :: a7 :: some (.ref p) :: σ) G = isG (G p) fun ws => t D (a0 :: a1 :: a2 :: a3 :: a4 :: a5 :: a6 :: a7 :: some (.lst ws) :: σ) (gdel G p) := rfl
theorem fl_8 {t : TSw} {ws : List W} {D : EndsW} {G : Gp} {σ : SW} {a0 a1 a2 a3 a4 a5 a6 a7 : Option W} : wFz 8 t D (a0 :: a1 :: a2 :: a3 :: a4 :: a5 :: a6 :: a7 :: some (.lst ws) :: σ) G = t D (a0 :: a1 :: a2 :: a3 :: a4 :: a5 :: a6 :: a7 :: some (.lst ws) :: σ) G := rfl
theorem fn_8 {t : TSw} {ws : List W} {D : EndsW} {G : Gp} {σ : SW} {a0 a1 a2 a3 a4 a5 a6 a7 : Option W} : wFzN 8 t D (a0 :: a1 :: a2 :: a3 :: a4 :: a5 :: a6 :: a7 :: some (.lst ws) :: σ) G = fzL ws G fun zs G' => t D (a0 :: a1 :: a2 :: a3 :: a4 :: a5 :: a6 :: a7 :: some (.lst zs) :: σ) G' := rfl
theorem f_9 {t : TSw} {p : Addr} {D : EndsW} {G : Gp} {σ : SW} {a0 a1 a2 a3 a4 a5 a6 a7 a8 : Option W} : wFz 9 t D (a0 :: a1 :: a2 :: a3 :: a4 :: a5 :: a6 :: a7 :: a8 :: some (.ref p) :: σ) G = isG (G p) fun ws => t D (a0 :: a1 :: a2 :: a3 :: a4 :: a5 :: a6 :: a7 :: a8 :: some (.lst ws) :: σ) (gdel G p) := rfl
theorem fl_9 {t : TSw} {ws : List W} {D : EndsW} {G : Gp} {σ : SW} {a0 a1 a2 a3 a4 a5 a6 a7 a8 : Option W} : wFz 9 t D (a0 :: a1 :: a2 :: a3 :: a4 :: a5 :: a6 :: a7 :: a8 :: some (.lst ws) :: σ) G = t D (a0 :: a1 :: a2 :: a3 :: a4 :: a5 :: a6 :: a7 :: a8 :: some (.lst ws) :: σ) G := rfl
theorem fn_9 {t : TSw} {ws : List W} {D : EndsW} {G : Gp} {σ : SW} {a0 a1 a2 a3 a4 a5 a6 a7 a8 : Option W} : wFzN 9 t D (a0 :: a1 :: a2 :: a3 :: a4 :: a5 :: a6 :: a7 :: a8 :: some (.lst ws) :: σ) G = fzL ws G fun zs G' => t D (a0 :: a1 :: a2 :: a3 :: a4 :: a5 :: a6 :: a7 :: a8 :: some (.lst zs) :: σ) G' := rfl
theorem f_10 {t : TSw} {p : Addr} {D : EndsW} {G : Gp} {σ : SW} {a0 a1 a2 a3 a4 a5 a6 a7 a8 a9 : Option W} : wFz 10 t D (a0 :: a1 :: a2 :: a3 :: a4 :: a5 :: a6 :: a7 :: a8 :: a9 :: some (.ref p) :: σ) G = isG (G p) fun ws => t D (a0 :: a1 :: a2 :: a3 :: a4 :: a5 :: a6 :: a7 :: a8 :: a9 :: some (.lst ws) :: σ) (gdel G p) := rfl
theorem fl_10 {t : TSw} {ws : List W} {D : EndsW} {G : Gp} {σ : SW} {a0 a1 a2 a3 a4 a5 a6 a7 a8 a9 : Option W} : wFz 10 t D (a0 :: a1 :: a2 :: a3 :: a4 :: a5 :: a6 :: a7 :: a8 :: a9 :: some (.lst ws) :: σ) G = t D (a0 :: a1 :: a2 :: a3 :: a4 :: a5 :: a6 :: a7 :: a8 :: a9 :: some (.lst ws) :: σ) G := rfl
theorem fn_10 {t : TSw} {ws : List W} {D : EndsW} {G : Gp} {σ : SW} {a0 a1 a2 a3 a4 a5 a6 a7 a8 a9 : Option W} : wFzN 10 t D (a0 :: a1 :: a2 :: a3 :: a4 :: a5 :: a6 :: a7 :: a8 :: a9 :: some (.lst ws) :: σ) G = fzL ws G fun zs G' => t D (a0 :: a1 :: a2 :: a3 :: a4 :: a5 :: a6 :: a7 :: a8 :: a9 :: some (.lst zs) :: σ) G' := rfl
theorem f_11 {t : TSw} {p : Addr} {D : EndsW} {G : Gp} {σ : SW} {a0 a1 a2 a3 a4 a5 a6 a7 a8 a9 a10 : Option W} : wFz 11 t D (a0 :: a1 :: a2 :: a3 :: a4 :: a5 :: a6 :: a7 :: a8 :: a9 :: a10 :: some (.ref p) :: σ) G = isG (G p) fun ws => t D (a0 :: a1 :: a2 :: a3 :: a4 :: a5 :: a6 :: a7 :: a8 :: a9 :: a10 :: some (.lst ws) :: σ) (gdel G p) := rfl
theorem fl_11 {t : TSw} {ws : List W} {D : EndsW} {G : Gp} {σ : SW} {a0 a1 a2 a3 a4 a5 a6 a7 a8 a9 a10 : Option W} : wFz 11 t D (a0 :: a1 :: a2 :: a3 :: a4 :: a5 :: a6 :: a7 :: a8 :: a9 :: a10 :: some (.lst ws) :: σ) G = t D (a0 :: a1 :: a2 :: a3 :: a4 :: a5 :: a6 :: a7 :: a8 :: a9 :: a10 :: some (.lst ws) :: σ) G := rfl
theorem fn_11 {t : TSw} {ws : List W} {D : EndsW} {G : Gp} {σ : SW} {a0 a1 a2 a3 a4 a5 a6 a7 a8 a9 a10 : Option W} : wFzN 11 t D (a0 :: a1 :: a2 :: a3 :: a4 :: a5 :: a6 :: a7 :: a8 :: a9 :: a10 :: some (.lst ws) :: σ) G = fzL ws G fun zs G' => t D (a0 :: a1 :: a2 :: a3 :: a4 :: a5 :: a6 :: a7 :: a8 :: a9 :: a10 :: some (.lst zs) :: σ) G' := rfl
theorem f_12 {t : TSw} {p : Addr} {D : EndsW} {G : Gp} {σ : SW} {a0 a1 a2 a3 a4 a5 a6 a7 a8 a9 a10 a11 : Option W} : wFz 12 t D (a0 :: a1 :: a2 :: a3 :: a4 :: a5 :: a6 :: a7 :: a8 :: a9 :: a10 :: a11 :: some (.ref p) :: σ) G = isG (G p) fun ws => t D (a0 :: a1 :: a2 :: a3 :: a4 :: a5 :: a6 :: a7 :: a8 :: a9 :: a10 :: a11 :: some (.lst ws) :: σ) (gdel G p) := rfl
theorem fl_12 {t : TSw} {ws : List W} {D : EndsW} {G : Gp} {σ : SW} {a0 a1 a2 a3 a4 a5 a6 a7 a8 a9 a10 a11 : Option W} : wFz 12 t D (a0 :: a1 :: a2 :: a3 :: a4 :: a5 :: a6 :: a7 :: a8 :: a9 :: a10 :: a11 :: some (.lst ws) :: σ) G = t D (a0 :: a1 :: a2 :: a3 :: a4 :: a5 :: a6 :: a7 :: a8 :: a9 :: a10 :: a11 :: some (.lst ws) :: σ) G := rfl
theorem fn_12 {t : TSw} {ws : List W} {D : EndsW} {G : Gp} {σ : SW} {a0 a1 a2 a3 a4 a5 a6 a7 a8 a9 a10 a11 : Option W} : wFzN 12 t D (a0 :: a1 :: a2 :: a3 :: a4 :: a5 :: a6 :: a7 :: a8 :: a9 :: a10 :: a11 :: some (.lst ws) :: σ) G = fzL ws G fun zs G' => t D (a0 :: a1 :: a2 :: a3 :: a4 :: a5 :: a6 :: a7 :: a8 :: a9 :: a10 :: a11 :: some (.lst zs) :: σ) G' := rfl
theorem f_13 {t : TSw} {p : Addr} {D : EndsW} {G : Gp} {σ : SW} {a0 a1 a2 a3 a4 a5 a6 a7 a8 a9 a10 a11 a12 : Option W} : wFz 13 t D (a0 :: a1 :: a2 :: a3 :: a4 :: a5 :: a6 :: a7 :: a8 :: a9 :: a10 :: a11 :: a12 :: some (.ref p) :: σ) G = isG (G p) fun ws => t D (a0 :: a1 :: a2 :: a3 :: a4 :: a5 :: a6 :: a7 :: a8 :: a9 :: a10 :: a11 :: a12 :: some (.lst ws) :: σ) (gdel G p) := rfl
theorem fl_13 {t : TSw} {ws : List W} {D : EndsW} {G : Gp} {σ : SW} {a0 a1 a2 a3 a4 a5 a6 a7 a8 a9 a10 a11 a12 : Option W} : wFz 13 t D (a0 :: a1 :: a2 :: a3 :: a4 :: a5 :: a6 :: a7 :: a8 :: a9 :: a10 :: a11 :: a12 :: some (.lst ws) :: σ) G = t D (a0 :: a1 :: a2 :: a3 :: a4 :: a5 :: a6 :: a7 :: a8 :: a9 :: a10 :: a11 :: a12 :: some (.lst ws) :: σ) G := rfl
theorem sx_0 {w : W} {P : W → Prop} {l : List W} : isS (L2.atI (w :: l) 0) P = P w := by rw [at0]; rfl
theorem sx_1 {w : W} {P : W → Prop} {l : List W} {a0 : W} : isS (L2.atI (a0 :: w :: l) 1) P = P w := by rw [at1]; rfl
theorem sx_2 {w : W} {P : W → Prop} {l : List W} {a0 a1 : W} : isS (L2.atI (a0 :: a1 :: w :: l) 2) P = P w := by rw [at2]; rfl
theorem sx_3 {w : W} {P : W → Prop} {l : List W} {a0 a1 a2 : W} : isS (L2.atI (a0 :: a1 :: a2 :: w :: l) 3) P = P w := by rw [at3]; rfl
theorem sx_4 {w : W} {P : W → Prop} {l : List W} {a0 a1 a2 a3 : W} : isS (L2.atI (a0 :: a1 :: a2 :: a3 :: w :: l) 4) P = P w := by rw [at4]; rfl
theorem sx_5 {w : W} {P : W → Prop} {l : List W} {a0 a1 a2 a3 a4 : W} : isS (L2.atI (a0 :: a1 :: a2 :: a3 :: a4 :: w :: l) 5) P = P w := by rw [at5]; rfl
theorem sx_6 {w : W} {P : W → Prop} {l : List W} {a0 a1 a2 a3 a4 a5 : W} : isS (L2.atI (a0 :: a1 :: a2 :: a3 :: a4 :: a5 :: w :: l) 6) P = P w := by rw [at6]; rfl
theorem sx_7 {w : W} {P : W → Prop} {l : List W} {a0 a1 a2 a3 a4 a5 a6 : W} : isS (L2.atI (a0 :: a1 :: a2 :: a3 :: a4 :: a5 :: a6 :: w :: l) 7) P = P w := by rw [at7]; rfl
theorem walk_hook {l : PySem.W.OpenLaw} {n k : Nat} {q : Program} {loose : List Str} {XP : (Str → Option Value) → Heap → Prop} {YP : World → Heap → Prop} {d : DefRec} {x : Str}
  (most : l.most = some n) (small : n ≤ sizeLine) (nodef : d.params.defaults = []) (hr : Room k callerA) (noimp : importsNone q = true)
  (F : ∀ (w : World) (mg : Str → Option Value) (fa : Addr) (h : Heap), YP w h → h.Ns mainGlobals mg → mg d.name = some (.ref fa) →
   ∃ (K : PySem.W.Frag) (fd : FuncData) (sp : Sp), K.In h ∧ (∀ (s : Shared) (u : Value), BindsTo s fd ⟨[u], []⟩ [(x, u)]) ∧
    (∀ (H : Hp) (a : Addr) (ns : List Int), ns.length ≤ n → Only H → SqL K H a (ns.map V.int) → sp [.ref a] H (fun v _ => v = .bl true) fun _ _ _ => False) ∧
    ∀ base : Heap, K.In base → base.Ns mainGlobals mg → base.NoSeer → RunG l.prog w K mg base k fa fd [x] sp) :
  PySem.W.WalkO q loose XP YP l.row.toRowW d [] (fun f vs => PySem.call f vs) :=
 Att.attach_call most nodef fun w s0 s1 mg mb fa o pm cd doc a vs ns G Y ho hd hcd hmg obj iar len gens => by
  obtain ⟨K, fd, sp, KX, bind, want, FF⟩ := F w mg fa _ Y G.T.g hmg
  exact law_run KX G.T.g G.T.b G.T.builtins G.T.nolimit (G.T.seer noimp) gens obj iar (Nat.le_trans len small) hr FF bind fun H h1 h2 => want H a ns len h1 h2
noncomputable def tMethS (C : Addr) (m : Str) (sp : Sp) (E : L2.St → XK) (ta : TE) (t : TA) : TE := fun σ H Q => ta σ H fun x H1 => ∃ a dx fs, x = .ref a ∧ H1 a = some (.ins C dx fs) ∧ fs.lookup m = none ∧ t σ H1 fun vs H2 => sp (x :: vs) H2 Q (E σ)
section
variable {X : Cx} {CX : CXT} {k : Nat} {C f : Addr} {fd : FuncData} {ps : List Str} {sp : Sp} {E : L2.St → XK} {m : Str} {p pos apos : Pos} {o e : Expr} {es : List Expr} {ta : TE} {t : TA}
theorem pe_methS {pl : Sem Bool} (he : PE X o ta) (c : Cls X.K C) (hm : Meth X.K C m f) (F : FnOk X.prog X.w X.K X.mg X.base CX k f fd ps sp) (hr : Room k X.A) (hb : Binds X.K fd ps []) (hx : ∀ σ, PassesAt CX X σ (E σ)) (ha : PA X (e :: es) t)
  (hst : starEach (e :: es) X.env = (false, eval e X.env) :: starEach es X.env := by rfl) (hpl : (backTo pos (starEach es X.env)).any (·.1) = false := by rfl)
  (ht : eval (.Call (.Attribute o m apos) (e :: es) [] pos) X.env = (do
   let ov ← eval o X.env
   standAt apos.atName
   let (f, first) ← holding [ov] (getMethod ov m pl)
   callWith pos f first (backTo pos (starEach (e :: es) X.env)) (backToKw pos (keywordEach [] X.env))) := by rfl) :
  PE X (.Call (.Attribute o m apos) (e :: es) [] pos) (tMethS C m sp E ta t) := by
 refine ⟨fun pins s σ H Q I h => ?_⟩
 refine PySem.W.methodCall_KW (pl := pl) (thn (he.run pins s σ H _ I h) fun u s1 ⟨x, H1, I1, rx, a, dx, fs, ex, ea, l, q⟩ => ?_) ht
 subst ex
 obtain rfl : u = Value.ref a := rx
 refine getmeth_ok I1 ea c hm l ?_
 refine PySem.W.callWith_K (first := [.ref a]) (h₀ := X.base) I.ok.mod.kin hm.kp (thn (ha.run pos pins s1 σ H1 _ I1 q) fun us s2 ⟨vs, H2, I2, r, q2⟩ => ⟨I2.kIn, ?_⟩) hst hpl
 exact run_fnSD (dvs := []) (us := .ref a :: us) (vs := .ref a :: vs) F hr hb .nil (hx σ) I2 (.cons rfl r) (by rw [List.append_nil]; exact q2)
theorem pe_methS0 {pl : Sem Bool} (he : PE X o ta) (c : Cls X.K C) (hm : Meth X.K C m f) (F : FnOk X.prog X.w X.K X.mg X.base CX k f fd ps sp) (hr : Room k X.A) (hb : Binds X.K fd ps []) (hx : ∀ σ, PassesAt CX X σ (E σ))
  (ht : eval (.Call (.Attribute o m apos) [] [] pos) X.env = (do
   let ov ← eval o X.env
   standAt apos.atName
   let (f, first) ← holding [ov] (getMethod ov m pl)
   callWith pos f first (backTo pos (starEach [] X.env)) (backToKw pos (keywordEach [] X.env))) := by rfl) :
  PE X (.Call (.Attribute o m apos) [] [] pos) (tMethS C m sp E ta tNil) := by
 refine ⟨fun pins s σ H Q I h => ?_⟩
 refine PySem.W.methodCall_KW (pl := pl) (thn (he.run pins s σ H _ I h) fun u s1 ⟨x, H1, I1, rx, a, dx, fs, ex, ea, l, q⟩ => ?_) ht
 subst ex
 obtain rfl : u = Value.ref a := rx
 refine getmeth_ok I1 ea c hm l ?_
 exact PySem.W.callWith_K0 (first := [.ref a]) I1.kIn hm.kp (run_fnSD (dvs := []) (us := [.ref a]) (vs := [.ref a]) F hr hb .nil (hx σ) I1 (.cons rfl .nil) (by rw [List.append_nil]; exact q))
end
noncomputable def wDead : TSw := fun _ _ _ => False
theorem qdead {X : Cx} {st : List Stmt} : PSsw X st wDead := ⟨fun _ _ _ _ _ _ h => by
 obtain ⟨_, _, _, _, _, _, t, _⟩ := h
 exact t.elim⟩
noncomputable def wMethX (nm m : Str) (sp : Spw) (to : TEw) (t : TAw) : EXs → TEw := fun Ex σ G Q => to σ G fun x G1 => isS (insOf G1 x) fun o => o.1 = nm ∧ o.2.lookup m = none ∧ t σ G1 fun ws G2 => sp (x :: ws) G2 Q fun n fs G3 => Ex n fs σ G3
noncomputable def wBMX (wr : RWM) (to : TEw) (te : EXs → TEw) : EXs → TEw := fun Ex σ G Q => to σ G fun o G1 => (asL G1 o).isSome = true ∧ te Ex σ G1 fun w G2 => wr o [w] G2 Q
section
variable {X : Cx} {K : PySem.W.Frag} {o e : Expr} {es : List Expr} {to : TEw} {t : TAw} {te : EXs → TEw} {sp : Spw} {nm m : Str} {k : Nat} {p pos apos cpos : Pos}
theorem qmethX (c : CalM X.prog X.w X.K X.mg X.base (L2N.CX X.prog X.w) k nm m sp) (hr : Room k X.A) (ho : PEw X o to) (ha : PAw X (e :: es) t) {pl : Sem Bool} (hst : starEach (e :: es) X.env = (false, eval e X.env) :: starEach es X.env := by rfl) (hpl : (backTo pos (starEach es X.env)).any (·.1) = false := by rfl)
  (ht : eval (.Call (.Attribute o m apos) (e :: es) [] pos) X.env = (do
   let ov ← eval o X.env
   standAt apos.atName
   let (f, first) ← holding [ov] (getMethod ov m pl)
   callWith pos f first (backTo pos (starEach (e :: es) X.env)) (backToKw pos (keywordEach [] X.env))) := by rfl) : PExw X (.Call (.Attribute o m apos) (e :: es) [] pos) (wMethX nm m sp to t) := fun Ex => by
 obtain ⟨C, f, fd, ps, ca, cl, hm, F, b⟩ := c.ex
 refine PE.imp (pe_methS ho cl hm F hr b (fun σ => L2N.passAt (W := wishOf X) takes_wish σ) ha hst hpl ht) fun σ H Q h => ?_
 obtain ⟨Z, σ', G, Qw, ev, hr, t, k, kx⟩ := h
 refine ⟨Z, σ', G, _, ev, hr, t, fun Z1 G1 H1 w v x1 h1 r1 t1 => ?_⟩
 obtain ⟨⟨n, fs⟩, e, en, el, t5⟩ := isS_ex t1
 have en : n = nm := en
 clear t1
 subst en
 obtain ⟨p, C', dx, gs, rfl, c', s, r⟩ := insOf_at h1 r1 e
 cases ca.one c'
 refine ⟨p, dx, gs, rfl, s, r.none el, Z1, σ', G1, _, ev.ext hr x1, h1, t5, fun Z2 G2 H2 ws vs x2 h2 r2 t2 => ?_⟩
 have xx := x1.trans x2
 exact ⟨Z2, w :: ws, G2, Qw, _, .cons (r1.ext h1 x2) r2, h2, t2, k.mono xx, fun Z3 G3 H3 nm C fs d x3 h3 c f q => kx Z3 G3 H3 σ' σ nm C fs d (xx.trans x3) h3 (ev.ext hr (xx.trans x3)) c f q⟩
theorem qmethX0 (c : CalM X.prog X.w X.K X.mg X.base (L2N.CX X.prog X.w) k nm m sp) (hr : Room k X.A) (ho : PEw X o to) {pl : Sem Bool}
  (ht : eval (.Call (.Attribute o m apos) [] [] pos) X.env = (do
   let ov ← eval o X.env
   standAt apos.atName
   let (f, first) ← holding [ov] (getMethod ov m pl)
   callWith pos f first (backTo pos (starEach [] X.env)) (backToKw pos (keywordEach [] X.env))) := by rfl) : PExw X (.Call (.Attribute o m apos) [] [] pos) (wMethX nm m sp to wNil) := fun Ex => by
 obtain ⟨C, f, fd, ps, ca, cl, hm, F, b⟩ := c.ex
 refine PE.imp (pe_methS0 ho cl hm F hr b (fun σ => L2N.passAt (W := wishOf X) takes_wish σ) ht) fun σ H Q h => ?_
 obtain ⟨Z, σ', G, Qw, ev, hr, t, k, kx⟩ := h
 refine ⟨Z, σ', G, _, ev, hr, t, fun Z1 G1 H1 w v x1 h1 r1 t1 => ?_⟩
 obtain ⟨⟨n, fs⟩, e, en, el, t5⟩ := isS_ex t1
 have en : n = nm := en
 clear t1
 subst en
 obtain ⟨p, C', dx, gs, rfl, c', s, r⟩ := insOf_at h1 r1 e
 cases ca.one c'
 refine ⟨p, dx, gs, rfl, s, r.none el, ?_⟩
 have t5 : sp (w :: []) G1 Qw _ := t5
 exact ⟨Z1, w :: [], G1, Qw, _, .cons r1 .nil, h1, t5, k.mono x1, fun Z3 G3 H3 nm C fs d x3 h3 c f q => kx Z3 G3 H3 σ' σ nm C fs d (x1.trans x3) h3 (ev.ext hr (x1.trans x3)) c f q⟩
theorem qbmX {id : String} {r : V → List V → Hp → VK → Prop} {wr : RWM} (slot : Slot "list" nm id) (hty : typeOf (.builtin id) = pure (.type "method_descriptor")) (hm : MtR X id r) (hs : SimM X.K r wr) (ho : PEw X o to) (he : PExw X e te)
  (hbase : attributeBase o nm X.env (eval o X.env) = eval o X.env := by rfl)
  (hfew : ((backTo cpos (starEach [e] X.env)).all (fun x => !x.1) && (backToKw cpos (keywordEach [] X.env)).all (fun x => x.1.isSome)
   && decide ([e].length + ([] : List Keyword).length + (if ([] : List Keyword).isEmpty then 0 else 1) < 30)) = true := by rfl)
  (hline : (apos.endLine == cpos.line) = true := by rfl) (h1 : starEach [e] X.env = (false, eval e X.env) :: starEach [] X.env := by rfl) (h2 : (backTo cpos (starEach [] X.env)).any (·.1) = false := by rfl) :
  PExw X (.Call (.Attribute o nm apos) [e] [] cpos) (wBMX wr to te) := fun Ex =>
 PE.imp (pe_bm PySem.F.plainAttrs_list slot hty hm ho (pa_cons (he Ex) pa_nil h1) hbase hfew hline h1 h2) fun σ H Q h => by
  obtain ⟨Z, σ', G, Qw, ev, hr, t, k, kx⟩ := h
  refine ⟨Z, σ', G, _, ev, hr, t, fun Z1 G1 H1 w v x1 h1 r1 t1 => ?_⟩
  obtain ⟨a, t1⟩ := t1
  obtain ⟨us, eu⟩ := Option.isSome_iff_exists.mp a
  obtain ⟨p, vs, rfl, s, _⟩ := asL_sq h1 r1 eu
  refine ⟨.inl ⟨rfl, vs, s⟩, ?_⟩
  show liftX X Ex (te Ex) σ H1 _
  refine ⟨Z1, σ', G1, _, ev.ext hr x1, h1, t1, fun Z2 G2 H2 y yv x2 h2 r2 t2 => ?_, kx.mono x1⟩
  exact hs Z2 G2 H2 w _ [y] [yv] Qw Q h2 (r1.ext h1 x2) (.cons r2 .nil) t2 (k.mono (x1.trans x2))
end
structure GDic (K : PySem.W.Frag) (mg : Str → Option Value) (w : World) (x : Str) (kvs : List (Str × Int)) : Prop where
 ex : ∃ (d : Addr) (es : Array DictEntry) (n : Nat), mg x = some (.ref d) ∧ KDict K w d es n ∧ (∀ z, kvs.lookup z = none → PySem.W.nsIn K d z = some none) ∧ ∀ z i, kvs.lookup z = some i → ∃ t, PySem.W.nsIn K d z = some (some (.int i t))
theorem ent_find : ∀ {l : List DictEntry} {kvs : List (Str × Int)}, l.map entK = kvs.map some → ∀ z : Str, l.any (·.refKey) = false ∧ ((∃ e i t, l.find? (·.key.isStr z) = some e ∧ e.val = .int i t ∧ kvs.lookup z = some i) ∨ (l.find? (·.key.isStr z) = none ∧ kvs.lookup z = none))
 | [], [], _, z => ⟨rfl, .inr ⟨rfl, rfl⟩⟩
 | [], _ :: _, h, _ => by cases h
 | _ :: _, [], h, _ => by cases h
 | e :: l, (x, i) :: kvs, h, z => by
  rw [List.map_cons, List.map_cons] at h
  injection h with h1 h2
  obtain ⟨a, b⟩ := ent_find h2 z
  obtain ⟨hs, k, v⟩ := e
  unfold entK at h1
  dsimp only at h1
  split at h1
  ·rename_i y t j u
   obtain ⟨rfl, rfl⟩ := Prod.mk.inj (Option.some.inj h1)
   refine ⟨by rw [List.any_cons, a]; rfl, ?_⟩
   by_cases c : y = z
   ·subst c
    exact .inl ⟨_, j, u, by rw [List.find?_cons_of_pos]; simp [Value.isStr], rfl, by simp [List.lookup]⟩
   ·have c1 : (Value.str y t).isStr z = false := by simp [Value.isStr, c]
    have c2 : ((y, j) :: kvs).lookup z = kvs.lookup z := by
     have : (z == y) = false := by simp; exact fun q => c q.symm
     simp [List.lookup, this]
    rw [c2, List.find?_cons_of_neg (by simp [c1])]
    exact b
  ·cases h1
theorem GDic.of {K : PySem.W.Frag} {mg : Str → Option Value} {w : World} {x : Str} {kvs : List (Str × Int)} {d : Addr} {es : Array DictEntry} {n : Nat} (m : mg x = some (.ref d)) (D : KDict K w d es n) (h : dicB K d kvs = true) : GDic K mg w x kvs := by
 have hl := D.at_
 unfold dicB at h
 rw [hl] at h
 have h := of_decide_eq_true h
 refine ⟨d, es, n, m, D, fun z hz => ?_, fun z i hz => ?_⟩
 ·obtain ⟨a, b⟩ := ent_find h z
  unfold PySem.W.nsIn
  rw [hl]
  rcases b with ⟨e, i, t, _, _, q⟩ | ⟨b, _⟩
  ·rw [hz] at q; cases q
  ·dsimp only; rw [b, a]; rfl
 ·obtain ⟨a, b⟩ := ent_find h z
  unfold PySem.W.nsIn
  rw [hl]
  rcases b with ⟨e, j, t, b, ev, q⟩ | ⟨_, q⟩
  ·rw [hz] at q
   injection q with q
   subst q
   exact ⟨t, by dsimp only; rw [b]; dsimp only; rw [ev]⟩
  ·rw [hz] at q; cases q
noncomputable def wGIn (neg : Bool) (kvs : List (Str × Int)) (ta : TEw) : TEw := fun σ G Q => ta σ G fun v G1 => ∃ z : Str, v = .str z ∧ Q (.bl (if neg then !(kvs.lookup z).isSome else (kvs.lookup z).isSome)) G1
noncomputable def wGGet (kvs : List (Str × Int)) (ta : TEw) : TEw := fun σ G Q => ta σ G fun v G1 => ∃ (z : Str) (i : Int), v = .str z ∧ kvs.lookup z = some i ∧ Q (.int i) G1
section
variable {X : Cx} {x : Str} {kvs : List (Str × Int)} {a : Expr} {ta : TEw} {p pos : Pos}
theorem gin_k (g : GDic X.K X.mg X.w x kvs) : ∃ (d : Addr) (es : Array DictEntry) (n : Nat), X.mg x = some (.ref d) ∧ KDict X.K X.w d es n ∧ ∀ z, ∃ r, PySem.W.nsIn X.K d z = some r ∧ r.isSome = (kvs.lookup z).isSome := by
 obtain ⟨d, es, n, m, D, h0, h1⟩ := g.ex
 refine ⟨d, es, n, m, D, fun z => ?_⟩
 cases e : kvs.lookup z with
 | none => exact ⟨none, h0 z e, rfl⟩
 | some i =>
  obtain ⟨t, h⟩ := h1 z i e
  exact ⟨_, h, rfl⟩
theorem qtninG (g : GDic X.K X.mg X.w x kvs) (hg : Gl X x) (ha : PEw X a ta) (hd : (x == ("__debug__" : Str)) = false := by decide) (hm : behindInMarks .NotIn (.Name x p) = false := by rfl) : PTw X (.Compare a [.NotIn] [.Name x p] pos) (wTest (wGIn true kvs ta)) := by
 obtain ⟨d, es, n, m, D, h⟩ := gin_k g
 refine PT.imp (pt_cmpR (op_notIn_kd D) ha (pe_glob (v := .ref d) hg m rfl hd) hm) fun _ _ _ hq => ltest (fun σ H Q hq => ?_) hq
 obtain ⟨Z, σ', G, Qw, ev, hh, t, k⟩ := hq
 refine ⟨Z, σ', G, _, ev, hh, t, fun Z1 G1 H1 w v x1 h1 r1 t1 => ?_⟩
 obtain ⟨z, rfl, q⟩ := t1
 cases r1
 obtain ⟨r, e1, e2⟩ := h z
 show ∃ (z' : Str) (r : Option Value), _
 exact ⟨z, r, rfl, rfl, e1, by rw [e2]; exact k _ _ _ _ _ x1 h1 .bl q⟩
theorem qGget {b : Expr} {tb : TEw} (g : GDic X.K X.mg X.w x kvs) (hg : Gl X x) (hb : PEw X b tb) (hd : (x == ("__debug__" : Str)) = false := by decide) (hp : PlainIx b := by exact fun _ _ => rfl) : PEw X (.Subscript (.Name x p) b pos) (wGGet kvs tb) := by
 obtain ⟨d, es, n, m, D, _, h1⟩ := g.ex
 refine PE.imp (pe_ix ix_kdict (pe_glob (v := .ref d) hg m rfl hd) hb hp) fun σ H Q hq => ?_
 obtain ⟨Z, σ', G, Qw, ev, hh, t, k⟩ := hq
 show liftE X.K tb σ H _
 refine ⟨Z, σ', G, _, ev, hh, t, fun Z1 G1 H1 w v x1 hr1 r1 t1 => ?_⟩
 obtain ⟨z, i, rfl, e, q⟩ := t1
 cases r1
 obtain ⟨tk, e1⟩ := h1 z i e
 exact ⟨d, z, .int i, rfl, rfl, ⟨es, n, _, D.at_, D.lit, e1, ⟨_, rfl⟩⟩, k _ _ _ _ _ x1 hr1 .int q⟩
end
section
variable {X : Cx}
noncomputable def rCountF (K : PySem.W.Frag) : V → List V → Hp → VK → Prop := fun x xs H Q => ∃ (a : Addr) (ys : List V) (y : V), x = V.ref a ∧ xs = [y] ∧ SqL K H a ys ∧ flatV y = true ∧ ys.all flatV = true ∧ Q (.int ((ys.countP fun z => eqV z y : Nat) : Int)) H
theorem countP_eqU {x : V} : ∀ {xs : List V} {us : List Value}, Vals xs us → xs.all flatV = true → us.countP (eqU x) = xs.countP fun y => eqV y x
 | _, _, .nil, _ => rfl
 | y :: xs, u :: us, .cons r t, f => by
  rw [List.all_cons, Bool.and_eq_true] at f
  rw [List.countP_cons, List.countP_cons, countP_eqU t f.2, eqU_of r f.1]
theorem mt_countF : MtR X "list.count" (rCountF X.K) := by
 intro pins s σ H x xs v us Q I rx rxs h
 obtain ⟨p, ys, y, rfl, rfl, hs, fy, fys, q⟩ := h
 cases rx
 obtain ⟨u, rfl, ru⟩ := rxs.one
 obtain ⟨its, rv, ⟨⟨cls, dd, data, sl⟩, n, ho, hc, hdn, hd⟩, hlen⟩ := I.list hs
 simp only at hc hd
 subst hc hd
 refine call_meets PySem.F.slot_list_count ⟨_, ho, rfl⟩ PySem.F.entry_list_count (PySem.F.args_list_count_2 _ _)
  (SeqAt.list_countAt p its.toArray n dd sl u (eqU y)) ⟨ho, fun z hz => mem_eqAt ru fy rv fys z (by simpa using hz), ?_⟩
 have ec : its.toArray.toList.countP (eqU y) = ys.countP fun z => eqV z y := countP_eqU rv fys
 refine ⟨.int ((ys.countP fun z => eqV z y : Nat) : Int), H, I.tok _, ⟨s.toks, ?_⟩, q⟩
 show Value.int ((its.toArray.toList.countP (eqU y) : Nat) : Int) s.toks = _
 rw [ec]
end
noncomputable def wM_count : RWM := fun o xs G Q => match xs with
 | [w] => isS (asL G o) fun ws => flatW w = true ∧ ws.all flatW = true ∧ Q (.int ((ws.countP fun z => eqW z w : Nat) : Int)) G
 | _ => False
noncomputable def wM_indexF : RWM := fun o xs G Q => match xs with
 | [w] => isS (asL G o) fun ws => flatW w = true ∧ ws.all flatW = true ∧ ∃ j z, ws[j]? = some z ∧ eqW z w = true ∧ (∀ m z', m < j → ws[m]? = some z' → eqW z' w = false) ∧ Q (.int ((j : Nat) : Int)) G
 | _ => False
theorem countP_rw {K : PySem.W.Frag} {Z : Zp} {H : Hp} {w : W} {v : V} (r : Rw K Z H w v) (f : flatW w = true) : ∀ {ws : List W} {vs : List V}, RwL K Z H ws vs → ws.all flatW = true → (vs.countP fun z => eqV z v) = ws.countP fun z => eqW z w
 | _, _, .nil, _ => rfl
 | _, _, .cons q t, g => by
  rw [List.all_cons, Bool.and_eq_true] at g
  rw [List.countP_cons, List.countP_cons, countP_rw r f t g.2, Rw.eqv q r g.1 f]
theorem sim_count {K : PySem.W.Frag} : SimM K (rCountF K) wM_count := by
 intro Z G H x v ws vs Qw Q h rx rws t k
 cases rws with
 | nil => exact False.elim t
 | cons rw1 rr =>
  cases rr with
  | cons _ _ => exact False.elim t
  | nil =>
   obtain ⟨us, e, f1, f2, q⟩ := isS_ex t
   obtain ⟨p, ys, rfl, s, r⟩ := asL_sq h rx e
   refine ⟨p, ys, _, rfl, rfl, s, rw1.flat f1, RwL.flat r f2, ?_⟩
   rw [countP_rw rw1 f1 r f2]
   exact k.at h .int q
theorem sim_indexF {K : PySem.W.Frag} : SimM K (rIndex K) wM_indexF := by
 intro Z G H x v ws vs Qw Q h rx rws t k
 cases rws with
 | nil => exact False.elim t
 | cons rw1 rr =>
  cases rr with
  | cons _ _ => exact False.elim t
  | nil =>
   obtain ⟨us, e, f1, f2, j, z, hj, ez, no, q⟩ := isS_ex t
   obtain ⟨p, ys, rfl, s, r⟩ := asL_sq h rx e
   have fl : ∀ {i w}, us[i]? = some w → flatW w = true := fun {i w} hw => List.all_eq_true.mp f2 w (List.mem_of_getElem? hw)
   obtain ⟨zv, hv, rz⟩ := r.get j hj
   refine ⟨p, ys, _, j, zv, rfl, rfl, s, rw1.flat f1, RwL.flat r f2, hv, by rw [Rw.eqv rz rw1 (fl hj) f1]; exact ez, fun m z' hm hz => ?_, k.at h .int q⟩
   obtain ⟨w', hw', rw'⟩ := r.get' m hz
   rw [Rw.eqv rw' rw1 (fl hw') f1]
   exact no m w' hm hw'
section
variable {X : Cx} {o e : Expr} {es : List Expr} {to : TEw} {t : TAw} {cpos apos : Pos}
theorem qm_count (ho : PEw X o to) (ha : PAw X (e :: es) t) (hbase : ∀ nm, attributeBase o nm X.env (eval o X.env) = eval o X.env := by intro _; rfl)
  (hfew : ((backTo cpos (starEach (e :: es) X.env)).all (fun x => !x.1) && (backToKw cpos (keywordEach [] X.env)).all (fun x => x.1.isSome)
   && decide ((e :: es).length + ([] : List Keyword).length + (if ([] : List Keyword).isEmpty then 0 else 1) < 30)) = true := by rfl)
  (hline : (apos.endLine == cpos.line) = true := by rfl)
  (h1 : starEach (e :: es) X.env = (false, eval e X.env) :: starEach es X.env := by rfl) (h2 : (backTo cpos (starEach es X.env)).any (·.1) = false := by rfl) :
  PEw X (.Call (.Attribute o "count" apos) (e :: es) [] cpos) (wBM wM_count to t) := qbm PySem.F.slot_list_count PySem.F.type_list_count mt_countF sim_count ho ha (hbase _) hfew hline h1 h2
theorem qm_indexF (ho : PEw X o to) (ha : PAw X (e :: es) t) (hbase : ∀ nm, attributeBase o nm X.env (eval o X.env) = eval o X.env := by intro _; rfl)
  (hfew : ((backTo cpos (starEach (e :: es) X.env)).all (fun x => !x.1) && (backToKw cpos (keywordEach [] X.env)).all (fun x => x.1.isSome)
   && decide ((e :: es).length + ([] : List Keyword).length + (if ([] : List Keyword).isEmpty then 0 else 1) < 30)) = true := by rfl)
  (hline : (apos.endLine == cpos.line) = true := by rfl)
  (h1 : starEach (e :: es) X.env = (false, eval e X.env) :: starEach es X.env := by rfl) (h2 : (backTo cpos (starEach es X.env)).any (·.1) = false := by rfl) :
  PEw X (.Call (.Attribute o "index" apos) (e :: es) [] cpos) (wBM wM_indexF to t) := qbm PySem.F.slot_list_index PySem.F.type_list_index mt_index sim_indexF ho ha (hbase _) hfew hline h1 h2
end
local macro_rules | `(tactic| walk_at $s:str) => do { match s.getString.splitOn " " with | [k, h] => do { let ns := if k == "t" then "TuAt.f_widths TuAt.f_turned TuAt.f_costs TuAt.f_rows TuAt.f_rights TuAt.f_basics TuAt.f_scale TuAt.a_t TuAt.a_c TuAt.a_r TuAt.a_s TuAt.a_b TuAt.ins TuAt.pt TuAt.pc TuAt.pr TuAt.ps TuAt.pb" else if k == "k" then "WkAt.f_home WkAt.f_borne WkAt.f_makings WkAt.f_states WkAt.ins WkAt.l_last WkAt.l_making WkAt.l_ways WkAt.l_states_behind WkAt.l_fixed WkAt.l_priced_ways WkAt.l_best_way WkAt.l_least_left WkAt.l_entry WkAt.l_run WkAt.p WkAt.sp WkAt.a_s" else "LkAt.f_home LkAt.f_bounds LkAt.ins LkAt.l_bound LkAt.l_step LkAt.l_state LkAt.p LkAt.bp LkAt.a_s"; let xs ← (ns.splitOn " ").toArray.mapM fun n => do { let r ← Lean.Macro.resolveGlobalName n.toName; let i := match r with | (c, []) :: _ => Lean.mkCIdent c | _ => Lean.mkIdent n.toName; let hh := Lean.mkIdent (Lean.Name.mkSimple h); let t ← `($i $hh); `(Lean.Parser.Tactic.simpLemma| $t:term) }; `(tactic| try simp only [$[$xs],*, isG_lst, isS_some]) } | _ => Lean.Macro.throwUnsupported }
local macro_rules | `(tactic| walk_at $s:str) => match s.getString.toList with | 'W' :: cs => do { let id := fun (n : String) => do { let r ← Lean.Macro.resolveGlobalName n.toName; pure (match r with | (c, []) :: _ => Lean.mkCIdent c | _ => Lean.mkIdent n.toName) }; let ds ← ((("a_seq a_asg a_ifS a_ret a_next a_drop a_for a_C a_op a_un a_neg a_CB a_call a_nil a_cons a_tup a_lst a_lstM a_test a_and a_or a_not a_yes a_andV a_notV a_if a_isN a_notN a_chain a_BM a_BM0 a_seqI a_R1 a_R2 a_zipG2 a_enumG a_lc a_lcM a_slice a_pN a_pS a_gIx a_par a_setF a_meth a_make a_raise a_callX a_retX a_dropX a_tryAs a_isE a_callE v_0 g_0 u_0 v_1 g_1 u_1 v_2 g_2 u_2 v_3 g_3 u_3 v_4 g_4 u_4 v_5 g_5 u_5 v_6 g_6 u_6 v_7 g_7 u_7 v_8 g_8 u_8 v_9 g_9 u_9 v_10 g_10 u_10 v_11 g_11 u_11 v_12 g_12 u_12 v_13 g_13 v_14 g_14 v_15 g_15 v_16 g_16 v_17 g_17 v_18 g_18 v_19 g_19 v_20 g_20 f_0 fl_0 fn_0 f_1 fl_1 fn_1 f_2 fl_2 fn_2 f_3 fl_3 fn_3 f_4 fl_4 fn_4 f_5 fl_5 fn_5 f_6 fl_6 fn_6 f_7 fl_7 fn_7 f_8 fl_8 fn_8 f_9 fl_9 fn_9 f_10 fl_10 fn_10 f_11 fl_11 fn_11 f_12 fl_12 fn_12 f_13 fl_13 sx_0 sx_1 sx_2 sx_3 sx_4 sx_5 sx_6 sx_7 asL_lst asL_scr asL_gup wIx_tup wIx_lst wIx_scr wIx_ref wIx_str wAdd_int wAdd_str wAdd_tup wAdd_lst wII_int wI2_int wI1_int wI1N_int wI2N_int wLen_tup wLen_lst wLen_scr wLen_ref wLen_str wInt_int wInt_bl wStrI_int wEq_int wEq_str wEq_bl wNe_bl wNe_int wNe_str wEq_tup wNe_tup wEq_lst wNe_lst setIx_ref gT_tup gT_lst gT_ref gsC_cons gsN_nil wAppend_ref wPop_ref wExtend_ref wAddM_lst seqOf_tup seqOf_lst seqOf_scr seqOf_ref rng1_int rng2_int wIsi_non wIsi_bl wIsi_int wIsi_str wIsi_tup wIsi_lst wIsi_ref wAll_lst wTuple_tup wTuple_lst wTuple_ref wCut_tup wCut_lst wCut_ref wCut_str zipG2_eq enumG_eq truO_bl intO_int isS_some isG_lst setF_ref isI_ins insOf_gup isExc_exc".splitOn " ").zipIdx.filter fun p => ((let c := cs.getD (p.2 / 4) '0'; if c.isDigit then c.toNat - 48 else c.toNat - 87) >>> (p.2 % 4)) % 2 == 1).map (·.1)).toArray.mapM fun n => do { let i ← id n; `(Lean.Parser.Tactic.simpLemma| ↓$i:ident) }; let es ← ("sdel keyOf nk rangeW_length sset skill swipe swipe.sforget lcW wIn seqs inW eqW flatW kdIs isNon gup_same gup_gup at0 at1 at2 at3 at4 at5 at6 at7 ix0 ix1 ix2 ix3 ix4 ix5 W.bl.injEq exists_eq_left' List.length_cons List.length_nil List.length_map Nat.zero_add Nat.reduceAdd List.set List.map_cons List.map_nil Option.isSome_some List.all_cons List.all_nil List.any_cons List.any_nil List.cons_append List.nil_append Bool.and_true Bool.and_self Bool.or_false Bool.true_and Bool.false_and Bool.and_false true_and decide_true decide_false Bool.not_true Bool.not_false Bool.not_not Bool.false_eq_true if_true if_false ite_self beq_self_eq_true".splitOn " ").toArray.mapM fun n => do { let i ← id n; `(Lean.Parser.Tactic.simpLemma| $i:ident) }; let xs := ds ++ es; `(tactic| try simp only [$[$xs],*]) } | _ => Lean.Macro.throwUnsupported
local macro_rules | `(tactic| k_upd) => `(tactic| walk_at "Wfd966000102006bd6bd6bd600000000000000effff7f700010040000a10")
noncomputable def t_ztake : TSw := (wSeq (wIfS (wTest (wOp wGt (wOp wIx (wVar 0) (wC (.int 0))) (wC (.int 0)))) (wSeq (wAsg (wOp wMod (wOp wIx (wVar 0) (wC (.int 0))) (wVar 1)) (gN 2))
  (wSeq (wAsg (wOp wFdiv (wOp wIx (wVar 0) (wC (.int 0))) (wVar 1)) (gIx (wVar 0) (wC (.int 0))))
  (wRet (wVar 2)))) wNext)
  (wSeq (wAsg (wOp wMod (wOp wAdd (wOp wMul (wOp wIx (wVar 0) (wC (.int 1))) (wC (.int 48271))) (wC (.int 7919))) (wC (.int 2147483647))) (gIx (wVar 0) (wC (.int 1))))
  (wRet (wOp wMod (wOp wMod (wOp wMul (wOp wFdiv (wOp wMod (wOp wPow (wOp wIx (wVar 0) (wC (.int 1))) (wC (.int 3))) (wC (.int 2147483587))) (wC (.int 7))) (wC (.int 69621))) (wC (.int 1073741789))) (wVar 1)))))
theorem rd_ztake (ws : List W) (G : Gp) (Q : QW) (E) (h : sp_ztake ws G Q E) : t_ztake { nx := fun _ G' => Q .non G', rt := Cl Q } (startW ["_law_bag_here", "_law_many", "_law_digit"] ws) G := by
 obtain ⟨p, m, c, x, rfl, g, hc, hx, hx2, hm, q⟩ := h
 show t_ztake _ [some (.ref p), some (.int m), none] G
 rw [show G = gup G p (bagO c x) from (gup_self g).symm]
 unfold t_ztake
 k_upd
 split
 ·rename_i hp
  rw [fmodP (by omega), fdivP (by omega)]
  exact ⟨by omega, by omega, .inl (q _ _ _ (Int.emod_nonneg _ (by omega)) (Int.emod_lt_of_pos _ hm) (Int.ediv_nonneg hc (by omega)) hx hx2)⟩
 ·rw [fmodP (j := 2147483647), fmodP (j := 2147483587), fmodP (j := 1073741789), fmodP (by omega), fdivP]
  have b1 := Int.emod_nonneg (x * 48271 + 7919) (show (2147483647 : Int) ≠ 0 by decide)
  have b2 := Int.emod_lt_of_pos (x * 48271 + 7919) (show (0 : Int) < 2147483647 by decide)
  generalize (x * 48271 + 7919) % 2147483647 = y at b1 b2 ⊢
  have b3 := Int.emod_nonneg (y ^ (3 : Int).toNat) (show (2147483587 : Int) ≠ 0 by decide)
  have b4 := Int.emod_lt_of_pos (y ^ (3 : Int).toNat) (show (0 : Int) < 2147483587 by decide)
  generalize (y ^ (3 : Int).toNat) % 2147483587 = z at b3 b4 ⊢
  refine ⟨cm64 (by omega) (by omega), by decide, cp64 (by omega) (by omega), by decide, by decide, cm64 (by omega) (by omega), by decide, by omega, .inl (q _ _ _ (Int.emod_nonneg _ (by omega)) (Int.emod_lt_of_pos _ hm) hc b1 (by omega))⟩
noncomputable def t_zbag_b1 : TSw := (wAsg (wOp wMod (wOp wAdd (wOp wAdd (wOp wMul (wVar 3) (wC (.int 48271))) (wOp wMul (wOp wMod (wOp wIx (wVar 0) (wVar 4)) (wC (.int 2147483587))) (wOp wAdd (wVar 4) (wC (.int 3))))) (wVar 4)) (wC (.int 2147483629))) (gN 3))
noncomputable def t_zbag_r1 : TSw := (wRet (wLstM (wCons (wVar 2) (wCons (wVar 3) wNil))))
noncomputable def t_zbag_r2 : TSw := (wSeq (wIfS (wTest (wOp wLt (wVar 2) (wOp wPow (wC (.int 10)) (wC (.int 18))))) (wAsg (wC (.int 0)) (gN 2)) wNext)
  t_zbag_r1)
noncomputable def t_zbag_r3 : TSw := (wSeq (wAsg (wOp wMod (wOp wPow (wOp wAdd (wOp wAdd (wOp wMod (wVar 2) (wC (.int 2147483629))) (wOp wMul (wC (.int 104729)) (wVar 1))) (wC (.int 17))) (wC (.int 5))) (wC (.int 2147483647))) (gN 3))
  (wSeq (wFor [false, true, false, false, true] (iR1 (wCons (wCB (wI2N fun i j => .int (if j < i then j else i)) (wCons (wCB wLen (wCons (wVar 0) wNil)) (wCons (wC (.int 60)) wNil))) wNil)) (gN 4) t_zbag_b1)
  t_zbag_r2))
noncomputable def t_zbag : TSw := (wSeq (wAsg (wC (.int 0)) (gN 2))
  (wSeq (wIfS (wTest (wOp wLt (wVar 1) (wCB wLen (wCons (wVar 0) wNil)))) (wAsg (wCB (wI1N fun i => .int (if i < 0 then -i else i)) (wCons (wOp wIx (wVar 0) (wVar 1)) wNil)) (gN 2)) wNext)
  t_zbag_r3))
theorem rd_zbag (ws : List W) (G : Gp) (Q : QW) (E) (h : sp_zbag ws G Q E) : t_zbag { nx := fun _ G' => Q .non G', rt := Cl Q } (startW ["_law_script", "_law_at", "_law_cell", "_law_mix", "_law_k"] ws) G := by
 obtain ⟨ns, k, rfl, hl, hk0, hk1, q⟩ := h
 show t_zbag _ [some (.scr (ns.map W.int)), some (.int k), none, none, none] G
 have ll : ((ns.map W.int).length : Int) = ns.length := by rw [List.length_map]
 have rest2 : ∀ c x, 0 ≤ c → 0 ≤ x → x < 2147483648 → t_zbag_r2 { nx := fun _ G' => Q .non G', rt := Cl Q } [some (.scr (ns.map W.int)), none, some (.int c), some (.int x), none] G := by
  intro c x hc hx hx2
  unfold t_zbag_r2 t_zbag_r1
  k_upd
  refine ⟨cp64 (by omega) (by omega), ?_⟩
  split
  ·exact ⟨by decide, fun p hp => .inl (q p _ _ hp (Int.le_refl 0) hx hx2)⟩
  ·exact ⟨by decide, fun p hp => .inl (q p _ _ hp hc hx hx2)⟩
 have rest3 : ∀ c, 0 ≤ c → t_zbag_r3 { nx := fun _ G' => Q .non G', rt := Cl Q } [some (.scr (ns.map W.int)), some (.int k), some (.int c), none, none] G := by
  intro c hc
  unfold t_zbag_r3
  k_upd
  rw [fmodP (j := 2147483629), fmodP (j := 2147483647)]
  have b1 := Int.emod_nonneg c (show (2147483629 : Int) ≠ 0 by decide)
  have b2 := Int.emod_lt_of_pos c (show (0 : Int) < 2147483629 by decide)
  refine ⟨by decide, cm64 (by omega) (by omega), cp64 (by omega) (by omega), by decide, ?_, ?_, ?_⟩
  ·split <;> omega
  ·split <;> omega
  generalize (c % 2147483629 + 104729 * k + 17) ^ (5 : Int).toNat = y
  have b3 := Int.emod_nonneg y (show (2147483647 : Int) ≠ 0 by decide)
  have b4 := Int.emod_lt_of_pos y (show (0 : Int) < 2147483647 by decide)
  refine forW_inv (fun σ G1 => G1 = G ∧ ∃ x, 0 ≤ x ∧ x < 2147483648 ∧ σ = [some (.scr (ns.map W.int)), none, some (.int c), some (.int x), none]) _ _ _ ⟨rfl, _, b3, by omega, rfl⟩ ?_ ?_
  ·rintro w hw σ G1 N ⟨rfl, x, hx, hx2, rfl⟩ hN
   obtain ⟨i, hi, rfl⟩ := rangeW_mem hw
   have hi2 : i < ns.length ∧ i < 60 := by
    by_cases h6 : (60 : Int) < ns.length
    ·rw [if_pos h6] at hi; omega
    ·rw [if_neg h6] at hi; omega
   have ea : atI (ns.map W.int) (0 + (i : Int)) = some (.int ns[i]) := by
    rw [Int.zero_add]
    exact at_nat (by rw [List.getElem?_map, List.getElem?_eq_getElem hi2.1]; rfl)
   unfold t_zbag_b1
   k_upd
   rw [ea]
   k_upd
   rw [fmodP (j := 2147483587), fmodP (j := 2147483629)]
   have c1 := Int.emod_nonneg ns[i] (show (2147483587 : Int) ≠ 0 by decide)
   have c2 := Int.emod_lt_of_pos ns[i] (show (0 : Int) < 2147483587 by decide)
   generalize ns[i] % 2147483587 = z at c1 c2 ⊢
   refine ⟨cm64 (by omega) (by omega), by decide, cm64 (by omega) (by omega), by decide, hN _ _ ⟨rfl, _, Int.emod_nonneg _ (by decide), Int.lt_trans (Int.emod_lt_of_pos _ (by decide)) (by decide), rfl⟩⟩
  ·rintro σ G1 ⟨rfl, x, hx, hx2, rfl⟩
   exact rest2 c x hc hx hx2
 unfold t_zbag
 k_upd
 split
 ·rename_i hlt
  have hlt := of_decide_eq_true hlt
  obtain ⟨v, ev, mv⟩ := at_in (l := ns.map W.int) hk0 (by rw [ll]; exact hlt)
  obtain ⟨i, _, rfl⟩ := List.mem_map.mp mv
  rw [ev]
  k_upd
  exact rest3 _ (by split <;> omega)
 ·exact rest3 0 (Int.le_refl 0)
theorem len_ztake (ws G Q E) (h : sp_ztake ws G Q E) : ws.length = 2 := by obtain ⟨_, _, _, _, rfl, _⟩ := h; rfl
theorem len_zbag (ws G Q E) (h : sp_zbag ws G Q E) : ws.length = 2 := by obtain ⟨_, _, rfl, _⟩ := h; rfl
theorem len_law (ws G Q E) (h : sp_law ws G Q E) : ws.length = 1 := by obtain ⟨_, rfl, _⟩ := h; rfl
local macro_rules | `(tactic| k_upd) => `(tactic| walk_at "Wffff700e004006bd6bd6bd600000000000000efffffd7cffefc30000a10")
noncomputable abbrev fr (q : Rat) : W := .tup [.int q.num, .int (q.den : Int)]
theorem natAbs_fmod_lt (u : Int) {v : Int} (h : v ≠ 0) : (u.fmod v).natAbs < v.natAbs := by
 rw [Int.fmod_eq_emod]
 have h1 := Int.emod_nonneg u h
 have h2 : u % v < v.natAbs := Int.emod_lt u h
 by_cases c : 0 ≤ v ∨ v ∣ u
 ·rw [if_pos c]; omega
 ·rw [if_neg c]
  have h3 : u % v ≠ 0 := fun z => c (.inr (Int.dvd_of_emod_eq_zero z))
  omega
theorem gcd_fmod (u v : Int) : Int.gcd v (u.fmod v) = Int.gcd u v := by
 rw [Int.fmod_def, Int.gcd_sub_mul_left_right, Int.gcd_comm]
noncomputable def sp_common : Spw := fun ws G Q _ => ∃ a b, ws = [.int a, .int b] ∧ Q (.int (Int.gcd a b : Nat)) G
theorem len_common (ws G Q E) (h : sp_common ws G Q E) : ws.length = 2 := by obtain ⟨_, _, rfl, _⟩ := h; rfl
noncomputable def t_common_b1 : TSw := (wPar 0 1 (wCons (wVar 1) (wCons (wOp wMod (wVar 0) (wVar 1)) wNil)))
noncomputable def t_common_r1 : TSw := (wRet (wCB (wI1N fun i => .int (if i < 0 then -i else i)) (wCons (wVar 0) wNil)))
noncomputable def t_common : TSw := (wSeq (wWhile [false, false] (wTest (wOp wNe (wVar 1) (wC (.int 0)))) t_common_b1)
  t_common_r1)
theorem rd_common (ws : List W) (G : Gp) (Q : QW) (E) (h : sp_common ws G Q E) : t_common { nx := fun _ G' => Q .non G', rt := Cl Q } (startW ["one", "other"] ws) G := by
 obtain ⟨a, b, rfl, q⟩ := h
 show t_common _ [some (.int a), some (.int b)] G
 unfold t_common
 k_upd
 refine ⟨fun m σ G1 => G1 = G ∧ ∃ u v, Int.gcd u v = Int.gcd a b ∧ m = v.natAbs ∧ σ = [some (.int u), some (.int v)], ⟨_, rfl, a, b, rfl, rfl, rfl⟩, ?_⟩
 rintro m σ G1 ⟨rfl, u, v, e, rfl, rfl⟩
 k_upd
 by_cases hv : v = 0
 ·subst hv
  rw [if_neg (by simp)]
  unfold t_common_r1
  k_upd
  refine .inl ?_
  rw [Int.gcd_zero_right] at e
  rw [show (if u < 0 then -u else u) = ((Int.gcd a b : Nat) : Int) by rw [← e]; split <;> omega]
  exact q
 ·rw [if_pos (by simpa using hv)]
  unfold t_common_b1
  k_upd
  exact ⟨hv, _, natAbs_fmod_lt u hv, v, _, (gcd_fmod u v).trans e, rfl, rfl⟩
theorem fdiv_exact {a b : Int} (h : b ∣ a) : a.fdiv b = a / b := by rw [Int.fdiv_eq_ediv, if_pos (.inr h)]; omega
theorem divInt_parts {a b : Int} (hb : b ≠ 0) (p : Int) (hp : p = if b < 0 then -((Int.gcd a b : Nat) : Int) else ((Int.gcd a b : Nat) : Int)) :
  p ≠ 0 ∧ a.fdiv p = (Rat.divInt a b).num ∧ b.fdiv p = ((Rat.divInt a b).den : Int) := by
 have g0 : 0 < Int.gcd a b := Int.gcd_pos_of_ne_zero_right a hb
 have da : ((Int.gcd a b : Nat) : Int) ∣ a := Int.gcd_dvd_left a b
 have db : ((Int.gcd a b : Nat) : Int) ∣ b := Int.gcd_dvd_right a b
 have hn := Rat.num_divInt a b
 have hd := Rat.den_divInt a b
 rw [if_neg hb] at hd
 rw [hn, hd, Int.gcd_comm b a]
 by_cases c : b < 0
 ·rw [if_pos c] at hp
  subst hp
  refine ⟨by omega, ?_, ?_⟩
  ·rw [fdiv_exact (Int.neg_dvd.mpr da), Int.sign_eq_neg_one_of_neg c, Int.ediv_neg, show -1 * a = -a by omega, Int.neg_ediv_of_dvd da]
  ·rw [fdiv_exact (Int.neg_dvd.mpr db), Int.ediv_neg, Int.natCast_ediv, ← Int.neg_ediv_of_dvd db]
   rw [show ((b.natAbs : Nat) : Int) = -b by omega]
 ·rw [if_neg c] at hp
  subst hp
  refine ⟨by omega, ?_, ?_⟩
  ·rw [fdiv_exact da, Int.sign_eq_one_of_pos (by omega), Int.one_mul]
  ·rw [fdiv_exact db, Int.natCast_ediv, show ((b.natAbs : Nat) : Int) = b by omega]
noncomputable def sp_fraction : Spw := fun ws G Q _ => ∃ a b, ws = [.int a, .int b] ∧ b ≠ 0 ∧ Q (fr (Rat.divInt a b)) G
theorem len_fraction (ws G Q E) (h : sp_fraction ws G Q E) : ws.length = 2 := by obtain ⟨_, _, rfl, _⟩ := h; rfl
noncomputable def t_fraction_r1 : TSw := (wRet (wTup (wCons (wOp wFdiv (wVar 0) (wVar 2)) (wCons (wOp wFdiv (wVar 1) (wVar 2)) wNil))))
noncomputable def t_fraction : TSw := (wSeq (wIfS (wTest (wOp wEq (wVar 1) (wC (.int 0)))) wNever wNext)
  (wSeq (wAsg (wCall sp_common (wCons (wVar 0) (wCons (wVar 1) wNil))) (gN 2))
  (wSeq (wIfS (wTest (wOp wLt (wVar 1) (wC (.int 0)))) (wAsg (wNeg (wVar 2)) (gN 2)) wNext)
  t_fraction_r1)))
theorem rd_fraction (ws : List W) (G : Gp) (Q : QW) (E) (h : sp_fraction ws G Q E) : t_fraction { nx := fun _ G' => Q .non G', rt := Cl Q } (startW ["top", "bottom", "part"] ws) G := by
 obtain ⟨a, b, rfl, hb, q⟩ := h
 show t_fraction _ [some (.int a), some (.int b), none] G
 unfold t_fraction
 k_upd
 rw [if_neg (by simpa using hb)]
 refine ⟨a, b, rfl, ?_⟩
 k_upd
 have two : 2 ≤ sizeLine := by decide
 by_cases c : b < 0
 ·rw [if_pos (decide_eq_true c)]
  obtain ⟨h0, h1, h2⟩ := divInt_parts (a := a) hb _ (if_pos c).symm
  unfold t_fraction_r1
  k_upd
  rw [h1, h2]
  exact ⟨h0, h0, two, .inl q⟩
 ·rw [if_neg (by simp; omega)]
  obtain ⟨h0, h1, h2⟩ := divInt_parts (a := a) hb _ (if_neg c).symm
  unfold t_fraction_r1
  k_upd
  rw [h1, h2]
  exact ⟨h0, h0, two, .inl q⟩
noncomputable def sz (n : Nat) (q : Rat) : Prop := q.num.natAbs < 2 ^ n ∧ q.den < 2 ^ n
theorem sz_mono {n m : Nat} {q : Rat} (h : sz n q) (hm : n ≤ m) : sz m q :=
 ⟨Nat.lt_of_lt_of_le h.1 (Nat.pow_le_pow_right (by decide) hm), Nat.lt_of_lt_of_le h.2 (Nat.pow_le_pow_right (by decide) hm)⟩
theorem sz_pos {n : Nat} {q : Rat} (h : sz n q) : 0 < n := by
 have h1 := h.2
 have h2 := q.den_pos
 cases n with
 | zero => rw [Nat.pow_zero] at h1; omega
 | succ n => exact Nat.succ_pos n
theorem sz_divInt {a b : Int} {n : Nat} (hb : b ≠ 0) (ha : a.natAbs < 2 ^ n) (hb2 : b.natAbs < 2 ^ n) : sz n (Rat.divInt a b) := by
 obtain ⟨h0, h1, h2⟩ := divInt_parts (a := a) hb _ rfl
 have da : (if b < 0 then -((Int.gcd a b : Nat) : Int) else ((Int.gcd a b : Nat) : Int)) ∣ a := by
  split
  ·exact Int.neg_dvd.mpr (Int.gcd_dvd_left a b)
  ·exact Int.gcd_dvd_left a b
 have db : (if b < 0 then -((Int.gcd a b : Nat) : Int) else ((Int.gcd a b : Nat) : Int)) ∣ b := by
  split
  ·exact Int.neg_dvd.mpr (Int.gcd_dvd_right a b)
  ·exact Int.gcd_dvd_right a b
 rw [fdiv_exact da] at h1
 rw [fdiv_exact db] at h2
 have e1 := Int.natAbs_ediv_le_natAbs a (if b < 0 then -((Int.gcd a b : Nat) : Int) else ((Int.gcd a b : Nat) : Int))
 have e2 := Int.natAbs_ediv_le_natAbs b (if b < 0 then -((Int.gcd a b : Nat) : Int) else ((Int.gcd a b : Nat) : Int))
 rw [h1] at e1
 rw [h2] at e2
 exact ⟨by omega, by omega⟩
theorem natAbs_mul_lt {i j : Int} {a b : Nat} (ha : i.natAbs < 2 ^ a) (hb : j.natAbs < 2 ^ b) : (i * j).natAbs < 2 ^ (a + b) := by
 rw [Int.natAbs_mul, Nat.pow_add]
 exact Nat.mul_lt_mul'' ha hb
theorem sz_num {n : Nat} {q : Rat} (h : sz n q) : q.num.natAbs < 2 ^ n := h.1
theorem sz_den {n : Nat} {q : Rat} (h : sz n q) : (q.den : Int).natAbs < 2 ^ n := h.2
theorem add_divInt (u v : Rat) : u + v = Rat.divInt (u.num * v.den + v.num * u.den) (u.den * v.den) := by
 have hu : (u.den : Int) ≠ 0 := by have := u.den_pos; omega
 have hv : (v.den : Int) ≠ 0 := by have := v.den_pos; omega
 have e := Rat.divInt_add_divInt u.num v.num hu hv
 rw [Rat.num_divInt_den, Rat.num_divInt_den] at e
 exact e
theorem sub_divInt (u v : Rat) : u - v = Rat.divInt (u.num * v.den - v.num * u.den) (u.den * v.den) := by
 have hu : (u.den : Int) ≠ 0 := by have := u.den_pos; omega
 have hv : (v.den : Int) ≠ 0 := by have := v.den_pos; omega
 have e := Rat.divInt_sub_divInt u.num v.num hu hv
 rw [Rat.num_divInt_den, Rat.num_divInt_den] at e
 exact e
theorem mul_divInt (u v : Rat) : u * v = Rat.divInt (u.num * v.num) (u.den * v.den) := by
 have e := Rat.divInt_mul_divInt u.num v.num (d₁ := u.den) (d₂ := v.den)
 rw [Rat.num_divInt_den, Rat.num_divInt_den] at e
 exact e
theorem div_divInt (u v : Rat) : u / v = Rat.divInt (u.num * v.den) (u.den * v.num) := by
 have e := Rat.divInt_mul_divInt u.num v.den (d₁ := u.den) (d₂ := v.num)
 rw [← Rat.inv_divInt v.num v.den, Rat.num_divInt_den, Rat.num_divInt_den, ← Rat.div_def] at e
 exact e
theorem natAbs_sub_lt {i j : Int} {n : Nat} (ha : i.natAbs < 2 ^ n) (hb : j.natAbs < 2 ^ n) : (i - j).natAbs < 2 ^ (n + 1) := by
 rw [Nat.pow_succ]; omega
theorem pow_up {i : Int} {n m : Nat} (h : i.natAbs < 2 ^ n) (e : n ≤ m) : i.natAbs < 2 ^ m := Nat.lt_of_lt_of_le h (Nat.pow_le_pow_right (by decide) e)
theorem den_ne (u v : Rat) : (u.den : Int) * v.den ≠ 0 := Int.mul_ne_zero (by have := u.den_pos; omega) (by have := v.den_pos; omega)
theorem sz_sub {u v : Rat} {a b : Nat} (hu : sz a u) (hv : sz b v) : sz (a + b + 1) (u - v) := by
 rw [sub_divInt]
 refine sz_divInt (den_ne u v) (natAbs_sub_lt (natAbs_mul_lt (sz_num hu) (sz_den hv)) ?_) (pow_up (natAbs_mul_lt (sz_den hu) (sz_den hv)) (by omega))
 rw [Nat.add_comm a b]
 exact natAbs_mul_lt (sz_num hv) (sz_den hu)
theorem sz_mul {u v : Rat} {a b : Nat} (hu : sz a u) (hv : sz b v) : sz (a + b) (u * v) := by
 rw [mul_divInt]
 exact sz_divInt (den_ne u v) (natAbs_mul_lt (sz_num hu) (sz_num hv)) (natAbs_mul_lt (sz_den hu) (sz_den hv))
theorem num_ne {v : Rat} (h : v ≠ 0) : v.num ≠ 0 := fun e => h (Rat.num_eq_zero.mp e)
theorem sz_div {u v : Rat} {a b : Nat} (h : v ≠ 0) (hu : sz a u) (hv : sz b v) : sz (a + b) (u / v) := by
 rw [div_divInt]
 exact sz_divInt (Int.mul_ne_zero (by have := u.den_pos; omega) (num_ne h)) (natAbs_mul_lt (sz_num hu) (sz_den hv)) (natAbs_mul_lt (sz_den hu) (sz_num hv))
noncomputable def sz2 (u v : Rat) : Prop := ∃ a b, sz a u ∧ sz b v ∧ a + b ≤ 134000000
theorem sz2.m1 {u v : Rat} (h : sz2 u v) : CMulX u.num v.den := by obtain ⟨a, b, h1, h2, h3⟩ := h; exact cmX (sz_num h1) (sz_den h2) (sz_pos h1) (sz_pos h2) (by omega)
theorem sz2.m2 {u v : Rat} (h : sz2 u v) : CMulX v.num u.den := by obtain ⟨a, b, h1, h2, h3⟩ := h; exact cmX (sz_num h2) (sz_den h1) (sz_pos h2) (sz_pos h1) (by omega)
theorem sz2.m3 {u v : Rat} (h : sz2 u v) : CMulX u.den v.den := by obtain ⟨a, b, h1, h2, h3⟩ := h; exact cmX (sz_den h1) (sz_den h2) (sz_pos h1) (sz_pos h2) (by omega)
theorem sz2.m4 {u v : Rat} (h : sz2 u v) : CMulX u.num v.num := by obtain ⟨a, b, h1, h2, h3⟩ := h; exact cmX (sz_num h1) (sz_num h2) (sz_pos h1) (sz_pos h2) (by omega)
noncomputable def sp_plus : Spw := fun ws G Q _ => ∃ u v, ws = [fr u, fr v] ∧ sz2 u v ∧ Q (fr (u + v)) G
theorem len_plus (ws G Q E) (h : sp_plus ws G Q E) : ws.length = 2 := by obtain ⟨_, _, rfl, _⟩ := h; rfl
noncomputable def t_plus : TSw := (wRet (wCall sp_fraction (wCons (wOp wAdd (wOp wMul (wOp wIx (wVar 0) (wC (.int 0))) (wOp wIx (wVar 1) (wC (.int 1)))) (wOp wMul (wOp wIx (wVar 1) (wC (.int 0))) (wOp wIx (wVar 0) (wC (.int 1))))) (wCons (wOp wMul (wOp wIx (wVar 0) (wC (.int 1))) (wOp wIx (wVar 1) (wC (.int 1)))) wNil))))
theorem rd_plus (ws : List W) (G : Gp) (Q : QW) (E) (h : sp_plus ws G Q E) : t_plus { nx := fun _ G' => Q .non G', rt := Cl Q } (startW ["u", "v"] ws) G := by
 obtain ⟨u, v, rfl, s, q⟩ := h
 show t_plus _ [some (fr u), some (fr v)] G
 unfold t_plus
 k_upd
 exact ⟨s.m1, s.m2, s.m3, _, _, rfl, den_ne u v, .inl (by rw [← add_divInt]; exact q)⟩
noncomputable def sp_minus : Spw := fun ws G Q _ => ∃ u v, ws = [fr u, fr v] ∧ sz2 u v ∧ Q (fr (u - v)) G
theorem len_minus (ws G Q E) (h : sp_minus ws G Q E) : ws.length = 2 := by obtain ⟨_, _, rfl, _⟩ := h; rfl
noncomputable def t_minus : TSw := (wRet (wCall sp_fraction (wCons (wOp wSub (wOp wMul (wOp wIx (wVar 0) (wC (.int 0))) (wOp wIx (wVar 1) (wC (.int 1)))) (wOp wMul (wOp wIx (wVar 1) (wC (.int 0))) (wOp wIx (wVar 0) (wC (.int 1))))) (wCons (wOp wMul (wOp wIx (wVar 0) (wC (.int 1))) (wOp wIx (wVar 1) (wC (.int 1)))) wNil))))
theorem rd_minus (ws : List W) (G : Gp) (Q : QW) (E) (h : sp_minus ws G Q E) : t_minus { nx := fun _ G' => Q .non G', rt := Cl Q } (startW ["u", "v"] ws) G := by
 obtain ⟨u, v, rfl, s, q⟩ := h
 show t_minus _ [some (fr u), some (fr v)] G
 unfold t_minus
 k_upd
 exact ⟨s.m1, s.m2, s.m3, _, _, rfl, den_ne u v, .inl (by rw [← sub_divInt]; exact q)⟩
noncomputable def sp_times : Spw := fun ws G Q _ => ∃ u v, ws = [fr u, fr v] ∧ sz2 u v ∧ Q (fr (u * v)) G
theorem len_times (ws G Q E) (h : sp_times ws G Q E) : ws.length = 2 := by obtain ⟨_, _, rfl, _⟩ := h; rfl
noncomputable def t_times : TSw := (wRet (wCall sp_fraction (wCons (wOp wMul (wOp wIx (wVar 0) (wC (.int 0))) (wOp wIx (wVar 1) (wC (.int 0)))) (wCons (wOp wMul (wOp wIx (wVar 0) (wC (.int 1))) (wOp wIx (wVar 1) (wC (.int 1)))) wNil))))
theorem rd_times (ws : List W) (G : Gp) (Q : QW) (E) (h : sp_times ws G Q E) : t_times { nx := fun _ G' => Q .non G', rt := Cl Q } (startW ["u", "v"] ws) G := by
 obtain ⟨u, v, rfl, s, q⟩ := h
 show t_times _ [some (fr u), some (fr v)] G
 unfold t_times
 k_upd
 exact ⟨s.m4, s.m3, _, _, rfl, den_ne u v, .inl (by rw [← mul_divInt]; exact q)⟩
noncomputable def sp_is_less : Spw := fun ws G Q _ => ∃ u v : Rat, ws = [fr u, fr v] ∧ sz2 u v ∧ Q (.bl (decide (u < v))) G
theorem len_is_less (ws G Q E) (h : sp_is_less ws G Q E) : ws.length = 2 := by obtain ⟨_, _, rfl, _⟩ := h; rfl
noncomputable def t_is_less : TSw := (wRet (wOp wLt (wOp wMul (wOp wIx (wVar 0) (wC (.int 0))) (wOp wIx (wVar 1) (wC (.int 1)))) (wOp wMul (wOp wIx (wVar 1) (wC (.int 0))) (wOp wIx (wVar 0) (wC (.int 1))))))
theorem rd_is_less (ws : List W) (G : Gp) (Q : QW) (E) (h : sp_is_less ws G Q E) : t_is_less { nx := fun _ G' => Q .non G', rt := Cl Q } (startW ["u", "v"] ws) G := by
 obtain ⟨u, v, rfl, s, q⟩ := h
 show t_is_less _ [some (fr u), some (fr v)] G
 unfold t_is_less
 k_upd
 refine ⟨s.m1, s.m2, .inl ?_⟩
 rw [show decide (u.num * (v.den : Int) < v.num * (u.den : Int)) = decide (u < v) from decide_eq_decide.mpr (Rat.lt_iff u v).symm]
 exact q
noncomputable def wD (d : Nat) (w : W) : Prop := wpure w = true ∧ (wdat w).canLay0 = true ∧ (wdat w).depth ≤ d
theorem wD_int {i : Int} : wD 0 (.int i) := ⟨rfl, by simp [wdat, PyData.canLay0], by simp [wdat, PyData.depth]⟩
theorem wDs {d : Nat} : ∀ {ws : List W}, (∀ w ∈ ws, wD d w) → wpures ws = true ∧ PyData.canLayAll0 (wdats ws) = true ∧ PyData.depthAll (wdats ws) ≤ d
 | [], _ => ⟨rfl, by simp [wdats, PyData.canLayAll0], by simp [wdats, PyData.depthAll]⟩
 | w :: ws, h => by
  obtain ⟨a, b, c⟩ := h w (.head _)
  obtain ⟨a', b', c'⟩ := wDs (d := d) (ws := ws) fun v m => h v (.tail _ m)
  refine ⟨by simp [wpures, a, a'], by simp [wdats, PyData.canLayAll0, b, b'], ?_⟩
  simp only [wdats, PyData.depthAll]
  omega
theorem wD_lst {d : Nat} {ws : List W} (h : ∀ w ∈ ws, wD d w) : wD (d + 1) (.lst ws) := by
 obtain ⟨a, b, c⟩ := wDs h
 exact ⟨by simpa [wpure] using a, by simpa [wdat, PyData.canLay0] using b, by simpa [wdat, PyData.depth] using c⟩
theorem wOk_of {d : Nat} {w : W} (h : wD d w) (l : d ≤ 64) : wOk w := ⟨h.1, by unfold SeqAt.shaped; rw [h.2.1, Bool.true_and]; exact decide_eq_true (Nat.le_trans h.2.2 l)⟩
theorem weqb_self {d : Nat} {w : W} (h : wD d w) : weqb w w = true := SeqAt.eqv_refl _ h.2.1
theorem wNe_lref {p : Addr} {ws us : List W} {G : Gp} {Q : QW} (h : G p = some (.lst ws)) : wNe (.ref p) (.lst us) G Q = (wOk (.lst ws) ∧ wOk (.lst us) ∧ Q (.bl (!weqb (.lst ws) (.lst us))) G) := by
 have e : wder G (.ref p) = .lst ws := by show (match G p with | some (.lst ws) => W.lst ws | _ => .ref p) = .lst ws; rw [h]
 have f : wNe (.ref p) (.lst us) G Q = (wOk (wder G (.ref p)) ∧ wOk (wder G (.lst us)) ∧ Q (.bl (!weqb (wder G (.ref p)) (wder G (.lst us)))) G) := rfl
 rw [f, e]
 rfl
theorem gup_in {G : Gp} {p q : Addr} {a b r : GO} (h : p ≠ q) : gup (gup (gup G p a) q r) p b = gup (gup G p b) q r := by
 funext x
 unfold gup
 by_cases c : x = p
 ·subst c; rw [if_pos rfl, if_neg h, if_pos rfl]
 ·rw [if_neg c, if_neg c, if_neg c]
theorem gup_fresh {G : Gp} {p q : Addr} {a : GO} (h : gup G p a q = none) : q ≠ p ∧ G q = none := by
 unfold gup at h
 split at h
 ·cases h
 ·exact ⟨by assumption, h⟩
theorem cut_from {α : Type} (f : α → W) (xs : List α) {k : Nat} (h : k ≤ xs.length) : cutW (xs.map f) (some ((k : Nat) : Int)) none = (xs.drop k).map f := by
 unfold cutW
 rw [HT.sIx_nat, HT.sIx_none, List.length_map, Nat.min_eq_left h, List.map_drop]
 rw [List.take_of_length_le (by rw [List.length_drop, List.length_map]; omega)]
theorem cut_1 {α : Type} (f : α → W) (xs : List α) (h : 1 ≤ xs.length) : cutW (xs.map f) (some 1) none = (xs.drop 1).map f := cut_from f xs (k := 1) h
theorem cut_to {α : Type} (f : α → W) (xs : List α) {k : Nat} (h : k ≤ xs.length) : cutW (xs.map f) none (some ((k : Nat) : Int)) = (xs.take k).map f := by
 unfold cutW
 rw [HT.sIx_nat, HT.sIx_none, List.length_map, Nat.min_eq_left h, List.map_take, Nat.sub_zero, List.drop_zero]
theorem lcW_mapA {α : Type} {gw : TGw} {te : TEw} {σ : SW} {G : Gp} (g h : α → W) : ∀ (xs : List α) (acc : List W) (Q : List W → Gp → Prop),
  (∀ x ∈ xs, ∀ P : QW, P (h x) G → gw (g x) σ G fun σ1 G1 => te σ1 G1 P) → Q (acc ++ xs.map h) G → lcW gw wYes te σ (xs.map g) acc G Q
 | [], acc, Q, _, q => by simpa [lcW] using q
 | x :: xs, acc, Q, hh, q => by
  have h1 := hh x (.head _) (fun y G3 => lcW gw wYes te σ (xs.map g) (acc ++ [y]) G3 Q) (lcW_mapA g h xs (acc ++ [h x]) Q (fun w' hw => hh w' (.tail _ hw)) (by simpa using q))
  simpa only [List.map_cons, lcW, wYes, if_true] using h1
theorem lcW_m {α : Type} {gw : TGw} {te : TEw} {σ : SW} {G : Gp} (g h : α → W) (xs : List α) (Q : List W → Gp → Prop) (hs : ∀ x ∈ xs, ∀ P : QW, P (h x) G → gw (g x) σ G fun σ1 G1 => te σ1 G1 P) (hd : Q (xs.map h) G) : lcW gw wYes te σ (xs.map g) [] G Q :=
 lcW_mapA g h xs [] Q hs (by rw [List.nil_append]; exact hd)
theorem lcW_step {gw : TGw} {te : TEw} {σ : SW} (P : Nat → List W → Gp → Prop) : ∀ (items : List W) (k : Nat) (acc : List W) (G : Gp) (Q : List W → Gp → Prop), P k acc G →
  (∀ w ∈ items, ∀ k acc G (N : QW), P k acc G → (∀ y G', P (k + 1) (acc ++ [y]) G' → N y G') → gw w σ G fun σ1 G1 => te σ1 G1 N) → (∀ acc G, P (k + items.length) acc G → Q acc G) → lcW gw wYes te σ items acc G Q
 | [], k, acc, G, Q, p, _, q => by simpa [lcW] using q acc G p
 | w :: ws, k, acc, G, Q, p, hh, q => by
  have h1 := hh w (.head _) k acc G (fun y G3 => lcW gw wYes te σ ws (acc ++ [y]) G3 Q) p fun y G' p' => lcW_step P ws (k + 1) _ G' Q p' (fun w' m => hh w' (.tail _ m)) fun acc G p2 => q acc G (by rw [List.length_cons]; rw [show k + (ws.length + 1) = k + 1 + ws.length by omega]; exact p2)
  simpa only [lcW, wYes, if_true] using h1
noncomputable abbrev BagAt (p : Addr) (G : Gp) : Prop := ∃ c x, G p = some (bagO c x) ∧ 0 ≤ c ∧ 0 ≤ x ∧ x < 2147483648
theorem asL_at {G : Gp} {p : Addr} {ws : List W} (h : G p = some (.lst ws)) : asL G (.ref p) = some ws := by
 show (match G p with | some (.lst ws) => some ws | _ => none) = _
 rw [h]
theorem isG_at {G : Gp} {p : Addr} {ws : List W} {P : List W → Prop} (h : G p = some (.lst ws)) : isG (G p) P = P ws := by rw [h, isG_lst]
theorem BagAt.up {p q : Addr} {G : Gp} {o : GO} (h : BagAt p G) (ne : p ≠ q) : BagAt p (gup G q o) := by
 obtain ⟨c, x, g, r⟩ := h
 exact ⟨c, x, by rw [gup_ne ne]; exact g, r⟩
theorem BagAt.del {p q : Addr} {G : Gp} (h : BagAt p G) (ne : p ≠ q) : BagAt p (gdel G q) := by
 obtain ⟨c, x, g, r⟩ := h
 exact ⟨c, x, by rw [gdel_ne ne]; exact g, r⟩
theorem BagAt.ne {p q : Addr} {G : Gp} (h : BagAt p G) (n : G q = none) : p ≠ q := fun z => by
 obtain ⟨c, x, g, r⟩ := h
 rw [← z, g] at n; cases n
theorem lcW_filterA {α : Type} {gw : TGw} {tt : TTw} {te : TEw} {σ : SW} {G : Gp} (g h : α → W) (c : α → Bool) : ∀ (xs : List α) (acc : List W) (Q : List W → Gp → Prop),
  (∀ x ∈ xs, ∀ (R : QW) (P : Gp → Prop), (c x = true → R (h x) G) → (c x = false → P G) → gw (g x) σ G fun σ1 G1 => tt σ1 G1 fun b G2 => if b = true then te σ1 G2 R else P G2) → Q (acc ++ (xs.filter c).map h) G → lcW gw tt te σ (xs.map g) acc G Q
 | [], acc, Q, _, q => by simpa [lcW] using q
 | x :: xs, acc, Q, hh, q => by
  have h1 := hh x (.head _) (fun y G3 => lcW gw tt te σ (xs.map g) (acc ++ [y]) G3 Q) (fun G2 => lcW gw tt te σ (xs.map g) acc G2 Q)
   (fun e => lcW_filterA g h c xs (acc ++ [h x]) Q (fun w' hw => hh w' (.tail _ hw)) (by simpa [List.filter_cons, e] using q))
   (fun e => lcW_filterA g h c xs acc Q (fun w' hw => hh w' (.tail _ hw)) (by simpa [List.filter_cons, e] using q))
  simpa only [List.map_cons, lcW] using h1
noncomputable def Trash (G G1 : Gp) : Prop := ∃ ps : List Addr, (∀ p ∈ ps, G p = none) ∧ ∀ q, q ∉ ps → G1 q = G q
theorem Trash.refl {G : Gp} : Trash G G := ⟨[], fun _ h => (by cases h), fun _ _ => rfl⟩
theorem Trash.free {G G1 : Gp} {p : Addr} (t : Trash G G1) (h : G1 p = none) : G p = none := by
 obtain ⟨ps, a, b⟩ := t
 by_cases c : p ∈ ps
 ·exact a p c
 ·rw [← b p c]; exact h
theorem Trash.at {G G1 : Gp} {p : Addr} {o : GO} (t : Trash G G1) (h : G p = some o) : G1 p = some o := by
 obtain ⟨ps, a, b⟩ := t
 by_cases c : p ∈ ps
 ·rw [a p c] at h; cases h
 ·rw [b p c]; exact h
theorem Trash.trans {G G1 G2 : Gp} (t : Trash G G1) (u : Trash G1 G2) : Trash G G2 := by
 obtain ⟨ps, a, b⟩ := t
 have fr := fun p h => Trash.free ⟨ps, a, b⟩ (p := p) h
 obtain ⟨qs, c, d⟩ := u
 refine ⟨ps ++ qs, fun p hp => ?_, fun q hq => ?_⟩
 ·rcases List.mem_append.mp hp with hp | hp
  ·exact a p hp
  ·exact fr p (c p hp)
 ·rw [List.mem_append] at hq
  rw [d q (fun z => hq (.inr z)), b q (fun z => hq (.inl z))]
theorem Trash.new {G G1 : Gp} {p : Addr} (t : Trash G G1) (h : G1 p = none) (o : GO) : Trash G (gup G1 p o) :=
 t.trans ⟨[p], fun q hq => by rw [List.mem_singleton.mp hq]; exact h, fun q hq => gup_ne (by simpa using hq)⟩
theorem Trash.set {G G1 : Gp} {p : Addr} (t : Trash G G1) (h : G p ≠ none) (o : GO) : Trash (gup G p o) (gup G1 p o) := by
 obtain ⟨ps, a, b⟩ := t
 have np : p ∉ ps := fun z => h (a p z)
 refine ⟨ps, fun q hq => ?_, fun q hq => ?_⟩
 ·rw [gup_ne (fun z => np (by rw [← z]; exact hq))]; exact a q hq
 ·unfold gup
  by_cases c : q = p
  ·rw [if_pos c, if_pos c]
  ·rw [if_neg c, if_neg c]; exact b q hq
theorem Trash.del {G G1 : Gp} {p : Addr} (t : Trash G G1) (h : G p = none) : Trash G (gdel G1 p) := by
 obtain ⟨ps, a, b⟩ := t
 refine ⟨p :: ps, fun q hq => ?_, fun q hq => ?_⟩
 ·rcases List.mem_cons.mp hq with rfl | hq
  ·exact h
  ·exact a q hq
 ·rw [List.mem_cons] at hq
  rw [gdel_ne (fun z => hq (.inl z)), b q (fun z => hq (.inr z))]
theorem foldl_gdel {q : Addr} : ∀ (ps : List Addr) (G : Gp), ps.foldl gdel G q = if q ∈ ps then none else G q
 | [], G => by simp
 | p :: ps, G => by
  rw [List.foldl_cons, foldl_gdel ps]
  by_cases c : q ∈ ps
  ·simp [c]
  ·by_cases d : q = p
   ·simp [c, d, gdel_same]
   ·simp [c, d, gdel_ne d]
theorem Trash.drop {G G1 : Gp} (t : Trash G G1) : ∃ ps : List Addr, ps.foldl gdel G1 = G := by
 obtain ⟨ps, a, b⟩ := t
 refine ⟨ps, ?_⟩
 funext q
 rw [foldl_gdel]
 by_cases c : q ∈ ps
 ·rw [if_pos c, a q c]
 ·rw [if_neg c, b q c]
theorem Trash.cl {Q : QW} {w : W} {G G1 : Gp} (t : Trash G G1) (h : Q w G) : Cl Q w G1 := by
 obtain ⟨ps, e⟩ := t.drop
 exact .inr ⟨ps, .inl (by rw [e]; exact h)⟩
noncomputable def sm : Nat → (Nat → Rat) → Rat
 | 0, _ => 0
 | n + 1, f => sm n f + f n
theorem sm_succ (n : Nat) (f : Nat → Rat) : sm (n + 1) f = sm n f + f n := rfl
theorem sm_congr : ∀ {n : Nat} {f g : Nat → Rat}, (∀ c, c < n → f c = g c) → sm n f = sm n g
 | 0, _, _, _ => rfl
 | n + 1, f, g, h => by
  show sm n f + f n = sm n g + g n
  rw [sm_congr fun c hc => h c (by omega), h n (by omega)]
theorem sm_add : ∀ (n : Nat) (f g : Nat → Rat), sm n (fun c => f c + g c) = sm n f + sm n g
 | 0, _, _ => by show (0 : Rat) = 0 + 0; grind
 | n + 1, f, g => by
  show sm n _ + _ = (sm n f + f n) + (sm n g + g n)
  rw [sm_add n f g]
  grind
theorem sm_mul (k : Rat) : ∀ (n : Nat) (f : Nat → Rat), sm n (fun c => k * f c) = k * sm n f
 | 0, _ => by simp [sm]
 | n + 1, f => by
  show sm n _ + _ = k * (sm n f + f n)
  rw [sm_mul k n f]
  grind
theorem sm_zero : ∀ (n : Nat), sm n (fun _ => 0) = 0
 | 0 => rfl
 | n + 1 => by
  show sm n _ + 0 = 0
  rw [sm_zero n]
  grind
theorem sm_one {i : Nat} {f : Nat → Rat} : ∀ {n : Nat}, i < n → (∀ c, c < n → c ≠ i → f c = 0) → sm n f = f i
 | 0, h, _ => absurd h (by omega)
 | n + 1, h, z => by
  show sm n f + f n = f i
  by_cases c : i = n
  ·subst c
   rw [sm_congr (g := fun _ => 0) fun c hc => z c (by omega) (by omega), sm_zero]
   grind
  ·rw [sm_one (i := i) (by omega) fun c hc => z c (by omega), z n (by omega) (by omega)]
   grind
theorem sm_sub (n : Nat) (f g : Nat → Rat) (k : Rat) : sm n (fun c => f c - k * g c) = sm n f - k * sm n g := by
 rw [sm_congr (g := fun c => f c + (-k) * g c) fun c _ => by grind, sm_add, sm_mul]
 grind
noncomputable def Ker (n m : Nat) (M : Nat → Nat → Rat) (y : Nat → Rat) : Prop := ∀ i, i < n → sm m (fun c => M i c * y c) = 0
noncomputable def Uni (n p : Nat) (M : Nat → Nat → Rat) : Prop := ∀ i, i < n → ∀ c, c < p → M i c = if i = c then 1 else 0
noncomputable def stepF (p : Nat) (M : Nat → Nat → Rat) : Nat → Nat → Rat := fun i c => if i = p then M p c / M p p else M i c - M i p * (M p c / M p p)
noncomputable def swapN (p k i : Nat) : Nat := if i = p then k else if i = k then p else i
noncomputable def swapF (p k : Nat) (M : Nat → Nat → Rat) : Nat → Nat → Rat := fun i c => M (swapN p k i) c
theorem swapN_lt {n p k i : Nat} (hp : p < n) (hk : k < n) (hi : i < n) : swapN p k i < n := by unfold swapN; split <;> (try split) <;> omega
theorem swapN_swapN {p k i : Nat} : swapN p k (swapN p k i) = i := by unfold swapN; grind
theorem ker_swap {n m p k : Nat} {M : Nat → Nat → Rat} {y : Nat → Rat} (hp : p < n) (hk : k < n) : Ker n m (swapF p k M) y ↔ Ker n m M y := by
 constructor
 ·intro h i hi
  have := h (swapN p k i) (swapN_lt hp hk hi)
  unfold swapF at this
  rw [swapN_swapN] at this
  exact this
 ·intro h i hi
  exact h _ (swapN_lt hp hk hi)
theorem ker_step {n m p : Nat} {M : Nat → Nat → Rat} {y : Nat → Rat} (hp : p < n) (hz : M p p ≠ 0) : Ker n m (stepF p M) y ↔ Ker n m M y := by
 have lead : sm m (fun c => stepF p M p c * y c) = sm m (fun c => M p c * y c) / M p p := by
  rw [sm_congr (g := fun c => (1 / M p p) * (M p c * y c)) fun c _ => by unfold stepF; rw [if_pos rfl]; grind, sm_mul]
  grind
 have rest : ∀ i, i ≠ p → sm m (fun c => stepF p M i c * y c) = sm m (fun c => M i c * y c) - M i p * (sm m (fun c => M p c * y c) / M p p) := fun i hi => by
  rw [← lead, ← sm_sub]
  refine sm_congr fun c _ => ?_
  unfold stepF
  rw [if_neg hi, if_pos rfl]
  grind
 constructor
 ·intro h
  have h0 : sm m (fun c => M p c * y c) = 0 := by
   have := h p hp
   rw [lead] at this
   grind
  intro i hi
  by_cases c : i = p
  ·rw [c]; exact h0
  ·have := h i hi
   rw [rest i c, h0] at this
   grind
 ·intro h i hi
  by_cases c : i = p
  ·rw [c, lead, h p hp]; grind
  ·rw [rest i c, h p hp, h i hi]; grind
theorem uni_swap {n p k : Nat} {M : Nat → Nat → Rat} (h : Uni n p M) (hp : p < n) (hk : k < n) (hpk : p ≤ k) : Uni n p (swapF p k M) := by
 intro i hi c hc
 unfold swapF
 rw [h _ (swapN_lt hp hk hi) c hc]
 unfold swapN
 grind
theorem uni_step {n p : Nat} {M : Nat → Nat → Rat} (h : Uni n p M) (hp : p < n) (hz : M p p ≠ 0) : Uni n (p + 1) (stepF p M) := by
 intro i hi c hc
 unfold stepF
 by_cases e : c = p
 ·subst e
  by_cases d : i = c
  ·subst d; rw [if_pos rfl, if_pos rfl]; grind
  ·rw [if_neg d, if_neg d]; grind
 ·have h1 := h p hp c (by omega)
  have h2 := h i hi c (by omega)
  rw [if_neg (by omega)] at h1
  by_cases d : i = p
  ·subst d; rw [if_pos rfl, if_neg (by omega), h1]; grind
  ·rw [if_neg d, h1, h2]; grind
theorem uni_stop {n p : Nat} {M : Nat → Nat → Rat} (h : Uni n p M) (hp : p < n) (z : ∀ i, p ≤ i → i < n → M i p = 0) : ∃ y : Nat → Rat, Ker n (n + 1) M y ∧ y n = 0 ∧ y p = 1 := by
 refine ⟨fun c => if c < p then -M c p else if c = p then 1 else 0, fun i hi => ?_, ?_, ?_⟩
 ·have a : ∀ m, m ≤ p → sm m (fun c => M i c * (if c < p then -M c p else if c = p then 1 else 0)) = if i < m then -M i p else 0 := by
   intro m
   induction m with
   | zero => intro _; rfl
   | succ m ih =>
    intro hm
    rw [sm_succ, ih (by omega)]
    rw [h i hi m (by omega), if_pos (show m < p by omega)]
    by_cases e : i = m
    ·subst e; rw [if_neg (by omega), if_pos rfl, if_pos (by omega)]; grind
    ·rw [if_neg e]
     by_cases f : i < m
     ·rw [if_pos f, if_pos (by omega)]; grind
     ·rw [if_neg f, if_neg (by omega)]; grind
  have b : ∀ d, sm (p + 1 + d) (fun c => M i c * (if c < p then -M c p else if c = p then 1 else 0)) = 0 := by
   intro d
   induction d with
   | zero =>
    rw [show p + 1 + 0 = p + 1 from rfl, sm_succ, a p (Nat.le_refl p)]
    rw [if_neg (show ¬ p < p by omega), if_pos rfl]
    by_cases e : i < p
    ·rw [if_pos e]; grind
    ·rw [if_neg e, z i (by omega) hi]; grind
   | succ d ih =>
    rw [show p + 1 + (d + 1) = (p + 1 + d) + 1 from rfl, sm_succ, ih]
    rw [if_neg (show ¬ p + 1 + d < p by omega), if_neg (show ¬ p + 1 + d = p by omega)]
    grind
  have := b (n - p)
  rw [show p + 1 + (n - p) = n + 1 by omega] at this
  exact this
 ·show (if n < p then _ else _) = _
  rw [if_neg (by omega), if_neg (by omega)]
 ·show (if p < p then _ else _) = _
  rw [if_neg (by omega), if_pos rfl]
noncomputable def Dep (n : Nat) (M : Nat → Nat → Rat) : Prop := ∃ v : Nat → Rat, (∃ i, i < n ∧ v i ≠ 0) ∧ ∀ c, c < n → sm n (fun i => v i * M i c) = 0
theorem sm_setone {n p : Nat} {f : Nat → Rat} {a : Rat} (hp : p < n) : sm n (fun i => if i = p then a else f i) = sm n f + (a - f p) := by
 have e : sm n (fun i => if i = p then a - f p else 0) = a - f p := by
  rw [sm_one (i := p) hp fun c hc ne => by rw [if_neg ne], if_pos rfl]
 rw [← e, ← sm_add]
 refine sm_congr fun c _ => ?_
 by_cases d : c = p
 ·subst d; rw [if_pos rfl, if_pos rfl]; grind
 ·rw [if_neg d, if_neg d]; grind
theorem sm_swap {n p k : Nat} (hp : p < n) (hk : k < n) (f : Nat → Rat) : sm n (fun i => f (swapN p k i)) = sm n f := by
 by_cases c : p = k
 ·subst c
  refine sm_congr fun i _ => ?_
  unfold swapN
  by_cases d : i = p
  ·subst d; rw [if_pos rfl]
  ·rw [if_neg d, if_neg d]
 ·have h1 : ∀ i, f (swapN p k i) = if i = k then f p else (if i = p then f k else f i) := fun i => by
   unfold swapN
   by_cases d : i = p
   ·subst d; rw [if_pos rfl, if_neg c, if_pos rfl]
   ·rw [if_neg d, if_neg d]; split <;> rfl
  rw [sm_congr fun i _ => h1 i, sm_setone hk, sm_setone hp, if_neg (Ne.symm c)]
  grind
theorem dep_swap {n p k : Nat} {M : Nat → Nat → Rat} (hp : p < n) (hk : k < n) (h : Dep n M) : Dep n (swapF p k M) := by
 obtain ⟨v, ⟨i, hi, vi⟩, z⟩ := h
 refine ⟨fun i => v (swapN p k i), ⟨swapN p k i, swapN_lt hp hk hi, by show v (swapN p k (swapN p k i)) ≠ 0; rw [swapN_swapN]; exact vi⟩, fun c hc => ?_⟩
 exact (sm_swap hp hk (fun i => v i * M i c)).trans (z c hc)
theorem dep_step {n p : Nat} {M : Nat → Nat → Rat} (hp : p < n) (hz : M p p ≠ 0) (h : Dep n M) : Dep n (stepF p M) := by
 obtain ⟨v, ⟨i, hi, vi⟩, z⟩ := h
 have zp := z p hp
 refine ⟨fun i => if i = p then sm n (fun i => v i * M i p) + v p * M p p - v p * M p p else v i, ?_, fun c hc => ?_⟩
 all_goals skip
 ·by_cases d : ∃ j, j < n ∧ j ≠ p ∧ v j ≠ 0
  ·obtain ⟨j, hj, jp, vj⟩ := d
   exact ⟨j, hj, by show (if j = p then _ else _) ≠ _; rw [if_neg jp]; exact vj⟩
  ·exfalso
   have allz : ∀ j, j < n → j ≠ p → v j = 0 := fun j hj jp => Classical.byContradiction fun h => d ⟨j, hj, jp, h⟩
   have ip : i = p := Classical.byContradiction fun h => vi (allz i hi h)
   rw [sm_one (f := fun i => v i * M i p) hp fun c hc ne => by rw [allz c hc ne]; grind] at zp
   have : v p = 0 := by grind
   exact vi (by rw [ip]; exact this)
 ·have e1 : ∀ i, (if i = p then sm n (fun i => v i * M i p) + v p * M p p - v p * M p p else v i) * stepF p M i c = if i = p then (sm n (fun i => v i * M i p)) * (M p c / M p p) else v i * M i c - (M p c / M p p) * (v i * M i p) := fun i => by
   unfold stepF
   by_cases d : i = p
   ·rw [if_pos d, if_pos d, if_pos d]; grind
   ·rw [if_neg d, if_neg d, if_neg d]; grind
  rw [sm_congr fun i _ => e1 i, sm_setone (f := fun i => v i * M i c - (M p c / M p p) * (v i * M i p)) hp, sm_sub, z c hc, zp]
  grind
noncomputable def lsum {α : Type} (f : α → Rat) : List α → Rat
 | [] => 0
 | x :: xs => f x + lsum f xs
noncomputable def ent (R : List (List Rat)) (i c : Nat) : Rat := (R.getD i []).getD c 0
noncomputable def Tall (R : List (List Rat)) (m : Nat) : Prop := ∀ r ∈ R, r.length = m
theorem Tall.at {R : List (List Rat)} {m k : Nat} (h : Tall R m) (hk : k < R.length) : R[k].length = m := h _ (List.getElem_mem hk)
theorem atI_map {α : Type} (f : α → W) (xs : List α) {k : Nat} (h : k < xs.length) : L2.atI (xs.map f) ((k : Nat) : Int) = some (f xs[k]) := by
 unfold L2.atI
 simp [L2.ixN, h]
noncomputable def lessL (r : List Rat) (a : Rat) (l : List Rat) : List Rat := (r.zip l).map fun x => x.1 - a * x.2
noncomputable def leadL (R : List (List Rat)) (p : Nat) : List Rat := (R.getD p []).map fun u => u / ent R p p
noncomputable def swapL (R : List (List Rat)) (p k : Nat) : List (List Rat) := (R.set p (R.getD k [])).set k (R.getD p [])
noncomputable def stepL (R : List (List Rat)) (p : Nat) : List (List Rat) := (R.map fun r => lessL r (r.getD p 0) (leadL R p)).set p (leadL R p)
noncomputable def AllSz (b : Nat) (R : List (List Rat)) : Prop := ∀ r ∈ R, ∀ q ∈ r, sz b q
noncomputable def bd (b : Nat) : Nat → Nat
 | 0 => b
 | k + 1 => 4 * bd b k + 1
theorem bd_mono {b : Nat} : ∀ {k n : Nat}, k ≤ n → bd b k ≤ bd b n
 | k, 0, h => by rw [Nat.le_zero.mp h]; exact Nat.le_refl _
 | k, n + 1, h => by
  by_cases c : k = n + 1
  ·rw [c]; exact Nat.le_refl _
  ·have := bd_mono (b := b) (show k ≤ n by omega)
   show _ ≤ 4 * bd b n + 1
   omega
theorem getD_mem {R : List (List Rat)} {k : Nat} (h : k < R.length) : R.getD k [] ∈ R := by
 rw [List.getD_eq_getElem?_getD, List.getElem?_eq_getElem h]
 exact List.getElem_mem h
theorem lessL_len {r l : List Rat} {a : Rat} (h : r.length = l.length) : (lessL r a l).length = r.length := by
 unfold lessL
 rw [List.length_map, List.length_zip]
 omega
theorem swapL_len {R : List (List Rat)} {p k : Nat} : (swapL R p k).length = R.length := by unfold swapL; rw [List.length_set, List.length_set]
theorem stepL_len {R : List (List Rat)} {p : Nat} : (stepL R p).length = R.length := by unfold stepL; rw [List.length_set, List.length_map]
theorem tall_set {R : List (List Rat)} {m p : Nat} {r : List Rat} (h : Tall R m) (e : r.length = m) : Tall (R.set p r) m := fun z hz => by
 rcases List.mem_or_eq_of_mem_set hz with hz | hz
 ·exact h z hz
 ·rw [hz]; exact e
theorem all_set {b : Nat} {R : List (List Rat)} {p : Nat} {r : List Rat} (h : AllSz b R) (e : ∀ q ∈ r, sz b q) : AllSz b (R.set p r) := fun z hz => by
 rcases List.mem_or_eq_of_mem_set hz with hz | hz
 ·exact h z hz
 ·rw [hz]; exact e
theorem swapL_tall {R : List (List Rat)} {m p k : Nat} (h : Tall R m) (hp : p < R.length) (hk : k < R.length) : Tall (swapL R p k) m := tall_set (tall_set h (h _ (getD_mem hk))) (h _ (getD_mem hp))
theorem swapL_all {R : List (List Rat)} {b p k : Nat} (h : AllSz b R) (hp : p < R.length) (hk : k < R.length) : AllSz b (swapL R p k) := all_set (all_set h (h _ (getD_mem hk))) (h _ (getD_mem hp))
theorem leadL_len {R : List (List Rat)} {m p : Nat} (h : Tall R m) (hp : p < R.length) : (leadL R p).length = m := by unfold leadL; rw [List.length_map]; exact h _ (getD_mem hp)
theorem stepL_tall {R : List (List Rat)} {m p : Nat} (h : Tall R m) (hp : p < R.length) : Tall (stepL R p) m := by
 refine tall_set (fun z hz => ?_) (leadL_len h hp)
 obtain ⟨r, hr, rfl⟩ := List.mem_map.mp hz
 rw [lessL_len (by rw [h r hr, leadL_len h hp])]
 exact h r hr
theorem getD_sz {b : Nat} {r : List Rat} {c : Nat} (h : ∀ q ∈ r, sz b q) (hc : c < r.length) : sz b (r.getD c 0) := by
 rw [List.getD_eq_getElem?_getD, List.getElem?_eq_getElem hc]
 exact h _ (List.getElem_mem hc)
theorem ent_sz {b m : Nat} {R : List (List Rat)} {i c : Nat} (h : AllSz b R) (ht : Tall R m) (hi : i < R.length) (hc : c < m) : sz b (ent R i c) := getD_sz (h _ (getD_mem hi)) (by rw [ht _ (getD_mem hi)]; exact hc)
theorem lead_sz {b m : Nat} {R : List (List Rat)} {p : Nat} (h : AllSz b R) (ht : Tall R m) (hp : p < R.length) (hm : p < m) (hz : ent R p p ≠ 0) : ∀ q ∈ leadL R p, sz (b + b) q := fun q hq => by
 obtain ⟨u, hu, rfl⟩ := List.mem_map.mp hq
 exact sz_div hz (h _ (getD_mem hp) u hu) (ent_sz h ht hp hm)
theorem stepL_all {b m : Nat} {R : List (List Rat)} {p : Nat} (h : AllSz b R) (ht : Tall R m) (hp : p < R.length) (hm : p < m) (hz : ent R p p ≠ 0) : AllSz (4 * b + 1) (stepL R p) := by
 have hl := lead_sz h ht hp hm hz
 refine all_set (fun z hz => ?_) fun q hq => sz_mono (hl q hq) (by omega)
 obtain ⟨r, hr, rfl⟩ := List.mem_map.mp hz
 intro q hq
 obtain ⟨⟨u, v⟩, hx, rfl⟩ := List.mem_map.mp hq
 obtain ⟨hu, hv⟩ := List.of_mem_zip hx
 exact sz_mono (sz_sub (h r hr u hu) (sz_mul (getD_sz (h r hr) (by rw [ht r hr]; exact hm)) (hl v hv))) (by omega)
theorem ent_set {R : List (List Rat)} {p i c : Nat} {r : List Rat} (hp : p < R.length) : ent (R.set p r) i c = if i = p then r.getD c 0 else ent R i c := by
 unfold ent
 by_cases d : i = p
 ·subst d
  rw [if_pos rfl, show (R.set i r).getD i [] = r by rw [List.getD_eq_getElem?_getD, List.getElem?_set_self hp, Option.getD_some]]
 ·rw [if_neg d, show (R.set p r).getD i [] = R.getD i [] by rw [List.getD_eq_getElem?_getD, List.getElem?_set_ne (Ne.symm d), ← List.getD_eq_getElem?_getD]]
theorem ent_swap {R : List (List Rat)} {p k i c : Nat} (hp : p < R.length) (hk : k < R.length) : ent (swapL R p k) i c = swapF p k (ent R) i c := by
 unfold swapL swapF swapN
 rw [ent_set (by rw [List.length_set]; exact hk), ent_set hp]
 show (if i = k then ent R p c else if i = p then ent R k c else ent R i c) = _
 grind
theorem getD_div {r : List Rat} {a : Rat} {c : Nat} (hc : c < r.length) : (r.map fun u => u / a).getD c 0 = r.getD c 0 / a := by
 simp [List.getD_eq_getElem?_getD, hc]
theorem getD_less {r l : List Rat} {a : Rat} {c : Nat} (hc : c < r.length) (hl : c < l.length) : (lessL r a l).getD c 0 = r.getD c 0 - a * l.getD c 0 := by
 unfold lessL
 have hz : c < (r.zip l).length := by rw [List.length_zip]; omega
 simp [List.getD_eq_getElem?_getD, hc, hl, List.getElem?_eq_getElem hz]
theorem ent_step {R : List (List Rat)} {m p i c : Nat} (ht : Tall R m) (hp : p < R.length) (hi : i < R.length) (hc : c < m) : ent (stepL R p) i c = stepF p (ent R) i c := by
 have hl : (leadL R p).getD c 0 = ent R p c / ent R p p := getD_div (by rw [ht _ (getD_mem hp)]; exact hc)
 unfold stepL
 rw [ent_set (by rw [List.length_map]; exact hp), hl]
 unfold stepF
 by_cases d : i = p
 ·rw [if_pos d, if_pos d]
 ·rw [if_neg d, if_neg d]
  have e : ent (R.map fun r => lessL r (r.getD p 0) (leadL R p)) i c = (lessL (R.getD i []) ((R.getD i []).getD p 0) (leadL R p)).getD c 0 := by
   show (List.getD (R.map fun r => lessL r (r.getD p 0) (leadL R p)) i []).getD c 0 = _
   simp [List.getD_eq_getElem?_getD, hi]
  rw [e, getD_less (by rw [ht _ (getD_mem hi)]; exact hc) (by rw [leadL_len ht hp]; exact hc), hl]
  rfl
theorem ker_congr {n m : Nat} {M M' : Nat → Nat → Rat} {y : Nat → Rat} (h : ∀ i c, i < n → c < m → M i c = M' i c) : Ker n m M y ↔ Ker n m M' y := by
 constructor <;> intro k i hi
 ·rw [← k i hi]; exact sm_congr fun c hc => by rw [h i c hi hc]
 ·rw [← k i hi]; exact sm_congr fun c hc => by rw [h i c hi hc]
theorem uni_congr {n p m : Nat} {M M' : Nat → Nat → Rat} (hm : p ≤ m) (h : ∀ i c, i < n → c < m → M i c = M' i c) (u : Uni n p M') : Uni n p M := fun i hi c hc => by rw [h i c hi (by omega)]; exact u i hi c hc
theorem dep_congr {n m : Nat} {M M' : Nat → Nat → Rat} (hm : n ≤ m) (h : ∀ i c, i < n → c < m → M i c = M' i c) (d : Dep n M') : Dep n M := by
 obtain ⟨v, e, z⟩ := d
 exact ⟨v, e, fun c hc => by rw [← z c hc]; exact sm_congr fun i hi => by rw [h i c hi (by omega)]⟩
structure Keeps (n b : Nat) (R0 R : List (List Rat)) (p : Nat) : Prop where
 len : R.length = n
 tall : Tall R (n + 1)
 uni : Uni n p (ent R)
 ker : ∀ y, Ker n (n + 1) (ent R) y ↔ Ker n (n + 1) (ent R0) y
 dep : Dep n (ent R0) → Dep n (ent R)
 all : AllSz (bd b p) R
theorem Keeps.step {n b p k : Nat} {R0 R : List (List Rat)} (h : Keeps n b R0 R p) (hp : p < n) (hk : k < n) (hpk : p ≤ k) (hz : ent R k p ≠ 0) : ent (swapL R p k) p p ≠ 0 ∧ Keeps n b R0 (stepL (swapL R p k) p) (p + 1) := by
 have pl : p < R.length := by rw [h.len]; exact hp
 have kl : k < R.length := by rw [h.len]; exact hk
 have es : ∀ i c, i < n → c < n + 1 → ent (swapL R p k) i c = swapF p k (ent R) i c := fun i c _ _ => ent_swap pl kl
 have nz : ent (swapL R p k) p p ≠ 0 := by
  rw [ent_swap pl kl]
  unfold swapF swapN
  rw [if_pos rfl]
  exact hz
 have pl2 : p < (swapL R p k).length := by rw [swapL_len]; exact pl
 have t2 := swapL_tall h.tall pl kl
 have e2 : ∀ i c, i < n → c < n + 1 → ent (stepL (swapL R p k) p) i c = stepF p (ent (swapL R p k)) i c := fun i c hi hc => ent_step t2 pl2 (by rw [swapL_len, h.len]; exact hi) hc
 refine ⟨nz, by rw [stepL_len, swapL_len, h.len], stepL_tall t2 pl2, ?_, fun y => ?_, fun d => ?_, ?_⟩
 ·exact uni_congr (by omega) e2 (uni_step (uni_congr (by omega) es (uni_swap h.uni hp hk hpk)) hp nz)
 ·rw [ker_congr e2, ker_step hp nz, ker_congr es, ker_swap hp hk]
  exact h.ker y
 ·exact dep_congr (by omega) e2 (dep_step hp nz (dep_congr (by omega) es (dep_swap hp hk (h.dep d))))
 ·exact stepL_all (swapL_all h.all pl kl) t2 pl2 (by omega) nz
noncomputable def Nonsing (n : Nat) (M : Nat → Nat → Rat) : Prop := ∀ y : Nat → Rat, (∀ i, i < n → sm n (fun c => M i c * y c) = 0) → ∀ c, c < n → y c = 0
noncomputable def augL (T : List (List Rat)) (bs : List Rat) : List (List Rat) := (T.zip bs).map fun x => x.1 ++ [x.2]
structure Table (n b : Nat) (T : List (List Rat)) (bs : List Rat) : Prop where
 len : T.length = n
 lenb : bs.length = n
 tall : Tall T n
 few : n ≤ 900
 all : AllSz b T
 allb : ∀ q ∈ bs, sz b q
 small : bd b n ≤ 30000000
theorem aug_len {n b : Nat} {T : List (List Rat)} {bs : List Rat} (h : Table n b T bs) : (augL T bs).length = n := by
 unfold augL
 rw [List.length_map, List.length_zip, h.len, h.lenb]
 omega
theorem aug_ent {n b : Nat} {T : List (List Rat)} {bs : List Rat} (h : Table n b T bs) {i c : Nat} (hi : i < n) : ent (augL T bs) i c = if c < n then ent T i c else if c = n then bs.getD i 0 else 0 := by
 have h1 : i < T.length := by rw [h.len]; exact hi
 have h2 : i < bs.length := by rw [h.lenb]; exact hi
 have h3 : i < (T.zip bs).length := by rw [List.length_zip]; omega
 have h4 : T[i].length = n := h.tall.at h1
 have e : (augL T bs).getD i [] = T[i] ++ [bs[i]] := by
  unfold augL
  simp [List.getD_eq_getElem?_getD, List.getElem?_eq_getElem h3]
 unfold ent
 rw [e, show T.getD i [] = T[i] by simp [List.getD_eq_getElem?_getD, h1], show bs.getD i 0 = bs[i] by simp [List.getD_eq_getElem?_getD, h2]]
 by_cases d : c < n
 ·rw [if_pos d]
  simp [List.getD_eq_getElem?_getD, List.getElem?_append_left (show c < T[i].length by omega)]
 ·rw [if_neg d]
  by_cases f : c = n
  ·rw [if_pos f]
   simp [List.getD_eq_getElem?_getD, List.getElem?_append_right (show T[i].length ≤ c by omega), show c - T[i].length = 0 by omega]
  ·rw [if_neg f]
   simp [List.getD_eq_getElem?_getD, List.getElem?_append_right (show T[i].length ≤ c by omega), List.getElem?_eq_none (show [bs[i]].length ≤ c - T[i].length by rw [List.length_singleton]; omega)]
theorem aug_keeps {n b : Nat} {T : List (List Rat)} {bs : List Rat} (h : Table n b T bs) : Keeps n b (augL T bs) (augL T bs) 0 := by
 refine ⟨aug_len h, fun r hr => ?_, fun i hi c hc => absurd hc (by omega), fun y => Iff.rfl, id, fun r hr => ?_⟩
 all_goals
  obtain ⟨⟨u, v⟩, hx, rfl⟩ := List.mem_map.mp hr
  obtain ⟨hu, hv⟩ := List.of_mem_zip hx
 ·show (u ++ [v]).length = n + 1
  rw [List.length_append, h.tall u hu, List.length_singleton]
 ·intro q hq
  rcases List.mem_append.mp hq with hq | hq
  ·exact h.all u hu q hq
  ·rw [List.mem_singleton] at hq
   rw [hq]
   exact h.allb v hv
theorem aug_ker0 {n b : Nat} {T : List (List Rat)} {bs : List Rat} (h : Table n b T bs) {y : Nat → Rat} (z : y n = 0) (k : Ker n (n + 1) (ent (augL T bs)) y) : ∀ i, i < n → sm n (fun c => ent T i c * y c) = 0 := fun i hi => by
 have e := k i hi
 rw [sm_succ, z] at e
 have e2 : sm n (fun c => ent (augL T bs) i c * y c) = sm n (fun c => ent T i c * y c) := sm_congr fun c hc => by rw [aug_ent h hi, if_pos hc]
 rw [e2] at e
 grind
theorem keeps_sol {n b : Nat} {T R : List (List Rat)} {bs : List Rat} (h : Table n b T bs) (k : Keeps n b (augL T bs) R n) {i : Nat} (hi : i < n) : sm n (fun c => ent T i c * (R.map (fun r => r.getD n 0)).getD c 0) = bs.getD i 0 := by
 have ev : ∀ c, c < n → (R.map (fun r => r.getD n 0)).getD c 0 = ent R c n := fun c hc => by
  have : c < R.length := by rw [k.len]; exact hc
  unfold ent
  simp [List.getD_eq_getElem?_getD, this]
 have kr : Ker n (n + 1) (ent R) (fun c => if c < n then ent R c n else -1) := fun j hj => by
  rw [sm_succ]
  show _ + _ * (if n < n then ent R n n else -1) = _
  rw [if_neg (show ¬ n < n by omega), sm_one (i := j) hj (fun c hc ne => by rw [k.uni j hj c hc, if_neg (Ne.symm ne)]; grind), k.uni j hj j hj, if_pos rfl]
  show 1 * (if j < n then ent R j n else -1) + _ = _
  rw [if_pos hj]
  grind
 have e := (k.ker _).mp kr i hi
 rw [sm_succ, aug_ent h hi, if_neg (show ¬ n < n by omega), if_pos rfl] at e
 have e1 : (if n < n then ent R n n else (-1 : Rat)) = -1 := if_neg (show ¬ n < n by omega)
 have e' := e
 simp only [e1] at e'
 have e2 : sm n (fun c => ent (augL T bs) i c * (if c < n then ent R c n else -1)) = sm n (fun c => ent T i c * (R.map (fun r => r.getD n 0)).getD c 0) := sm_congr fun c hc => by rw [aug_ent h hi, if_pos hc, if_pos hc, ev c hc]
 rw [e2] at e'
 grind
theorem keeps_stop {n b p : Nat} {T R : List (List Rat)} {bs : List Rat} (h : Table n b T bs) (k : Keeps n b (augL T bs) R p) (hp : p < n) (z : ∀ i, p ≤ i → i < R.length → ent R i p = 0) (ns : Nonsing n (ent T)) : False := by
 obtain ⟨y, ky, yn, yp⟩ := uni_stop k.uni hp fun i h1 h2 => z i h1 (by rw [k.len]; exact h2)
 have := ns y (aug_ker0 h yn ((k.ker y).mp ky)) p hp
 rw [yp] at this
 grind
theorem ixN_natW {n j : Nat} (h : j < n) : L2.ixN n ((j : Nat) : Int) = some j := by simp [L2.ixN, h]
noncomputable def signsW (z : Str) : List W := z.cps.toList.map fun c => W.str ⟨#[c]⟩
noncomputable def strI (w : W) (G : Gp) (R : List W → Gp → Prop) : Prop := match w with
 | .str z => R (signsW z) G
 | _ => False
theorem strI_str {z : Str} {G : Gp} {R : List W → Gp → Prop} : strI (.str z) G R = R (signsW z) G := rfl
noncomputable def iStrW (te : TEw) : TIw := fun σ G R => te σ G fun w G1 => strI w G1 R
theorem a_iStr {te : TEw} {σ : SW} {G : Gp} {R : List W → Gp → Prop} : iStrW te σ G R = te σ G fun w G1 => strI w G1 R := rfl
noncomputable def joinO (x y : W) (G : Gp) (Q : QW) : Prop := match x with
 | .str a => isS (seqs G y) fun ws => ∃ ys : List Str, ws = ys.map W.str ∧ (ys.map (·.length)).sum + ys.length * a.length ≤ 16777216 ∧ Q (.str (Txt.join a ys)) G
 | _ => False
noncomputable def wJoinT : RW2 := joinO
noncomputable def splitO (x y : W) (G : Gp) (Q : QW) : Prop := match x, y with
 | .str a, .str b => (b.length == 0) = false ∧ a.length + 2 ≤ sizeLine ∧ Q (.lst ((Txt.split a b).map W.str)) G
 | _, _ => False
noncomputable def wSplitT : RW2 := splitO
theorem wSplitT_eq {a b : Str} {G : Gp} {Q : QW} : wSplitT (.str a) (.str b) G Q = ((b.length == 0) = false ∧ a.length + 2 ≤ sizeLine ∧ Q (.lst ((Txt.split a b).map W.str)) G) := rfl
theorem wJoinT_eq {a : Str} {y : W} {G : Gp} {Q : QW} : wJoinT (.str a) y G Q = isS (seqs G y) fun ws => ∃ ys : List Str, ws = ys.map W.str ∧ (ys.map (·.length)).sum + ys.length * a.length ≤ 16777216 ∧ Q (.str (Txt.join a ys)) G := rfl
noncomputable def wInSg : RW2 := fun x y G Q => ∃ (c : Nat) (z : Str), x = .str ⟨#[c]⟩ ∧ y = .str z ∧ Q (.bl (decide (c ∈ z.cps.toList))) G
noncomputable def wIntT : List W → Gp → QW → Prop := fun ws G Q => ∃ a n, ws = [.str a] ∧ PySem.intText? a = some n ∧ a.length ≤ 640 ∧ Q (.int n) G
section
variable {X : Cx} {K : PySem.W.Frag} {Z : Zp} {G : Gp} {H : Hp}
theorem walkTx {z : Str} (h : HRel K Z G H) : WalkW K (Its z) Z G H (signsW z) := by
 refine ⟨_, _, by unfold signsW; rw [List.length_map, Array.length_toList]; exact walk_str, fun Z' G' H' x h' => ⟨trivial, fun i v H'' hi y => ?_⟩⟩
 obtain ⟨rfl, c, ec, rfl⟩ := y
 refine ⟨.str ⟨#[c]⟩, ?_, .str, Ext.refl, h'⟩
 unfold signsW
 rw [List.getElem?_map, Array.getElem?_toList, ec]; rfl
theorem qistr {tg l : Expr} {te : TEw} (hl : PEw X l te) : PIw X tg l (iStrW te) := PI.imp (pi_str hl) fun σ H R h => by
 obtain ⟨Z, σ', G, Qw, e, hr, t, k⟩ := h
 refine ⟨Z, σ', G, _, e, hr, t, fun Z1 G1 H1 w v x1 h1 r1 t1 => ?_⟩
 cases r1 with
 | str => exact ⟨_, rfl, k Z1 G1 H1 _ _ x1 h1 (walkTx h1) t1⟩
 | _ => exact False.elim t1
theorem RwL.strs : ∀ {ys : List Str} {vs : List V}, RwL K Z H (ys.map W.str) vs → vs = ys.map V.str
 | [], _, .nil => rfl
 | y :: ys, _, .cons r t => by
  cases r
  rw [RwL.strs t]; rfl
theorem strs_RwL : ∀ (ys : List Str), RwL K Z H (ys.map W.str) (ys.map V.str)
 | [] => .nil
 | _ :: ys => .cons .str (strs_RwL ys)
theorem sim_inSg : Sim2 K (fun x y H Q => ∃ (c : Nat) (z : Str), x = V.str ⟨#[c]⟩ ∧ y = V.str z ∧ Q (.bl (decide (c ∈ z.cps.toList))) H) wInSg := by
 intro Z G H x y v u Qw Q h rx ry t k
 obtain ⟨c, z, rfl, rfl, q⟩ := t
 cases rx
 cases ry
 exact ⟨c, z, rfl, rfl, k.at h .bl q⟩
theorem qinSg {a b : Expr} {ta tb : TEw} {pos : Pos} (ha : PEw X a ta) (hb : PEw X b tb) (hm : behindInMarks .In b = false := by rfl) : PEw X (.Compare a [.In] [b] pos) (wOp wInSg ta tb) := qcmp op_in_sign sim_inSg ha hb hm
noncomputable def isTx (x : W) (P : Prop) : Prop := match x with
 | .str _ => P
 | _ => False
theorem isTx_str {z : Str} {P : Prop} : isTx (.str z) P = P := rfl
noncomputable def wTx (r : RW2) (to te : TEw) : TEw := fun σ G Q => to σ G fun x G1 => isTx x (te σ G1 fun y G2 => r x y G2 Q)
theorem a_wTx {r : RW2} {to te : TEw} {σ : SW} {Q : QW} : wTx r to te σ G Q = to σ G fun x G1 => isTx x (te σ G1 fun y G2 => r x y G2 Q) := rfl
theorem ltx {to te : TEw} {wr : RW2} {r : V → List V → Hp → VK → Prop} (hs : ∀ Z G H x v y u Qw Q, HRel K Z G H → Rw K Z H x v → Rw K Z H y u → wr x y G Qw → KE K Z G H Qw Q → r v [u] H Q) {σ : SV} {Q : VK}
  (h : liftE K (wTx wr to te) σ H Q) : tM1 r (liftE K to) (liftE K te) σ H Q := by
 obtain ⟨Z, σ', G, Qw, ev, hr, t, k⟩ := h
 refine ⟨Z, σ', G, _, ev, hr, t, fun Z1 G1 H1 w v x1 h1 r1 t1 => ?_⟩
 cases r1 with
 | @str z =>
  refine ⟨⟨_, rfl⟩, Z1, σ', G1, _, ev.ext hr x1, h1, t1, fun Z2 G2 H2 w2 v2 x2 h2 r2 t2 => ?_⟩
  exact hs Z2 G2 H2 (.str z) _ w2 v2 Qw Q h2 .str r2 t2 (k.mono (x1.trans x2))
 | _ => exact False.elim t1
theorem qsplit {o e : Expr} {to te : TEw} {apos pos : Pos} (ho : PEw X o to) (he : PEw X e te) (hs : starEach [e] X.env = [(false, eval e X.env)] := by rfl) (hb : attributeBase o "split" X.env (eval o X.env) = eval o X.env := by rfl) (hl : (apos.endLine == pos.line) = true := by rfl) :
  PEw X (.Call (.Attribute o "split" apos) [e] [] pos) (wTx wSplitT to te) :=
 PE.imp (pe_split ho he hs hb hl) fun σ H Q h => ltx (fun Z G H x v y u Qw Q h rx ry t k => by
  cases rx with
  | str => cases ry with
   | str =>
    obtain ⟨t1, t2, t3⟩ := t
    refine ⟨_, _, rfl, rfl, t1, t2, fun p n => ?_⟩
    obtain ⟨h2, x2, r2⟩ := new_frz h n (strs_RwL _)
    exact k _ _ _ _ _ x2 h2 r2 t3
   | _ => exact False.elim t
  | _ => cases ry <;> exact False.elim t) h
theorem qjoin {o e : Expr} {to te : TEw} {apos pos : Pos} (ho : PEw X o to) (he : PEw X e te) (hs : starEach [e] X.env = [(false, eval e X.env)] := by rfl) (hb : attributeBase o "join" X.env (eval o X.env) = eval o X.env := by rfl) (hl : (apos.endLine == pos.line) = true := by rfl) :
  PEw X (.Call (.Attribute o "join" apos) [e] [] pos) (wTx wJoinT to te) :=
 PE.imp (pe_join ho he hs hb hl) fun σ H Q h => ltx (fun Z G H x v y u Qw Q h rx ry t k => by
  cases rx with
  | str =>
   obtain ⟨ws, e, t⟩ := isS_ex t
   obtain ⟨ys, rfl, t1, t2⟩ := t
   cases ry with
   | @tup p ws' vs s r =>
    have e : some ws' = some (ys.map W.str) := e
    injection e with e
    rw [e] at r
    rw [RwL.strs r] at s
    exact ⟨_, p, ys, rfl, rfl, .inr s, t1, k.at h .str t2⟩
   | lst z s r =>
    have e : some _ = some (ys.map W.str) := e
    injection e with e
    rw [e] at r
    rw [RwL.strs r] at s
    exact ⟨_, _, ys, rfl, rfl, .inl (SqL.of s), t1, k.at h .str t2⟩
   | @ref p =>
    obtain ⟨q, vs, e2, s, r⟩ := asL_sq h (w := .ref p) .ref e
    injection e2 with e2
    subst e2
    rw [RwL.strs r] at s
    exact ⟨_, _, ys, rfl, rfl, .inl s, t1, k.at h .str t2⟩
   | scr s r =>
    have e : some _ = some (ys.map W.str) := e
    injection e with e
    rw [e] at r
    have s := s.sq
    rw [RwL.strs r] at s
    exact ⟨_, _, ys, rfl, rfl, .inl s, t1, k.at h .str t2⟩
   | _ => cases e
  | _ => exact False.elim t) h
theorem sim_intT : SimN K (fun xs H Q => ∃ a n, xs = [V.str a] ∧ PySem.intText? a = some n ∧ a.length ≤ 640 ∧ Q (V.int n) H) wIntT := by
 intro Z G H ws vs Qw Q h r t k
 obtain ⟨a, n, rfl, e, l, q⟩ := t
 cases r with
 | cons r1 r2 =>
  cases r2
  cases r1
  exact ⟨a, n, rfl, e, l, k.at h .int q⟩
theorem qintT {e : Expr} {es : List Expr} {t : TAw} {p pos : Pos} (hg : Gl X "int") (hm : X.mg "int" = none) (ha : PAw X (e :: es) t) (he : starEach (e :: es) X.env = (false, eval e X.env) :: starEach es X.env := by rfl) (hpl : (backTo pos (starEach es X.env)).any (·.1) = false := by rfl) :
  PEw X (.Call (.Name "int" p) (e :: es) [] pos) (wCB wIntT t) := PE.imp (pe_callTy call_int_str hg hm (by decide +kernel) ha (by decide) (by decide) he hpl) fun _ _ _ h => liftN sim_intT h
end
noncomputable def Shut (es : List (Nat × Nat)) (S : Nat → Prop) : Prop := ∀ e ∈ es, S e.1 ↔ S e.2
noncomputable def Conn (n : Nat) (es : List (Nat × Nat)) : Prop := ∀ S : Nat → Prop, S 0 → Shut es S → ∀ v, v < n → S v
theorem full_of_nodup : ∀ (n : Nat) (l : List Nat), l.Nodup → (∀ x ∈ l, x < n) → l.length ≤ n ∧ (l.length = n → ∀ v, v < n → v ∈ l)
 | 0, [], _, _ => ⟨Nat.le_refl _, fun _ v hv => absurd hv (by omega)⟩
 | 0, x :: l, _, h => absurd (h x (.head _)) (by omega)
 | n + 1, l, nd, h => by
  by_cases c : n ∈ l
  ·have nd2 := nd.erase n
   have len := List.length_erase_of_mem c
   have h2 : ∀ x ∈ l.erase n, x < n := fun x hx => by
    have h3 := h x (List.mem_of_mem_erase hx)
    have h4 : x ≠ n := fun z => by rw [z] at hx; exact (nd.not_mem_erase) hx
    omega
   obtain ⟨a, b⟩ := full_of_nodup n (l.erase n) nd2 h2
   have pos : 0 < l.length := List.length_pos_of_mem c
   refine ⟨by omega, fun e v hv => ?_⟩
   by_cases d : v = n
   ·rw [d]; exact c
   ·exact List.mem_of_mem_erase (b (by omega) v (by omega))
  ·have h2 : ∀ x ∈ l, x < n := fun x hx => by
    have := h x hx
    have : x ≠ n := fun z => c (z ▸ hx)
    omega
   obtain ⟨a, b⟩ := full_of_nodup n l nd h2
   exact ⟨by omega, fun e => absurd e (by omega)⟩
theorem met_conn {n : Nat} {es : List (Nat × Nat)} {met : List Nat} (nd : met.Nodup) (lt : ∀ x ∈ met, x < n) (h0 : 0 ∈ met) (sh : Shut es (· ∈ met)) (all : ∀ S : Nat → Prop, S 0 → Shut es S → ∀ v ∈ met, S v) : met.length = n ↔ Conn n es := by
 obtain ⟨a, b⟩ := full_of_nodup n met nd lt
 constructor
 ·intro e S s0 sS v hv
  exact all S s0 sS v (b e v hv)
 ·intro c
  have f := c (· ∈ met) h0 sh
  have g := List.nodup_range.length_le_of_subset (l₁ := List.range n) (l₂ := met) fun v hv => f v (List.mem_range.mp hv)
  rw [List.length_range] at g
  omega
structure Seek (n : Nat) (es : List (Nat × Nat)) (met left : List Nat) : Prop where
 nd : met.Nodup
 lt : ∀ x ∈ met, x < n
 h0 : 0 ∈ met
 sub : ∀ x ∈ left, x ∈ met
 all : ∀ S : Nat → Prop, S 0 → Shut es S → ∀ v ∈ met, S v
noncomputable def DoneAt (es : List (Nat × Nat)) (met : List Nat) (v : Nat) : Prop := ∀ e ∈ es, (e.1 = v → e.2 ∈ met) ∧ (e.2 = v → e.1 ∈ met)
theorem DoneAt.mono {es : List (Nat × Nat)} {met met' : List Nat} {v : Nat} (h : DoneAt es met v) (m : ∀ x ∈ met, x ∈ met') : DoneAt es met' v := fun e he => ⟨fun z => m _ ((h e he).1 z), fun z => m _ ((h e he).2 z)⟩
theorem seek_start {n : Nat} {es : List (Nat × Nat)} (hn : 0 < n) : Seek n es [0] [0] :=
 ⟨by simp, fun x hx => by rw [List.mem_singleton.mp hx]; exact hn, .head _, fun _ h => h, fun S s0 _ v hv => by rw [List.mem_singleton.mp hv]; exact s0⟩
theorem seek_add {n : Nat} {es : List (Nat × Nat)} {met left : List Nat} {p t : Nat} (h : Seek n es met left) (hp : p ∈ met) (ht : t ∉ met) (tn : t < n) (e : (p, t) ∈ es ∨ (t, p) ∈ es) : Seek n es (met ++ [t]) (left ++ [t]) := by
 refine ⟨?_, fun x hx => ?_, List.mem_append.mpr (.inl h.h0), fun x hx => ?_, fun S s0 sS v hv => ?_⟩
 ·rw [List.nodup_append]
  refine ⟨h.nd, by simp, fun a ha b hb => ?_⟩
  rw [List.mem_singleton.mp hb]
  exact fun z => ht (z ▸ ha)
 ·rcases List.mem_append.mp hx with hx | hx
  ·exact h.lt x hx
  ·rw [List.mem_singleton.mp hx]; exact tn
 ·rcases List.mem_append.mp hx with hx | hx
  ·exact List.mem_append.mpr (.inl (h.sub x hx))
  ·exact List.mem_append.mpr (.inr hx)
 ·rcases List.mem_append.mp hv with hv | hv
  ·exact h.all S s0 sS v hv
  ·rw [List.mem_singleton.mp hv]
   have sp := h.all S s0 sS p hp
   rcases e with e | e
   ·exact (sS _ e).mp sp
   ·exact (sS _ e).mpr sp
theorem seek_end {n : Nat} {es : List (Nat × Nat)} {met : List Nat} (h : Seek n es met []) (d : ∀ v ∈ met, DoneAt es met v) : met.length = n ↔ Conn n es :=
 met_conn h.nd h.lt h.h0 (fun e he => ⟨fun z => (d _ z e he).1 rfl, fun z => (d _ z e he).2 rfl⟩) h.all
theorem seek_len {n : Nat} {es : List (Nat × Nat)} {met left : List Nat} (h : Seek n es met left) : met.length ≤ n := (full_of_nodup n met h.nd h.lt).1
noncomputable def connB (n : Nat) (es : List (Nat × Nat)) : Bool := @decide (Conn n es) (Classical.propDecidable _)
theorem connB_of {n : Nat} {es : List (Nat × Nat)} {p : Prop} [Decidable p] (h : p ↔ Conn n es) : decide p = connB n es := by
 unfold connB
 by_cases c : p
 ·rw [decide_eq_true c]; symm; exact @decide_eq_true _ (Classical.propDecidable _) (h.mp c)
 ·rw [decide_eq_false c]; symm; exact @decide_eq_false _ (Classical.propDecidable _) fun z => c (h.mpr z)
theorem connB_iff {n : Nat} {es : List (Nat × Nat)} : connB n es = true ↔ Conn n es := by
 unfold connB
 exact @decide_eq_true_iff _ (Classical.propDecidable _)
structure Ln where
 a : Nat
 b : Nat
 s : Nat
 m : Nat
noncomputable def Ln.e (l : Ln) : Nat × Nat := (l.a, l.b)
structure LnOk (n : Nat) (l : Ln) : Prop where
 a : l.a < n
 b : l.b < n
 ne : l.a ≠ l.b
 s : 1 ≤ l.s ∧ l.s ≤ 9
 m : l.m ≤ 99
noncomputable abbrev lineW (l : Ln) : W := .tup [.int ((l.a : Nat) : Int), .int ((l.b : Nat) : Int), .int ((l.s : Nat) : Int), .int ((l.m : Nat) : Int)]
noncomputable abbrev linesW (ls : List Ln) : List W := ls.map fun l => lineW l
noncomputable abbrev netW (n : Nat) (ls : List Ln) : W := .tup [.int ((n : Nat) : Int), .tup (linesW ls)]
noncomputable abbrev edges (ls : List Ln) : List (Nat × Nat) := ls.map Ln.e
noncomputable def dropL (ls : List Ln) (k : Nat) : List Ln := ls.take k ++ ls.drop (k + 1)
noncomputable abbrev natsW (xs : List Nat) : List W := xs.map fun v => W.int ((v : Nat) : Int)
theorem wD_nats (xs : List Nat) : wD 1 (.lst (natsW xs)) := wD_lst fun w h => by
 obtain ⟨q, _, rfl⟩ := List.mem_map.mp h
 exact wD_int
theorem nats_mem {v : Nat} {xs : List Nat} : (natsW xs).any (fun y => eqW y (.int ((v : Nat) : Int))) = decide (v ∈ xs) := by
 induction xs with
 | nil => rfl
 | cons x xs ih =>
  show (eqW _ _ || (natsW xs).any _) = _
  rw [ih]
  show (decide ((x : Int) = (v : Int)) || decide (v ∈ xs)) = _
  by_cases c : v = x
  ·subst c; simp
  ·have c' : ¬ ((x : Int) = (v : Int)) := by omega
   simp [c, c']
theorem bag_at {G : Gp} {p q : Addr} {a r : GO} (h : q ≠ p) : gup (gup G p a) q r p = some a := by rw [gup_ne (Ne.symm h), gup_same]
noncomputable def AsLines (lw : W) (ls : List Ln) : Prop := lw = .tup (linesW ls) ∨ lw = .lst (linesW ls)
noncomputable def sp_hangs_together : Spw := fun ws G Q _ => ∃ (n : Nat) (lw : W) (ls : List Ln), ws = [.int ((n : Nat) : Int), lw] ∧ AsLines lw ls ∧ 1 ≤ n ∧ n ≤ 1000 ∧ (∀ l ∈ ls, LnOk n l) ∧ Q (.bl (connB n (edges ls))) G
theorem len_hangs_together (ws G Q E) (h : sp_hangs_together ws G Q E) : ws.length = 2 := by obtain ⟨_, _, _, rfl, _⟩ := h; rfl
noncomputable def t_hangs_together_b1 : TSw := (wIfS (wTest (wOp (wIn false) (wVar 4) (wTup (wCons (wVar 5) (wCons (wVar 6) wNil))))) (wSeq (wAsg (wOp wSub (wOp wAdd (wVar 5) (wVar 6)) (wVar 4)) (gN 9))
  (wIfS (wTest (wOp (wIn true) (wVar 9) (wVar 2))) (wSeq (wDrop (wBM wM_append (wVar 2) (wCons (wVar 9) wNil)))
  (wDrop (wBM wM_append (wVar 3) (wCons (wVar 9) wNil)))) wNext)) wNext)
noncomputable def t_hangs_together_b2 : TSw := (wSeq (wAsg (wBM0 wM_pop (wVar 3)) (gN 4))
  (wFor [false, false, false, false, false, true, true, true, true, true] (iSeqW (wVar 1)) (gT 4 (gsC (gN 5) (gsC (gN 6) (gsC (gN 7) (gsC (gN 8) gsN))))) t_hangs_together_b1))
noncomputable def t_hangs_together_r1 : TSw := (wRet (wOp wEq (wCB wLen (wCons (wVar 2) wNil)) (wVar 0)))
noncomputable def t_hangs_together : TSw := (wSeq (wAsg (wLstM (wCons (wC (.int 0)) wNil)) (gN 2))
  (wSeq (wAsg (wLstM (wCons (wC (.int 0)) wNil)) (gN 3))
  (wSeq (wWhile [false, false, false, false, true, true, true, true, true, true] (wTest (wOp wNe (wVar 3) (wLst wNil))) t_hangs_together_b2)
  t_hangs_together_r1)))
theorem rd_hangs_together (ws : List W) (G : Gp) (Q : QW) (E) (h : sp_hangs_together ws G Q E) : t_hangs_together { nx := fun _ G' => Q .non G', rt := Cl Q } (startW ["many", "lines", "met", "left", "place", "one", "other", "stiffness", "most", "there"] ws) G := by
 obtain ⟨n, lw, ls, rfl, hlw, n1, n2, ok, q⟩ := h
 show t_hangs_together _ [some (.int n), some lw, none, none, none, none, none, none, none, none] G
 have big : 2000 < sizeLine := by decide
 have hseq : ∀ (G : Gp) (R : List W → Gp → Prop), seqOf lw G R = R (linesW ls) G := by rcases hlw with rfl | rfl <;> exact fun _ _ => rfl
 unfold t_hangs_together
 k_upd
 refine ⟨by decide, fun p1 hp1 => ⟨by decide, fun p2 hp2 => ?_⟩⟩
 obtain ⟨ne, hp2⟩ := gup_fresh hp2
 refine ⟨fun m σ G1 => ∃ met left, G1 = gup (gup G p1 (.lst (natsW met))) p2 (.lst (natsW left)) ∧ σ = [some (.int n), some lw, some (.ref p1), some (.ref p2), none, none, none, none, none, none] ∧ Seek n (edges ls) met left ∧ (∀ v ∈ met, v ∉ left → DoneAt (edges ls) met v) ∧ m = 2 * (n - met.length) + left.length ∧ m ≤ 2 * n, ⟨_, [0], [0], rfl, rfl, seek_start (by omega), fun v h1 h2 => absurd h1 h2, rfl, by simp; omega⟩, ?_⟩
 rintro m σ G1 ⟨met, left, rfl, rfl, sk, dn, rfl, bnd⟩
 k_upd
 rw [wNe_lref gup_same]
 refine ⟨by decide, wOk_of (wD_nats left) (by decide), wOk_of (wD_nats []) (by decide), ?_⟩
 k_upd
 rcases List.eq_nil_or_concat left with rfl | ⟨left, p, rfl⟩
 ·rw [show weqb (W.lst (natsW [])) (W.lst []) = true from weqb_self (wD_nats [])]
  unfold t_hangs_together_r1
  k_upd
  rw [asL_at (bag_at ne)]
  k_upd
  have e : decide (((met.length : Nat) : Int) = ((n : Nat) : Int)) = connB n (edges ls) := connB_of (by
   rw [← seek_end sk fun v hv => dn v hv (by simp)]
   omega)
  rw [e]
  refine .inr ⟨[p2, p1], .inl ?_⟩
  show Q _ (gdel (gdel (gup (gup G p1 _) p2 _) p2) p1)
  rw [gdel_gup (by rw [gup_ne ne]; exact hp2), gdel_gup hp1]
  exact q
 ·rw [List.concat_eq_append] at *
  have en : natsW (left ++ [p]) = natsW left ++ [.int (p : Int)] := by unfold natsW; rw [List.map_append]; rfl
  have e0 : weqb (W.lst (natsW (left ++ [p]))) (W.lst []) = false := by
   cases left <;> simp [weqb, wdat, wdats, PyData.eqv, PyData.eqvAll]
  rw [e0]
  unfold t_hangs_together_b2
  k_upd
  rw [en]
  rw [show (natsW left ++ [W.int (p : Int)])[(left ++ [p]).length - 1]? = some (.int (p : Int)) by simp]
  k_upd
  rw [hseq, List.dropLast_concat]
  have hpm : p ∈ met := sk.sub p (List.mem_append.mpr (.inr (.head _)))
  have sk1 : Seek n (edges ls) met left := ⟨sk.nd, sk.lt, sk.h0, fun x hx => sk.sub x (List.mem_append.mpr (.inl hx)), sk.all⟩
  have dn1 : ∀ v ∈ met, v ≠ p → v ∉ left → DoneAt (edges ls) met v := fun v hv ne hl => dn v hv fun z => by
   rcases List.mem_append.mp z with z | z
   ·exact hl z
   ·exact ne (List.mem_singleton.mp z)
  have lm := seek_len sk
  rw [List.length_append, List.length_singleton] at bnd
  refine forW_ix (fun k σ G1 => ∃ met' left', G1 = gup (gup G p1 (.lst (natsW met'))) p2 (.lst (natsW left')) ∧ σ = [some (.int n), some lw, some (.ref p1), some (.ref p2), some (.int p), none, none, none, none, none] ∧ Seek n (edges ls) met' left' ∧ p ∈ met' ∧ (∀ v ∈ met', v ≠ p → v ∉ left' → DoneAt (edges ls) met' v) ∧ DoneAt ((edges ls).take k) met' p ∧ 2 * (n - met'.length) + left'.length ≤ 2 * (n - met.length) + left.length) _ 0 _ _ ⟨met, left, rfl, rfl, sk1, hpm, dn1, fun e he => (by simp at he), Nat.le_refl _⟩ ?_ ?_
  ·rintro k w hw σ G1 N ⟨met', left', rfl, rfl, sk', hp', dn', dp', lm'⟩ hN
   rw [Nat.zero_add] at hN dp'
   rw [List.getElem?_map] at hw
   by_cases hk : k < ls.length
   ·rw [List.getElem?_eq_getElem hk] at hw
    injection hw with hw
    subst hw
    have okl := ok _ (List.getElem_mem hk)
    have hke : k < (edges ls).length := by rw [List.length_map]; exact hk
    have ee : (edges ls).take (k + 1) = (edges ls).take k ++ [(ls[k].a, ls[k].b)] := by
     rw [List.take_succ_eq_append_getElem hke, List.getElem_map]
     rfl
    have em : (ls[k].a, ls[k].b) ∈ edges ls := List.mem_map.mpr ⟨_, List.getElem_mem hk, rfl⟩
    rw [ee] at hN
    generalize ls[k] = l at okl em hN ⊢
    unfold t_hangs_together_b1
    k_upd
    refine ⟨by decide, ?_⟩
    by_cases hp : p = l.a ∨ p = l.b
    ·obtain ⟨t, et, tn, ed, e1, e2⟩ : ∃ t : Nat, (l.a : Int) + (l.b : Int) - (p : Int) = (t : Int) ∧ t < n ∧ ((p, t) ∈ edges ls ∨ (t, p) ∈ edges ls) ∧ (l.a = p → l.b = t) ∧ (l.b = p → l.a = t) := by
      rcases hp with h | h
      ·exact ⟨l.b, by omega, okl.b, .inl (by rw [h]; exact em), fun _ => rfl, fun z => by omega⟩
      ·exact ⟨l.a, by omega, okl.a, .inr (by rw [h]; exact em), fun z => by omega, fun _ => rfl⟩
     rw [et]
     rw [if_pos (by rcases hp with h | h <;> simp [h])]
     rw [asL_at (bag_at ne)]
     k_upd
     have fl : (natsW met').all flatW = true := by simp [flatW]
     have key := nats_mem (v := t) (xs := met')
     unfold eqW at key
     rw [key]
     refine ⟨fl, ?_⟩
     by_cases tm : t ∈ met'
     ·rw [decide_eq_true tm, if_neg (by decide)]
      refine hN _ _ ⟨met', left', rfl, rfl, sk', hp', dn', fun e he => ?_, lm'⟩
      rcases List.mem_append.mp he with he | he
      ·exact dp' e he
      ·rw [List.mem_singleton.mp he]
       exact ⟨fun z => by rw [e1 z]; exact tm, fun z => by rw [e2 z]; exact tm⟩
     ·rw [decide_eq_false tm, if_pos (by decide)]
      have sk2 := seek_add sk' hp' tm tn ed
      have l2 := seek_len sk2
      rw [List.length_append, List.length_singleton] at l2
      rw [isG_at (bag_at ne)]
      rw [gup_in (Ne.symm ne), asL_at gup_same]
      have lw1 : met'.length ≤ 1000 := by omega
      have lw2 : left'.length ≤ 2000 := by omega
      refine ⟨by rw [List.length_map]; omega, rfl, ?_⟩
      rw [isG_at gup_same, gup_gup]
      have e3 : natsW met' ++ [.int (t : Int)] = natsW (met' ++ [t]) := by unfold natsW; rw [List.map_append]; rfl
      have e4 : natsW left' ++ [.int (t : Int)] = natsW (left' ++ [t]) := by unfold natsW; rw [List.map_append]; rfl
      rw [e3, e4]
      have mm : ∀ x ∈ met', x ∈ met' ++ [t] := fun x hx => List.mem_append.mpr (.inl hx)
      refine ⟨by rw [List.length_map]; omega, hN _ _ ⟨met' ++ [t], left' ++ [t], rfl, rfl, sk2, mm _ hp', fun v hv vp vl => ?_, fun e he => ?_, ?_⟩⟩
      ·rcases List.mem_append.mp hv with hv | hv
       ·exact (dn' v hv vp fun z => vl (List.mem_append.mpr (.inl z))).mono mm
       ·exact absurd (List.mem_append.mpr (.inr hv)) vl
      ·rcases List.mem_append.mp he with he | he
       ·exact dp'.mono mm e he
       ·rw [List.mem_singleton.mp he]
        exact ⟨fun z => by rw [e1 z]; exact List.mem_append.mpr (.inr (.head _)), fun z => by rw [e2 z]; exact List.mem_append.mpr (.inr (.head _))⟩
      ·rw [List.length_append, List.length_append, List.length_singleton]; omega
    ·rw [if_neg (by simp only [not_or] at hp; simp; omega)]
     refine hN _ _ ⟨met', left', rfl, rfl, sk', hp', dn', fun e he => ?_, lm'⟩
     rcases List.mem_append.mp he with he | he
     ·exact dp' e he
     ·rw [List.mem_singleton.mp he]
      exact ⟨fun z => absurd (.inl z.symm) hp, fun z => absurd (.inr z.symm) hp⟩
   ·rw [List.getElem?_eq_none (by omega)] at hw; cases hw
  ·rintro σ G1 ⟨met', left', rfl, rfl, sk', hp', dn', dp', lm'⟩
   rw [Nat.zero_add, List.length_map, ← List.length_map (f := Ln.e), List.take_length] at dp'
   refine ⟨_, ?_, met', left', rfl, rfl, sk', fun v hv hl => ?_, rfl, by omega⟩
   ·rw [List.length_append, List.length_singleton]; omega
   ·by_cases c : v = p
    ·rw [c]; exact dp'
    ·exact dn' v hv c hl
theorem conn_more {n : Nat} {es es' : List (Nat × Nat)} (h : Conn n es) (m : ∀ e ∈ es, e ∈ es') : Conn n es' := fun S s0 sS => h S s0 fun e he => sS e (m e he)
theorem conn_next {n v : Nat} {es : List (Nat × Nat)} {e : Nat × Nat} (h : Conn n es) (hv : v < n) (he : e = (n, v) ∨ e = (v, n)) : Conn (n + 1) (es ++ [e]) := fun S s0 sS u hu => by
 have c := h S s0 fun e he => sS e (List.mem_append.mpr (.inl he))
 by_cases d : u = n
 ·have z := sS e (List.mem_append.mpr (.inr (.head _)))
  rcases he with he | he
  ·rw [he] at z; rw [d]; exact z.mpr (c v hv)
  ·rw [he] at z; rw [d]; exact z.mp (c v hv)
 ·exact c u (by omega)
structure Net (n : Nat) (ls : List Ln) : Prop where
 n1 : 1 ≤ n
 n4 : n ≤ 4
 few : ls.length ≤ 6
 ok : ∀ l ∈ ls, LnOk n l
 conn : Conn n (edges ls)
local macro_rules | `(tactic| k_upd) => `(tactic| walk_at "Wf9b74f19010006bd6bd6bd600000000000000efff12c7cffe3c3ff00a10")
mutual
noncomputable def datB : W → Bool
 | .non => true
 | .bl _ => true
 | .int _ => true
 | .str _ => true
 | .tup ws => datsB ws
 | .lst ws => datsB ws
 | _ => false
noncomputable def datsB : List W → Bool
 | [] => true
 | w :: ws => datB w && datsB ws
end
theorem dats_all : ∀ {ws : List W}, datsB ws = true ↔ ∀ w ∈ ws, datB w = true
 | [] => by simp [datsB]
 | w :: ws => by
  simp only [datsB, Bool.and_eq_true, dats_all (ws := ws), List.mem_cons, forall_eq_or_imp]
noncomputable def wholeB : W → Bool
 | .int _ => true
 | _ => false
noncomputable def fromB (w : W) (lo hi : Int) : Bool := match w with
 | .int i => decide (lo ≤ i) && decide (i ≤ hi)
 | _ => false
theorem from_int {w : W} {lo hi : Int} (h : fromB w lo hi = true) : ∃ i, w = .int i ∧ lo ≤ i ∧ i ≤ hi := by
 cases w with
 | int i =>
  have h' : (decide (lo ≤ i) && decide (i ≤ hi)) = true := h
  rw [Bool.and_eq_true] at h'
  exact ⟨i, rfl, of_decide_eq_true h'.1, of_decide_eq_true h'.2⟩
 | _ => cases h
noncomputable def sp_is_whole : Spw := fun ws G Q _ => ∃ w, ws = [w] ∧ datB w = true ∧ Q (.bl (wholeB w)) G
theorem len_is_whole (ws G Q E) (h : sp_is_whole ws G Q E) : ws.length = 1 := by obtain ⟨_, rfl, _⟩ := h; rfl
noncomputable def t_is_whole : TSw := (wRet (wAndV (wUn (wIsi .int) (wVar 0)) (wNotV (wUn (wIsi .bool) (wVar 0)))))
theorem rd_is_whole (ws : List W) (G : Gp) (Q : QW) (E) (h : sp_is_whole ws G Q E) : t_is_whole { nx := fun _ G' => Q .non G', rt := Cl Q } (startW ["thing"] ws) G := by
 obtain ⟨w, rfl, d, q⟩ := h
 show t_is_whole _ [some w] G
 unfold t_is_whole
 cases w <;> first | (k_upd; exact .inl q) | (simp [datB] at d)
noncomputable def sp_is_from : Spw := fun ws G Q _ => ∃ w lo hi, ws = [w, .int lo, .int hi] ∧ datB w = true ∧ Q (.bl (fromB w lo hi)) G
theorem len_is_from (ws G Q E) (h : sp_is_from ws G Q E) : ws.length = 3 := by obtain ⟨_, _, _, rfl, _⟩ := h; rfl
noncomputable def t_is_from : TSw := (wRet (wAndV (wCall sp_is_whole (wCons (wVar 0) wNil)) (wChain wLe wLe (wVar 1) (wVar 0) (wVar 2))))
theorem rd_is_from (ws : List W) (G : Gp) (Q : QW) (E) (h : sp_is_from ws G Q E) : t_is_from { nx := fun _ G' => Q .non G', rt := Cl Q } (startW ["thing", "least", "most"] ws) G := by
 obtain ⟨w, lo, hi, rfl, d, q⟩ := h
 show t_is_from _ [some w, some (.int lo), some (.int hi)] G
 unfold t_is_from
 k_upd
 refine ⟨w, rfl, d, ?_⟩
 cases w with
 | int i =>
  have q' : Q (.bl (decide (lo ≤ i) && decide (i ≤ hi))) G := q
  rw [show wholeB (.int i) = true from rfl]
  k_upd
  split
  ·rename_i c
   rw [c] at q'
   exact .inl q'
  ·rename_i c
   rw [Bool.not_eq_true] at c
   rw [c] at q'
   exact .inl q'
 | _ =>
  first
  | (rw [show wholeB _ = false from rfl]; k_upd; exact .inl q)
  | (simp [datB] at d)
noncomputable def intEqB : W → W → Bool
 | .int a, .int b => decide (a = b)
 | _, _ => false
noncomputable def lineB (n : Int) : W → Bool
 | .tup [a, b, s, m] => fromB a 0 (n - 1) && (fromB b 0 (n - 1) && (!intEqB a b && (fromB s 1 9 && fromB m 0 99)))
 | _ => false
noncomputable def natOf : W → Nat
 | .int i => i.toNat
 | _ => 0
noncomputable def lnOf : W → Ln
 | .tup [a, b, s, m] => ⟨natOf a, natOf b, natOf s, natOf m⟩
 | _ => ⟨0, 0, 0, 0⟩
theorem line_of {n : Nat} {w : W} (h : lineB n w = true) : w = lineW (lnOf w) ∧ LnOk n (lnOf w) := by
 match w, h with
 | .tup [a, b, s, m], h =>
  simp only [lineB, Bool.and_eq_true, Bool.not_eq_true'] at h
  obtain ⟨h1, h2, h3, h4, h5⟩ := h
  obtain ⟨a, rfl, a0, a1⟩ := from_int h1
  obtain ⟨b, rfl, b0, b1⟩ := from_int h2
  obtain ⟨s, rfl, s0, s1⟩ := from_int h4
  obtain ⟨m, rfl, m0, m1⟩ := from_int h5
  have h3' : decide (a = b) = false := h3
  have ne := of_decide_eq_false h3'
  refine ⟨?_, ⟨by show a.toNat < n; omega, by show b.toNat < n; omega, by show a.toNat ≠ b.toNat; omega, ⟨by show 1 ≤ s.toNat; omega, by show s.toNat ≤ 9; omega⟩, by show m.toNat ≤ 99; omega⟩⟩
  show W.tup [.int a, .int b, .int s, .int m] = .tup [.int ((a.toNat : Nat) : Int), .int ((b.toNat : Nat) : Int), .int ((s.toNat : Nat) : Int), .int ((m.toNat : Nat) : Int)]
  rw [Int.toNat_of_nonneg a0, Int.toNat_of_nonneg b0, Int.toNat_of_nonneg (by omega : 0 ≤ s), Int.toNat_of_nonneg m0]
theorem lines_of {n : Nat} : ∀ {ws : List W}, ws.all (lineB n) = true → ws = linesW (ws.map lnOf) ∧ ∀ l ∈ ws.map lnOf, LnOk n l
 | [], _ => ⟨rfl, by simp⟩
 | w :: ws, h => by
  simp only [List.all_cons, Bool.and_eq_true] at h
  obtain ⟨h1, h2⟩ := line_of h.1
  obtain ⟨h3, h4⟩ := lines_of h.2
  refine ⟨?_, fun l hl => ?_⟩
  ·show w :: ws = lineW (lnOf w) :: linesW (ws.map lnOf)
   rw [← h1, ← h3]
  ·rcases List.mem_cons.mp hl with rfl | hl
   ·exact h2
   ·exact h4 l hl
noncomputable def netB : W → Bool
 | .tup [m, .tup lines] => fromB m 1 4 && (decide (lines.length ≤ 6) && (lines.all (lineB (natOf m)) && connB (natOf m) (edges (lines.map lnOf))))
 | _ => false
noncomputable def sp_is_line : Spw := fun ws G Q _ => ∃ (n : Int) (w : W), ws = [.int n, w] ∧ datB w = true ∧ Q (.bl (lineB n w)) G
theorem len_is_line (ws G Q E) (h : sp_is_line ws G Q E) : ws.length = 2 := by obtain ⟨_, _, rfl, _⟩ := h; rfl
noncomputable def t_is_line : TSw := (wSeq (wIfS (wOr (wNot (wTest (wUn (wIsi .tuple) (wVar 1)))) (wTest (wOp wNe (wCB wLen (wCons (wVar 1) wNil)) (wC (.int 4))))) (wRet (wC (.bl false))) wNext)
  (wSeq (wAsg (wVar 1) (gT 4 (gsC (gN 2) (gsC (gN 3) (gsC (gN 4) (gsC (gN 5) gsN))))))
  (wSeq (wIfS (wOr (wNot (wTest (wCall sp_is_from (wCons (wVar 2) (wCons (wC (.int 0)) (wCons (wOp wSub (wVar 0) (wC (.int 1))) wNil)))))) (wOr (wNot (wTest (wCall sp_is_from (wCons (wVar 3) (wCons (wC (.int 0)) (wCons (wOp wSub (wVar 0) (wC (.int 1))) wNil)))))) (wTest (wOp wEq (wVar 2) (wVar 3))))) (wRet (wC (.bl false))) wNext)
  (wRet (wAndV (wCall sp_is_from (wCons (wVar 4) (wCons (wC (.int 1)) (wCons (wC (.int 9)) wNil)))) (wCall sp_is_from (wCons (wVar 5) (wCons (wC (.int 0)) (wCons (wC (.int 99)) wNil)))))))))
theorem rd_is_line (ws : List W) (G : Gp) (Q : QW) (E) (h : sp_is_line ws G Q E) : t_is_line { nx := fun _ G' => Q .non G', rt := Cl Q } (startW ["many", "thing", "one", "other", "stiffness", "most"] ws) G := by
 obtain ⟨n, w, rfl, d, q⟩ := h
 show t_is_line _ [some (.int n), some w, none, none, none, none] G
 unfold t_is_line
 cases w with
 | tup us =>
  by_cases h4 : us.length = 4
  ·match us, h4 with
   | [a, b, s, m], _ =>
    have dd := dats_all.mp (show datsB [a, b, s, m] = true by simpa [datB] using d)
    have da := dd a (by simp)
    have db := dd b (by simp)
    have ds := dd s (by simp)
    have dm := dd m (by simp)
    have q' : Q (.bl (fromB a 0 (n - 1) && (fromB b 0 (n - 1) && (!intEqB a b && (fromB s 1 9 && fromB m 0 99))))) G := q
    k_upd
    rw [if_neg (by decide)]
    refine ⟨a, 0, n - 1, rfl, da, ?_⟩
    cases hA : fromB a 0 (n - 1) with
    | false => rw [hA] at q'; k_upd; exact .inl q'
    | true =>
     rw [hA] at q'
     k_upd
     refine ⟨b, 0, n - 1, rfl, db, ?_⟩
     cases hB : fromB b 0 (n - 1) with
     | false => rw [hB] at q'; k_upd; exact .inl q'
     | true =>
      rw [hB] at q'
      obtain ⟨a, rfl, _⟩ := from_int hA
      obtain ⟨b, rfl, _⟩ := from_int hB
      k_upd
      by_cases hE : a = b
      ·rw [decide_eq_true hE, if_pos rfl]
       rw [show intEqB (.int a) (.int b) = true from decide_eq_true hE] at q'
       exact .inl q'
      ·rw [decide_eq_false hE, if_neg (by decide)]
       rw [show intEqB (.int a) (.int b) = false from decide_eq_false hE] at q'
       refine ⟨s, 1, 9, rfl, ds, ?_⟩
       cases hS : fromB s 1 9 with
       | false => rw [hS] at q'; k_upd; exact .inl q'
       | true =>
        rw [hS] at q'
        k_upd
        exact ⟨m, 0, 99, rfl, dm, .inl q'⟩
  ·k_upd
   rw [decide_eq_false (show ¬ ((us.length : Nat) : Int) = 4 by omega), if_pos (by decide)]
   refine .inl ?_
   have e : lineB n (.tup us) = false := by
    match us, h4 with
    | [], _ => rfl
    | [_], _ => rfl
    | [_, _], _ => rfl
    | [_, _, _], _ => rfl
    | [_, _, _, _], h => exact absurd rfl h
    | _ :: _ :: _ :: _ :: _ :: _, _ => rfl
   rw [e] at q
   exact q
 | _ => first | (k_upd; exact .inl q) | (simp [datB] at d)
noncomputable def sp_is_net : Spw := fun ws G Q _ => ∃ (w : W), ws = [w] ∧ datB w = true ∧ (∀ m us, w = .tup [m, .tup us] → us.length ≤ 1000) ∧ Q (.bl (netB w)) G
theorem len_is_net (ws G Q E) (h : sp_is_net ws G Q E) : ws.length = 1 := by obtain ⟨_, rfl, _⟩ := h; rfl
theorem net_not2 {us : List W} (h : us.length ≠ 2) : netB (.tup us) = false := by
 match us, h with
 | [], _ => rfl
 | [_], _ => rfl
 | [_, _], h => exact absurd rfl h
 | _ :: b :: _ :: _, _ => cases b <;> rfl
noncomputable def t_is_net : TSw := (wSeq (wIfS (wOr (wNot (wTest (wUn (wIsi .tuple) (wVar 0)))) (wOr (wTest (wOp wNe (wCB wLen (wCons (wVar 0) wNil)) (wC (.int 2)))) (wNot (wTest (wCall sp_is_from (wCons (wOp wIx (wVar 0) (wC (.int 0))) (wCons (wC (.int 1)) (wCons (wC (.int 4)) wNil)))))))) (wRet (wC (.bl false))) wNext)
  (wSeq (wAsg (wVar 0) (gT 2 (gsC (gN 1) (gsC (gN 2) gsN))))
  (wSeq (wIfS (wOr (wNot (wTest (wUn (wIsi .tuple) (wVar 2)))) (wTest (wOp wGt (wCB wLen (wCons (wVar 2) wNil)) (wC (.int 6))))) (wRet (wC (.bl false))) wNext)
  (wRet (wAndV (wCB wAll (wCons (wLc [3] (iSeqW (wVar 2)) (gN 3) wYes (wCall sp_is_line (wCons (wVar 1) (wCons (wVar 3) wNil)))) wNil)) (wCall sp_hangs_together (wCons (wVar 1) (wCons (wVar 2) wNil))))))))
theorem rd_is_net (ws : List W) (G : Gp) (Q : QW) (E) (h : sp_is_net ws G Q E) : t_is_net { nx := fun _ G' => Q .non G', rt := Cl Q } (startW ["thing", "many", "lines", "line"] ws) G := by
 obtain ⟨w, rfl, d, len, q⟩ := h
 show t_is_net _ [some w, none, none, none] G
 have big : 1000 < sizeLine := by decide
 unfold t_is_net
 cases w with
 | tup us =>
  by_cases h2 : us.length = 2
  ·match us, h2 with
   | [m, l], _ =>
    have dd := dats_all.mp (show datsB [m, l] = true by simpa [datB] using d)
    have dm := dd m (by simp)
    have dl := dd l (by simp)
    k_upd
    rw [if_neg (by decide)]
    refine ⟨m, 1, 4, rfl, dm, ?_⟩
    cases hM : fromB m 1 4 with
    | false =>
     k_upd
     have e : netB (.tup [m, l]) = false := by
      cases l <;> first | rfl | (show (fromB m 1 4 && _) = false; rw [hM]; rfl)
     rw [e] at q
     exact .inl q
    | true =>
     obtain ⟨n, rfl, n1, n4⟩ := from_int hM
     obtain ⟨n, rfl⟩ : ∃ k : Nat, n = (k : Int) := ⟨n.toNat, by omega⟩
     k_upd
     cases l with
     | tup us =>
      have dus := dats_all.mp (show datsB us = true by simpa [datB] using dl)
      have lus := len _ us rfl
      have q' : Q (.bl (fromB (.int n) 1 4 && (decide (us.length ≤ 6) && (us.all (lineB n) && connB n (edges (us.map lnOf)))))) G := q
      rw [hM] at q'
      k_upd
      by_cases h6 : us.length ≤ 6
      ·rw [decide_eq_true h6] at q'
       rw [decide_eq_false (show ¬ (6 : Int) < ((us.length : Nat) : Int) by omega), if_neg (by decide)]
       refine ⟨by omega, ?_⟩
       rw [show us = us.map (fun w => w) by simp]
       refine lcW_mapA (fun w : W => w) (fun w => .bl (lineB n w)) _ _ _ ?_ ?_
       ·intro w hw P hP
        k_upd
        exact ⟨n, w, rfl, dus w hw, hP⟩
       ·refine ⟨us.map (lineB n), by rw [List.nil_append, List.map_map]; rfl, ?_⟩
        rw [List.all_map]
        cases hA : us.all (lineB n) with
        | false =>
         rw [hA] at q'
         rw [show us.all (id ∘ lineB n) = us.all (lineB n) from rfl, hA]
         k_upd
         exact .inl q'
        | true =>
         rw [hA] at q'
         rw [show us.all (id ∘ lineB n) = us.all (lineB n) from rfl, hA]
         k_upd
         obtain ⟨e1, e2⟩ := lines_of hA
         refine ⟨n, _, us.map lnOf, rfl, .inl (by simp only [List.map_id']; rw [← e1]), by omega, by omega, e2, .inl q'⟩
      ·rw [decide_eq_false h6] at q'
       rw [decide_eq_true (show (6 : Int) < ((us.length : Nat) : Int) by omega), if_pos rfl]
       exact .inl q'
     | _ => first | (k_upd; exact .inl q) | (simp [datB] at dl)
  ·k_upd
   rw [decide_eq_false (show ¬ ((us.length : Nat) : Int) = 2 by omega), if_pos (by decide)]
   rw [net_not2 h2] at q
   exact .inl q
 | _ => first | (k_upd; exact .inl q) | (simp [datB] at d)
noncomputable def flowAt (z : Nat → Rat) (l : Ln) (i : Nat) : Rat := (if i = l.a then (l.s : Rat) * (z l.a - z l.b) else 0) + (if i = l.b then (l.s : Rat) * (z l.b - z l.a) else 0)
noncomputable def outAt (ls : List Ln) (z : Nat → Rat) (i : Nat) : Rat := lsum (fun l => flowAt z l i) ls
theorem lsum_add {α : Type} (f g : α → Rat) : ∀ xs : List α, lsum (fun x => f x + g x) xs = lsum f xs + lsum g xs
 | [] => by show (0 : Rat) = 0 + 0; grind
 | x :: xs => by
  show f x + g x + lsum _ xs = f x + lsum f xs + (g x + lsum g xs)
  rw [lsum_add f g xs]; grind
theorem lsum_mul {α : Type} (k : Rat) (f : α → Rat) : ∀ xs : List α, lsum (fun x => k * f x) xs = k * lsum f xs
 | [] => by show (0 : Rat) = k * 0; grind
 | x :: xs => by
  show k * f x + lsum _ xs = k * (f x + lsum f xs)
  rw [lsum_mul k f xs]; grind
theorem sm_swap2 {α : Type} (F : Nat → α → Rat) (xs : List α) : ∀ n, sm n (fun i => lsum (F i) xs) = lsum (fun x => sm n fun i => F i x) xs
 | 0 => by
  show (0 : Rat) = lsum (fun _ => 0) xs
  induction xs with
  | nil => rfl
  | cons x xs ih => show (0 : Rat) = 0 + lsum _ xs; rw [← ih]; grind
 | n + 1 => by
  rw [sm_succ, sm_swap2 F xs n, ← lsum_add]
  rfl
theorem lsum_congr {α : Type} {f g : α → Rat} : ∀ {xs : List α}, (∀ x ∈ xs, f x = g x) → lsum f xs = lsum g xs
 | [], _ => rfl
 | x :: xs, h => by
  show f x + lsum f xs = g x + lsum g xs
  rw [h x (.head _), lsum_congr fun y m => h y (.tail _ m)]
theorem lsum_zero_of {α : Type} {f : α → Rat} : ∀ {xs : List α}, (∀ x ∈ xs, 0 ≤ f x) → lsum f xs = 0 → ∀ x ∈ xs, f x = 0
 | [], _, _, x, m => by cases m
 | y :: ys, h, e, x, m => by
  have h0 := h y (.head _)
  have nn : ∀ zs : List α, (∀ x ∈ zs, 0 ≤ f x) → 0 ≤ lsum f zs := fun zs => by
   induction zs with
   | nil => intro _; show (0 : Rat) ≤ 0; grind
   | cons z zs ih =>
    intro hz
    have a := hz z (.head _)
    have b := ih fun x m => hz x (.tail _ m)
    show 0 ≤ f z + lsum f zs
    grind
  have h1 := nn ys fun x m => h x (.tail _ m)
  have e' : f y + lsum f ys = 0 := e
  rcases List.mem_cons.mp m with rfl | m
  ·grind
  ·exact lsum_zero_of (fun x m => h x (.tail _ m)) (by grind) x m
theorem sm_flow {n : Nat} {z : Nat → Rat} {l : Ln} (ha : l.a < n) (hb : l.b < n) : sm n (fun i => z i * flowAt z l i) = (l.s : Rat) * ((z l.a - z l.b) * (z l.a - z l.b)) := by
 have e : ∀ i, z i * flowAt z l i = (if i = l.a then z l.a * ((l.s : Rat) * (z l.a - z l.b)) else 0) + (if i = l.b then z l.b * ((l.s : Rat) * (z l.b - z l.a)) else 0) := fun i => by
  unfold flowAt
  by_cases c : i = l.a <;> by_cases d : i = l.b <;> simp only [c, d, if_true, if_false] <;> grind
 rw [sm_congr fun i _ => e i, sm_add]
 rw [sm_one (f := fun i => if i = l.a then z l.a * ((l.s : Rat) * (z l.a - z l.b)) else 0) ha fun c _ ne => if_neg ne, sm_one (f := fun i => if i = l.b then z l.b * ((l.s : Rat) * (z l.b - z l.a)) else 0) hb fun c _ ne => if_neg ne]
 rw [if_pos rfl, if_pos rfl]
 grind
theorem flat_zero {n : Nat} {ls : List Ln} {z : Nat → Rat} (ok : ∀ l ∈ ls, LnOk n l) (cn : Conn n (edges ls)) (z0 : z 0 = 0) (h : ∀ i, 1 ≤ i → i < n → outAt ls z i = 0) : ∀ v, v < n → z v = 0 := by
 have e1 : sm n (fun i => z i * outAt ls z i) = 0 := by
  rw [← sm_zero n]
  refine sm_congr fun i hi => ?_
  by_cases c : i = 0
  ·rw [c, z0]; grind
  ·rw [h i (by omega) hi]; grind
 have e2 : sm n (fun i => z i * outAt ls z i) = lsum (fun l : Ln => (l.s : Rat) * ((z l.a - z l.b) * (z l.a - z l.b))) ls := by
  unfold outAt
  rw [sm_congr (g := fun i => lsum (fun l => z i * flowAt z l i) ls) fun i _ => (lsum_mul _ _ _).symm, sm_swap2 (fun i l => z i * flowAt z l i)]
  exact lsum_congr fun l hl => sm_flow (ok l hl).a (ok l hl).b
 rw [e2] at e1
 have sq : ∀ x : Rat, 0 ≤ x * x := fun x => by
  by_cases c : 0 ≤ x
  ·exact Rat.mul_nonneg c c
  ·have : 0 ≤ -x := by grind
   have := Rat.mul_nonneg this this
   grind
 have nz := lsum_zero_of (fun l hl => Rat.mul_nonneg (by exact_mod_cast Nat.zero_le l.s) (sq _)) e1
 refine cn (fun v => z v = 0) z0 fun e he => ?_
 obtain ⟨l, hl, rfl⟩ := List.mem_map.mp he
 have s1 := (ok l hl).s.1
 have q := nz l hl
 have sp : (l.s : Rat) ≠ 0 := fun w => by
  have : l.s = 0 := by exact_mod_cast w
  omega
 have d : z l.a - z l.b = 0 := by
  have := Rat.mul_eq_zero.mp q
  rcases this with w | w
  ·exact absurd w sp
  ·rcases Rat.mul_eq_zero.mp w with w | w <;> exact w
 show z l.a = 0 ↔ z l.b = 0
 constructor <;> intro w <;> grind
noncomputable abbrev refsW (ps : List Addr) : List W := ps.map W.ref
noncomputable abbrev intsW (xs : List Int) : List W := xs.map W.int
structure Nst (G : Gp) (ps : List Addr) (rs : List (List Int)) (G1 : Gp) : Prop where
 nd : ps.Nodup
 len : rs.length = ps.length
 here : ∀ i (h : i < ps.length), G1 ps[i] = some (.lst (intsW (rs.getD i [])))
 out : ∀ q, q ∉ ps → G1 q = G q
 new : ∀ p ∈ ps, G p = none
theorem Nst.nil {G : Gp} : Nst G [] [] G := ⟨List.nodup_nil, rfl, fun i h => absurd h (by simp), fun _ _ => rfl, fun _ h => by cases h⟩
theorem Nst.some {G G1 : Gp} {ps : List Addr} {rs : List (List Int)} (h : Nst G ps rs G1) {p : Addr} (hp : p ∈ ps) : G1 p ≠ none := by
 obtain ⟨i, hi, rfl⟩ := List.getElem_of_mem hp
 rw [h.here i hi]; simp
theorem Nst.push {G G1 : Gp} {ps : List Addr} {rs : List (List Int)} (h : Nst G ps rs G1) {p : Addr} (n : G1 p = none) (r : List Int) : Nst G (ps ++ [p]) (rs ++ [r]) (gup G1 p (.lst (intsW r))) := by
 have np : p ∉ ps := fun z => h.some z n
 refine ⟨?_, by rw [List.length_append, List.length_append, h.len]; rfl, fun i hi => ?_, fun q hq => ?_, fun q hq => ?_⟩
 ·rw [List.nodup_append]
  refine ⟨h.nd, by simp, fun a ha b hb z => ?_⟩
  rw [List.mem_singleton] at hb
  exact np (by rw [← hb, ← z]; exact ha)
 ·rw [List.length_append, List.length_singleton] at hi
  by_cases c : i < ps.length
  ·rw [List.getElem_append_left c, gup_ne (fun z => np (by rw [← z]; exact List.getElem_mem c)), h.here i c]
   have : i < rs.length := by rw [h.len]; exact c
   simp [List.getD_eq_getElem?_getD, List.getElem?_append_left this]
  ·have e : i = ps.length := by omega
   subst e
   have e2 : (rs ++ [r]).getD ps.length [] = r := by rw [← h.len]; simp [List.getD_eq_getElem?_getD]
   rw [e2, List.getElem_concat_length rfl, gup_same]
 ·have : q ≠ p := fun z => hq (List.mem_append.mpr (.inr (by simp [z])))
  rw [gup_ne this]
  exact h.out q fun z => hq (List.mem_append.mpr (.inl z))
 ·rcases List.mem_append.mp hq with hq | hq
  ·exact h.new q hq
  ·rw [List.mem_singleton.mp hq, ← h.out p np]; exact n
theorem Nst.set {G G1 : Gp} {ps : List Addr} {rs : List (List Int)} (h : Nst G ps rs G1) {i : Nat} (hi : i < ps.length) (r : List Int) : Nst G ps (rs.set i r) (gup G1 ps[i] (.lst (intsW r))) := by
 refine ⟨h.nd, by rw [List.length_set]; exact h.len, fun j hj => ?_, fun q hq => ?_, h.new⟩
 ·by_cases c : j = i
  ·subst c
   rw [gup_same]
   have : j < rs.length := by rw [h.len]; exact hi
   simp [List.getD_eq_getElem?_getD, this]
  ·have ne : ps[j] ≠ ps[i] := fun z => by
    have pw := List.pairwise_iff_getElem.mp h.nd
    rcases Nat.lt_or_gt_of_ne c with l | l
    ·exact pw j i hj hi l z
    ·exact pw i j hi hj l z.symm
   rw [gup_ne ne, h.here j hj]
   simp [List.getD_eq_getElem?_getD, List.getElem?_set, Ne.symm c]
 ·rw [gup_ne (fun z => hq (by rw [z]; exact List.getElem_mem hi))]
  exact h.out q hq
theorem Nst.fz {G : Gp} : ∀ {ps : List Addr} {rs : List (List Int)} {G1 : Gp} {R : List W → Gp → Prop}, Nst G ps rs G1 → R (rs.map fun r => .lst (intsW r)) G → fzL (refsW ps) G1 R
 | [], [], G1, R, h, t => by
  have e : G1 = G := by funext q; exact h.out q (by simp)
  show R [] G1
  rw [e]; exact t
 | [], _ :: _, G1, R, h, _ => by have := h.len; simp at this
 | _ :: _, [], G1, R, h, _ => by have := h.len; simp at this
 | p :: ps, r :: rs, G1, R, h, t => by
  have e : G1 p = _ := h.here 0 (by simp)
  show isG (G1 p) fun us => fzL (refsW ps) (gdel G1 p) fun zs G' => R (.lst us :: zs) G'
  rw [e]
  show fzL (refsW ps) (gdel G1 p) fun zs G' => R (.lst (intsW r) :: zs) G'
  have nd := List.nodup_cons.mp h.nd
  refine Nst.fz (rs := rs) (R := fun zs G' => R (.lst (intsW r) :: zs) G') ⟨nd.2, by have := h.len; simpa using this, fun i hi => ?_, fun q hq => ?_, fun q hq => h.new q (.tail _ hq)⟩ t
  ·have := h.here (i + 1) (by simpa using hi)
   rw [gdel_ne (fun z => nd.1 (by rw [← z]; exact List.getElem_mem hi))]
   simpa using this
  ·by_cases c : q = p
   ·rw [c, gdel_same]; exact (h.new p (.head _)).symm
   ·rw [gdel_ne c]; exact h.out q (by simp [c, hq])
noncomputable def rowL (n : Nat) (f : Nat → Int) : List Int := (List.range n).map f
noncomputable def tabL (n : Nat) (M : Nat → Nat → Int) : List (List Int) := (List.range n).map fun i => rowL n (M i)
noncomputable def upd2 (M : Nat → Nat → Int) (a b : Nat) (v : Int) : Nat → Nat → Int := fun i j => if i = a ∧ j = b then v else M i j
theorem tabL_get {n i : Nat} {M : Nat → Nat → Int} (hi : i < n) : (tabL n M).getD i [] = rowL n (M i) := by
 unfold tabL; simp [List.getD_eq_getElem?_getD, hi]
theorem rowL_set {n i j : Nat} {M : Nat → Nat → Int} {v : Int} : (rowL n (M i)).set j v = rowL n (upd2 M i j v i) := by
 unfold rowL
 refine List.ext_getElem (by simp) fun k h1 h2 => ?_
 simp only [List.getElem_set, List.getElem_map, List.getElem_range, upd2, true_and]
 by_cases c : j = k
 ·rw [if_pos c, if_pos c.symm]
 ·rw [if_neg c, if_neg (Ne.symm c)]
theorem tabL_set {n i j : Nat} {M : Nat → Nat → Int} {v : Int} : (tabL n M).set i ((rowL n (M i)).set j v) = tabL n (upd2 M i j v) := by
 rw [rowL_set]
 unfold tabL
 refine List.ext_getElem (by simp) fun k h1 h2 => ?_
 simp only [List.getElem_set, List.getElem_map, List.getElem_range]
 by_cases c : i = k
 ·rw [if_pos c, c]
 ·rw [if_neg c]
  unfold rowL
  refine List.map_congr_left fun q _ => ?_
  unfold upd2
  rw [if_neg (fun z => c z.1.symm)]
theorem map_set' {α β : Type} (f : α → β) (xs : List α) (j : Nat) (v : α) : (xs.map f).set j (f v) = (xs.set j v).map f := by rw [List.map_set]
noncomputable def ind (i a : Nat) : Int := if i = a then 1 else 0
noncomputable def lapZ (l : Ln) (i j : Nat) : Int := (l.s : Int) * ((ind i l.a - ind i l.b) * (ind j l.a - ind j l.b))
noncomputable def lapI (ls : List Ln) (i j : Nat) : Int := (ls.map fun l => lapZ l i j).sum
theorem lapI_append (xs ys : List Ln) (i j : Nat) : lapI (xs ++ ys) i j = lapI xs i j + lapI ys i j := by unfold lapI; rw [List.map_append, List.sum_append]
theorem sm_shift (f : Nat → Rat) : ∀ n, sm (n + 1) f = f 0 + sm n (fun c => f (c + 1))
 | 0 => by show (0 : Rat) + f 0 = f 0 + 0; grind
 | n + 1 => by rw [sm_succ, sm_shift f n, sm_succ]; grind
theorem ind_sm {n a : Nat} (ha : a < n) (f : Nat → Rat) : sm n (fun j => ((ind j a : Int) : Rat) * f j) = f a := by
 rw [sm_one ha fun c hc ne => by unfold ind; rw [if_neg ne]; grind]
 unfold ind
 rw [if_pos rfl]; grind
theorem ind_cast (i a : Nat) : ((ind i a : Int) : Rat) = if i = a then 1 else 0 := by
 unfold ind
 split <;> rfl
theorem lap_flow {n : Nat} {l : Ln} (ha : l.a < n) (hb : l.b < n) (z : Nat → Rat) (i : Nat) : sm n (fun j => ((lapZ l i j : Int) : Rat) * z j) = flowAt z l i := by
 have e : ∀ j, ((lapZ l i j : Int) : Rat) * z j = ((l.s : Int) : Rat) * (((ind i l.a : Int) : Rat) - ((ind i l.b : Int) : Rat)) * (((ind j l.a : Int) : Rat) * z j - 1 * (((ind j l.b : Int) : Rat) * z j)) := fun j => by
  unfold lapZ
  rw [Rat.intCast_mul, Rat.intCast_mul, Rat.intCast_sub, Rat.intCast_sub]
  grind
 rw [sm_congr fun j _ => e j]
 rw [sm_mul, sm_sub, ind_sm ha, ind_sm hb, ind_cast, ind_cast, Rat.intCast_natCast]
 unfold flowAt
 clear e
 split <;> split <;> grind
theorem lap_out {n : Nat} {ls : List Ln} (ok : ∀ l ∈ ls, LnOk n l) (z : Nat → Rat) (i : Nat) : sm n (fun j => ((lapI ls i j : Int) : Rat) * z j) = outAt ls z i := by
 induction ls with
 | nil =>
  show sm n (fun j => ((0 : Int) : Rat) * z j) = 0
  rw [← sm_zero n]
  exact sm_congr fun j _ => by grind
 | cons l ls ih =>
  show _ = flowAt z l i + outAt ls z i
  rw [← ih fun l m => ok l (.tail _ m), ← lap_flow (ok l (.head _)).a (ok l (.head _)).b z i, ← sm_add]
  refine sm_congr fun j _ => ?_
  have : lapI (l :: ls) i j = lapZ l i j + lapI ls i j := by unfold lapI; rw [List.map_cons, List.sum_cons]
  rw [this, Rat.intCast_add]
  grind
theorem flow_sum {n : Nat} {l : Ln} (ha : l.a < n) (hb : l.b < n) (z : Nat → Rat) : sm n (fun i => flowAt z l i) = 0 := by
 unfold flowAt
 rw [sm_add]
 rw [sm_one (f := fun i => if i = l.a then (l.s : Rat) * (z l.a - z l.b) else 0) ha fun c _ ne => if_neg ne, sm_one (f := fun i => if i = l.b then (l.s : Rat) * (z l.b - z l.a) else 0) hb fun c _ ne => if_neg ne]
 rw [if_pos rfl, if_pos rfl]
 grind
theorem out_sum {n : Nat} {ls : List Ln} (ok : ∀ l ∈ ls, LnOk n l) (z : Nat → Rat) : sm n (fun i => outAt ls z i) = 0 := by
 unfold outAt
 rw [sm_swap2 (fun i l => flowAt z l i)]
 rw [lsum_congr (g := fun _ => 0) fun l hl => flow_sum (ok l hl).a (ok l hl).b z]
 generalize ls = xs
 induction xs with
 | nil => rfl
 | cons x xs ih => show (0 : Rat) + lsum _ xs = 0; rw [ih]; grind
structure IsH (n : Nat) (ls : List Ln) (x h : List Rat) : Prop where
 len : h.length = n
 zero : h.getD 0 0 = 0
 out : ∀ i, i < n → outAt ls (fun v => h.getD v 0) i = x.getD i 0
theorem lsum_getD (x : List Rat) : ∀ n, x.length = n → lsum (fun q => q) x = sm n (fun i => x.getD i 0) := by
 induction x with
 | nil => intro n h; rw [← h]; rfl
 | cons q x ih =>
  intro n h
  rw [List.length_cons] at h
  subst h
  rw [sm_shift]
  show q + lsum _ x = _
  rw [ih x.length rfl]
  rfl
noncomputable def lapT (n : Nat) (ls : List Ln) : List (List Rat) := (List.range (n - 1)).map fun i => (List.range (n - 1)).map fun c => ((lapI ls (i + 1) (c + 1) : Int) : Rat)
theorem lapT_ent {n : Nat} {ls : List Ln} {i c : Nat} (hi : i < n - 1) (hc : c < n - 1) : ent (lapT n ls) i c = ((lapI ls (i + 1) (c + 1) : Int) : Rat) := by
 unfold ent lapT
 simp [List.getD_eq_getElem?_getD, hi, hc]
theorem lap_row {m : Nat} {ls : List Ln} (ok : ∀ l ∈ ls, LnOk (m + 1) l) (y : Nat → Rat) {i : Nat} (hi : i < m) : sm m (fun c => ent (lapT (m + 1) ls) i c * y c) = outAt ls (fun v => if v = 0 then 0 else y (v - 1)) (i + 1) := by
 rw [← lap_out ok, sm_shift, if_pos rfl]
 rw [show ((lapI ls (i + 1) 0 : Int) : Rat) * 0 = 0 by grind]
 have : sm m (fun c => ent (lapT (m + 1) ls) i c * y c) = sm m (fun c => ((lapI ls (i + 1) (c + 1) : Int) : Rat) * (if c + 1 = 0 then 0 else y (c + 1 - 1))) := sm_congr fun c hc => by
  rw [lapT_ent (by omega) (by omega), if_neg (by omega)]
  rfl
 rw [this]
 grind
theorem lap_ns {m : Nat} {ls : List Ln} (net : Net (m + 1) ls) : Nonsing m (ent (lapT (m + 1) ls)) := fun y h c hc => by
 have := flat_zero (z := fun v => if v = 0 then 0 else y (v - 1)) net.ok net.conn (if_pos rfl) (fun i h1 hi => by
  have := h (i - 1) (by omega)
  rw [lap_row net.ok y (by omega)] at this
  rw [show i - 1 + 1 = i by omega] at this
  exact this) (c + 1) (by omega)
 simpa using this
theorem isH_of {m : Nat} {ls : List Ln} {x p : List Rat} (net : Net (m + 1) ls) (lp : p.length = m + 1) (bal : lsum (fun q => q) p = 0) (lx : x.length = m)
  (s : ∀ i, i < m → sm m (fun c => ent (lapT (m + 1) ls) i c * x.getD c 0) = (p.drop 1).getD i 0) : IsH (m + 1) ls p (0 :: x) := by
 have e0 : (fun v => (0 :: x : List Rat).getD v 0) = fun v => if v = 0 then 0 else x.getD (v - 1) 0 := by
  funext v
  cases v with
  | zero => rfl
  | succ v => simp
 have pos : ∀ i, i < m → outAt ls (fun v => (0 :: x : List Rat).getD v 0) (i + 1) = p.getD (i + 1) 0 := fun i hi => by
  rw [e0, ← lap_row net.ok (fun c => x.getD c 0) hi, s i hi]
  simp [List.getD_eq_getElem?_getD, Nat.add_comm]
 refine ⟨by rw [List.length_cons, lx], rfl, fun i hi => ?_⟩
 cases i with
 | succ i => exact pos i (by omega)
 | zero =>
  have e1 := out_sum net.ok (fun v => (0 :: x : List Rat).getD v 0)
  rw [sm_shift] at e1
  rw [lsum_getD p (m + 1) lp, sm_shift] at bal
  rw [sm_congr fun c hc => pos c hc] at e1
  grind
theorem sz_int {k : Int} {b : Nat} (h : k.natAbs < 2 ^ b) (hb : 0 < b) : sz b (k : Rat) := ⟨h, Nat.one_lt_two_pow (by omega)⟩
theorem lapZ_le {l : Ln} {n i j : Nat} (h : LnOk n l) : (lapZ l i j).natAbs ≤ 9 := by
 have h9 := h.s.2
 have a1 := h.s.1
 unfold lapZ ind
 split <;> split <;> split <;> split <;> simp <;> omega
theorem lapI_le {ls : List Ln} {n i j : Nat} (h : ∀ l ∈ ls, LnOk n l) : (lapI ls i j).natAbs ≤ 9 * ls.length := by
 induction ls with
 | nil => simp [lapI]
 | cons l ls ih =>
  have a := ih fun l m => h l (.tail _ m)
  have b := lapZ_le (i := i) (j := j) (h l (.head _))
  have : lapI (l :: ls) i j = lapZ l i j + lapI ls i j := by unfold lapI; rw [List.map_cons, List.sum_cons]
  rw [this, List.length_cons]
  omega
noncomputable def hB (b : Nat) : Nat := 64 * b + 405
noncomputable def sB (b : Nat) : Nat := 128 * b + 815
noncomputable def unitN (n a b : Nat) : List Rat := (List.range n).map fun i => ((ind i a - ind i b : Int) : Rat)
theorem unitN_get {n a b i : Nat} (hi : i < n) : (unitN n a b).getD i 0 = ((ind i a : Int) : Rat) - ((ind i b : Int) : Rat) := by
 unfold unitN; simp [List.getD_eq_getElem?_getD, hi, Rat.intCast_sub]
theorem unitN_len {n a b : Nat} : (unitN n a b).length = n := by simp [unitN]
theorem unitN_sz {n a b : Nat} : ∀ q ∈ unitN n a b, sz 1 q := fun q hq => by
 obtain ⟨i, _, rfl⟩ := List.mem_map.mp hq
 refine sz_int ?_ (by decide)
 unfold ind; split <;> split <;> decide
theorem unitN_bal {n a b : Nat} (ha : a < n) (hb : b < n) : lsum (fun q => q) (unitN n a b) = 0 := by
 rw [lsum_getD _ n unitN_len, sm_congr fun i hi => unitN_get hi]
 have e : sm n (fun i => ((ind i a : Int) : Rat) - ((ind i b : Int) : Rat)) = sm n (fun i => ((ind i a : Int) : Rat) * 1 - 1 * (((ind i b : Int) : Rat) * 1)) := sm_congr fun i _ => by grind
 rw [e, sm_sub, ind_sm ha (fun _ => 1), ind_sm hb (fun _ => 1)]
 grind
noncomputable def lB (b : Nat) : Nat := 256 * b + 4000
local macro_rules | `(tactic| k_upd) => `(tactic| walk_at "Wd99f42001e1006bd6bd6bd600000000000000effff3c700000040087e00")
noncomputable def dueL (n : Nat) (ls : List Ln) : List Nat := (List.range ls.length).filter fun k => connB n (edges (dropL ls k))
theorem drop_mem {ls : List Ln} {k : Nat} {l : Ln} (h : l ∈ dropL ls k) : l ∈ ls := by
 rcases List.mem_append.mp h with h | h
 ·exact List.mem_of_mem_take h
 ·exact List.mem_of_mem_drop h
theorem drop_len {ls : List Ln} {k : Nat} (h : k < ls.length) : (dropL ls k).length + 1 = ls.length := by
 unfold dropL
 rw [List.length_append, List.length_take, List.length_drop]
 omega
theorem drop_len' {ls : List Ln} {k : Nat} : (dropL ls k).length ≤ ls.length := by
 unfold dropL
 rw [List.length_append, List.length_take, List.length_drop]
 omega
theorem due_mem {n k : Nat} {ls : List Ln} (h : k ∈ dueL n ls) : k < ls.length ∧ connB n (edges (dropL ls k)) = true := by
 unfold dueL at h
 rw [List.mem_filter, List.mem_range] at h
 exact h
theorem net_drop {n k : Nat} {ls : List Ln} (h : Net n ls) (m : k ∈ dueL n ls) : Net n (dropL ls k) :=
 ⟨h.n1, h.n4, Nat.le_trans drop_len' h.few, fun l hl => h.ok l (drop_mem hl), connB_iff.mp (due_mem m).2⟩
theorem cut_lines {ls : List Ln} {k : Nat} (h : k < ls.length) : cutW (linesW ls) none (some ((k : Nat) : Int)) ++ cutW (linesW ls) (some (((k + 1 : Nat)) : Int)) none = linesW (dropL ls k) := by
 rw [cut_to _ _ (by omega), cut_from _ _ (by omega), ← List.map_append]
 rfl
theorem lnOf_line (l : Ln) : lnOf (lineW l) = l := rfl
theorem line_ok {n : Nat} {l : Ln} (h : LnOk n l) : lineB n (lineW l) = true := by
 have h1 := h.a
 have h2 := h.b
 have h3 := h.ne
 have h4 := h.s
 have h5 := h.m
 show (fromB _ _ _ && (fromB _ _ _ && (!intEqB _ _ && (fromB _ _ _ && fromB _ _ _)))) = true
 simp only [fromB, intEqB, Bool.and_eq_true, decide_eq_true_eq, Bool.not_eq_true', decide_eq_false_iff_not]
 omega
theorem net_ok {n : Nat} {ls : List Ln} (h : Net n ls) : netB (netW n ls) = true := by
 have e : (linesW ls).map lnOf = ls := by rw [List.map_map]; simp [Function.comp_def, lnOf_line]
 show (fromB _ 1 4 && (decide ((linesW ls).length ≤ 6) && ((linesW ls).all (lineB n) && connB n (edges ((linesW ls).map lnOf))))) = true
 rw [e, connB_iff.mpr h.conn, decide_eq_true (show (linesW ls).length ≤ 6 by rw [List.length_map]; exact h.few)]
 have h1 := h.n1
 have h4 := h.n4
 have a : (linesW ls).all (lineB n) = true := List.all_eq_true.mpr fun w hw => by
  obtain ⟨l, hl, rfl⟩ := List.mem_map.mp hw
  exact line_ok (h.ok l hl)
 rw [a]
 simp [fromB]
 omega
theorem due_len {n : Nat} {ls : List Ln} : (dueL n ls).length ≤ ls.length := by
 unfold dueL
 exact Nat.le_trans (List.length_filter_le _ _) (by rw [List.length_range]; exact Nat.le_refl _)
noncomputable def sp_left_lines : Spw := fun ws G Q _ => ∃ n ls k, ws = [netW n ls, .int ((k : Nat) : Int)] ∧ k < ls.length ∧ ls.length ≤ 1000 ∧ Q (.tup (linesW (dropL ls k))) G
theorem len_left_lines (ws G Q E) (h : sp_left_lines ws G Q E) : ws.length = 2 := by obtain ⟨_, _, _, rfl, _⟩ := h; rfl
noncomputable def t_left_lines : TSw := (wRet (wOp wAdd (wSlice (wOp wIx (wVar 0) (wC (.int 1))) wpNone (wpSome (wVar 1))) (wSlice (wOp wIx (wVar 0) (wC (.int 1))) (wpSome (wOp wAdd (wVar 1) (wC (.int 1)))) wpNone)))
theorem rd_left_lines (ws : List W) (G : Gp) (Q : QW) (E) (h : sp_left_lines ws G Q E) : t_left_lines { nx := fun _ G' => Q .non G', rt := Cl Q } (startW ["net", "line"] ws) G := by
 obtain ⟨n, ls, k, rfl, hk, few, q⟩ := h
 show t_left_lines _ [some (netW n ls), some (.int k)] G
 have big : 1000 < sizeLine := by decide
 have l1 := congrArg List.length (cut_lines hk)
 rw [List.length_append, List.length_map] at l1
 have l2 := drop_len hk
 unfold t_left_lines
 k_upd
 rw [show ((k : Nat) : Int) + 1 = ((k + 1 : Nat) : Int) by omega, cut_lines hk]
 exact ⟨by omega, .inl q⟩
noncomputable def sp_losable : Spw := fun ws G Q _ => ∃ n ls, ws = [netW n ls] ∧ Net n ls ∧ tellL (natsW (dueL n ls)) Q G
theorem len_losable (ws G Q E) (h : sp_losable ws G Q E) : ws.length = 1 := by obtain ⟨_, _, rfl, _⟩ := h; rfl
noncomputable def t_losable : TSw := (wRet (wLcM [1] (iR1 (wCons (wCB wLen (wCons (wOp wIx (wVar 0) (wC (.int 1))) wNil)) wNil)) (gN 1) (wTest (wCall sp_hangs_together (wCons (wOp wIx (wVar 0) (wC (.int 0))) (wCons (wCall sp_left_lines (wCons (wVar 0) (wCons (wVar 1) wNil))) wNil)))) (wVar 1)))
theorem rd_losable (ws : List W) (G : Gp) (Q : QW) (E) (h : sp_losable ws G Q E) : t_losable { nx := fun _ G' => Q .non G', rt := Cl Q } (startW ["net", "k"] ws) G := by
 obtain ⟨n, ls, rfl, net, q⟩ := h
 show t_losable _ [some (netW n ls), none] G
 have big : 1000 < sizeLine := by decide
 have few := net.few
 unfold t_losable
 k_upd
 rw [show ((ls.length : Nat) : Int).toNat = ls.length by omega]
 refine ⟨by omega, by omega, by omega, ?_⟩
 refine lcW_filterA (fun k : Nat => W.int (0 + (k : Int))) (fun k => .int ((k : Nat) : Int)) (fun k => connB n (edges (dropL ls k))) _ _ _ ?_ ?_
 ·intro k hk R P hR hP
  rw [List.mem_range] at hk
  rw [Int.zero_add]
  k_upd
  refine ⟨n, ls, k, rfl, hk, by omega, ?_⟩
  k_upd
  refine ⟨n, _, dropL ls k, rfl, .inl rfl, net.n1, by have := net.n4; omega, fun l hl => net.ok l (drop_mem hl), ?_⟩
  k_upd
  cases c : connB n (edges (dropL ls k)) with
  | true => rw [if_pos rfl]; exact hR c
  | false => rw [if_neg (by decide)]; exact hP c
 ·intro p hp
  exact q.cl hp
noncomputable def sp_without : Spw := fun ws G Q _ => ∃ n ls k, ws = [netW n ls, .int ((k : Nat) : Int)] ∧ Net n ls ∧ k ∈ dueL n ls ∧ Q (netW n (dropL ls k)) G
theorem len_without (ws G Q E) (h : sp_without ws G Q E) : ws.length = 2 := by obtain ⟨_, _, _, rfl, _⟩ := h; rfl
noncomputable def t_without : TSw := (wSeq (wIfS (wNot (wTest (wCall sp_is_from (wCons (wVar 1) (wCons (wC (.int 0)) (wCons (wOp wSub (wCB wLen (wCons (wOp wIx (wVar 0) (wC (.int 1))) wNil)) (wC (.int 1))) wNil)))))) wNever wNext)
  (wSeq (wIfS (wNot (wTest (wCall sp_hangs_together (wCons (wOp wIx (wVar 0) (wC (.int 0))) (wCons (wCall sp_left_lines (wCons (wVar 0) (wCons (wVar 1) wNil))) wNil))))) wNever wNext)
  (wRet (wTup (wCons (wOp wIx (wVar 0) (wC (.int 0))) (wCons (wCall sp_left_lines (wCons (wVar 0) (wCons (wVar 1) wNil))) wNil))))))
theorem rd_without (ws : List W) (G : Gp) (Q : QW) (E) (h : sp_without ws G Q E) : t_without { nx := fun _ G' => Q .non G', rt := Cl Q } (startW ["net", "line"] ws) G := by
 obtain ⟨n, ls, k, rfl, net, hk, q⟩ := h
 show t_without _ [some (netW n ls), some (.int k)] G
 obtain ⟨hk1, hk2⟩ := due_mem hk
 have few := net.few
 unfold t_without
 k_upd
 refine ⟨.int k, 0, _, rfl, rfl, ?_⟩
 have e : fromB (.int k) 0 (((ls.length : Nat) : Int) - 1) = true := by simp [fromB]; omega
 rw [e]
 k_upd
 refine ⟨n, ls, k, rfl, hk1, by omega, ?_⟩
 k_upd
 refine ⟨n, _, dropL ls k, rfl, .inl rfl, net.n1, by have := net.n4; omega, fun l hl => net.ok l (drop_mem hl), ?_⟩
 rw [hk2]
 k_upd
 exact ⟨n, ls, k, rfl, hk1, by omega, by decide, .inl q⟩
theorem TL.cl {Q : QW} {G : Gp} {p : Addr} {ws : List W} (n : G p = none) (h : Q (.lst ws) G) : Cl Q (.ref p) (gup G p (.lst ws)) := (show tellL ws Q G from .inl h).cl n
noncomputable def BagUp (p : Addr) (G G' : Gp) : Prop := ∃ c x, G' = gup G p (bagO c x) ∧ 0 ≤ c ∧ 0 ≤ x ∧ x < 2147483648
theorem BagUp.at {p : Addr} {G G' : Gp} (h : BagUp p G G') : BagAt p G' := by
 obtain ⟨c, x, rfl, r⟩ := h
 exact ⟨c, x, gup_same, r⟩
theorem BagUp.ne {p q : Addr} {G G' : Gp} (h : BagUp p G G') (ne : q ≠ p) : G' q = G q := by
 obtain ⟨c, x, rfl, r⟩ := h
 exact gup_ne ne
theorem BagUp.refl {p : Addr} {G : Gp} (h : BagAt p G) : BagUp p G G := by
 obtain ⟨c, x, g, r⟩ := h
 exact ⟨c, x, (gup_self g).symm, r⟩
theorem BagUp.trans {p : Addr} {G G' G'' : Gp} (h : BagUp p G G') (h' : BagUp p G' G'') : BagUp p G G'' := by
 obtain ⟨c, x, rfl, r⟩ := h
 obtain ⟨c', x', rfl, r'⟩ := h'
 exact ⟨c', x', gup_gup, r'⟩
theorem take_up {p : Addr} {m : Int} {G : Gp} {Q : QW} {E} (h : BagAt p G) (hm : 0 < m) (q : ∀ (d : Nat) G', (d : Int) < m → BagUp p G G' → Q (.int ((d : Nat) : Int)) G') : sp_ztake [.ref p, .int m] G Q E := by
 obtain ⟨c, x, g, hc, hx, hx2⟩ := h
 refine ⟨p, m, c, x, rfl, g, hc, hx, hx2, hm, fun d c' x' d0 d1 hc' hx' hx2' => ?_⟩
 obtain ⟨k, rfl⟩ : ∃ k : Nat, d = (k : Int) := ⟨d.toNat, by omega⟩
 exact q k _ d1 ⟨c', x', rfl, hc', hx', hx2'⟩
theorem bag_up {ns : List Int} {k : Int} {G : Gp} {Q : QW} {E} (hl : ns.length ≤ 63) (h0 : 0 ≤ k) (h1 : k < 1000) (q : ∀ p G', G p = none → BagAt p G' → (∀ r, r ≠ p → G' r = G r) → Q (.ref p) G') : sp_zbag [.scr (ns.map W.int), .int k] G Q E :=
 ⟨ns, k, rfl, hl, h0, h1, fun p c x hp hc hx hx2 => q p _ hp ⟨c, x, gup_same, hc, hx, hx2⟩ fun r hr => gup_ne hr⟩
theorem isS_at {l : List W} {d : Nat} {P : W → Prop} (h : d < l.length) (q : ∀ w ∈ l, P w) : isS (L2.atI l ((d : Nat) : Int)) P := by
 rw [L2.atI_nat (List.getElem?_eq_getElem h)]
 exact q _ (List.getElem_mem h)
local macro_rules | `(tactic| k_upd) => `(tactic| walk_at "Wff9f740a310006bd6bd6bd60000bd6bd6bd63effff708d15e7cf0070a10")
structure Wk where
 p : Nat
 least : Nat
 keep : Nat
 pieces : List (Nat × Nat)
 start : Nat
 e1 : Nat
 e2 : Nat
 on : Bool
noncomputable abbrev pieceW (v : Nat × Nat) : W := .tup [.int ((v.1 : Nat) : Int), .int ((v.2 : Nat) : Int)]
noncomputable abbrev workW (k : Wk) : W := .tup [.int ((k.p : Nat) : Int), .int ((k.least : Nat) : Int), .int ((k.keep : Nat) : Int), .tup (k.pieces.map fun v => pieceW v), .int ((k.start : Nat) : Int), .int ((k.e1 : Nat) : Int), .int ((k.e2 : Nat) : Int), .bl k.on]
structure WkOk (n : Nat) (k : Wk) : Prop where
 p : k.p < n
 least : k.least ≤ 20
 keep : k.keep ≤ 99
 few : 1 ≤ k.pieces.length ∧ k.pieces.length ≤ 2
 pieces : ∀ v ∈ k.pieces, 1 ≤ v.1 ∧ v.1 ≤ 20 ∧ v.2 ≤ 99
 start : k.start ≤ 99
 e1 : k.e1 = 1 ∨ k.e1 = 2
 e2 : k.e2 = 1 ∨ k.e2 = 2
 ord : (k.pieces.headD (0, 0)).2 ≤ (k.pieces.getLastD (0, 0)).2
structure Sto where
 p : Nat
 top : Nat
 lev : Nat
 taken : Nat
 given : Nat
noncomputable abbrev stoW (s : Sto) : W := .tup [.int ((s.p : Nat) : Int), .int ((s.top : Nat) : Int), .int ((s.lev : Nat) : Int), .int ((s.taken : Nat) : Int), .int ((s.given : Nat) : Int)]
noncomputable def storeW : Option Sto → W
 | none => .non
 | some s => stoW s
structure StoOk (n : Nat) (s : Sto) : Prop where
 p : s.p < n
 top : 1 ≤ s.top ∧ s.top ≤ 2
 lev : s.lev ≤ s.top
 taken : 1 ≤ s.taken ∧ s.taken ≤ 20
 given : s.given ≤ s.taken
noncomputable abbrev Wnt := Nat × Nat × Nat
noncomputable abbrev wantW (v : Wnt) : W := .tup [.int ((v.1 : Nat) : Int), .int ((v.2.1 : Nat) : Int), .int ((v.2.2 : Nat) : Int)]
noncomputable def WntOk (n : Nat) (v : Wnt) : Prop := v.1 < n ∧ v.2.1 ≤ 30 ∧ v.2.2 ≤ 100
noncomputable abbrev wantsW (vs : List Wnt) : W := .tup (vs.map fun v => wantW v)
structure House (n : Nat) (ls : List Ln) (ks : List Wk) (s : Option Sto) (hs : List (List Wnt)) : Prop where
 net : Net n ls
 works : ∀ k ∈ ks, WkOk n k
 store : ∀ t, s = some t → StoOk n t
 wants : ∀ vs ∈ hs, vs.length ≤ 3 ∧ ∀ v ∈ vs, WntOk n v
 few : ks.length ≤ 3 ∧ 1 ≤ hs.length ∧ hs.length ≤ 3
noncomputable abbrev houseW (n : Nat) (ls : List Ln) (ks : List Wk) (s : Option Sto) (hs : List (List Wnt)) : W := .tup [netW n ls, .tup (ks.map fun k => workW k), storeW s, .tup (hs.map fun vs => wantsW vs)]
theorem bag_over {p t : Addr} {G G2 : Gp} {o : GO} (pt : p ≠ t) (u : BagUp p (gup G t o) G2) : ∃ G', BagUp p G G' ∧ G2 = gup G' t o := by
 obtain ⟨c, x, rfl, r⟩ := u
 refine ⟨gup G p (bagO c x), ⟨c, x, rfl, r⟩, ?_⟩
 funext q
 unfold gup
 by_cases h1 : q = p
 ·subst h1; simp [pt]
 ·simp [h1]
theorem isS_nat {l : List W} {d : Nat} {P : W → Prop} {ms : List Nat} (e : l = ms.map fun m => W.int ((m : Nat) : Int)) (h : d < l.length) (q : ∀ m ∈ ms, P (.int ((m : Nat) : Int))) : isS (L2.atI l ((d : Nat) : Int)) P :=
 isS_at h fun w hw => by
  rw [e] at hw
  obtain ⟨m, hm, rfl⟩ := List.mem_map.mp hw
  exact q m hm
theorem lcW_ix {gw : TGw} {te : TEw} {σ : SW} (P : Nat → List W → Gp → Prop) : ∀ (items : List W) (k : Nat) (acc : List W) (G : Gp) (Q : List W → Gp → Prop), P k acc G →
  (∀ i w, items[i]? = some w → ∀ acc G (N : QW), P (k + i) acc G → (∀ y G', P (k + i + 1) (acc ++ [y]) G' → N y G') → gw w σ G fun σ1 G1 => te σ1 G1 N) → (∀ acc G, P (k + items.length) acc G → Q acc G) → lcW gw wYes te σ items acc G Q
 | [], k, acc, G, Q, p, _, q => by simpa [lcW] using q acc G p
 | w :: ws, k, acc, G, Q, p, hh, q => by
  have h1 := hh 0 w rfl acc G (fun y G3 => lcW gw wYes te σ ws (acc ++ [y]) G3 Q) p fun y G' p' => lcW_ix P ws (k + 1) _ G' Q p' (fun i w' m acc G N pp nn => hh (i + 1) w' m acc G N (by rw [show k + (i + 1) = k + 1 + i by omega]; exact pp) fun y G' p2 => nn y G' (by rw [show k + 1 + i + 1 = k + (i + 1) + 1 by omega]; exact p2)) fun acc G p2 => q acc G (by rw [List.length_cons]; rw [show k + (ws.length + 1) = k + 1 + ws.length by omega]; exact p2)
  simpa only [lcW, wYes, if_true] using h1
noncomputable abbrev prW (e : Nat × Nat) : W := .tup [.int ((e.1 : Nat) : Int), .int ((e.2 : Nat) : Int)]
noncomputable def sp_znet : Spw := fun ws G Q E => ∃ (p : Addr) (n : Nat), ws = [.ref p, .int ((n : Nat) : Int)] ∧ (BagAt p G) ∧ (1 ≤ n) ∧ (n ≤ 4) ∧ ∀ ls G', Net n ls → BagUp p G G' → Q (netW n ls) G'
theorem len_znet (ws G Q E) (h : sp_znet ws G Q E) : ws.length = 2 := by obtain ⟨_, _, rfl, _⟩ := h; rfl
noncomputable def t_znet_b1 : TSw := (wDrop (wBM wM_append (wVar 2) (wCons (wTup (wCons (wCall sp_ztake (wCons (wVar 0) (wCons (wVar 3) wNil))) (wCons (wVar 3) wNil))) wNil)))
noncomputable def t_znet_b2 : TSw := (wSeq (wAsg (wCall sp_ztake (wCons (wVar 0) (wCons (wVar 1) wNil))) (gN 5))
  (wDrop (wBM wM_append (wVar 2) (wCons (wTup (wCons (wVar 5) (wCons (wOp wMod (wOp wAdd (wOp wAdd (wVar 5) (wC (.int 1))) (wCall sp_ztake (wCons (wVar 0) (wCons (wOp wSub (wVar 1) (wC (.int 1))) wNil)))) (wVar 1)) wNil))) wNil))))
noncomputable def t_znet_r1 : TSw := (wSeq (wFz 2 (wAsg (wOp wIx (wLst (wCons (wC (.int 99)) (wCons (wC (.int 60)) (wCons (wC (.int 25)) (wCons (wC (.int 12)) wNil))))) (wCall sp_ztake (wCons (wVar 0) (wCons (wC (.int 4)) wNil)))) (gN 6)))
  (wRet (wTup (wCons (wVar 1) (wCons (wCB wTuple (wCons (wLc [5, 7] (iSeqW (wVar 2)) (gT 2 (gsC (gN 5) (gsC (gN 7) gsN))) wYes (wTup (wCons (wVar 5) (wCons (wVar 7) (wCons (wOp wAdd (wC (.int 1)) (wCall sp_ztake (wCons (wVar 0) (wCons (wC (.int 9)) wNil)))) (wCons (wCall sp_ztake (wCons (wVar 0) (wCons (wOp wAdd (wVar 6) (wC (.int 1))) wNil))) wNil)))))) wNil)) wNil)))))
noncomputable def t_znet_r2 : TSw := (wSeq (wFor [false, false, false, true, true, true, true, true] (iR1 (wCons (wOp wMul (wCall sp_ztake (wCons (wVar 0) (wCons (wOp wSub (wC (.int 8)) (wVar 1)) wNil))) (wCB wInt (wCons (wOp wGt (wVar 1) (wC (.int 1))) wNil))) wNil)) (gN 4) t_znet_b2)
  t_znet_r1)
noncomputable def t_znet : TSw := (wSeq (wAsg (wLstM wNil) (gN 2))
  (wSeq (wFor [false, false, false, true, true, true, true, true] (iR2 (wCons (wC (.int 1)) (wCons (wVar 1) wNil))) (gN 3) t_znet_b1)
  t_znet_r2))
theorem rd_znet (ws : List W) (G : Gp) (Q : QW) (E) (h : sp_znet ws G Q E) : t_znet { nx := fun _ G' => Q .non G', rt := Cl Q } (startW ["_law_bag_here", "_law_many", "_law_lines", "_law_place", "_law_k", "_law_one", "_law_high", "_law_other"] ws) G := by
 obtain ⟨p, n, rfl, bag, n1, n4, q⟩ := h
 show t_znet _ [some (.ref p), some (.int ((n : Nat) : Int)), none, none, none, none, none, none] G
 unfold t_znet
 k_upd
 have big : 1000 < sizeLine := by decide
 refine ⟨by decide, fun t ht => ?_⟩
 have pt : p ≠ t := bag.ne ht
 have ht0 : ∀ G', BagUp p G G' → G' t = none := fun G' u => by rw [u.ne (Ne.symm pt)]; exact ht
 refine ⟨by omega, ?_⟩
 refine forW_range (fun i σ G1 => ∃ (es : List (Nat × Nat)) (K : Gp), BagUp p G K ∧ G1 = gup K t (.lst (es.map fun e => prW e)) ∧ es.length = i ∧ (∀ e ∈ es, e.1 < n ∧ e.2 < n ∧ e.1 ≠ e.2) ∧ Conn (i + 1) es ∧ σ = [some (.ref p), some (.int ((n : Nat) : Int)), some (.ref t), none, none, none, none, none]) ⟨[], G, BagUp.refl bag, rfl, rfl, by simp, fun S s0 _ v hv => by rw [show v = 0 by omega]; exact s0, rfl⟩ ?_ ?_
 ·rintro i hi σ G1 N ⟨es, K, u, rfl, le, oe, cn, rfl⟩ hN
  have hin : i + 1 < n := by omega
  unfold t_znet_b1
  k_upd
  rw [show (1 : Int) + (i : Int) = ((i + 1 : Nat) : Int) by omega]
  refine take_up (u.at.up pt) (by omega) fun v G2 hv u2 => ?_
  obtain ⟨K2, v2, rfl⟩ := bag_over pt u2
  k_upd
  refine ⟨by decide, by omega, ?_⟩
  refine hN _ _ ⟨es ++ [(v, i + 1)], K2, u.trans v2, by rw [List.map_append]; rfl, by simp [le], fun e he => ?_, conn_next cn (show v < i + 1 by omega) (.inr rfl), rfl⟩
  rcases List.mem_append.mp he with h | h
  ·exact oe e h
  ·rw [List.mem_singleton.mp h]
   exact ⟨by show v < n; omega, by show i + 1 < n; omega, by show v ≠ i + 1; omega⟩
 ·rintro σ G1 ⟨es, K, u, rfl, le, oe, cn, rfl⟩
  have e1 : (((n : Nat) : Int) - 1).toNat = n - 1 := by omega
  rw [e1] at le cn
  rw [show n - 1 + 1 = n by omega] at cn
  unfold t_znet_r2
  k_upd
  refine take_up (u.at.up pt) (by omega) fun d G2 hd u2 => ?_
  obtain ⟨K2, v2, rfl⟩ := bag_over pt u2
  k_upd
  have ed : ∃ m : Nat, ((d : Nat) : Int) * (if decide ((1 : Int) < ((n : Nat) : Int)) = true then 1 else 0) = ((m : Nat) : Int) ∧ m + n ≤ 7 ∧ (0 < m → 1 < n) := by
   by_cases c : (1 : Int) < ((n : Nat) : Int)
   ·rw [if_pos (decide_eq_true c)]
    exact ⟨d, by omega, by omega, fun _ => by omega⟩
   ·rw [if_neg (by rw [decide_eq_true_eq]; exact c)]
    exact ⟨0, by omega, by omega, fun h => by omega⟩
  obtain ⟨m, em, m7, mn⟩ := ed
  rw [em]
  refine ⟨cmX (a := 4) (b := 1) (by omega) (by split <;> decide) (by decide) (by decide) (by decide), by omega, by omega, ?_⟩
  rw [show ((m : Nat) : Int).toNat = m by omega]
  refine forW_range (fun i σ G1 => ∃ (es' : List (Nat × Nat)) (K : Gp), BagUp p G K ∧ G1 = gup K t (.lst (es'.map fun e => prW e)) ∧ es'.length = n - 1 + i ∧ (∀ e ∈ es', e.1 < n ∧ e.2 < n ∧ e.1 ≠ e.2) ∧ Conn n es' ∧ σ = [some (.ref p), some (.int ((n : Nat) : Int)), some (.ref t), none, none, none, none, none]) ⟨es, K2, u.trans v2, rfl, by omega, oe, cn, rfl⟩ ?_ ?_
  ·rintro i hi σ G1 N ⟨es', K3, u3, rfl, le', oe', cn', rfl⟩ hN
   have n2 := mn (by omega)
   unfold t_znet_b2
   k_upd
   refine take_up (u3.at.up pt) (by omega) fun a G4 ha u4 => ?_
   obtain ⟨K4, v4, rfl⟩ := bag_over pt u4
   k_upd
   refine take_up (v4.at.up pt) (by omega) fun b G5 hb u5 => ?_
   obtain ⟨K5, v5, rfl⟩ := bag_over pt u5
   k_upd
   rw [fmodP (by omega)]
   have m0 := Int.emod_nonneg (((a : Nat) : Int) + 1 + ((b : Nat) : Int)) (show (n : Int) ≠ 0 by omega)
   have m1 := Int.emod_lt_of_pos (((a : Nat) : Int) + 1 + ((b : Nat) : Int)) (show (0 : Int) < n by omega)
   have m2 : (((a : Nat) : Int) + 1 + ((b : Nat) : Int)) % (n : Int) ≠ a := by
    by_cases h : ((a : Nat) : Int) + 1 + ((b : Nat) : Int) < n
    ·rw [Int.emod_eq_of_lt (by omega) h]; omega
    ·have : (((a : Nat) : Int) + 1 + ((b : Nat) : Int)) % (n : Int) = ((a : Nat) : Int) + 1 + ((b : Nat) : Int) - n := by
      rw [← Int.sub_emod_right, Int.emod_eq_of_lt (by omega) (by omega)]
     omega
   generalize (((a : Nat) : Int) + 1 + ((b : Nat) : Int)) % (n : Int) = o at m0 m1 m2 ⊢
   obtain ⟨o, rfl⟩ : ∃ k : Nat, o = (k : Int) := ⟨o.toNat, by omega⟩
   refine ⟨by omega, by decide, by omega, ?_⟩
   refine hN _ _ ⟨es' ++ [(a, o)], K5, (u3.trans v4).trans v5, by rw [List.map_append]; rfl, by simp [le']; omega, fun e he => ?_, conn_more cn' fun e he => List.mem_append.mpr (.inl he), rfl⟩
   rcases List.mem_append.mp he with h | h
   ·exact oe' e h
   ·rw [List.mem_singleton.mp h]
    exact ⟨by show a < n; omega, by show o < n; omega, by show a ≠ o; omega⟩
  ·rintro σ G1 ⟨es', K3, u3, rfl, le', oe', cn', rfl⟩
   unfold t_znet_r1
   k_upd
   rw [gdel_gup (ht0 _ u3)]
   refine ⟨by decide, ?_⟩
   refine take_up u3.at (by decide) fun hh G4 hhh u4 => ?_
   refine isS_nat (ms := [99, 60, 25, 12]) rfl (by show hh < 4; omega) fun high hm => ?_
   have hb : high ≤ 99 := by simp at hm; omega
   k_upd
   refine ⟨by omega, ?_⟩
   refine lcW_ix (fun k acc G' => ∃ ls : List Ln, acc = linesW ls ∧ ls.length = k ∧ edges ls = es'.take k ∧ (∀ l ∈ ls, LnOk n l) ∧ BagUp p G G') _ 0 _ _ _ ⟨[], rfl, rfl, rfl, by simp, u3.trans u4⟩ ?_ ?_
   ·rintro j w hw acc G5 N ⟨ls, rfl, lk, ee, ok, u5⟩ hN
    rw [Nat.zero_add] at lk ee hN
    rw [List.getElem?_map] at hw
    by_cases hj : j < es'.length
    ·rw [List.getElem?_eq_getElem hj] at hw
     injection hw with hw
     subst hw
     obtain ⟨o1, o2, o3⟩ := oe' _ (List.getElem_mem hj)
     k_upd
     refine take_up u5.at (by decide) fun s G6 hs u6 => ?_
     k_upd
     refine take_up u6.at (by omega) fun mm G7 hm7 u7 => ?_
     k_upd
     rw [show (1 : Int) + ((s : Nat) : Int) = ((1 + s : Nat) : Int) by omega]
     refine ⟨by decide, hN _ _ ⟨ls ++ [⟨es'[j].1, es'[j].2, 1 + s, mm⟩], by unfold linesW; rw [List.map_append]; rfl, by simp [lk], ?_, fun l hl => ?_, (u5.trans u6).trans u7⟩⟩
     ·rw [List.take_succ_eq_append_getElem hj]
      unfold edges at ee ⊢
      rw [List.map_append, ee]
      rfl
     ·rcases List.mem_append.mp hl with h | h
      ·exact ok l h
      ·rw [List.mem_singleton.mp h]
       exact ⟨o1, o2, o3, ⟨by show 1 ≤ 1 + s; omega, by show 1 + s ≤ 9; omega⟩, by show mm ≤ 99; omega⟩
    ·rw [List.getElem?_eq_none (by omega)] at hw; cases hw
   ·rintro acc G5 ⟨ls, rfl, lk, ee, ok, u5⟩
    rw [Nat.zero_add, List.length_map] at lk ee
    rw [List.take_length] at ee
    k_upd
    refine ⟨by decide, .inl (q ls G5 ⟨n1, n4, by omega, ok, by rw [ee]; exact cn'⟩ u5)⟩
noncomputable def sp_zwork : Spw := fun ws G Q E => ∃ (p : Addr) (n : Nat), ws = [.ref p, .int ((n : Nat) : Int)] ∧ (BagAt p G) ∧ (1 ≤ n) ∧ ∀ k G', WkOk n k → BagUp p G G' → Q (workW k) G'
theorem len_zwork (ws G Q E) (h : sp_zwork ws G Q E) : ws.length = 2 := by obtain ⟨_, _, rfl, _⟩ := h; rfl
noncomputable def t_zwork_r1 : TSw := (wSeq (wAsg (wCall sp_ztake (wCons (wVar 0) (wCons (wC (.int 100)) wNil))) (gN 5))
  (wSeq (wAsg (wCall sp_ztake (wCons (wVar 0) (wCons (wC (.int 100)) wNil))) (gN 6))
  (wSeq (wAsg (wOp wEq (wCall sp_ztake (wCons (wVar 0) (wCons (wC (.int 2)) wNil))) (wC (.int 0))) (gN 7))
  (wRet (wTup (wCons (wVar 2) (wCons (wVar 3) (wCons (wVar 5) (wCons (wCB wTuple (wCons (wVar 4) wNil)) (wCons (wVar 6) (wCons (wOp wAdd (wC (.int 1)) (wCall sp_ztake (wCons (wVar 0) (wCons (wC (.int 2)) wNil)))) (wCons (wOp wAdd (wC (.int 1)) (wCall sp_ztake (wCons (wVar 0) (wCons (wC (.int 2)) wNil)))) (wCons (wVar 7) wNil)))))))))))))
noncomputable def t_zwork : TSw := (wSeq (wAsg (wCall sp_ztake (wCons (wVar 0) (wCons (wVar 1) wNil))) (gN 2))
  (wSeq (wAsg (wOp wIx (wLst (wCons (wC (.int 0)) (wCons (wCall sp_ztake (wCons (wVar 0) (wCons (wC (.int 21)) wNil))) (wCons (wCall sp_ztake (wCons (wVar 0) (wCons (wC (.int 6)) wNil))) wNil)))) (wCall sp_ztake (wCons (wVar 0) (wCons (wC (.int 3)) wNil)))) (gN 3))
  (wSeq (wAsg (wLstM (wCons (wTup (wCons (wOp wAdd (wC (.int 1)) (wCall sp_ztake (wCons (wVar 0) (wCons (wC (.int 20)) wNil)))) (wCons (wCall sp_ztake (wCons (wVar 0) (wCons (wC (.int 60)) wNil))) wNil))) wNil)) (gN 4))
  (wSeq (wIfS (wTest (wOp wEq (wCall sp_ztake (wCons (wVar 0) (wCons (wC (.int 2)) wNil))) (wC (.int 0)))) (wDrop (wBM wM_append (wVar 4) (wCons (wTup (wCons (wOp wAdd (wC (.int 1)) (wCall sp_ztake (wCons (wVar 0) (wCons (wC (.int 20)) wNil)))) (wCons (wOp wAdd (wOp wIx (wOp wIx (wVar 4) (wC (.int 0))) (wC (.int 1))) (wCall sp_ztake (wCons (wVar 0) (wCons (wC (.int 40)) wNil)))) wNil))) wNil))) wNext)
  t_zwork_r1))))
theorem rd_zwork (ws : List W) (G : Gp) (Q : QW) (E) (h : sp_zwork ws G Q E) : t_zwork { nx := fun _ G' => Q .non G', rt := Cl Q } (startW ["_law_bag_here", "_law_many", "_law_place", "_law_least", "_law_pieces", "_law_keep", "_law_start", "_law_was"] ws) G := by
 obtain ⟨p, n, rfl, bag, n1, q⟩ := h
 show t_zwork _ [some (.ref p), some (.int ((n : Nat) : Int)), none, none, none, none, none, none] G
 unfold t_zwork
 k_upd
 have big : 1000 < sizeLine := by decide
 refine take_up bag (by omega) fun pl G1 hpl u1 => ?_
 k_upd
 refine take_up u1.at (by decide) fun l1 G2 hl1 u2 => ?_
 k_upd
 refine take_up u2.at (by decide) fun l2 G3 hl2 u3 => ?_
 k_upd
 refine ⟨by decide, ?_⟩
 refine take_up u3.at (by decide) fun l3 G4 hl3 u4 => ?_
 refine isS_nat (ms := [0, l1, l2]) rfl (by show l3 < 3; omega) fun least hls => ?_
 have bl : least ≤ 20 := by simp at hls; omega
 k_upd
 refine take_up u4.at (by decide) fun w1 G5 hw1 u5 => ?_
 k_upd
 refine take_up u5.at (by decide) fun p1 G6 hp1 u6 => ?_
 k_upd
 have U := ((((u1.trans u2).trans u3).trans u4).trans u5).trans u6
 refine ⟨by decide, by decide, fun t ht => ?_⟩
 have pt : p ≠ t := U.at.ne ht
 have ht0 : ∀ G', BagUp p G G' → G' t = none := fun G' u => by rw [u.ne (Ne.symm pt), ← U.ne (Ne.symm pt)]; exact ht
 rw [show (1 : Int) + ((w1 : Nat) : Int) = ((1 + w1 : Nat) : Int) by omega]
 have rest : ∀ (ps : List (Nat × Nat)) (K : Gp), 1 ≤ ps.length ∧ ps.length ≤ 2 → (∀ v ∈ ps, 1 ≤ v.1 ∧ v.1 ≤ 20 ∧ v.2 ≤ 99) → (ps.headD (0, 0)).2 ≤ (ps.getLastD (0, 0)).2 → BagUp p G K →
   t_zwork_r1 { nx := fun x G' => Q W.non G', rt := Cl Q } [some (W.ref p), some (W.int ((n : Nat) : Int)), some (W.int ((pl : Nat) : Int)), some (W.int ((least : Nat) : Int)), some (W.ref t), none, none, none] (gup K t (.lst (ps.map fun v => pieceW v))) := by
  intro ps K hps hv ho u
  unfold t_zwork_r1
  k_upd
  refine take_up (u.at.up pt) (by decide) fun keep G7 hk u7 => ?_
  obtain ⟨K7, v7, rfl⟩ := bag_over pt u7
  k_upd
  refine take_up (v7.at.up pt) (by decide) fun start G8 hs u8 => ?_
  obtain ⟨K8, v8, rfl⟩ := bag_over pt u8
  k_upd
  refine take_up (v8.at.up pt) (by decide) fun on G9 hon u9 => ?_
  obtain ⟨K9, v9, rfl⟩ := bag_over pt u9
  k_upd
  refine take_up (v9.at.up pt) (by decide) fun x1 G10 hx1 u10 => ?_
  obtain ⟨K10, v10, rfl⟩ := bag_over pt u10
  k_upd
  refine take_up (v10.at.up pt) (by decide) fun x2 G11 hx2 u11 => ?_
  obtain ⟨K11, v11, rfl⟩ := bag_over pt u11
  k_upd
  rw [show (1 : Int) + ((x1 : Nat) : Int) = ((1 + x1 : Nat) : Int) by omega, show (1 : Int) + ((x2 : Nat) : Int) = ((1 + x2 : Nat) : Int) by omega]
  have uu := ((((u.trans v7).trans v8).trans v9).trans v10).trans v11
  exact ⟨by decide, Cl.drop (ht0 _ uu) (q ⟨pl, least, keep, ps, start, 1 + x1, 1 + x2, decide (((on : Nat) : Int) = 0)⟩ K11 ⟨by show pl < n; omega, bl, by show keep ≤ 99; omega, hps, hv, by show start ≤ 99; omega, by show 1 + x1 = 1 ∨ 1 + x1 = 2; omega, by show 1 + x2 = 1 ∨ 1 + x2 = 2; omega, ho⟩ uu)⟩
 refine take_up (U.at.up pt) (by decide) fun yes G7 hy u7 => ?_
 obtain ⟨K7, v7, rfl⟩ := bag_over pt u7
 k_upd
 have o1 : 1 ≤ 1 + w1 ∧ 1 + w1 ≤ 20 ∧ p1 ≤ 99 := by omega
 by_cases c : yes = 0
 ·rw [decide_eq_true (by omega), if_pos rfl]
  refine take_up (v7.at.up pt) (by decide) fun w2 G8 hw2 u8 => ?_
  obtain ⟨K8, v8, rfl⟩ := bag_over pt u8
  k_upd
  refine take_up (v8.at.up pt) (by decide) fun p2 G9 hp2 u9 => ?_
  obtain ⟨K9, v9, rfl⟩ := bag_over pt u9
  k_upd
  rw [show (1 : Int) + ((w2 : Nat) : Int) = ((1 + w2 : Nat) : Int) by omega, show ((p1 : Nat) : Int) + ((p2 : Nat) : Int) = ((p1 + p2 : Nat) : Int) by omega]
  refine ⟨by decide, by decide, rest [(1 + w1, p1), (1 + w2, p1 + p2)] K9 ⟨by simp, by simp⟩ (fun v hv => ?_) (show p1 ≤ p1 + p2 by omega) (((U.trans v7).trans v8).trans v9)⟩
  simp only [List.mem_cons, List.not_mem_nil, or_false] at hv
  rcases hv with rfl | rfl
  ·exact o1
  ·exact ⟨by show 1 ≤ 1 + w2; omega, by show 1 + w2 ≤ 20; omega, by show p1 + p2 ≤ 99; omega⟩
 ·rw [decide_eq_false (by omega), if_neg (by decide)]
  refine rest [(1 + w1, p1)] K7 ⟨by simp, by simp⟩ (fun v hv => ?_) (Nat.le_refl _) (U.trans v7)
  rw [List.mem_singleton.mp hv]
  exact o1
noncomputable def sp_zwants : Spw := fun ws G Q E => ∃ (p : Addr) (n : Nat), ws = [.ref p, .int ((n : Nat) : Int)] ∧ (BagAt p G) ∧ (1 ≤ n) ∧ ∀ vs G', vs.length ≤ 3 → (∀ v ∈ vs, WntOk n v) → BagUp p G G' → Q (wantsW vs) G'
theorem len_zwants (ws G Q E) (h : sp_zwants ws G Q E) : ws.length = 2 := by obtain ⟨_, _, rfl, _⟩ := h; rfl
noncomputable def t_zwants_b1 : TSw := (wSeq (wAsg (wOp wIx (wLst (wCons (wCall sp_ztake (wCons (wVar 0) (wCons (wC (.int 101)) wNil))) (wCons (wC (.int 100)) wNil))) (wCB wInt (wCons (wOp wEq (wCall sp_ztake (wCons (wVar 0) (wCons (wC (.int 6)) wNil))) (wC (.int 0))) wNil))) (gN 4))
  (wDrop (wBM wM_append (wVar 2) (wCons (wTup (wCons (wCall sp_ztake (wCons (wVar 0) (wCons (wVar 1) wNil))) (wCons (wCall sp_ztake (wCons (wVar 0) (wCons (wC (.int 31)) wNil))) (wCons (wVar 4) wNil)))) wNil))))
noncomputable def t_zwants_r1 : TSw := (wRet (wCB wTuple (wCons (wVar 2) wNil)))
noncomputable def t_zwants : TSw := (wSeq (wAsg (wLstM wNil) (gN 2))
  (wSeq (wFor [false, false, false, true, true] (iR1 (wCons (wCall sp_ztake (wCons (wVar 0) (wCons (wC (.int 4)) wNil))) wNil)) (gN 3) t_zwants_b1)
  t_zwants_r1))
theorem rd_zwants (ws : List W) (G : Gp) (Q : QW) (E) (h : sp_zwants ws G Q E) : t_zwants { nx := fun _ G' => Q .non G', rt := Cl Q } (startW ["_law_bag_here", "_law_many", "_law_found", "_law_k", "_law_worth"] ws) G := by
 obtain ⟨p, n, rfl, bag, n1, q⟩ := h
 show t_zwants _ [some (.ref p), some (.int ((n : Nat) : Int)), none, none, none] G
 unfold t_zwants
 k_upd
 have big : 1000 < sizeLine := by decide
 refine ⟨by decide, fun t ht => ?_⟩
 have pt : p ≠ t := bag.ne ht
 have ht0 : ∀ G', BagUp p G G' → G' t = none := fun G' u => by rw [u.ne (Ne.symm pt)]; exact ht
 refine take_up (bag.up pt) (by decide) fun c G1 hc u1 => ?_
 obtain ⟨K1, v1, rfl⟩ := bag_over pt u1
 k_upd
 refine ⟨by omega, by omega, ?_⟩
 rw [show ((c : Nat) : Int).toNat = c by omega]
 refine forW_range (fun i σ H => ∃ (vs : List Wnt) (K : Gp), BagUp p G K ∧ H = gup K t (.lst (vs.map fun v => wantW v)) ∧ vs.length = i ∧ (∀ v ∈ vs, WntOk n v) ∧ σ = [some (.ref p), some (.int ((n : Nat) : Int)), some (.ref t), none, none]) ⟨[], K1, v1, rfl, rfl, by simp, rfl⟩ ?_ ?_
 ·rintro i hi σ H N ⟨vs, K, u, rfl, lv, ov, rfl⟩ hN
  unfold t_zwants_b1
  k_upd
  refine take_up (u.at.up pt) (by decide) fun w1 G2 hw1 u2 => ?_
  obtain ⟨K2, v2, rfl⟩ := bag_over pt u2
  k_upd
  refine ⟨by decide, ?_⟩
  refine take_up (v2.at.up pt) (by decide) fun w2 G3 hw2 u3 => ?_
  obtain ⟨K3, v3, rfl⟩ := bag_over pt u3
  k_upd
  obtain ⟨worth, hworth, ew⟩ : ∃ worth : Nat, worth ≤ 100 ∧ L2.atI [W.int ((w1 : Nat) : Int), .int 100] (if decide (((w2 : Nat) : Int) = 0) = true then 1 else 0) = some (.int ((worth : Nat) : Int)) := by
   by_cases c : w2 = 0
   ·rw [if_pos (decide_eq_true (by omega))]; exact ⟨100, by decide, rfl⟩
   ·rw [if_neg (by rw [decide_eq_true_eq]; omega)]; exact ⟨w1, by omega, rfl⟩
  rw [ew]
  k_upd
  refine take_up (v3.at.up pt) (by omega) fun pl G4 hpl u4 => ?_
  obtain ⟨K4, v4, rfl⟩ := bag_over pt u4
  k_upd
  refine take_up (v4.at.up pt) (by decide) fun sz G5 hsz u5 => ?_
  obtain ⟨K5, v5, rfl⟩ := bag_over pt u5
  k_upd
  refine ⟨by decide, by omega, hN _ _ ⟨vs ++ [(pl, sz, worth)], K5, (((u.trans v2).trans v3).trans v4).trans v5, by rw [List.map_append]; rfl, by simp [lv], fun v hv => ?_, rfl⟩⟩
  rcases List.mem_append.mp hv with h | h
  ·exact ov v h
  ·rw [List.mem_singleton.mp h]
   exact ⟨by show pl < n; omega, by show sz ≤ 30; omega, hworth⟩
 ·rintro σ H ⟨vs, K, u, rfl, lv, ov, rfl⟩
  unfold t_zwants_r1
  k_upd
  exact Cl.drop (ht0 _ u) (q vs K (by omega) ov u)
noncomputable def sp_zstore : Spw := fun ws G Q E => ∃ (p : Addr) (n : Nat), ws = [.ref p, .int ((n : Nat) : Int)] ∧ (BagAt p G) ∧ (1 ≤ n) ∧ ∀ s G', (∀ t, s = some t → StoOk n t) → BagUp p G G' → Q (storeW s) G'
theorem len_zstore (ws G Q E) (h : sp_zstore ws G Q E) : ws.length = 2 := by obtain ⟨_, _, rfl, _⟩ := h; rfl
noncomputable def t_zstore : TSw := (wSeq (wIfS (wTest (wOp wEq (wCall sp_ztake (wCons (wVar 0) (wCons (wC (.int 2)) wNil))) (wC (.int 0)))) (wRet (wC .non)) wNext)
  (wSeq (wAsg (wOp wAdd (wC (.int 1)) (wCall sp_ztake (wCons (wVar 0) (wCons (wC (.int 2)) wNil)))) (gN 2))
  (wSeq (wAsg (wOp wAdd (wC (.int 1)) (wCall sp_ztake (wCons (wVar 0) (wCons (wC (.int 20)) wNil)))) (gN 3))
  (wRet (wTup (wCons (wCall sp_ztake (wCons (wVar 0) (wCons (wVar 1) wNil))) (wCons (wVar 2) (wCons (wCall sp_ztake (wCons (wVar 0) (wCons (wOp wAdd (wVar 2) (wC (.int 1))) wNil))) (wCons (wVar 3) (wCons (wCall sp_ztake (wCons (wVar 0) (wCons (wOp wAdd (wVar 3) (wC (.int 1))) wNil))) wNil))))))))))
theorem rd_zstore (ws : List W) (G : Gp) (Q : QW) (E) (h : sp_zstore ws G Q E) : t_zstore { nx := fun _ G' => Q .non G', rt := Cl Q } (startW ["_law_bag_here", "_law_many", "_law_top", "_law_taken"] ws) G := by
 obtain ⟨p, n, rfl, bag, n1, q⟩ := h
 show t_zstore _ [some (.ref p), some (.int ((n : Nat) : Int)), none, none] G
 unfold t_zstore
 k_upd
 refine take_up bag (by decide) fun y G1 hy u1 => ?_
 k_upd
 by_cases c : y = 0
 ·rw [decide_eq_true (by omega), if_pos rfl]
  exact .inl (q none G1 (fun _ e => by cases e) u1)
 ·rw [decide_eq_false (by omega), if_neg (by decide)]
  refine take_up u1.at (by decide) fun top G2 htop u2 => ?_
  k_upd
  refine take_up u2.at (by decide) fun taken G3 htk u3 => ?_
  k_upd
  refine take_up u3.at (by omega) fun pl G4 hpl u4 => ?_
  k_upd
  refine take_up u4.at (by omega) fun lev G5 hlev u5 => ?_
  k_upd
  refine take_up u5.at (by omega) fun given G6 hg u6 => ?_
  k_upd
  rw [show (1 : Int) + ((top : Nat) : Int) = ((1 + top : Nat) : Int) by omega, show (1 : Int) + ((taken : Nat) : Int) = ((1 + taken : Nat) : Int) by omega]
  refine ⟨by decide, .inl (q (some ⟨pl, 1 + top, lev, 1 + taken, given⟩) G6 (fun t e => ?_) (((((u1.trans u2).trans u3).trans u4).trans u5).trans u6))⟩
  injection e with e
  subst e
  exact ⟨by show pl < n; omega, ⟨by show 1 ≤ 1 + top; omega, by show 1 + top ≤ 2; omega⟩, by show lev ≤ 1 + top; omega, ⟨by show 1 ≤ 1 + taken; omega, by show 1 + taken ≤ 20; omega⟩, by show given ≤ 1 + taken; omega⟩
noncomputable def sp_zhouse : Spw := fun ws G Q E => ∃ (p : Addr), ws = [.ref p] ∧ (BagAt p G) ∧ ∀ n ls ks s hs G', House n ls ks s hs → BagUp p G G' → Q (houseW n ls ks s hs) G'
theorem len_zhouse (ws G Q E) (h : sp_zhouse ws G Q E) : ws.length = 1 := by obtain ⟨_, rfl, _⟩ := h; rfl
noncomputable def t_zhouse_r1 : TSw := (wSeq (wAsg (wCall sp_znet (wCons (wVar 0) (wCons (wVar 1) wNil))) (gN 4))
  (wSeq (wAsg (wCB wTuple (wCons (wLc [7] (iR1 (wCons (wVar 3) wNil)) (gN 7) wYes (wCall sp_zwork (wCons (wVar 0) (wCons (wVar 1) wNil)))) wNil)) (gN 5))
  (wSeq (wAsg (wCall sp_zstore (wCons (wVar 0) (wCons (wVar 1) wNil))) (gN 6))
  (wRet (wTup (wCons (wVar 4) (wCons (wVar 5) (wCons (wVar 6) (wCons (wCB wTuple (wCons (wLc [7] (iR1 (wCons (wVar 2) wNil)) (gN 7) wYes (wCall sp_zwants (wCons (wVar 0) (wCons (wVar 1) wNil)))) wNil)) wNil)))))))))
noncomputable def t_zhouse : TSw := (wSeq (wAsg (wOp wAdd (wC (.int 1)) (wCall sp_ztake (wCons (wVar 0) (wCons (wC (.int 4)) wNil)))) (gN 1))
  (wSeq (wAsg (wOp wAdd (wC (.int 1)) (wCall sp_ztake (wCons (wVar 0) (wCons (wC (.int 3)) wNil)))) (gN 2))
  (wSeq (wAsg (wCall sp_ztake (wCons (wVar 0) (wCons (wC (.int 3)) wNil))) (gN 3))
  (wSeq (wIfS (wTest (wOp wEq (wCall sp_ztake (wCons (wVar 0) (wCons (wC (.int 8)) wNil))) (wC (.int 0)))) (wSeq (wAsg (wC (.int 3)) (gN 3))
  (wAsg (wOp wAdd (wC (.int 1)) (wCall sp_ztake (wCons (wVar 0) (wCons (wC (.int 2)) wNil)))) (gN 2))) wNext)
  t_zhouse_r1))))
theorem rd_zhouse (ws : List W) (G : Gp) (Q : QW) (E) (h : sp_zhouse ws G Q E) : t_zhouse { nx := fun _ G' => Q .non G', rt := Cl Q } (startW ["_law_bag_here", "_law_many", "_law_hours", "_law_works", "_law_net_here", "_law_some", "_law_store_here", "_law_k"] ws) G := by
 obtain ⟨p, rfl, bag, q⟩ := h
 show t_zhouse _ [some (.ref p), none, none, none, none, none, none, none] G
 unfold t_zhouse
 k_upd
 have big : 1000 < sizeLine := by decide
 refine take_up bag (by decide) fun n0 G1 hn u1 => ?_
 k_upd
 rw [show (1 : Int) + ((n0 : Nat) : Int) = ((1 + n0 : Nat) : Int) by omega]
 have n1 : 1 ≤ 1 + n0 := by omega
 have n4 : 1 + n0 ≤ 4 := by omega
 generalize 1 + n0 = n at n1 n4 ⊢
 refine take_up u1.at (by decide) fun h0 G2 hh0 u2 => ?_
 k_upd
 refine take_up u2.at (by decide) fun w0 G3 hw0 u3 => ?_
 k_upd
 refine take_up u3.at (by decide) fun e0 G4 he0 u4 => ?_
 k_upd
 have U := ((u1.trans u2).trans u3).trans u4
 have rest : ∀ (hm wm : Nat) (K : Gp), 1 ≤ hm ∧ hm ≤ 3 → wm ≤ 3 → BagUp p G K →
   t_zhouse_r1 { nx := fun x G' => Q W.non G', rt := Cl Q } [some (W.ref p), some (W.int ((n : Nat) : Int)), some (W.int ((hm : Nat) : Int)), some (W.int ((wm : Nat) : Int)), none, none, none, none] K := by
  intro hm wm K hh hw u
  unfold t_zhouse_r1
  k_upd
  refine ⟨p, n, rfl, u.at, n1, n4, fun ls G5 net u5 => ?_⟩
  k_upd
  refine ⟨by omega, by omega, by omega, ?_⟩
  refine lcW_step (fun k acc G' => ∃ ks, acc = (ks.map fun k => workW k) ∧ ks.length = k ∧ (∀ k ∈ ks, WkOk n k) ∧ BagUp p G G') _ 0 _ _ _ ⟨[], rfl, rfl, by simp, u.trans u5⟩ ?_ ?_
  ·rintro w hw k acc G3 N ⟨ks, rfl, lk, ok, u3⟩ hN
   k_upd
   refine ⟨p, n, rfl, u3.at, n1, fun k G4 kok u4 => ?_⟩
   refine hN _ _ ⟨ks ++ [k], by simp, by rw [List.length_append, lk]; rfl, fun y hy => ?_, u3.trans u4⟩
   rcases List.mem_append.mp hy with hy | hy
   ·exact ok y hy
   ·rw [List.mem_singleton.mp hy]; exact kok
  ·rintro acc G6 ⟨ks, rfl, lk, okk, u6⟩
   rw [rangeW_length, Nat.zero_add] at lk
   k_upd
   refine ⟨p, n, rfl, u6.at, n1, fun s G7 oks u7 => ?_⟩
   k_upd
   refine ⟨by omega, by omega, by omega, ?_⟩
   refine lcW_step (fun k acc G' => ∃ hs, acc = (hs.map fun vs => wantsW vs) ∧ hs.length = k ∧ (∀ vs ∈ hs, vs.length ≤ 3 ∧ ∀ v ∈ vs, WntOk n v) ∧ BagUp p G G') _ 0 _ _ _ ⟨[], rfl, rfl, by simp, u6.trans u7⟩ ?_ ?_
   ·rintro w hw k acc G6 N ⟨hs, rfl, lh, ok, u6⟩ hN
    k_upd
    refine ⟨p, n, rfl, u6.at, n1, fun vs G7 lv okv u7 => ?_⟩
    refine hN _ _ ⟨hs ++ [vs], by simp, by rw [List.length_append, lh]; rfl, fun y hy => ?_, u6.trans u7⟩
    rcases List.mem_append.mp hy with hy | hy
    ·exact ok y hy
    ·rw [List.mem_singleton.mp hy]; exact ⟨lv, okv⟩
   ·rintro acc G8 ⟨hs, rfl, lh, okh, u8⟩
    rw [rangeW_length, Nat.zero_add] at lh
    k_upd
    exact ⟨by decide, .inl (q n ls ks s hs G8 ⟨net, okk, oks, okh, by omega, by omega, by omega⟩ u8)⟩
 by_cases c : e0 = 0
 ·rw [decide_eq_true (by omega), if_pos rfl]
  refine take_up u4.at (by decide) fun h1 G5 hh1 u5 => ?_
  k_upd
  rw [show (1 : Int) + ((h1 : Nat) : Int) = ((1 + h1 : Nat) : Int) by omega]
  exact rest (1 + h1) 3 G5 (by omega) (by omega) (U.trans u5)
 ·rw [decide_eq_false (by omega), if_neg (by decide)]
  rw [show (1 : Int) + ((h0 : Nat) : Int) = ((1 + h0 : Nat) : Int) by omega]
  exact rest (1 + h0) w0 G4 (by omega) (by omega) U
noncomputable def sk (k i : Nat) : Nat := if i < k then i else i + 1
noncomputable def si : Nat → (Nat → Int) → Int
 | 0, _ => 0
 | n + 1, f => si n f + f n
noncomputable def sgI (k : Nat) : Int := if k % 2 = 0 then 1 else -1
noncomputable def detZ : Nat → (Nat → Nat → Int) → Int
 | 0, _ => 1
 | n + 1, M => si (n + 1) fun k => sgI k * M k 0 * detZ n fun i j => M (sk k i) (j + 1)
theorem det1 (M : Nat → Nat → Int) : detZ 1 M = M 0 0 := by simp [detZ, si, sgI]
theorem det2 (M : Nat → Nat → Int) : detZ 2 M = M 0 0 * M 1 1 - M 1 0 * M 0 1 := by
 simp [detZ, si, sgI, sk]
 grind
theorem det3 (M : Nat → Nat → Int) : detZ 3 M = M 0 0 * (M 1 1 * M 2 2 - M 2 1 * M 1 2) - M 1 0 * (M 0 1 * M 2 2 - M 2 1 * M 0 2) + M 2 0 * (M 0 1 * M 1 2 - M 1 1 * M 0 2) := by
 simp [detZ, si, sgI, sk]
 grind
noncomputable def repC (A : Nat → Nat → Int) (k : Nat) (b : Nat → Int) : Nat → Nat → Int := fun i j => if j = k then b i else A i j
theorem sm1 (f : Nat → Rat) : sm 1 f = f 0 := by show (0 : Rat) + f 0 = f 0; grind
theorem sm2 (f : Nat → Rat) : sm 2 f = f 0 + f 1 := by show (0 : Rat) + f 0 + f 1 = _; grind
theorem sm3 (f : Nat → Rat) : sm 3 f = f 0 + f 1 + f 2 := by show (0 : Rat) + f 0 + f 1 + f 2 = _; grind
theorem cramer {m : Nat} (hm : m ≤ 3) {A : Nat → Nat → Int} {X : Nat → Rat} {b : Nat → Int} (h : ∀ i, i < m → sm m (fun c => ((A i c : Int) : Rat) * X c) = ((b i : Int) : Rat)) {k : Nat} (hk : k < m) :
  ((detZ m (repC A k b) : Int) : Rat) = X k * ((detZ m A : Int) : Rat) := by
 rcases (by omega : m = 1 ∨ m = 2 ∨ m = 3) with rfl | rfl | rfl
 ·have h0 := h 0 (by decide)
  rw [sm1] at h0
  rw [det1, det1]
  obtain rfl : k = 0 := by omega
  simp only [repC, if_true]
  rw [← h0]; grind
 ·have h0 := h 0 (by decide)
  have h1 := h 1 (by decide)
  rw [sm2] at h0 h1
  rw [det2, det2]
  simp only [Rat.intCast_sub, Rat.intCast_mul]
  rcases (by omega : k = 0 ∨ k = 1) with rfl | rfl
  ·simp only [repC, if_true, show ¬ (1 : Nat) = 0 by decide, if_false]
   rw [← h0, ← h1]; grind
  ·simp only [repC, if_true, show ¬ (0 : Nat) = 1 by decide, if_false]
   rw [← h0, ← h1]; grind
 ·have h0 := h 0 (by decide)
  have h1 := h 1 (by decide)
  have h2 := h 2 (by decide)
  rw [sm3] at h0 h1 h2
  rw [det3, det3]
  simp only [Rat.intCast_sub, Rat.intCast_mul, Rat.intCast_add]
  rcases (by omega : k = 0 ∨ k = 1 ∨ k = 2) with rfl | rfl | rfl
  ·simp only [repC, if_true, show ¬ (1 : Nat) = 0 by decide, show ¬ (2 : Nat) = 0 by decide, if_false]
   rw [← h0, ← h1, ← h2]; grind
  ·simp only [repC, if_true, show ¬ (0 : Nat) = 1 by decide, show ¬ (2 : Nat) = 1 by decide, if_false]
   rw [← h0, ← h1, ← h2]; grind
  ·simp only [repC, if_true, show ¬ (0 : Nat) = 2 by decide, show ¬ (1 : Nat) = 2 by decide, if_false]
   rw [← h0, ← h1, ← h2]; grind
theorem det_ne {m : Nat} (hm : m ≤ 3) {A : Nat → Nat → Int} {X : Nat → Nat → Rat} (h : ∀ j, j < m → ∀ i, i < m → sm m (fun c => ((A i c : Int) : Rat) * X j c) = if i = j then 1 else 0) : detZ m A ≠ 0 := by
 intro z
 have zr : ((detZ m A : Int) : Rat) = 0 := by rw [z]; rfl
 rcases (by omega : m = 0 ∨ m = 1 ∨ m = 2 ∨ m = 3) with rfl | rfl | rfl | rfl
 ·simp [detZ] at z
 ·have h0 := h 0 (by decide) 0 (by decide)
  rw [sm1, if_pos rfl] at h0
  rw [det1] at zr
  grind
 ·have a00 := h 0 (by decide) 0 (by decide)
  have a01 := h 0 (by decide) 1 (by decide)
  have a10 := h 1 (by decide) 0 (by decide)
  have a11 := h 1 (by decide) 1 (by decide)
  rw [sm2] at a00 a01 a10 a11
  simp only [if_true, show ¬ (1 : Nat) = 0 by decide, show ¬ (0 : Nat) = 1 by decide, if_false] at a00 a01 a10 a11
  rw [det2] at zr
  simp only [Rat.intCast_sub, Rat.intCast_mul] at zr
  generalize ((A 0 0 : Int) : Rat) = p at *
  generalize ((A 0 1 : Int) : Rat) = q at *
  generalize ((A 1 0 : Int) : Rat) = r at *
  generalize ((A 1 1 : Int) : Rat) = s at *
  have e : (p * s - r * q) * (X 0 0 * X 1 1 - X 0 1 * X 1 0) = (p * X 0 0 + q * X 0 1) * (r * X 1 0 + s * X 1 1) - (p * X 1 0 + q * X 1 1) * (r * X 0 0 + s * X 0 1) := by grind
  rw [a00, a01, a10, a11, zr] at e
  grind
 ·have a00 := h 0 (by decide) 0 (by decide)
  have a01 := h 0 (by decide) 1 (by decide)
  have a02 := h 0 (by decide) 2 (by decide)
  have a10 := h 1 (by decide) 0 (by decide)
  have a11 := h 1 (by decide) 1 (by decide)
  have a12 := h 1 (by decide) 2 (by decide)
  have a20 := h 2 (by decide) 0 (by decide)
  have a21 := h 2 (by decide) 1 (by decide)
  have a22 := h 2 (by decide) 2 (by decide)
  rw [sm3] at a00 a01 a02 a10 a11 a12 a20 a21 a22
  simp only [if_true, show ¬ (1 : Nat) = 0 by decide, show ¬ (0 : Nat) = 1 by decide, show ¬ (2 : Nat) = 0 by decide, show ¬ (2 : Nat) = 1 by decide, show ¬ (1 : Nat) = 2 by decide, show ¬ (0 : Nat) = 2 by decide, if_false] at a00 a01 a02 a10 a11 a12 a20 a21 a22
  rw [det3] at zr
  simp only [Rat.intCast_sub, Rat.intCast_mul, Rat.intCast_add] at zr
  generalize ((A 0 0 : Int) : Rat) = p0 at *
  generalize ((A 0 1 : Int) : Rat) = p1 at *
  generalize ((A 0 2 : Int) : Rat) = p2 at *
  generalize ((A 1 0 : Int) : Rat) = q0 at *
  generalize ((A 1 1 : Int) : Rat) = q1 at *
  generalize ((A 1 2 : Int) : Rat) = q2 at *
  generalize ((A 2 0 : Int) : Rat) = r0 at *
  generalize ((A 2 1 : Int) : Rat) = r1 at *
  generalize ((A 2 2 : Int) : Rat) = r2 at *
  generalize X 0 0 = x0 at *
  generalize X 0 1 = x1 at *
  generalize X 0 2 = x2 at *
  generalize X 1 0 = y0 at *
  generalize X 1 1 = y1 at *
  generalize X 1 2 = y2 at *
  generalize X 2 0 = z0 at *
  generalize X 2 1 = z1 at *
  generalize X 2 2 = z2 at *
  have key : ∀ b00 b01 b02 b10 b11 b12 b20 b21 b22 : Rat, b00 = p0 * x0 + p1 * x1 + p2 * x2 → b10 = q0 * x0 + q1 * x1 + q2 * x2 → b20 = r0 * x0 + r1 * x1 + r2 * x2 → b01 = p0 * y0 + p1 * y1 + p2 * y2 → b11 = q0 * y0 + q1 * y1 + q2 * y2 → b21 = r0 * y0 + r1 * y1 + r2 * y2 → b02 = p0 * z0 + p1 * z1 + p2 * z2 → b12 = q0 * z0 + q1 * z1 + q2 * z2 → b22 = r0 * z0 + r1 * z1 + r2 * z2 →
    (p0 * (q1 * r2 - r1 * q2) - q0 * (p1 * r2 - r1 * p2) + r0 * (p1 * q2 - q1 * p2)) * (x0 * (y1 * z2 - y2 * z1) - x1 * (y0 * z2 - y2 * z0) + x2 * (y0 * z1 - y1 * z0)) = b00 * (b11 * b22 - b21 * b12) - b10 * (b01 * b22 - b21 * b02) + b20 * (b01 * b12 - b11 * b02) := by
   intro b00 b01 b02 b10 b11 b12 b20 b21 b22 h1 h2 h3 h4 h5 h6 h7 h8 h9
   rw [h1, h2, h3, h4, h5, h6, h7, h8, h9]
   clear a00 a01 a02 a10 a11 a12 a20 a21 a22 h zr z h1 h2 h3 h4 h5 h6 h7 h8 h9
   grind
  have e := key 1 0 0 0 1 0 0 0 1 a00.symm a01.symm a02.symm a10.symm a11.symm a12.symm a20.symm a21.symm a22.symm
  rw [zr] at e
  grind
theorem keeps_ex {n b : Nat} {T : List (List Rat)} {bs : List Rat} (h : Table n b T bs) (ns : Nonsing n (ent T)) : ∀ p, p ≤ n → ∃ R, Keeps n b (augL T bs) R p
 | 0, _ => ⟨_, aug_keeps h⟩
 | p + 1, hp => by
  obtain ⟨R, k⟩ := keeps_ex h ns p (by omega)
  by_cases z : ∀ i, p ≤ i → i < R.length → ent R i p = 0
  ·exact (keeps_stop h k (by omega) z ns).elim
  ·obtain ⟨i, z⟩ := Classical.not_forall.mp z
   obtain ⟨h1, z⟩ := Classical.not_imp.mp z
   obtain ⟨h2, z⟩ := Classical.not_imp.mp z
   exact ⟨_, (k.step (by omega) (by rw [← k.len]; exact h2) h1 z).2⟩
theorem lapT_table {m b : Nat} {ls : List Ln} {x : List Rat} (net : Net (m + 1) ls) (lx : x.length = m + 1) (hb : ∀ q ∈ x, sz b q) (small : b ≤ 300000) : Table m (b + 6) (lapT (m + 1) ls) (x.drop 1) := by
 have n4 := net.n4
 refine ⟨by simp [lapT], by simp [lx], fun r hr => ?_, by omega, fun r hr => ?_, fun q hq => sz_mono (hb q (List.mem_of_mem_drop hq)) (by omega), ?_⟩
 ·obtain ⟨i, _, rfl⟩ := List.mem_map.mp hr
  simp
 ·obtain ⟨i, _, rfl⟩ := List.mem_map.mp hr
  intro q hq
  obtain ⟨c, _, rfl⟩ := List.mem_map.mp hq
  have := lapI_le (i := i + 1) (j := c + 1) net.ok
  have := net.few
  exact sz_mono (sz_int (b := 6) (by omega) (by decide)) (by omega)
 ·refine Nat.le_trans (bd_mono (show m ≤ 3 by omega)) ?_
  show 4 * (4 * (4 * (b + 6) + 1) + 1) + 1 ≤ _
  omega
theorem isH_ex {n b : Nat} {ls : List Ln} {x : List Rat} (net : Net n ls) (lx : x.length = n) (hb : ∀ q ∈ x, sz b q) (small : b ≤ 300000) (bal : lsum (fun q => q) x = 0) : ∃ h, IsH n ls x h := by
 have n1 := net.n1
 obtain ⟨m, rfl⟩ : ∃ m, n = m + 1 := ⟨n - 1, by omega⟩
 have tb := lapT_table net lx hb small
 obtain ⟨R, k⟩ := keeps_ex tb (lap_ns net) m (Nat.le_refl _)
 exact ⟨_, isH_of net lx bal (by rw [List.length_map]; exact k.len) fun i hi => keeps_sol tb k hi⟩
theorem lap_det_ne {m : Nat} {ls : List Ln} (net : Net (m + 1) ls) : detZ m (fun i j => lapI ls (i + 1) (j + 1)) ≠ 0 := by
 have n4 := net.n4
 have ex : ∀ j : Nat, ∃ h, j < m → IsH (m + 1) ls (unitN (m + 1) (j + 1) 0) h := fun j => by
  by_cases hj : j < m
  ·obtain ⟨h, hh⟩ := isH_ex (b := 1) (x := unitN (m + 1) (j + 1) 0) net unitN_len unitN_sz (by decide) (unitN_bal (by omega) (by omega))
   exact ⟨h, fun _ => hh⟩
  ·exact ⟨[], fun z => absurd z hj⟩
 refine det_ne (by omega) (X := fun j c => (Classical.choose (ex j)).getD (c + 1) 0) fun j hj i hi => ?_
 have hh := Classical.choose_spec (ex j) hj
 generalize Classical.choose (ex j) = h at hh
 have o := hh.out (i + 1) (by omega)
 rw [← lap_out net.ok, sm_shift, hh.zero, unitN_get (by omega), ind_cast, ind_cast, if_neg (show ¬ i + 1 = 0 by omega)] at o
 by_cases c : i = j
 ·rw [if_pos c]; rw [if_pos (by omega)] at o; grind
 ·rw [if_neg c]; rw [if_neg (by omega)] at o; grind
local macro_rules | `(tactic| k_upd) => `(tactic| walk_at "Wffff740a9f3006bd6bd6bd600004294294294efffffc7cfff3d70087f10")
noncomputable abbrev Lim := Int × Int × Int
noncomputable abbrev limW (t : Lim) : W := .tup [.int t.1, .int t.2.1, .int t.2.2]
noncomputable abbrev limsW (xs : List Lim) : List W := xs.map fun t => limW t
noncomputable def lim1 (lost : Int) (k : Nat) : List Lim := if (k : Int) = lost then [] else [(lost, (k : Int), -1), (lost, (k : Int), 1)]
noncomputable def limOf (lost : Int) (m : Nat) : List Lim := (List.range m).flatMap (lim1 lost)
noncomputable def lostsL (n : Nat) (ls : List Ln) : List Int := -1 :: (dueL n ls).map fun k : Nat => (k : Int)
noncomputable def limsL (n : Nat) (ls : List Ln) : List Lim := (lostsL n ls).flatMap fun l => limOf l ls.length
theorem limOf_succ {lost : Int} {m : Nat} : limOf lost (m + 1) = limOf lost m ++ lim1 lost m := by
 unfold limOf; rw [List.range_succ, List.flatMap_append]; simp
theorem lim1_len {lost : Int} {k : Nat} : (lim1 lost k).length ≤ 2 := by unfold lim1; split <;> simp
theorem limOf_len {lost : Int} : ∀ {m : Nat}, (limOf lost m).length ≤ 2 * m
 | 0 => by simp [limOf]
 | m + 1 => by
  have := limOf_len (lost := lost) (m := m)
  have := lim1_len (lost := lost) (k := m)
  rw [limOf_succ, List.length_append]; omega
theorem lims_len {m : Nat} : ∀ (xs : List Int), (xs.flatMap fun l => limOf l m).length ≤ xs.length * (2 * m)
 | [] => by simp
 | x :: xs => by
  have a := lims_len (m := m) xs
  have b := limOf_len (lost := x) (m := m)
  rw [List.flatMap_cons, List.length_append, List.length_cons, Nat.succ_mul]
  omega
theorem losts_len {n : Nat} {ls : List Ln} : (lostsL n ls).length ≤ ls.length + 1 := by
 have := due_len (n := n) (ls := ls)
 simp [lostsL]; omega
theorem take_flat {α β : Type} (f : α → List β) {xs : List α} {k : Nat} (h : k < xs.length) : (xs.take (k + 1)).flatMap f = (xs.take k).flatMap f ++ f xs[k] := by
 rw [List.take_succ_eq_append_getElem h, List.flatMap_append]; simp
noncomputable def sp_limits : Spw := fun ws G Q E => ∃ n ls, ws = [netW n ls] ∧ (Net n ls) ∧ tellL (limsW (limsL n ls)) Q G
theorem len_limits (ws G Q E) (h : sp_limits ws G Q E) : ws.length = 1 := by obtain ⟨_, _, rfl, _⟩ := h; rfl
noncomputable def t_limits_b1 : TSw := (wIfS (wTest (wOp wNe (wVar 3) (wVar 2))) (wDrop (wBM wM_extend (wVar 1) (wCons (wLst (wCons (wTup (wCons (wVar 2) (wCons (wVar 3) (wCons (wNeg (wC (.int 1))) wNil)))) (wCons (wTup (wCons (wVar 2) (wCons (wVar 3) (wCons (wC (.int 1)) wNil)))) wNil))) wNil))) wNext)
noncomputable def t_limits_b2 : TSw := (wFor [false, false, false, true] (iR1 (wCons (wCB wLen (wCons (wOp wIx (wVar 0) (wC (.int 1))) wNil)) wNil)) (gN 3) t_limits_b1)
noncomputable def t_limits : TSw := (wSeq (wAsg (wLstM wNil) (gN 1))
  (wSeq (wFor [false, false, true, true] (iSeqW (wOp wAdd (wLst (wCons (wNeg (wC (.int 1))) wNil)) (wCall sp_losable (wCons (wVar 0) wNil)))) (gN 2) t_limits_b2)
  (wRet (wVar 1))))
theorem rd_limits (ws : List W) (G : Gp) (Q : QW) (E) (h : sp_limits ws G Q E) : t_limits { nx := fun _ G' => Q .non G', rt := Cl Q } (startW ["net", "found", "lost", "line"] ws) G := by
 obtain ⟨n, ls, rfl, net, q⟩ := h
 show t_limits _ [some (netW n ls), none, none, none] G
 unfold t_limits
 k_upd
 have big : 1000 < sizeLine := by decide
 have few := net.few
 have dl := due_len (n := n) (ls := ls)
 refine ⟨by decide, fun p hp => ⟨by decide, n, ls, rfl, net, .inl ?_⟩⟩
 k_upd
 rw [show (W.int (-1)) :: natsW (dueL n ls) = (lostsL n ls).map W.int by unfold lostsL natsW; rw [List.map_cons, List.map_map]; rfl]
 refine ⟨by omega, ?_⟩
 have ll := losts_len (n := n) (ls := ls)
 refine forW_ix (fun k σ G1 => G1 = gup G p (.lst (limsW (((lostsL n ls).take k).flatMap fun l => limOf l ls.length))) ∧ σ = [some (netW n ls), some (.ref p), none, none]) _ 0 _ _ ⟨rfl, rfl⟩ ?_ ?_
 ·rintro k w hw σ G1 N ⟨rfl, rfl⟩ hN
  rw [Nat.zero_add] at hN ⊢
  rw [List.getElem?_map] at hw
  by_cases hk : k < (lostsL n ls).length
  ·rw [List.getElem?_eq_getElem hk] at hw
   injection hw with hw
   subst hw
   rw [take_flat _ hk] at hN
   have lt := lims_len (m := ls.length) ((lostsL n ls).take k)
   have lt2 : ((lostsL n ls).take k).length ≤ 7 := by rw [List.length_take]; omega
   have lt3 := Nat.mul_le_mul lt2 (show 2 * ls.length ≤ 12 by omega)
   generalize (lostsL n ls)[k] = l at hN ⊢
   generalize (((lostsL n ls).take k).flatMap fun l => limOf l ls.length) = pre at hN lt ⊢
   unfold t_limits_b2
   k_upd
   rw [show ((ls.length : Nat) : Int).toNat = ls.length by omega]
   refine ⟨by omega, by omega, ?_⟩
   refine forW_range (fun j σ G1 => G1 = gup G p (.lst (limsW (pre ++ limOf l j))) ∧ σ = [some (netW n ls), some (.ref p), some (.int l), none]) ⟨by simp [limOf], rfl⟩ ?_ ?_
   ·rintro j hj σ G1 N2 ⟨rfl, rfl⟩ hN2
    have lo := limOf_len (lost := l) (m := j)
    unfold t_limits_b1
    k_upd
    rw [Int.zero_add]
    rw [limOf_succ] at hN2
    by_cases c : (j : Int) = l
    ·rw [decide_eq_true c, if_neg (by decide)]
     refine hN2 _ _ ⟨?_, rfl⟩
     unfold lim1
     rw [if_pos c, List.append_nil]
    ·rw [decide_eq_false c, if_pos (by decide)]
     refine ⟨by decide, by decide, by decide, by rw [List.length_append]; omega, hN2 _ _ ⟨?_, rfl⟩⟩
     rw [show lim1 l j = [(l, (j : Int), -1), (l, (j : Int), 1)] by unfold lim1; rw [if_neg c]]
     simp
   ·rintro σ G1 ⟨rfl, rfl⟩
    exact hN _ _ ⟨rfl, rfl⟩
  ·rw [List.getElem?_eq_none (by omega)] at hw; cases hw
 ·rintro σ G1 ⟨rfl, rfl⟩
  rw [Nat.zero_add, List.length_map, List.take_length]
  k_upd
  exact q.cl hp
theorem enum_at {α : Type} (f : α → W) (xs : List α) {i : Nat} {w : W} (h : (enumFrom 0 (xs.map f))[i]? = some w) : ∃ hi : i < xs.length, w = .tup [.int ((i : Nat) : Int), f xs[i]] := by
 rw [enum_get, Nat.zero_add, List.getElem?_map] at h
 by_cases hi : i < xs.length
 ·rw [List.getElem?_eq_getElem hi] at h
  simp only [Option.map_some, Option.some.injEq] at h
  exact ⟨hi, h.symm⟩
 ·rw [List.getElem?_eq_none (by omega)] at h
  cases h
structure NstW (G : Gp) (ps : List Addr) (rs : List (List W)) (G1 : Gp) : Prop where
 nd : ps.Nodup
 len : rs.length = ps.length
 here : ∀ i (h : i < ps.length), G1 ps[i] = some (.lst (rs.getD i []))
 out : ∀ q, q ∉ ps → G1 q = G q
 new : ∀ p ∈ ps, G p = none
theorem NstW.nil {G : Gp} : NstW G [] [] G := ⟨List.nodup_nil, rfl, fun i h => absurd h (by simp), fun _ _ => rfl, fun _ h => by cases h⟩
theorem NstW.some {G G1 : Gp} {ps : List Addr} {rs : List (List W)} (h : NstW G ps rs G1) {p : Addr} (hp : p ∈ ps) : G1 p ≠ none := by
 obtain ⟨i, hi, rfl⟩ := List.getElem_of_mem hp
 rw [h.here i hi]; simp
theorem NstW.push {G G1 : Gp} {ps : List Addr} {rs : List (List W)} (h : NstW G ps rs G1) {p : Addr} (n : G1 p = none) (r : List W) : NstW G (ps ++ [p]) (rs ++ [r]) (gup G1 p (.lst r)) := by
 have np : p ∉ ps := fun z => h.some z n
 refine ⟨?_, by rw [List.length_append, List.length_append, h.len]; rfl, fun i hi => ?_, fun q hq => ?_, fun q hq => ?_⟩
 ·rw [List.nodup_append]
  refine ⟨h.nd, by simp, fun a ha b hb z => ?_⟩
  rw [List.mem_singleton] at hb
  exact np (by rw [← hb, ← z]; exact ha)
 ·rw [List.length_append, List.length_singleton] at hi
  by_cases c : i < ps.length
  ·rw [List.getElem_append_left c, gup_ne (fun z => np (by rw [← z]; exact List.getElem_mem c)), h.here i c]
   have : i < rs.length := by rw [h.len]; exact c
   simp [List.getD_eq_getElem?_getD, List.getElem?_append_left this]
  ·have e : i = ps.length := by omega
   subst e
   have e2 : (rs ++ [r]).getD ps.length [] = r := by rw [← h.len]; simp [List.getD_eq_getElem?_getD]
   rw [e2, List.getElem_concat_length rfl, gup_same]
 ·have : q ≠ p := fun z => hq (List.mem_append.mpr (.inr (by simp [z])))
  rw [gup_ne this]
  exact h.out q fun z => hq (List.mem_append.mpr (.inl z))
 ·rcases List.mem_append.mp hq with hq | hq
  ·exact h.new q hq
  ·rw [List.mem_singleton.mp hq, ← h.out p np]; exact n
theorem NstW.set {G G1 : Gp} {ps : List Addr} {rs : List (List W)} (h : NstW G ps rs G1) {i : Nat} (hi : i < ps.length) (r : List W) : NstW G ps (rs.set i r) (gup G1 ps[i] (.lst r)) := by
 refine ⟨h.nd, by rw [List.length_set]; exact h.len, fun j hj => ?_, fun q hq => ?_, h.new⟩
 ·by_cases c : j = i
  ·subst c
   rw [gup_same]
   have : j < rs.length := by rw [h.len]; exact hi
   simp [List.getD_eq_getElem?_getD, this]
  ·have ne : ps[j] ≠ ps[i] := fun z => by
    have pw := List.pairwise_iff_getElem.mp h.nd
    rcases Nat.lt_or_gt_of_ne c with l | l
    ·exact pw j i hj hi l z
    ·exact pw i j hi hj l z.symm
   rw [gup_ne ne, h.here j hj]
   simp [List.getD_eq_getElem?_getD, List.getElem?_set, Ne.symm c]
 ·rw [gup_ne (fun z => hq (by rw [z]; exact List.getElem_mem hi))]
  exact h.out q hq
theorem NstW.fz {G : Gp} : ∀ {ps : List Addr} {rs : List (List W)} {G1 : Gp} {R : List W → Gp → Prop}, NstW G ps rs G1 → R (rs.map fun r => .lst r) G → fzL (refsW ps) G1 R
 | [], [], G1, R, h, t => by
  have e : G1 = G := by funext q; exact h.out q (by simp)
  show R [] G1
  rw [e]; exact t
 | [], _ :: _, G1, R, h, _ => by have := h.len; simp at this
 | _ :: _, [], G1, R, h, _ => by have := h.len; simp at this
 | p :: ps, r :: rs, G1, R, h, t => by
  have e : G1 p = _ := h.here 0 (by simp)
  show isG (G1 p) fun us => fzL (refsW ps) (gdel G1 p) fun zs G' => R (.lst us :: zs) G'
  rw [e]
  show fzL (refsW ps) (gdel G1 p) fun zs G' => R (.lst r :: zs) G'
  have nd := List.nodup_cons.mp h.nd
  refine NstW.fz (rs := rs) (R := fun zs G' => R (.lst r :: zs) G') ⟨nd.2, by have := h.len; simpa using this, fun i hi => ?_, fun q hq => ?_, fun q hq => h.new q (.tail _ hq)⟩ t
  ·have := h.here (i + 1) (by simpa using hi)
   rw [gdel_ne (fun z => nd.1 (by rw [← z]; exact List.getElem_mem hi))]
   simpa using this
  ·by_cases c : q = p
   ·rw [c, gdel_same]; exact (h.new p (.head _)).symm
   ·rw [gdel_ne c]; exact h.out q (by simp [c, hq])
theorem refs_at {ps : List Addr} {i : Nat} (h : i < ps.length) : L2.atI (refsW ps) ((i : Nat) : Int) = some (.ref ps[i]) := by
 rw [L2.atI_nat (j := i) (by rw [List.getElem?_map, List.getElem?_eq_getElem h]; rfl)]
noncomputable def keptI (m : Nat) (lost : Int) : List Nat := (List.range m).filter fun k => decide ((k : Int) ≠ lost)
noncomputable def keptU (ls : List Ln) (lost : Int) (m : Nat) : List Ln := (keptI m lost).map fun k => ls.getD k ⟨0, 0, 0, 0⟩
noncomputable def keptL (ls : List Ln) (lost : Int) : List Ln := keptU ls lost ls.length
theorem keptU_succ {ls : List Ln} {lost : Int} {m : Nat} (hm : m < ls.length) : keptU ls lost (m + 1) = keptU ls lost m ++ if (m : Int) = lost then [] else [ls[m]] := by
 unfold keptU keptI
 rw [List.range_succ, List.filter_append, List.map_append]
 congr 1
 by_cases c : (m : Int) = lost
 ·simp [c]
 ·rw [if_neg c, List.filter_cons_of_pos (by simpa using c)]
  simp [List.getD_eq_getElem?_getD, hm]
theorem keptU_at {ls : List Ln} {k : Nat} : ∀ {m : Nat}, m ≤ ls.length → keptU ls (k : Int) m = ls.take (min m k) ++ (ls.take m).drop (k + 1)
 | 0, _ => by simp [keptU, keptI]
 | m + 1, hm => by
  rw [keptU_succ (by omega), keptU_at (by omega)]
  rcases Nat.lt_trichotomy m k with c | c | c
  ·rw [if_neg (by omega), show min m k = m by omega, show min (m + 1) k = m + 1 by omega, List.drop_of_length_le (by rw [List.length_take]; omega), List.drop_of_length_le (by rw [List.length_take]; omega), List.take_succ_eq_append_getElem (by omega)]
   simp
  ·subst c
   rw [if_pos rfl, show min m m = m by omega, show min (m + 1) m = m by omega, List.drop_of_length_le (by rw [List.length_take]; omega), List.drop_of_length_le (by rw [List.length_take]; omega)]
   simp
  ·rw [if_neg (by omega), show min m k = k by omega, show min (m + 1) k = k by omega, List.take_succ_eq_append_getElem (by omega), List.drop_append_of_le_length (by rw [List.length_take]; omega), List.append_assoc]
theorem kept_drop {ls : List Ln} {k : Nat} (h : k < ls.length) : keptL ls (k : Int) = dropL ls k := by
 unfold keptL dropL
 rw [keptU_at (Nat.le_refl _), List.take_length, show min ls.length k = k by omega]
theorem kept_mem {ls : List Ln} {lost : Int} {m : Nat} {l : Ln} (hm : m ≤ ls.length) (h : l ∈ keptU ls lost m) : l ∈ ls := by
 obtain ⟨k, hk, rfl⟩ := List.mem_map.mp h
 have := List.mem_range.mp (List.mem_filter.mp hk).1
 rw [List.getD_eq_getElem?_getD, List.getElem?_eq_getElem (by omega)]
 exact List.getElem_mem _
noncomputable def lapH (M : Nat → Nat → Int) (a b s : Nat) : Nat → Nat → Int :=
 let M1 := upd2 M a a (M a a + (s : Int))
 upd2 M1 a b (M1 a b - (s : Int))
theorem lapH_eq {M : Nat → Nat → Int} {l : Ln} (h : l.a ≠ l.b) : lapH (lapH M l.a l.b l.s) l.b l.a l.s = fun i j => M i j + lapZ l i j := by
 funext i j
 unfold lapH upd2 lapZ ind
 by_cases c1 : i = l.a <;> by_cases c2 : i = l.b <;> by_cases c3 : j = l.a <;> by_cases c4 : j = l.b <;> simp [c1, c2, c3, c4, h, Ne.symm h] <;> omega
theorem lapI_kept {ls : List Ln} {lost : Int} {k : Nat} (hk : k < ls.length) (ne : (ls[k]).a ≠ (ls[k]).b) : lapI (keptU ls lost (k + 1)) = if (k : Int) = lost then lapI (keptU ls lost k) else lapH (lapH (lapI (keptU ls lost k)) ls[k].a ls[k].b ls[k].s) ls[k].b ls[k].a ls[k].s := by
 rw [keptU_succ hk]
 by_cases c : (k : Int) = lost
 ·rw [if_pos c, if_pos c, List.append_nil]
 ·rw [if_neg c, if_neg c, lapH_eq ne]
  funext i j
  rw [lapI_append]
  simp [lapI]
theorem atI_row {n v : Nat} {f : Nat → Int} (h : v < n) : L2.atI (intsW (rowL n f)) ((v : Nat) : Int) = some (.int (f v)) := by
 rw [atI_map _ _ (show v < (rowL n f).length by simpa [rowL] using h)]
 simp [rowL]
noncomputable abbrev tabW (d : Nat) (M : Nat → Nat → Int) : W := .lst ((tabL d M).map fun r => .lst (intsW r))
theorem tabL_map {d : Nat} {M : Nat → Nat → Int} : ((tabL d M).map fun r => W.lst (intsW r)) = (List.range d).map fun i => W.lst (intsW (rowL d (M i))) := by unfold tabL; rw [List.map_map]; rfl
noncomputable def rdet (d : Nat) (M : Nat → Nat → Int) : Int := detZ d fun i j => M j i
noncomputable def rT (d : Nat) (M : Nat → Nat → Int) (k : Nat) : Int := sgI k * M 0 k * rdet d fun i j => M (sk 0 i) (sk k j)
theorem rdet_succ (d : Nat) (M : Nat → Nat → Int) : rdet (d + 1) M = si (d + 1) (rT d M) := rfl
theorem si_le {K : Nat} {f : Nat → Int} : ∀ {n : Nat}, (∀ i, i < n → (f i).natAbs ≤ K) → (si n f).natAbs ≤ n * K
 | 0, _ => by simp [si]
 | n + 1, h => by
  have a := si_le (n := n) fun i hi => h i (by omega)
  have b := h n (by omega)
  show (si n f + f n).natAbs ≤ _
  rw [Nat.succ_mul]
  omega
theorem rdet_le {b : Nat} : ∀ {d : Nat} {M : Nat → Nat → Int}, (∀ i j, i < d → j < d → (M i j).natAbs < 2 ^ b) → (rdet d M).natAbs ≤ 2 ^ (d * (b + d))
 | 0, M, _ => by simp [rdet, detZ]
 | d + 1, M, h => by
  have t : ∀ k, k < d + 1 → (rT d M k).natAbs ≤ 2 ^ (b + d * (b + d)) := fun k hk => by
   have a := rdet_le (b := b) (d := d) (M := fun i j => M (sk 0 i) (sk k j)) fun i j hi hj => h _ _ (by unfold sk; split <;> omega) (by unfold sk; split <;> omega)
   have c := h 0 k (by omega) hk
   unfold rT
   rw [Int.natAbs_mul, Int.natAbs_mul, Nat.pow_add]
   have s : (sgI k).natAbs = 1 := by unfold sgI; split <;> rfl
   rw [s, Nat.one_mul]
   exact Nat.mul_le_mul (by omega) a
  rw [rdet_succ]
  refine Nat.le_trans (si_le t) ?_
  have : d + 1 ≤ 2 ^ d := Nat.lt_two_pow_self
  refine Nat.le_trans (Nat.mul_le_mul_right _ this) ?_
  rw [← Nat.pow_add]
  refine Nat.pow_le_pow_right (by decide) ?_
  have e1 : (d + 1) * (b + (d + 1)) = d * b + d * d + d + b + d + 1 := by grind
  have e2 : d * (b + d) = d * b + d * d := by grind
  omega
theorem natAbs_lt_of_le {x : Int} {n : Nat} (h : x.natAbs ≤ 2 ^ n) : x.natAbs < 2 ^ (n + 1) := by
 have : 2 ^ (n + 1) = 2 * 2 ^ n := by rw [Nat.pow_succ]; omega
 have := Nat.two_pow_pos n
 omega
theorem lapZ_symm (l : Ln) (i j : Nat) : lapZ l i j = lapZ l j i := by unfold lapZ; grind
theorem lapI_symm (ls : List Ln) (i j : Nat) : lapI ls i j = lapI ls j i := by
 unfold lapI
 exact congrArg List.sum (List.map_congr_left fun l _ => lapZ_symm l i j)
theorem rdet_symm {d : Nat} {M : Nat → Nat → Int} (h : ∀ i j, M i j = M j i) : rdet d M = detZ d M := by
 unfold rdet
 rw [show (fun i j => M j i) = M from funext fun i => funext fun j => h j i]
noncomputable def lapA (K : List Ln) : Nat → Nat → Int := fun i j => lapI K (i + 1) (j + 1)
noncomputable def sclZ (m : Nat) (K : List Ln) : Int := rdet m (lapA K)
theorem scl_det {m : Nat} {K : List Ln} : sclZ m K = detZ m (lapA K) := rdet_symm fun i j => lapI_symm K _ _
theorem scl_ne {m : Nat} {K : List Ln} (net : Net (m + 1) K) : sclZ m K ≠ 0 := by rw [scl_det]; exact lap_det_ne net
theorem tri_split {n k : Nat} (hk : k ≤ n) : (List.range (n + 1)).take k ++ (List.range (n + 1)).drop (k + 1) = (List.range n).map (sk k) := by
 refine List.ext_getElem (by simp; omega) fun i h1 h2 => ?_
 have hi : i < n := by simpa using h2
 simp only [List.getElem_append, List.getElem_take, List.getElem_drop, List.getElem_range, List.getElem_map, List.length_take, List.length_range, sk]
 split <;> split <;> omega
noncomputable def spr_zsize : Nat → Spw
 | 0 => fun _ _ _ _ => False
 | n + 1 => fun ws G Q E => ∃ (d : Nat) (M : Nat → Nat → Int) (b : Nat), ws = [tabW d M] ∧ d ≤ n ∧ d ≤ 20 ∧ 1 ≤ b ∧ b ≤ 1000000 ∧ (∀ i j, i < d → j < d → (M i j).natAbs < 2 ^ b) ∧ Q (.int (rdet d M)) G
noncomputable abbrev sp_zsize : Spw := spr_zsize 5
theorem len_zsize (n : Nat) (ws G Q E) (h : spr_zsize (n + 1) ws G Q E) : ws.length = 1 := by obtain ⟨_, _, _, rfl, _⟩ := h; rfl
noncomputable def t_zsize_b1 (sr : Spw) : TSw := (wSeq (wAsg (wLc [4] (iSeqW (wSlice (wVar 0) (wpSome (wC (.int 1))) wpNone)) (gN 4) wYes (wOp wAdd (wSlice (wVar 4) wpNone (wpSome (wVar 2))) (wSlice (wVar 4) (wpSome (wOp wAdd (wVar 2) (wC (.int 1)))) wpNone))) (gN 3))
  (wAsg (wOp wAdd (wVar 1) (wOp wMul (wOp wMul (wOp wIx (wOp wIx (wVar 0) (wC (.int 0))) (wVar 2)) (wOp wSub (wC (.int 1)) (wOp wMul (wC (.int 2)) (wOp wMod (wVar 2) (wC (.int 2)))))) (wCall sr (wCons (wVar 3) wNil)))) (gN 1)))
noncomputable def t_zsize (sr : Spw) : TSw := (wSeq (wIfS (wTest (wOp wEq (wVar 0) (wLst wNil))) (wRet (wC (.int 1))) wNext)
  (wSeq (wAsg (wC (.int 0)) (gN 1))
  (wSeq (wFor [false, false, true, true, true] (iR1 (wCons (wCB wLen (wCons (wVar 0) wNil)) wNil)) (gN 2) (t_zsize_b1 sr))
  (wRet (wVar 1)))))
theorem rd_zsize (n : Nat) (ws : List W) (G : Gp) (Q : QW) (E) (h : spr_zsize (n + 1) ws G Q E) : t_zsize (spr_zsize n) { nx := fun _ G' => Q .non G', rt := Cl Q } (startW ["_law_table", "_law_found", "_law_j", "_law_rest", "_law_row_here"] ws) G := by
 obtain ⟨d, M, b, rfl, dn, d20, b1, bb, hM, q⟩ := h
 show t_zsize _ _ [some (tabW d M), none, none, none, none] G
 have big : 1000 < sizeLine := by decide
 have wd : wD 2 (tabW d M) := wD_lst fun w hw => by
  obtain ⟨r, _, rfl⟩ := List.mem_map.mp hw
  exact wD_lst fun w hw => by
   obtain ⟨v, _, rfl⟩ := List.mem_map.mp hw
   exact wD_int
 unfold t_zsize
 k_upd
 refine ⟨by decide, wOk_of wd (by decide), wOk_of (wD_lst (d := 0) fun w hw => by cases hw) (by decide), ?_⟩
 cases d with
 | zero =>
  rw [show weqb (tabW 0 M) (.lst []) = true from weqb_self (wD_lst (d := 0) fun w hw => by cases hw)]
  k_upd
  exact .inl q
 | succ d =>
  have e0 : weqb (tabW (d + 1) M) (.lst []) = false := by
   unfold tabW
   rw [tabL_map, List.range_succ_eq_map]
   simp [weqb, wdat, wdats, PyData.eqv, PyData.eqvAll]
  rw [e0]
  have ll : (tabL (d + 1) M).length = d + 1 := by simp [tabL]
  k_upd
  rw [ll]
  refine ⟨by omega, by omega, ?_⟩
  refine forW_range (fun k σ G1 => G1 = G ∧ σ = [some (tabW (d + 1) M), some (.int (si k (rT d M))), none, none, none]) ⟨rfl, rfl⟩ ?_ ?_
  ·rintro k hk σ G1 N ⟨rfl, rfl⟩ hN
   have hk : k < d + 1 := by omega
   have hk0 := hM 0 k (by omega) hk
   have s1 : (sgI k).natAbs < 2 ^ 1 := by unfold sgI; split <;> decide
   have s2 : (M 0 k * sgI k).natAbs < 2 ^ (b + 1) := natAbs_mul_lt hk0 s1
   have hm : ∀ i j, i < d → j < d → (M (sk 0 i) (sk k j)).natAbs < 2 ^ b := fun i j hi hj => hM _ _ (by unfold sk; split <;> omega) (by unfold sk; split <;> omega)
   have s3 := natAbs_lt_of_le (rdet_le hm)
   have s4 : d * (b + d) ≤ 20 * 1000020 := Nat.mul_le_mul (by omega) (by omega)
   obtain ⟨n, rfl⟩ : ∃ m, n = m + 1 := ⟨n - 1, by omega⟩
   unfold t_zsize_b1
   k_upd
   unfold tabW
   rw [tabL_map]
   k_upd
   rw [show (0 : Int) + (k : Int) = ((k : Nat) : Int) by omega, cut_1 _ _ (by simp)]
   refine ⟨by simp; omega, ?_⟩
   have dr : (List.range (d + 1)).drop 1 = (List.range d).map (sk 0) := by
    have := tri_split (n := d) (k := 0) (by omega)
    rw [← this, List.take_zero, List.nil_append]
   rw [dr, List.map_map]
   refine lcW_m (fun r => W.lst (intsW (rowL (d + 1) (M (sk 0 r))))) (fun r => W.lst (intsW (rowL d fun c => M (sk 0 r) (sk k c)))) _ _ ?_ ?_
   ·intro r hr P hP
    k_upd
    have er : ∀ f : Nat → Int, intsW (rowL (d + 1) f) = (List.range (d + 1)).map fun c => W.int (f c) := fun f => by unfold rowL intsW; rw [List.map_map]; rfl
    rw [er, cut_to _ _ (by simp; omega), show ((k : Nat) : Int) + 1 = ((k + 1 : Nat) : Int) by omega, cut_from _ _ (by simp; omega), ← List.map_append, tri_split (by omega), List.map_map]
    refine ⟨by simp; omega, ?_⟩
    have : intsW (rowL d fun c => M (sk 0 r) (sk k c)) = (List.range d).map ((fun c => W.int (M (sk 0 r) c)) ∘ sk k) := by unfold rowL intsW; rw [List.map_map]; rfl
    rw [← this]
    exact hP
   k_upd
   rw [show (0 : Int) = ((0 : Nat) : Int) from rfl, atI_map (fun i => W.lst (intsW (rowL (d + 1) (M i)))) (List.range (d + 1)) (by simp)]
   k_upd
   rw [List.getElem_range, atI_row hk]
   k_upd
   have es : 1 - 2 * (((k : Nat) : Int) % 2) = sgI k := by unfold sgI; split <;> omega
   rw [fmodP (by decide), es]
   refine ⟨by decide, cmX (a := 2) (b := 2) (by decide) (Nat.lt_of_lt_of_le (m := 2) (by omega) (by decide)) (by decide) (by decide) (by decide), cmX hk0 s1 (by omega) (by decide) (by omega), d, fun r c => M (sk 0 r) (sk k c), b, by unfold tabW; rw [tabL_map], by omega, by omega, b1, bb, hm, ?_⟩
   k_upd
   refine ⟨cmX s2 s3 (by omega) (by omega) (by omega), ?_⟩
   refine hN _ _ ⟨rfl, ?_⟩
   rw [show si (k + 1) (rT d M) = si k (rT d M) + M 0 k * sgI k * rdet d fun i j => M (sk 0 i) (sk k j) by show _ + rT d M k = _; unfold rT; rw [Int.mul_comm (sgI k)]]
   unfold tabW; rw [tabL_map]; rfl
  ·rintro σ G1 ⟨rfl, rfl⟩
   k_upd
   refine .inl ?_
   rw [rdet_succ] at q
   rw [show (((d + 1 : Nat) : Int)).toNat = d + 1 by omega]
   exact q
noncomputable def sp_zstiff : Spw := fun ws G Q E => ∃ (m : Nat) (ls : List Ln) (lost : Int), ws = [netW (m + 1) ls, .int lost] ∧ (∀ l ∈ ls, LnOk (m + 1) l) ∧ (ls.length ≤ 6) ∧ (m + 1 ≤ 4) ∧ Q (tabW m (lapA (keptL ls lost))) G
theorem len_zstiff (ws G Q E) (h : sp_zstiff ws G Q E) : ws.length = 2 := by obtain ⟨_, _, _, rfl, _⟩ := h; rfl
noncomputable def t_zstiff_b1 : TSw := (wSeq (wAsg (wOp wAdd (wOp wIx (wOp wIx (wVar 2) (wVar 8)) (wVar 8)) (wVar 6)) (gIx (wOp wIx (wVar 2) (wVar 8)) (wVar 8)))
  (wAsg (wOp wSub (wOp wIx (wOp wIx (wVar 2) (wVar 8)) (wVar 9)) (wVar 6)) (gIx (wOp wIx (wVar 2) (wVar 8)) (wVar 9))))
noncomputable def t_zstiff_b2 : TSw := (wIfS (wTest (wOp wNe (wVar 3) (wVar 1))) (wFor [true, false, false, true, true, true, false, true, true, true, true] (iSeqW (wLst (wCons (wTup (wCons (wVar 4) (wCons (wVar 5) wNil))) (wCons (wTup (wCons (wVar 5) (wCons (wVar 4) wNil))) wNil)))) (gT 2 (gsC (gN 8) (gsC (gN 9) gsN))) t_zstiff_b1) wNext)
noncomputable def t_zstiff_r1 : TSw := (wFzN 2 (wRet (wLcM [10] (iSeqW (wSlice (wVar 2) (wpSome (wC (.int 1))) wpNone)) (gN 10) wYes (wSlice (wVar 10) (wpSome (wC (.int 1))) wpNone))))
noncomputable def t_zstiff : TSw := (wSeq (wAsg (wLc [8] (iR1 (wCons (wOp wIx (wVar 0) (wC (.int 0))) wNil)) (gN 8) wYes (wLcM [9] (iR1 (wCons (wOp wIx (wVar 0) (wC (.int 0))) wNil)) (gN 9) wYes (wC (.int 0)))) (gN 2))
  (wSeq (wFor [true, false, false, true, true, true, true, true, true, true, true] (i_enumG (wCons (wOp wIx (wVar 0) (wC (.int 1))) wNil)) (gT 2 (gsC (gN 3) (gsC (gT 4 (gsC (gN 4) (gsC (gN 5) (gsC (gN 6) (gsC (gN 7) gsN))))) gsN))) t_zstiff_b2)
  t_zstiff_r1))
theorem rd_zstiff (ws : List W) (G : Gp) (Q : QW) (E) (h : sp_zstiff ws G Q E) : t_zstiff { nx := fun _ G' => Q .non G', rt := Cl Q } (startW ["_law_net_here", "_law_lost", "_law_table", "_law_k", "_law_one", "_law_other", "_law_stiffness", "_law_most", "_law_i", "_law_j", "_law_row_here"] ws) G := by
 obtain ⟨m, ls, lost, rfl, ok, few, n4, q⟩ := h
 show t_zstiff _ [some (netW (m + 1) ls), some (.int lost), none, none, none, none, none, none, none, none, none] G
 unfold t_zstiff
 k_upd
 have big : 1000 < sizeLine := by decide
 have em : ((((m + 1 : Nat)) : Int)).toNat = m + 1 := by omega
 refine ⟨by omega, by omega, by omega, ?_⟩
 refine lcW_step (fun k acc G1 => ∃ ps, acc = refsW ps ∧ ps.length = k ∧ Nst G ps (List.replicate k (rowL (m + 1) fun _ => 0)) G1) _ 0 _ _ _ ⟨[], rfl, rfl, Nst.nil⟩ ?_ ?_
 ·rintro w hw k acc G1 P ⟨ps, rfl, rfl, h⟩ hP
  k_upd
  refine ⟨by omega, by omega, by omega, ?_⟩
  rw [show rangeW 0 ((((m + 1 : Nat)) : Int)).toNat = (List.range (m + 1)).map fun i : Nat => W.int (0 + (i : Int)) by rw [em]; rfl]
  refine lcW_m (fun i : Nat => W.int (0 + (i : Int))) (fun _ => .int 0) _ _ ?_ ?_
  ·intro i hi P hP
   k_upd
   exact hP
  ·intro p hp
   have tw : (List.range (m + 1)).map (fun _ => W.int 0) = intsW (rowL (m + 1) fun _ => 0) := by unfold rowL intsW; rw [List.map_map]; rfl
   rw [tw]
   refine hP _ _ ⟨ps ++ [p], by simp, by simp, ?_⟩
   have := h.push hp (rowL (m + 1) fun _ => 0)
   rw [show List.replicate (ps.length + 1) (rowL (m + 1) fun _ => 0) = List.replicate ps.length (rowL (m + 1) fun _ => 0) ++ [rowL (m + 1) fun _ => 0] by rw [List.replicate_succ']]
   exact this
 ·rintro acc G1 ⟨ps, rfl, lp, h⟩
  rw [Nat.zero_add, rangeW_length, em] at lp h
  k_upd
  have e0 : List.replicate (m + 1) (rowL (m + 1) fun _ => 0) = tabL (m + 1) (lapI (keptU ls lost 0)) := by
   unfold tabL
   refine List.ext_getElem (by simp) fun i h1 h2 => ?_
   simp only [List.getElem_replicate, List.getElem_map, List.getElem_range]
   rfl
  rw [e0] at h
  refine forW_ix (fun k σ G1 => Nst G ps (tabL (m + 1) (lapI (keptU ls lost k))) G1 ∧ σ = [none, some (.int lost), some (.lst (refsW ps)), none, none, none, none, none, none, none, none]) _ 0 _ _ ⟨h, rfl⟩ ?_ ?_
  ·rintro k w hw σ G1 N ⟨h, rfl⟩ hN
   rw [Nat.zero_add] at hN h
   obtain ⟨hk, rfl⟩ := enum_at _ _ hw
   have okl := ok _ (List.getElem_mem hk)
   rw [lapI_kept hk okl.ne] at hN
   generalize lapI (keptU ls lost k) = M at h hN
   generalize ls[k] = l at okl hN ⊢
   unfold t_zstiff_b2
   k_upd
   by_cases c : (k : Int) = lost
   ·rw [decide_eq_true c]
    k_upd
    rw [if_pos c] at hN
    exact hN _ _ ⟨h, rfl⟩
   ·rw [decide_eq_false c]
    rw [if_neg c] at hN
    have turn : ∀ (D : EndsW) (a b : Nat) (M' : Nat → Nat → Int) (G2 : Gp) (x3 x4 x5 x7 : Option W), a < m + 1 → b < m + 1 → a ≠ b → Nst G ps (tabL (m + 1) M') G2 →
      (∀ G3, Nst G ps (tabL (m + 1) (lapH M' a b l.s)) G3 → D.nx [none, some (.int lost), some (.lst (refsW ps)), x3, x4, x5, some (.int (l.s : Int)), x7, some (.int (a : Int)), some (.int (b : Int)), none] G3) →
      t_zstiff_b1 D [none, some (.int lost), some (.lst (refsW ps)), x3, x4, x5, some (.int (l.s : Int)), x7, some (.int (a : Int)), some (.int (b : Int)), none] G2 := by
     intro D a b M' G2 x3 x4 x5 x7 ha hb ne h2 hD
     have s9 := okl.s.2
     unfold t_zstiff_b1
     k_upd
     rw [refs_at (by omega)]
     k_upd
     have g1 := h2.here a (by omega)
     rw [tabL_get ha] at g1
     rw [asL_at g1]
     k_upd
     rw [atI_row ha]
     k_upd
     rw [isG_at g1, ixN_natW (by simp [rowL]; exact ha)]
     k_upd
     have h3 := h2.set (i := a) (by omega) ((rowL (m + 1) (M' a)).set a (M' a a + (l.s : Int)))
     rw [tabL_set] at h3
     rw [map_set' W.int]
     generalize gup G2 ps[a] _ = G3 at h3 ⊢
     have g3 := h3.here a (by omega)
     rw [tabL_get ha] at g3
     rw [refs_at (by omega)]
     k_upd
     rw [asL_at g3]
     k_upd
     rw [atI_row hb]
     k_upd
     have e1 : upd2 M' a a (M' a a + (l.s : Int)) a b = M' a b := by unfold upd2; rw [if_neg (fun z => ne z.2.symm)]
     rw [e1, isG_at g3, ixN_natW (by simp [rowL]; exact hb)]
     k_upd
     rw [map_set' W.int]
     refine hD _ ?_
     have h4 := h3.set (i := a) (by omega) ((rowL (m + 1) (upd2 M' a a (M' a a + (l.s : Int)) a)).set b (M' a b - (l.s : Int)))
     rw [tabL_set] at h4
     unfold lapH
     dsimp only
     rw [e1]
     exact h4
    simp only [forW]
    k_upd
    refine ⟨by decide, by decide, by decide, ?_⟩
    refine turn _ l.a l.b M G1 _ _ _ _ okl.a okl.b okl.ne h fun G2 h2 => ?_
    k_upd
    refine turn _ l.b l.a _ G2 _ _ _ _ okl.b okl.a (Ne.symm okl.ne) h2 fun G3 h3 => ?_
    k_upd
    exact hN _ _ ⟨h3, rfl⟩
  ·rintro σ G1 ⟨h, rfl⟩
   rw [Nat.zero_add, enum_len, List.length_map] at h
   unfold t_zstiff_r1
   k_upd
   refine h.fz ?_
   k_upd
   rw [tabL_map, cut_1 _ _ (by simp)]
   refine ⟨by simp; omega, ?_⟩
   refine lcW_m (fun i => W.lst (intsW (rowL (m + 1) (lapI (keptL ls lost) i)))) (fun i => W.lst (intsW ((rowL (m + 1) (lapI (keptL ls lost) i)).drop 1))) _ _ ?_ ?_
   ·intro i hi P hP
    k_upd
    rw [cut_1 _ _ (by simp [rowL])]
    exact hP
   have er : ((List.range (m + 1)).drop 1).map (fun i => W.lst (intsW ((rowL (m + 1) (lapI (keptL ls lost) i)).drop 1))) = (tabL m (lapA (keptL ls lost))).map fun r => .lst (intsW r) := by
    rw [tabL_map]
    refine List.ext_getElem (by simp) fun i h1 h2 => ?_
    simp only [List.getElem_map, List.getElem_drop, List.getElem_range]
    refine congrArg (fun z => W.lst (intsW z)) ?_
    unfold rowL lapA
    refine List.ext_getElem (by simp) fun j j1 j2 => ?_
    simp [Nat.add_comm]
   rw [er]
   intro p hp
   exact TL.cl hp q
theorem scl_zero {m : Nat} {K : List Ln} (n4 : m + 1 ≤ 4) (ok : ∀ l ∈ K, LnOk (m + 1) l) (h : ¬ Conn (m + 1) (edges K)) : sclZ m K = 0 := by
 rw [scl_det]
 obtain ⟨S, h⟩ := Classical.not_forall.mp h
 obtain ⟨s0, h⟩ := Classical.not_imp.mp h
 obtain ⟨sS, h⟩ := Classical.not_imp.mp h
 obtain ⟨v, h⟩ := Classical.not_forall.mp h
 obtain ⟨hv, nv⟩ := Classical.not_imp.mp h
 have dS : ∀ i, Decidable (S i) := fun i => Classical.propDecidable _
 let y : Nat → Rat := fun i => if S i then 0 else 1
 have y0 : y 0 = 0 := if_pos s0
 have yv : y v = 1 := if_neg nv
 have o : ∀ i, outAt K y i = 0 := fun i => by
  unfold outAt
  rw [lsum_congr (g := fun _ => (0 : Rat)) fun l hl => ?_]
  ·have : ∀ xs : List Ln, lsum (fun _ => (0 : Rat)) xs = 0 := by
    intro xs
    induction xs with
    | nil => rfl
    | cons r xs ih => show (0 : Rat) + lsum _ xs = 0; rw [ih, Rat.add_zero]
   exact this _
  ·have e : y l.a = y l.b := by
    have := sS (l.a, l.b) (List.mem_map.mpr ⟨l, hl, rfl⟩)
    show (if S l.a then (0 : Rat) else 1) = if S l.b then 0 else 1
    by_cases c : S l.a
    ·rw [if_pos c, if_pos (this.mp c)]
    ·rw [if_neg c, if_neg fun z => c (this.mpr z)]
   unfold flowAt
   rw [e]
   split <;> split <;> grind
 obtain ⟨k, rfl⟩ : ∃ k, v = k + 1 := ⟨v - 1, by
  have : v ≠ 0 := fun z => nv (by rw [z]; exact s0)
  omega⟩
 have c := cramer (m := m) (by omega) (A := lapA K) (X := fun c => y (c + 1)) (b := fun _ => 0) (fun i hi => by
  have := o (i + 1)
  rw [← lap_out ok, sm_shift, y0] at this
  show sm m (fun c => ((lapI K (i + 1) (c + 1) : Int) : Rat) * y (c + 1)) = 0
  grind) (k := k) (by omega)
 have z : detZ m (repC (lapA K) k fun _ => 0) = 0 := by
  rcases (by omega : m = 1 ∨ m = 2 ∨ m = 3) with rfl | rfl | rfl
  ·obtain rfl : k = 0 := by omega
   rw [det1]; rfl
  ·rcases (by omega : k = 0 ∨ k = 1) with rfl | rfl <;> rw [det2] <;> simp [repC]
  ·rcases (by omega : k = 0 ∨ k = 1 ∨ k = 2) with rfl | rfl | rfl <;> rw [det3] <;> simp [repC]
 rw [z, yv, Rat.one_mul] at c
 exact_mod_cast c.symm
theorem scl_conn {m : Nat} {K : List Ln} (n4 : m + 1 ≤ 4) (few : K.length ≤ 6) (ok : ∀ l ∈ K, LnOk (m + 1) l) : decide (sclZ m K ≠ 0) = connB (m + 1) (edges K) := by
 refine connB_of ⟨fun h => ?_, fun h => scl_ne ⟨by omega, n4, few, ok, h⟩⟩
 exact Classical.byContradiction fun c => h (scl_zero n4 ok c)
noncomputable def sp_zlosable : Spw := fun ws G Q E => ∃ (m : Nat) (ls : List Ln), ws = [netW (m + 1) ls] ∧ (Net (m + 1) ls) ∧ tellL (natsW (dueL (m + 1) ls)) Q G
theorem len_zlosable (ws G Q E) (h : sp_zlosable ws G Q E) : ws.length = 1 := by obtain ⟨_, _, rfl, _⟩ := h; rfl
noncomputable def t_zlosable : TSw := (wRet (wLcM [1] (iR1 (wCons (wCB wLen (wCons (wOp wIx (wVar 0) (wC (.int 1))) wNil)) wNil)) (gN 1) (wTest (wOp wNe (wCall sp_zsize (wCons (wCall sp_zstiff (wCons (wVar 0) (wCons (wVar 1) wNil))) wNil)) (wC (.int 0)))) (wVar 1)))
theorem rd_zlosable (ws : List W) (G : Gp) (Q : QW) (E) (h : sp_zlosable ws G Q E) : t_zlosable { nx := fun _ G' => Q .non G', rt := Cl Q } (startW ["_law_net_here", "_law_k"] ws) G := by
 obtain ⟨m, ls, rfl, net, q⟩ := h
 show t_zlosable _ [some (netW (m + 1) ls), none] G
 unfold t_zlosable
 k_upd
 have big : 1000 < sizeLine := by decide
 have few := net.few
 have n4 := net.n4
 refine ⟨by omega, by omega, by omega, ?_⟩
 rw [show ((ls.length : Nat) : Int).toNat = ls.length by omega]
 refine lcW_filterA (fun k : Nat => W.int (0 + (k : Int))) (fun k => .int ((k : Nat) : Int)) (fun k => connB (m + 1) (edges (dropL ls k))) _ _ _ ?_ ?_
 ·intro k hk R P hR hP
  rw [List.mem_range] at hk
  rw [Int.zero_add]
  have dk : ∀ l ∈ keptL ls (k : Int), LnOk (m + 1) l := fun l hl => net.ok l (kept_mem (Nat.le_refl _) hl)
  have dn : (keptL ls (k : Int)).length ≤ 6 := by rw [kept_drop (by omega)]; unfold dropL; simp; omega
  k_upd
  refine ⟨m, ls, (k : Int), rfl, net.ok, few, n4, ?_⟩
  k_upd
  refine ⟨m, _, 6, rfl, Nat.le_trans (show m ≤ 3 by omega) (by decide), by omega, by decide, by decide, fun i j _ _ => ?_, ?_⟩
  ·have := lapI_le (i := i + 1) (j := j + 1) dk
   unfold lapA
   omega
  rw [show rdet m (lapA (keptL ls (k : Int))) = sclZ m (keptL ls (k : Int)) from rfl]
  have e := scl_conn n4 dn dk
  rw [kept_drop (show k < ls.length by omega)] at e ⊢
  k_upd
  cases c : connB (m + 1) (edges (dropL ls k)) with
  | true =>
   rw [c] at e
   have e := of_decide_eq_true e
   rw [decide_eq_false e, if_pos (by decide)]
   exact hR c
  | false =>
   rw [c] at e
   have e := Classical.not_not.mp (of_decide_eq_false e)
   rw [decide_eq_true e, if_neg (by decide)]
   exact hP c
 ·intro p hp
  exact q.cl hp
local macro_rules | `(tactic| k_upd) => `(tactic| walk_at "Wf9f74f49010006bd6bd6bd600000000000000efff1ac7000e3c3ff00a10")
noncomputable def rowB (w : W) (lo hi : Int) : Bool := match w with
 | .tup us => decide (lo ≤ ((us.length : Nat) : Int)) && decide (((us.length : Nat) : Int) ≤ hi)
 | _ => false
noncomputable def itemsW : W → List W
 | .tup us => us
 | _ => []
noncomputable def itW (w : W) (i : Nat) : W := (itemsW w).getD i .non
noncomputable def leB : W → W → Bool
 | .int i, .int j => decide (i ≤ j)
 | _, _ => false
noncomputable def isBlB : W → Bool
 | .bl _ => true
 | _ => false
noncomputable def intOf : W → Int
 | .int i => i
 | _ => 0
noncomputable def isNonB : W → Bool
 | .non => true
 | _ => false
noncomputable def pieceB (w : W) : Bool := rowB w 2 2 && (fromB (itW w 0) 1 20 && fromB (itW w 1) 0 99)
noncomputable def piecesB (w : W) : Bool := rowB w 1 2 && ((itemsW w).all pieceB && leB (itW (itW w 0) 1) (itW (itW w ((itemsW w).length - 1)) 1))
noncomputable def workB (n : Int) (w : W) : Bool := rowB w 8 8 && (fromB (itW w 0) 0 (n - 1) && (fromB (itW w 1) 0 20 && (fromB (itW w 2) 0 99 && (piecesB (itW w 3) && (fromB (itW w 4) 0 99 && (fromB (itW w 5) 1 2 && (fromB (itW w 6) 1 2 && isBlB (itW w 7))))))))
noncomputable def storeB (n : Int) (w : W) : Bool := isNonB w || (rowB w 5 5 && (fromB (itW w 0) 0 (n - 1) && (fromB (itW w 1) 1 2 && (fromB (itW w 2) 0 (intOf (itW w 1)) && (fromB (itW w 3) 1 20 && fromB (itW w 4) 0 (intOf (itW w 3)))))))
noncomputable def wantB (n : Int) (w : W) : Bool := rowB w 3 3 && (fromB (itW w 0) 0 (n - 1) && (fromB (itW w 1) 0 30 && fromB (itW w 2) 0 100))
noncomputable def wantsB (n : Int) (w : W) : Bool := rowB w 0 3 && (itemsW w).all (wantB n)
noncomputable def houseB (w : W) : Bool := rowB w 4 4 && (netB (itW w 0) && (rowB (itW w 1) 0 3 && ((itemsW (itW w 1)).all (workB (intOf (itW (itW w 0) 0))) && (storeB (intOf (itW (itW w 0) 0)) (itW w 2) && (rowB (itW w 3) 1 3 && (itemsW (itW w 3)).all (wantsB (intOf (itW (itW w 0) 0))))))))
theorem row_of {w : W} {lo hi : Int} (h : rowB w lo hi = true) : ∃ us, w = .tup us ∧ lo ≤ ((us.length : Nat) : Int) ∧ ((us.length : Nat) : Int) ≤ hi := by
 cases w with
 | tup us =>
  have h' : (decide (lo ≤ ((us.length : Nat) : Int)) && decide (((us.length : Nat) : Int) ≤ hi)) = true := h
  rw [Bool.and_eq_true] at h'
  exact ⟨us, rfl, of_decide_eq_true h'.1, of_decide_eq_true h'.2⟩
 | _ => cases h
theorem net_parts {w : W} (h : netB w = true) : ∃ (n : Int) (l : W), w = .tup [.int n, l] := by
 cases w with
 | tup us =>
  by_cases h2 : us.length = 2
  ·match us, h2 with
   | [m, l], _ =>
    have hM : fromB m 1 4 = true := by
     cases hM : fromB m 1 4 with
     | true => rfl
     | false =>
      have e : netB (.tup [m, l]) = false := by
       cases l <;> first | rfl | (show (fromB m 1 4 && _) = false; rw [hM]; rfl)
      rw [e] at h; cases h
    obtain ⟨n, rfl, _⟩ := from_int hM
    exact ⟨n, l, rfl⟩
  ·rw [net_not2 h2] at h; cases h
 | _ => cases h
theorem piece_of {w : W} (h : pieceB w = true) : ∃ x y : Int, w = .tup [.int x, .int y] := by
 unfold pieceB at h
 rw [Bool.and_eq_true, Bool.and_eq_true] at h
 obtain ⟨us, rfl, l1, l2⟩ := row_of h.1
 have hl : us.length = 2 := by omega
 match us, hl with
 | [a, b], _ =>
  obtain ⟨x, rfl, _⟩ := from_int (show fromB a 1 20 = true from h.2.1)
  obtain ⟨y, rfl, _⟩ := from_int (show fromB b 0 99 = true from h.2.2)
  exact ⟨x, y, rfl⟩
noncomputable def sp_is_row_of : Spw := fun ws G Q E => ∃ (w : W) (lo hi : Int), ws = [w, .int lo, .int hi] ∧ (datB w = true) ∧ Q (.bl (rowB w lo hi)) G
theorem len_is_row_of (ws G Q E) (h : sp_is_row_of ws G Q E) : ws.length = 3 := by obtain ⟨_, _, _, rfl, _⟩ := h; rfl
noncomputable def t_is_row_of : TSw := (wRet (wAndV (wUn (wIsi .tuple) (wVar 0)) (wChain wLe wLe (wVar 1) (wCB wLen (wCons (wVar 0) wNil)) (wVar 2))))
theorem rd_is_row_of (ws : List W) (G : Gp) (Q : QW) (E) (h : sp_is_row_of ws G Q E) : t_is_row_of { nx := fun _ G' => Q .non G', rt := Cl Q } (startW ["thing", "least", "most"] ws) G := by
 obtain ⟨w, lo, hi, rfl, d, q⟩ := h
 show t_is_row_of _ [some (w), some (.int lo), some (.int hi)] G
 unfold t_is_row_of
 k_upd
 cases w with
 | tup us =>
  have q' : Q (.bl (decide (lo ≤ ((us.length : Nat) : Int)) && decide (((us.length : Nat) : Int) ≤ hi))) G := q
  k_upd
  by_cases c : lo ≤ ((us.length : Nat) : Int)
  ·rw [decide_eq_true c] at q' ⊢
   k_upd
   exact .inl q'
  ·rw [decide_eq_false c] at q' ⊢
   k_upd
   exact .inl q'
 | _ => first | (k_upd; exact .inl q) | (simp [datB] at d)
noncomputable def sp_is_piece : Spw := fun ws G Q E => ∃ (w : W), ws = [w] ∧ (datB w = true) ∧ Q (.bl (pieceB w)) G
theorem len_is_piece (ws G Q E) (h : sp_is_piece ws G Q E) : ws.length = 1 := by obtain ⟨_, rfl, _⟩ := h; rfl
noncomputable def t_is_piece : TSw := (wRet (wAndV (wCall sp_is_row_of (wCons (wVar 0) (wCons (wC (.int 2)) (wCons (wC (.int 2)) wNil)))) (wAndV (wCall sp_is_from (wCons (wOp wIx (wVar 0) (wC (.int 0))) (wCons (wC (.int 1)) (wCons (wC (.int 20)) wNil)))) (wCall sp_is_from (wCons (wOp wIx (wVar 0) (wC (.int 1))) (wCons (wC (.int 0)) (wCons (wC (.int 99)) wNil)))))))
theorem rd_is_piece (ws : List W) (G : Gp) (Q : QW) (E) (h : sp_is_piece ws G Q E) : t_is_piece { nx := fun _ G' => Q .non G', rt := Cl Q } (startW ["thing"] ws) G := by
 obtain ⟨w, rfl, d, q⟩ := h
 show t_is_piece _ [some (w)] G
 unfold t_is_piece
 k_upd
 have q' := q
 unfold pieceB at q'
 refine ⟨w, 2, 2, rfl, d, ?_⟩
 rcases Bool.eq_false_or_eq_true (rowB w 2 2) with hT | hT
 rotate_left
 ·rw [hT] at q' ⊢
  k_upd
  first | exact .inl q' | (simp only [Bool.and_false, Bool.false_and] at q'; exact .inl q')
 rw [hT] at q' ⊢
 k_upd
 obtain ⟨us, rfl, l1, l2⟩ := row_of hT
 have hl : us.length = 2 := by omega
 match us, hl with
 | [a, b], _ =>
  have dd := dats_all.mp (show datsB [a, b] = true from d)
  k_upd
  refine ⟨a, 1, 20, rfl, dd a (by simp), ?_⟩
  replace q' : Q (.bl (true && (fromB a 1 20 && fromB b 0 99))) G := q'
  rcases Bool.eq_false_or_eq_true (fromB a 1 20) with hT | hT
  rotate_left
  ·rw [hT] at q' ⊢
   k_upd
   first | exact .inl q' | (simp only [Bool.and_false, Bool.false_and] at q'; exact .inl q')
  rw [hT] at q' ⊢
  k_upd
  exact ⟨b, 0, 99, rfl, dd b (by simp), .inl q'⟩
theorem all_map' {us : List W} {p : W → Bool} : (us.map fun w => W.bl (p w)) = (us.map p).map W.bl := by rw [List.map_map]; rfl
theorem all_id {us : List W} {p : W → Bool} : (us.map p).all id = us.all p := by rw [List.all_map]; rfl
noncomputable def sp_are_pieces : Spw := fun ws G Q E => ∃ (w : W), ws = [w] ∧ (datB w = true) ∧ Q (.bl (piecesB w)) G
theorem len_are_pieces (ws G Q E) (h : sp_are_pieces ws G Q E) : ws.length = 1 := by obtain ⟨_, rfl, _⟩ := h; rfl
noncomputable def t_are_pieces : TSw := (wSeq (wIfS (wOr (wNot (wTest (wCall sp_is_row_of (wCons (wVar 0) (wCons (wC (.int 1)) (wCons (wC (.int 2)) wNil)))))) (wNot (wTest (wCB wAll (wCons (wLc [1] (iSeqW (wVar 0)) (gN 1) wYes (wCall sp_is_piece (wCons (wVar 1) wNil))) wNil))))) (wRet (wC (.bl false))) wNext)
  (wRet (wOp wLe (wOp wIx (wOp wIx (wVar 0) (wC (.int 0))) (wC (.int 1))) (wOp wIx (wOp wIx (wVar 0) (wNeg (wC (.int 1)))) (wC (.int 1))))))
theorem rd_are_pieces (ws : List W) (G : Gp) (Q : QW) (E) (h : sp_are_pieces ws G Q E) : t_are_pieces { nx := fun _ G' => Q .non G', rt := Cl Q } (startW ["thing", "piece"] ws) G := by
 obtain ⟨w, rfl, d, q⟩ := h
 show t_are_pieces _ [some (w), none] G
 unfold t_are_pieces
 k_upd
 have big : 1000 < sizeLine := by decide
 have q' := q
 unfold piecesB at q'
 refine ⟨w, 1, 2, rfl, d, ?_⟩
 rcases Bool.eq_false_or_eq_true (rowB w 1 2) with hT | hT
 rotate_left
 ·rw [hT] at q' ⊢
  k_upd
  first | exact .inl q' | (simp only [Bool.and_false, Bool.false_and] at q'; exact .inl q')
 rw [hT] at q' ⊢
 k_upd
 obtain ⟨us, rfl, l1, l2⟩ := row_of hT
 have dd := dats_all.mp (show datsB us = true from d)
 k_upd
 refine ⟨by omega, ?_⟩
 replace q' : Q (.bl (true && (us.all pieceB && leB (itW (us.getD 0 .non) 1) (itW (us.getD (us.length - 1) .non) 1)))) G := q'
 rw [show us = us.map (fun w => w) by simp]
 refine lcW_m (fun w : W => w) (fun w => .bl (pieceB w)) _ _ ?_ ?_
 ·intro w hw P hP
  k_upd
  exact ⟨w, rfl, dd w hw, hP⟩
 refine ⟨us.map pieceB, all_map', ?_⟩
 rw [all_id]
 simp only [List.map_id']
 rcases Bool.eq_false_or_eq_true (us.all pieceB) with hT | hT
 rotate_left
 ·rw [hT] at q' ⊢
  k_upd
  first | exact .inl q' | (simp only [Bool.and_false, Bool.false_and] at q'; exact .inl q')
 rw [hT] at q' ⊢
 k_upd
 rw [List.all_eq_true] at hT
 rcases (by omega : us.length = 1 ∨ us.length = 2) with hl | hl
 ·match us, hl with
  | [a], _ =>
   obtain ⟨x, y, rfl⟩ := piece_of (hT a (by simp))
   exact .inl q'
 ·match us, hl with
  | [a, b], _ =>
   obtain ⟨x, y, rfl⟩ := piece_of (hT a (by simp))
   obtain ⟨x2, y2, rfl⟩ := piece_of (hT b (by simp))
   exact .inl q'
noncomputable def sp_is_work : Spw := fun ws G Q E => ∃ (w : W) (n : Int), ws = [w, .int n] ∧ (datB w = true) ∧ Q (.bl (workB n w)) G
theorem len_is_work (ws G Q E) (h : sp_is_work ws G Q E) : ws.length = 2 := by obtain ⟨_, _, rfl, _⟩ := h; rfl
noncomputable def t_is_work : TSw := (wSeq (wIfS (wNot (wTest (wCall sp_is_row_of (wCons (wVar 0) (wCons (wC (.int 8)) (wCons (wC (.int 8)) wNil)))))) (wRet (wC (.bl false))) wNext)
  (wSeq (wAsg (wVar 0) (gT 8 (gsC (gN 2) (gsC (gN 3) (gsC (gN 4) (gsC (gN 5) (gsC (gN 6) (gsC (gN 7) (gsC (gN 8) (gsC (gN 9) gsN))))))))))
  (wSeq (wIfS (wOr (wNot (wTest (wCall sp_is_from (wCons (wVar 2) (wCons (wC (.int 0)) (wCons (wOp wSub (wVar 1) (wC (.int 1))) wNil)))))) (wOr (wNot (wTest (wCall sp_is_from (wCons (wVar 3) (wCons (wC (.int 0)) (wCons (wC (.int 20)) wNil)))))) (wNot (wTest (wCall sp_is_from (wCons (wVar 4) (wCons (wC (.int 0)) (wCons (wC (.int 99)) wNil)))))))) (wRet (wC (.bl false))) wNext)
  (wSeq (wIfS (wOr (wNot (wTest (wCall sp_are_pieces (wCons (wVar 5) wNil)))) (wNot (wTest (wCall sp_is_from (wCons (wVar 6) (wCons (wC (.int 0)) (wCons (wC (.int 99)) wNil))))))) (wRet (wC (.bl false))) wNext)
  (wRet (wAndV (wCall sp_is_from (wCons (wVar 7) (wCons (wC (.int 1)) (wCons (wC (.int 2)) wNil)))) (wAndV (wCall sp_is_from (wCons (wVar 8) (wCons (wC (.int 1)) (wCons (wC (.int 2)) wNil)))) (wUn (wIsi .bool) (wVar 9)))))))))
theorem rd_is_work (ws : List W) (G : Gp) (Q : QW) (E) (h : sp_is_work ws G Q E) : t_is_work { nx := fun _ G' => Q .non G', rt := Cl Q } (startW ["thing", "many", "place", "least", "keep", "pieces", "start", "stay", "rest", "was"] ws) G := by
 obtain ⟨w, n, rfl, d, q⟩ := h
 show t_is_work _ [some (w), some (.int n), none, none, none, none, none, none, none, none] G
 unfold t_is_work
 k_upd
 have q' := q
 unfold workB at q'
 refine ⟨w, 8, 8, rfl, d, ?_⟩
 rcases Bool.eq_false_or_eq_true (rowB w 8 8) with hT | hT
 rotate_left
 ·rw [hT] at q' ⊢
  k_upd
  first | exact .inl q' | (simp only [Bool.and_false, Bool.false_and] at q'; exact .inl q')
 rw [hT] at q' ⊢
 k_upd
 obtain ⟨us, rfl, l1, l2⟩ := row_of hT
 have hl : us.length = 8 := by omega
 match us, hl with
 | [a, b, c, e, f, g, h, i], _ =>
  have dd := dats_all.mp (show datsB [a, b, c, e, f, g, h, i] = true from d)
  replace q' : Q (.bl (true && (fromB a 0 (n - 1) && (fromB b 0 20 && (fromB c 0 99 && (piecesB e && (fromB f 0 99 && (fromB g 1 2 && (fromB h 1 2 && isBlB i))))))))) G := q'
  k_upd
  refine ⟨a, 0, n - 1, rfl, dd a (by simp), ?_⟩
  rcases Bool.eq_false_or_eq_true (fromB a 0 (n - 1)) with hT | hT
  rotate_left
  ·rw [hT] at q' ⊢
   k_upd
   first | exact .inl q' | (simp only [Bool.and_false, Bool.false_and] at q'; exact .inl q')
  rw [hT] at q' ⊢
  k_upd
  refine ⟨b, 0, 20, rfl, dd b (by simp), ?_⟩
  rcases Bool.eq_false_or_eq_true (fromB b 0 20) with hT | hT
  rotate_left
  ·rw [hT] at q' ⊢
   k_upd
   first | exact .inl q' | (simp only [Bool.and_false, Bool.false_and] at q'; exact .inl q')
  rw [hT] at q' ⊢
  k_upd
  refine ⟨c, 0, 99, rfl, dd c (by simp), ?_⟩
  rcases Bool.eq_false_or_eq_true (fromB c 0 99) with hT | hT
  rotate_left
  ·rw [hT] at q' ⊢
   k_upd
   first | exact .inl q' | (simp only [Bool.and_false, Bool.false_and] at q'; exact .inl q')
  rw [hT] at q' ⊢
  k_upd
  refine ⟨e, rfl, dd e (by simp), ?_⟩
  rcases Bool.eq_false_or_eq_true (piecesB e) with hT | hT
  rotate_left
  ·rw [hT] at q' ⊢
   k_upd
   first | exact .inl q' | (simp only [Bool.and_false, Bool.false_and] at q'; exact .inl q')
  rw [hT] at q' ⊢
  k_upd
  refine ⟨f, 0, 99, rfl, dd f (by simp), ?_⟩
  rcases Bool.eq_false_or_eq_true (fromB f 0 99) with hT | hT
  rotate_left
  ·rw [hT] at q' ⊢
   k_upd
   first | exact .inl q' | (simp only [Bool.and_false, Bool.false_and] at q'; exact .inl q')
  rw [hT] at q' ⊢
  k_upd
  refine ⟨g, 1, 2, rfl, dd g (by simp), ?_⟩
  rcases Bool.eq_false_or_eq_true (fromB g 1 2) with hT | hT
  rotate_left
  ·rw [hT] at q' ⊢
   k_upd
   first | exact .inl q' | (simp only [Bool.and_false, Bool.false_and] at q'; exact .inl q')
  rw [hT] at q' ⊢
  k_upd
  refine ⟨h, 1, 2, rfl, dd h (by simp), ?_⟩
  rcases Bool.eq_false_or_eq_true (fromB h 1 2) with hT | hT
  rotate_left
  ·rw [hT] at q' ⊢
   k_upd
   first | exact .inl q' | (simp only [Bool.and_false, Bool.false_and] at q'; exact .inl q')
  rw [hT] at q' ⊢
  k_upd
  have di := dd i (by simp)
  cases i <;> first | (k_upd; exact .inl q') | (simp [datB] at di)
noncomputable def sp_is_store : Spw := fun ws G Q E => ∃ (w : W) (n : Int), ws = [w, .int n] ∧ (datB w = true) ∧ Q (.bl (storeB n w)) G
theorem len_is_store (ws G Q E) (h : sp_is_store ws G Q E) : ws.length = 2 := by obtain ⟨_, _, rfl, _⟩ := h; rfl
noncomputable def t_is_store : TSw := (wSeq (wIfS (wTest (wIsN (wVar 0))) (wRet (wC (.bl true))) wNext)
  (wSeq (wIfS (wNot (wTest (wCall sp_is_row_of (wCons (wVar 0) (wCons (wC (.int 5)) (wCons (wC (.int 5)) wNil)))))) (wRet (wC (.bl false))) wNext)
  (wSeq (wAsg (wVar 0) (gT 5 (gsC (gN 2) (gsC (gN 3) (gsC (gN 4) (gsC (gN 5) (gsC (gN 6) gsN)))))))
  (wSeq (wIfS (wOr (wNot (wTest (wCall sp_is_from (wCons (wVar 2) (wCons (wC (.int 0)) (wCons (wOp wSub (wVar 1) (wC (.int 1))) wNil)))))) (wOr (wNot (wTest (wCall sp_is_from (wCons (wVar 3) (wCons (wC (.int 1)) (wCons (wC (.int 2)) wNil)))))) (wNot (wTest (wCall sp_is_from (wCons (wVar 4) (wCons (wC (.int 0)) (wCons (wVar 3) wNil)))))))) (wRet (wC (.bl false))) wNext)
  (wRet (wAndV (wCall sp_is_from (wCons (wVar 5) (wCons (wC (.int 1)) (wCons (wC (.int 20)) wNil)))) (wCall sp_is_from (wCons (wVar 6) (wCons (wC (.int 0)) (wCons (wVar 5) wNil))))))))))
theorem rd_is_store (ws : List W) (G : Gp) (Q : QW) (E) (h : sp_is_store ws G Q E) : t_is_store { nx := fun _ G' => Q .non G', rt := Cl Q } (startW ["thing", "many", "place", "top", "level", "taken", "given"] ws) G := by
 obtain ⟨w, n, rfl, d, q⟩ := h
 show t_is_store _ [some (w), some (.int n), none, none, none, none, none] G
 unfold t_is_store
 k_upd
 by_cases hn : w = .non
 ·subst hn
  k_upd
  exact .inl q
 have q' : Q (.bl (rowB w 5 5 && (fromB (itW w 0) 0 (n - 1) && (fromB (itW w 1) 1 2 && (fromB (itW w 2) 0 (intOf (itW w 1)) && (fromB (itW w 3) 1 20 && fromB (itW w 4) 0 (intOf (itW w 3)))))))) G := by
  have e : isNonB w = false := by cases w <;> first | rfl | exact absurd rfl hn
  unfold storeB at q
  rw [e] at q
  exact q
 have e2 : isNon w = false := by cases w <;> first | rfl | exact absurd rfl hn
 refine Eq.mpr (if_neg (show ¬ isNon w = true by rw [e2]; decide)) ?_
 k_upd
 refine ⟨w, 5, 5, rfl, d, ?_⟩
 rcases Bool.eq_false_or_eq_true (rowB w 5 5) with hT | hT
 rotate_left
 ·rw [hT] at q' ⊢
  k_upd
  first | exact .inl q' | (simp only [Bool.and_false, Bool.false_and] at q'; exact .inl q')
 rw [hT] at q' ⊢
 k_upd
 obtain ⟨us, rfl, l1, l2⟩ := row_of hT
 have hl : us.length = 5 := by omega
 match us, hl with
 | [a, b, c, e, f], _ =>
  have dd := dats_all.mp (show datsB [a, b, c, e, f] = true from d)
  replace q' : Q (.bl (true && (fromB a 0 (n - 1) && (fromB b 1 2 && (fromB c 0 (intOf b) && (fromB e 1 20 && fromB f 0 (intOf e))))))) G := q'
  k_upd
  refine ⟨a, 0, n - 1, rfl, dd a (by simp), ?_⟩
  rcases Bool.eq_false_or_eq_true (fromB a 0 (n - 1)) with hT | hT
  rotate_left
  ·rw [hT] at q' ⊢
   k_upd
   first | exact .inl q' | (simp only [Bool.and_false, Bool.false_and] at q'; exact .inl q')
  rw [hT] at q' ⊢
  k_upd
  refine ⟨b, 1, 2, rfl, dd b (by simp), ?_⟩
  rcases Bool.eq_false_or_eq_true (fromB b 1 2) with hT | hT
  rotate_left
  ·rw [hT] at q' ⊢
   k_upd
   first | exact .inl q' | (simp only [Bool.and_false, Bool.false_and] at q'; exact .inl q')
  rw [hT] at q' ⊢
  k_upd
  obtain ⟨t, rfl, _⟩ := from_int hT
  refine ⟨c, 0, t, rfl, dd c (by simp), ?_⟩
  rw [show intOf (.int t) = t from rfl] at q'
  rcases Bool.eq_false_or_eq_true (fromB c 0 t) with hT | hT
  rotate_left
  ·rw [hT] at q' ⊢
   k_upd
   first | exact .inl q' | (simp only [Bool.and_false, Bool.false_and] at q'; exact .inl q')
  rw [hT] at q' ⊢
  k_upd
  refine ⟨e, 1, 20, rfl, dd e (by simp), ?_⟩
  rcases Bool.eq_false_or_eq_true (fromB e 1 20) with hT | hT
  rotate_left
  ·rw [hT] at q' ⊢
   k_upd
   first | exact .inl q' | (simp only [Bool.and_false, Bool.false_and] at q'; exact .inl q')
  rw [hT] at q' ⊢
  k_upd
  obtain ⟨u, rfl, _⟩ := from_int hT
  exact ⟨f, 0, u, rfl, dd f (by simp), .inl q'⟩
noncomputable def sp_is_want : Spw := fun ws G Q E => ∃ (w : W) (n : Int), ws = [w, .int n] ∧ (datB w = true) ∧ Q (.bl (wantB n w)) G
theorem len_is_want (ws G Q E) (h : sp_is_want ws G Q E) : ws.length = 2 := by obtain ⟨_, _, rfl, _⟩ := h; rfl
noncomputable def t_is_want : TSw := (wSeq (wIfS (wNot (wTest (wCall sp_is_row_of (wCons (wVar 0) (wCons (wC (.int 3)) (wCons (wC (.int 3)) wNil)))))) (wRet (wC (.bl false))) wNext)
  (wRet (wAndV (wCall sp_is_from (wCons (wOp wIx (wVar 0) (wC (.int 0))) (wCons (wC (.int 0)) (wCons (wOp wSub (wVar 1) (wC (.int 1))) wNil)))) (wAndV (wCall sp_is_from (wCons (wOp wIx (wVar 0) (wC (.int 1))) (wCons (wC (.int 0)) (wCons (wC (.int 30)) wNil)))) (wCall sp_is_from (wCons (wOp wIx (wVar 0) (wC (.int 2))) (wCons (wC (.int 0)) (wCons (wC (.int 100)) wNil))))))))
theorem rd_is_want (ws : List W) (G : Gp) (Q : QW) (E) (h : sp_is_want ws G Q E) : t_is_want { nx := fun _ G' => Q .non G', rt := Cl Q } (startW ["thing", "many"] ws) G := by
 obtain ⟨w, n, rfl, d, q⟩ := h
 show t_is_want _ [some (w), some (.int n)] G
 unfold t_is_want
 k_upd
 have q' := q
 unfold wantB at q'
 refine ⟨w, 3, 3, rfl, d, ?_⟩
 rcases Bool.eq_false_or_eq_true (rowB w 3 3) with hT | hT
 rotate_left
 ·rw [hT] at q' ⊢
  k_upd
  first | exact .inl q' | (simp only [Bool.and_false, Bool.false_and] at q'; exact .inl q')
 rw [hT] at q' ⊢
 k_upd
 obtain ⟨us, rfl, l1, l2⟩ := row_of hT
 have hl : us.length = 3 := by omega
 match us, hl with
 | [a, b, c], _ =>
  have dd := dats_all.mp (show datsB [a, b, c] = true from d)
  replace q' : Q (.bl (true && (fromB a 0 (n - 1) && (fromB b 0 30 && fromB c 0 100)))) G := q'
  k_upd
  refine ⟨a, 0, n - 1, rfl, dd a (by simp), ?_⟩
  rcases Bool.eq_false_or_eq_true (fromB a 0 (n - 1)) with hT | hT
  rotate_left
  ·rw [hT] at q' ⊢
   k_upd
   first | exact .inl q' | (simp only [Bool.and_false, Bool.false_and] at q'; exact .inl q')
  rw [hT] at q' ⊢
  k_upd
  refine ⟨b, 0, 30, rfl, dd b (by simp), ?_⟩
  rcases Bool.eq_false_or_eq_true (fromB b 0 30) with hT | hT
  rotate_left
  ·rw [hT] at q' ⊢
   k_upd
   first | exact .inl q' | (simp only [Bool.and_false, Bool.false_and] at q'; exact .inl q')
  rw [hT] at q' ⊢
  k_upd
  exact ⟨c, 0, 100, rfl, dd c (by simp), .inl q'⟩
noncomputable def sp_are_wants : Spw := fun ws G Q E => ∃ (w : W) (n : Int), ws = [w, .int n] ∧ (datB w = true) ∧ Q (.bl (wantsB n w)) G
theorem len_are_wants (ws G Q E) (h : sp_are_wants ws G Q E) : ws.length = 2 := by obtain ⟨_, _, rfl, _⟩ := h; rfl
noncomputable def t_are_wants : TSw := (wRet (wAndV (wCall sp_is_row_of (wCons (wVar 0) (wCons (wC (.int 0)) (wCons (wC (.int 3)) wNil)))) (wCB wAll (wCons (wLc [2] (iSeqW (wVar 0)) (gN 2) wYes (wCall sp_is_want (wCons (wVar 2) (wCons (wVar 1) wNil)))) wNil))))
theorem rd_are_wants (ws : List W) (G : Gp) (Q : QW) (E) (h : sp_are_wants ws G Q E) : t_are_wants { nx := fun _ G' => Q .non G', rt := Cl Q } (startW ["thing", "many", "want"] ws) G := by
 obtain ⟨w, n, rfl, d, q⟩ := h
 show t_are_wants _ [some (w), some (.int n), none] G
 unfold t_are_wants
 k_upd
 have big : 1000 < sizeLine := by decide
 have q' := q
 unfold wantsB at q'
 refine ⟨w, 0, 3, rfl, d, ?_⟩
 rcases Bool.eq_false_or_eq_true (rowB w 0 3) with hT | hT
 rotate_left
 ·rw [hT] at q' ⊢
  k_upd
  first | exact .inl q' | (simp only [Bool.and_false, Bool.false_and] at q'; exact .inl q')
 rw [hT] at q' ⊢
 k_upd
 obtain ⟨us, rfl, l1, l2⟩ := row_of hT
 have dd := dats_all.mp (show datsB us = true from d)
 k_upd
 refine ⟨by omega, ?_⟩
 rw [show us = us.map (fun w => w) by simp]
 refine lcW_m (fun w : W => w) (fun w => .bl (wantB n w)) _ _ ?_ ?_
 ·intro w hw P hP
  k_upd
  exact ⟨w, n, rfl, dd w hw, hP⟩
 refine ⟨us.map (wantB n), all_map', ?_⟩
 rw [all_id]
 exact .inl q'
noncomputable def sp_is_house : Spw := fun ws G Q E => ∃ (w : W), ws = [w] ∧ (datB w = true) ∧ (∀ m us, itW w 0 = .tup [m, .tup us] → us.length ≤ 1000) ∧ Q (.bl (houseB w)) G
theorem len_is_house (ws G Q E) (h : sp_is_house ws G Q E) : ws.length = 1 := by obtain ⟨_, rfl, _⟩ := h; rfl
noncomputable def t_is_house : TSw := (wSeq (wIfS (wOr (wNot (wTest (wCall sp_is_row_of (wCons (wVar 0) (wCons (wC (.int 4)) (wCons (wC (.int 4)) wNil)))))) (wNot (wTest (wCall sp_is_net (wCons (wOp wIx (wVar 0) (wC (.int 0))) wNil))))) (wRet (wC (.bl false))) wNext)
  (wSeq (wAsg (wOp wIx (wOp wIx (wVar 0) (wC (.int 0))) (wC (.int 0))) (gN 1))
  (wSeq (wIfS (wOr (wNot (wTest (wCall sp_is_row_of (wCons (wOp wIx (wVar 0) (wC (.int 1))) (wCons (wC (.int 0)) (wCons (wC (.int 3)) wNil)))))) (wNot (wTest (wCB wAll (wCons (wLc [2] (iSeqW (wOp wIx (wVar 0) (wC (.int 1)))) (gN 2) wYes (wCall sp_is_work (wCons (wVar 2) (wCons (wVar 1) wNil)))) wNil))))) (wRet (wC (.bl false))) wNext)
  (wSeq (wIfS (wOr (wNot (wTest (wCall sp_is_store (wCons (wOp wIx (wVar 0) (wC (.int 2))) (wCons (wVar 1) wNil))))) (wNot (wTest (wCall sp_is_row_of (wCons (wOp wIx (wVar 0) (wC (.int 3))) (wCons (wC (.int 1)) (wCons (wC (.int 3)) wNil))))))) (wRet (wC (.bl false))) wNext)
  (wRet (wCB wAll (wCons (wLc [3] (iSeqW (wOp wIx (wVar 0) (wC (.int 3)))) (gN 3) wYes (wCall sp_are_wants (wCons (wVar 3) (wCons (wVar 1) wNil)))) wNil)))))))
theorem rd_is_house (ws : List W) (G : Gp) (Q : QW) (E) (h : sp_is_house ws G Q E) : t_is_house { nx := fun _ G' => Q .non G', rt := Cl Q } (startW ["thing", "many", "work", "wants"] ws) G := by
 obtain ⟨w, rfl, d, wid, q⟩ := h
 show t_is_house _ [some (w), none, none, none] G
 unfold t_is_house
 k_upd
 have big : 1000 < sizeLine := by decide
 have q' := q
 unfold houseB at q'
 refine ⟨w, 4, 4, rfl, d, ?_⟩
 rcases Bool.eq_false_or_eq_true (rowB w 4 4) with hT | hT
 rotate_left
 ·rw [hT] at q' ⊢
  k_upd
  first | exact .inl q' | (simp only [Bool.and_false, Bool.false_and] at q'; exact .inl q')
 rw [hT] at q' ⊢
 k_upd
 obtain ⟨us, rfl, l1, l2⟩ := row_of hT
 have hl : us.length = 4 := by omega
 match us, hl with
 | [a, b, c, e], _ =>
  have dd := dats_all.mp (show datsB [a, b, c, e] = true from d)
  replace q' : Q (.bl (true && (netB a && (rowB b 0 3 && ((itemsW b).all (workB (intOf (itW a 0))) && (storeB (intOf (itW a 0)) c && (rowB e 1 3 && (itemsW e).all (wantsB (intOf (itW a 0))))))))))  G := q'
  k_upd
  refine ⟨a, rfl, dd a (by simp), wid, ?_⟩
  rcases Bool.eq_false_or_eq_true (netB a) with hT | hT
  rotate_left
  ·rw [hT] at q' ⊢
   k_upd
   first | exact .inl q' | (simp only [Bool.and_false, Bool.false_and] at q'; exact .inl q')
  rw [hT] at q' ⊢
  k_upd
  obtain ⟨n, l, rfl⟩ := net_parts hT
  rw [show intOf (itW (.tup [.int n, l]) 0) = n from rfl] at q'
  k_upd
  refine ⟨b, 0, 3, rfl, dd b (by simp), ?_⟩
  rcases Bool.eq_false_or_eq_true (rowB b 0 3) with hT | hT
  rotate_left
  ·rw [hT] at q' ⊢
   k_upd
   first | exact .inl q' | (simp only [Bool.and_false, Bool.false_and] at q'; exact .inl q')
  rw [hT] at q' ⊢
  k_upd
  obtain ⟨us, rfl, l1, l2⟩ := row_of hT
  have du := dats_all.mp (show datsB us = true from dd (.tup us) (by simp))
  k_upd
  refine ⟨by omega, ?_⟩
  rw [show us = us.map (fun w => w) by simp]
  refine lcW_m (fun w : W => w) (fun w => .bl (workB n w)) _ _ ?_ ?_
  ·intro w hw P hP
   k_upd
   exact ⟨w, n, rfl, du w hw, hP⟩
  refine ⟨us.map (workB n), all_map', ?_⟩
  rw [all_id]
  rw [show itemsW (.tup us) = us from rfl] at q'
  simp only [List.map_id']
  rcases Bool.eq_false_or_eq_true (us.all (workB n)) with hT | hT
  rotate_left
  ·rw [hT] at q' ⊢
   k_upd
   first | exact .inl q' | (simp only [Bool.and_false, Bool.false_and] at q'; exact .inl q')
  rw [hT] at q' ⊢
  k_upd
  refine ⟨c, n, rfl, dd c (by simp), ?_⟩
  rcases Bool.eq_false_or_eq_true (storeB n c) with hT | hT
  rotate_left
  ·rw [hT] at q' ⊢
   k_upd
   first | exact .inl q' | (simp only [Bool.and_false, Bool.false_and] at q'; exact .inl q')
  rw [hT] at q' ⊢
  k_upd
  refine ⟨e, 1, 3, rfl, dd e (by simp), ?_⟩
  rcases Bool.eq_false_or_eq_true (rowB e 1 3) with hT | hT
  rotate_left
  ·rw [hT] at q' ⊢
   k_upd
   first | exact .inl q' | (simp only [Bool.and_false, Bool.false_and] at q'; exact .inl q')
  rw [hT] at q' ⊢
  k_upd
  obtain ⟨vs, rfl, l1, l2⟩ := row_of hT
  have dv := dats_all.mp (show datsB vs = true from dd (.tup vs) (by simp))
  k_upd
  refine ⟨by omega, ?_⟩
  rw [show vs = vs.map (fun w => w) by simp]
  refine lcW_m (fun w : W => w) (fun w => .bl (wantsB n w)) _ _ ?_ ?_
  ·intro w hw P hP
   k_upd
   exact ⟨w, n, rfl, dv w hw, hP⟩
  refine ⟨vs.map (wantsB n), all_map', ?_⟩
  rw [all_id]
  exact .inl q'
theorem from_nat {k : Nat} {lo hi : Int} (h1 : lo ≤ (k : Int)) (h2 : (k : Int) ≤ hi) : fromB (.int ((k : Nat) : Int)) lo hi = true := by
 show (decide (lo ≤ ((k : Nat) : Int)) && decide (((k : Nat) : Int) ≤ hi)) = true
 rw [decide_eq_true h1, decide_eq_true h2]; rfl
theorem row_true {us : List W} {lo hi : Int} (h1 : lo ≤ ((us.length : Nat) : Int)) (h2 : ((us.length : Nat) : Int) ≤ hi) : rowB (.tup us) lo hi = true := by
 show (decide (lo ≤ ((us.length : Nat) : Int)) && decide (((us.length : Nat) : Int) ≤ hi)) = true
 rw [decide_eq_true h1, decide_eq_true h2]; rfl
theorem pieces_true {n : Nat} {k : Wk} (h : WkOk n k) : piecesB (.tup (k.pieces.map fun v => pieceW v)) = true := by
 unfold piecesB
 have hp : ∀ v ∈ k.pieces, pieceB (pieceW v) = true := fun v hv => by
  obtain ⟨a, b, c⟩ := h.pieces v hv
  unfold pieceB
  rw [row_true (by show (2 : Int) ≤ 2; decide) (by show (2 : Int) ≤ 2; decide)]
  show (fromB (.int ((v.1 : Nat) : Int)) 1 20 && fromB (.int ((v.2 : Nat) : Int)) 0 99) = true
  rw [from_nat (by omega) (by omega), from_nat (by omega) (by omega)]; rfl
 have ho := h.ord
 have hf := h.few
 rw [row_true (by rw [List.length_map]; omega) (by rw [List.length_map]; omega)]
 rw [show itemsW (.tup (k.pieces.map fun v => pieceW v)) = k.pieces.map fun v => pieceW v from rfl]
 rw [show (k.pieces.map fun v => pieceW v).all pieceB = true from List.all_eq_true.mpr fun w hw => by
  obtain ⟨v, hv, rfl⟩ := List.mem_map.mp hw
  exact hp v hv]
 rcases (by omega : k.pieces.length = 1 ∨ k.pieces.length = 2) with hl | hl
 ·match hk : k.pieces, hl with
  | [a], _ =>
   show decide (((a.2 : Nat) : Int) ≤ ((a.2 : Nat) : Int)) = true
   rw [decide_eq_true (by omega)]
 ·match hk : k.pieces, hl with
  | [a, b], _ =>
   rw [hk] at ho
   have ho : a.2 ≤ b.2 := ho
   show decide (((a.2 : Nat) : Int) ≤ ((b.2 : Nat) : Int)) = true
   rw [decide_eq_true (by omega)]
theorem house_true {n : Nat} {ls : List Ln} {ks : List Wk} {s : Option Sto} {hs : List (List Wnt)} (h : House n ls ks s hs) (k3 : ks.length ≤ 3) (h3 : hs.length ≤ 3) : houseB (houseW n ls ks s hs) = true := by
 have n1 := h.net.n1
 have work : ∀ k ∈ ks, workB ((n : Nat) : Int) (workW k) = true := fun k hk => by
  have o := h.works k hk
  have := o.p
  have := o.least
  have := o.keep
  have := o.start
  have := o.e1
  have := o.e2
  unfold workB
  rw [row_true (by show (8 : Int) ≤ 8; decide) (by show (8 : Int) ≤ 8; decide)]
  show (fromB (.int ((k.p : Nat) : Int)) 0 (n - 1) && (fromB (.int ((k.least : Nat) : Int)) 0 20 && (fromB (.int ((k.keep : Nat) : Int)) 0 99 && (piecesB (.tup (k.pieces.map fun v => pieceW v)) && (fromB (.int ((k.start : Nat) : Int)) 0 99 && (fromB (.int ((k.e1 : Nat) : Int)) 1 2 && (fromB (.int ((k.e2 : Nat) : Int)) 1 2 && true))))))) = true
  rw [from_nat (by omega) (by omega), from_nat (by omega) (by omega), from_nat (by omega) (by omega), pieces_true o, from_nat (by omega) (by omega), from_nat (by omega) (by omega), from_nat (by omega) (by omega)]; rfl
 have store : storeB ((n : Nat) : Int) (storeW s) = true := by
  cases s with
  | none => rfl
  | some t =>
   have o := h.store t rfl
   have := o.p
   have := o.top
   have := o.lev
   have := o.taken
   have := o.given
   unfold storeB
   show (false || (rowB (stoW t) 5 5 && (fromB (.int ((t.p : Nat) : Int)) 0 (n - 1) && (fromB (.int ((t.top : Nat) : Int)) 1 2 && (fromB (.int ((t.lev : Nat) : Int)) 0 ((t.top : Nat) : Int) && (fromB (.int ((t.taken : Nat) : Int)) 1 20 && fromB (.int ((t.given : Nat) : Int)) 0 ((t.taken : Nat) : Int))))))) = true
   rw [row_true (by show (5 : Int) ≤ 5; decide) (by show (5 : Int) ≤ 5; decide), from_nat (by omega) (by omega), from_nat (by omega) (by omega), from_nat (by omega) (by omega), from_nat (by omega) (by omega), from_nat (by omega) (by omega)]; rfl
 have wants : ∀ vs ∈ hs, wantsB ((n : Nat) : Int) (wantsW vs) = true := fun vs hvs => by
  obtain ⟨a, b⟩ := h.wants vs hvs
  unfold wantsB
  rw [row_true (by omega) (by rw [List.length_map]; omega)]
  show (vs.map fun v => wantW v).all (wantB ((n : Nat) : Int)) = true
  refine List.all_eq_true.mpr fun w hw => ?_
  obtain ⟨v, hv, rfl⟩ := List.mem_map.mp hw
  obtain ⟨o1, o2, o3⟩ := b v hv
  unfold wantB
  rw [row_true (by show (3 : Int) ≤ 3; decide) (by show (3 : Int) ≤ 3; decide)]
  show (fromB (.int ((v.1 : Nat) : Int)) 0 (n - 1) && (fromB (.int ((v.2.1 : Nat) : Int)) 0 30 && fromB (.int ((v.2.2 : Nat) : Int)) 0 100)) = true
  rw [from_nat (by omega) (by omega), from_nat (by omega) (by omega), from_nat (by omega) (by omega)]; rfl
 unfold houseB
 rw [row_true (by show (4 : Int) ≤ 4; decide) (by show (4 : Int) ≤ 4; decide)]
 show (netB (netW n ls) && (rowB (.tup (ks.map fun k => workW k)) 0 3 && ((ks.map fun k => workW k).all (workB ((n : Nat) : Int)) && (storeB ((n : Nat) : Int) (storeW s) && (rowB (.tup (hs.map fun vs => wantsW vs)) 1 3 && (hs.map fun vs => wantsW vs).all (wantsB ((n : Nat) : Int))))))) = true
 have f := h.few
 rw [net_ok h.net, row_true (by omega) (by rw [List.length_map]; omega), store, row_true (by rw [List.length_map]; omega) (by rw [List.length_map]; omega)]
 rw [show (ks.map fun k => workW k).all (workB ((n : Nat) : Int)) = true from List.all_eq_true.mpr fun w hw => by
  obtain ⟨k, hk, rfl⟩ := List.mem_map.mp hw
  exact work k hk]
 rw [show (hs.map fun vs => wantsW vs).all (wantsB ((n : Nat) : Int)) = true from List.all_eq_true.mpr fun w hw => by
  obtain ⟨vs, hvs, rfl⟩ := List.mem_map.mp hw
  exact wants vs hvs]
 rfl
local macro_rules | `(tactic| k_upd) => `(tactic| walk_at "Wfbbf54aa010006bd6bd6bd60000bd6bd6bd63effff100200e7f30000a10")
local macro_rules | `(tactic| walk_at "t") => `(tactic| (k_upd; try simp only [a_wTx, isTx_str]; k_upd; try simp only [a_wTx, isTx_str]; k_upd))
open SX in
noncomputable def nC (n : Nat) : List Nat := (Str.ofString (toString ((n : Nat) : Int))).cps.toList
theorem nC_S (n : Nat) : Str.ofString (toString ((n : Nat) : Int)) = SX.S (nC n) := (SX.S_tl _).symm
noncomputable def numOk (n : Nat) : Bool := decide (1 ≤ (nC n).length) && (decide ((nC n).length ≤ 3) && ((nC n).all (fun c => decide (48 ≤ c) && decide (c ≤ 57)) && (!((nC n).headD 0 == 48 && decide (1 < (nC n).length)) && decide (PySem.intText? (SX.S (nC n)) = some ((n : Nat) : Int)))))
theorem num_all : (List.range 201).all numOk = true := by decide +kernel
theorem num_ok {n : Nat} (h : n ≤ 200) : numOk n = true := List.all_eq_true.mp num_all n (List.mem_range.mpr (by omega))
structure NumOk (n : Nat) : Prop where
 l1 : 1 ≤ (nC n).length
 l3 : (nC n).length ≤ 3
 dig : ∀ c ∈ nC n, 48 ≤ c ∧ c ≤ 57
 lead : ¬ ((nC n).headD 0 = 48 ∧ 1 < (nC n).length)
 int : PySem.intText? (SX.S (nC n)) = some ((n : Nat) : Int)
theorem nums2 {n : Nat} (h : n ≤ 200) : NumOk n := by
 have := num_ok h
 unfold numOk at this
 simp only [Bool.and_eq_true, decide_eq_true_eq, Bool.not_eq_true', List.all_eq_true] at this
 obtain ⟨a, b, c, d, e⟩ := this
 refine ⟨a, b, c, fun ⟨z1, z2⟩ => ?_, e⟩
 rw [z1] at d
 simp [z2] at d
theorem nums {n : Nat} (h : n ≤ 100) : NumOk n := nums2 (by omega)
theorem e_sp : (" " : Str) = SX.S [32] := by decide +kernel
theorem e_nl : ("\n" : Str) = SX.S [10] := by decide +kernel
theorem e_co : (":" : Str) = SX.S [58] := by decide +kernel
noncomputable def J (c : Nat) (ps : List (List Nat)) : List Nat := TL.joinL [c] ps
theorem join_J (c : Nat) (ps : List (List Nat)) : Txt.join (SX.S [c]) (ps.map SX.S) = SX.S (J c ps) := SX.join_S [c] ps
theorem split_J {c : Nat} {ps : List (List Nat)} (hc : c < 256) (ne : ps ≠ []) (h : ∀ p ∈ ps, c ∉ p) : Txt.split (SX.S (J c ps)) (SX.S [c]) = ps.map SX.S := by
 rw [SX.split_S (by simp) (by simp [hc]), show TL.spl [c] 0 [] (J c ps) = ps from SX.spl_join ne h]
theorem J_mem {c x : Nat} : ∀ {ps : List (List Nat)}, x ∈ J c ps → x = c ∨ ∃ p ∈ ps, x ∈ p
 | [], h => by cases h
 | [p], h => .inr ⟨p, .head _, h⟩
 | p :: q :: r, h => by
  have h : x ∈ p ++ ([c] ++ J c (q :: r)) := h
  rcases List.mem_append.mp h with h | h
  ·exact .inr ⟨p, .head _, h⟩
  ·rcases List.mem_append.mp h with h | h
   ·exact .inl (List.mem_singleton.mp h)
   ·rcases J_mem h with h | ⟨y, hy, hx⟩
    ·exact .inl h
    ·exact .inr ⟨y, .tail _ hy, hx⟩
theorem J_len {c b : Nat} : ∀ {ps : List (List Nat)}, (∀ p ∈ ps, p.length ≤ b) → (J c ps).length ≤ ps.length * (b + 1)
 | [], _ => by simp [J, TL.joinL]
 | [p], h => by
  have := h p (.head _)
  show p.length ≤ 1 * (b + 1)
  omega
 | p :: q :: r, h => by
  have a := h p (.head _)
  have := J_len (c := c) (ps := q :: r) fun x hx => h x (.tail _ hx)
  show (p ++ ([c] ++ J c (q :: r))).length ≤ _
  rw [List.length_append, List.length_append, List.length_singleton, List.length_cons (a := p), Nat.succ_mul]
  omega
theorem J_cons {c : Nat} {p : List Nat} {ps : List (List Nat)} (ne : ps ≠ []) : J c (p :: ps) = p ++ ([c] ++ J c ps) := by
 cases ps with
 | nil => exact absurd rfl ne
 | cons q r => rfl
theorem J_app {c : Nat} : ∀ {ps qs : List (List Nat)}, ps ≠ [] → J c (J c ps :: qs) = J c (ps ++ qs)
 | [], _, h => absurd rfl h
 | [p], qs, _ => rfl
 | p :: q :: r, qs, _ => by
  have ih := J_app (c := c) (ps := q :: r) (qs := qs) (by simp)
  cases qs with
  | nil => rw [List.append_nil]; rfl
  | cons x xs =>
   have e1 := J_cons (c := c) (p := J c (p :: q :: r)) (ps := x :: xs) (by simp)
   have e2 : J c (p :: q :: r ++ x :: xs) = p ++ ([c] ++ J c (q :: r ++ x :: xs)) := J_cons (by simp)
   rw [J_cons (by simp)] at ih
   rw [e1, e2, ← ih]
   show (p ++ ([c] ++ J c (q :: r))) ++ ([c] ++ J c (x :: xs)) = _
   rw [List.append_assoc, List.append_assoc]
theorem sumlen {b : Nat} : ∀ {ps : List (List Nat)}, (∀ p ∈ ps, p.length ≤ b) → (((ps.map SX.S).map (·.length)).sum) ≤ ps.length * b
 | [], _ => by simp
 | p :: ps, h => by
  have := sumlen fun q hq => h q (.tail _ hq)
  have := h p (.head _)
  rw [List.map_cons, List.map_cons, List.sum_cons, SX.S_len, List.length_cons, Nat.succ_mul]
  omega
noncomputable abbrev tW (c : List Nat) : W := .str (SX.S c)
theorem joinT {c b : Nat} {ps : List (List Nat)} {y : W} {G : Gp} {Q : QW} (hy : seqs G y = some (ps.map tW)) (hb : ∀ p ∈ ps, p.length ≤ b) (hs : ps.length * (b + 1) ≤ 16777216) (q : Q (tW (J c ps)) G) : wJoinT (.str (SX.S [c])) y G Q := by
 rw [wJoinT_eq, hy]
 refine ⟨ps.map SX.S, by rw [List.map_map]; rfl, ?_, by rw [join_J]; exact q⟩
 have := sumlen hb
 rw [List.length_map, show (SX.S [c]).length = 1 from rfl]
 rw [Nat.mul_succ] at hs
 omega
noncomputable abbrev nW (n : Nat) : W := .int ((n : Nat) : Int)
noncomputable def sp_shown_row : Spw := fun ws G Q E => ∃ (f : List Nat) (ns : List Nat), ws = [tW f, .tup (ns.map nW)] ∧ (f.length ≤ 10) ∧ (ns.length ≤ 10) ∧ (∀ n ∈ ns, n ≤ 100) ∧ Q (tW (J 32 (f :: ns.map nC))) G
theorem len_shown_row (ws G Q E) (h : sp_shown_row ws G Q E) : ws.length = 2 := by obtain ⟨_, _, rfl, _⟩ := h; rfl
noncomputable def t_shown_row : TSw := (wRet (wTx wJoinT (wC (.str " ")) (wOp wAdd (wLst (wCons (wVar 0) wNil)) (wLc [2] (iSeqW (wVar 1)) (gN 2) wYes (wCB wStrI (wCons (wVar 2) wNil))))))
theorem rd_shown_row (ws : List W) (G : Gp) (Q : QW) (E) (h : sp_shown_row ws G Q E) : t_shown_row { nx := fun _ G' => Q .non G', rt := Cl Q } (startW ["first", "numbers", "number"] ws) G := by
 obtain ⟨f, ns, rfl, hf, hn, h100, q⟩ := h
 show t_shown_row _ [some (tW f), some (.tup (ns.map nW)), none] G
 unfold t_shown_row
 k_upd
 have big : 1000 < sizeLine := by decide
 rw [a_wTx]
 k_upd
 rw [isTx_str]
 k_upd
 refine ⟨by decide, by omega, ?_⟩
 refine lcW_m nW (fun n => tW (nC n)) _ _ ?_ ?_
 ·intro n hn P hP
  k_upd
  have := h100 n hn
  rw [nC_S]
  exact ⟨log2_small (by omega), hP⟩
 k_upd
 rw [e_sp]
 refine ⟨by omega, ?_⟩
 refine joinT (b := 10) (ps := f :: ns.map nC) (by rw [List.map_cons, List.map_map]; rfl) (fun p hp => ?_) ?_ (.inl q)
 ·rcases List.mem_cons.mp hp with rfl | hp
  ·exact hf
  ·obtain ⟨n, hn, rfl⟩ := List.mem_map.mp hp
   have := (nums (h100 n hn)).l3
   omega
 ·rw [List.length_cons, List.length_map]; omega
noncomputable def sp_colons : Spw := fun ws G Q E => ∃ (ns : List Nat), ws = [.tup (ns.map nW)] ∧ (ns.length ≤ 10) ∧ (∀ n ∈ ns, n ≤ 100) ∧ Q (tW (J 58 (ns.map nC))) G
theorem len_colons (ws G Q E) (h : sp_colons ws G Q E) : ws.length = 1 := by obtain ⟨_, rfl, _⟩ := h; rfl
noncomputable def t_colons : TSw := (wRet (wTx wJoinT (wC (.str ":")) (wLc [1] (iSeqW (wVar 0)) (gN 1) wYes (wCB wStrI (wCons (wVar 1) wNil)))))
theorem rd_colons (ws : List W) (G : Gp) (Q : QW) (E) (h : sp_colons ws G Q E) : t_colons { nx := fun _ G' => Q .non G', rt := Cl Q } (startW ["numbers", "number"] ws) G := by
 obtain ⟨ns, rfl, hn, h100, q⟩ := h
 show t_colons _ [some (.tup (ns.map nW)), none] G
 unfold t_colons
 k_upd
 have big : 1000 < sizeLine := by decide
 rw [a_wTx]
 k_upd
 rw [isTx_str]
 k_upd
 refine ⟨by omega, ?_⟩
 refine lcW_m nW (fun n => tW (nC n)) _ _ ?_ ?_
 ·intro n hn P hP
  k_upd
  have := h100 n hn
  rw [nC_S]
  exact ⟨log2_small (by omega), hP⟩
 rw [e_co]
 refine joinT (b := 10) (ps := ns.map nC) (by rw [List.map_map]; rfl) (fun p hp => ?_) ?_ (.inl q)
 ·obtain ⟨n, hn, rfl⟩ := List.mem_map.mp hp
  have := (nums (h100 n hn)).l3
  omega
 ·rw [List.length_map]; omega
noncomputable def cNet : List Nat := [110, 101, 116]
noncomputable def cLine : List Nat := [108, 105, 110, 101]
noncomputable def cWork : List Nat := [119, 111, 114, 107]
noncomputable def cStore : List Nat := [115, 116, 111, 114, 101]
noncomputable def cHour : List Nat := [104, 111, 117, 114]
noncomputable def cOn : List Nat := [111, 110]
noncomputable def cOff : List Nat := [111, 102, 102]
theorem e_net : ("net" : Str) = SX.S cNet := by decide +kernel
theorem e_line : ("line" : Str) = SX.S cLine := by decide +kernel
theorem e_work : ("work" : Str) = SX.S cWork := by decide +kernel
theorem e_store : ("store" : Str) = SX.S cStore := by decide +kernel
theorem e_hour : ("hour" : Str) = SX.S cHour := by decide +kernel
theorem e_on : ("on" : Str) = SX.S cOn := by decide +kernel
theorem e_off : ("off" : Str) = SX.S cOff := by decide +kernel
noncomputable def netWs (n : Nat) : List (List Nat) := [cNet, nC n]
noncomputable def lineNs (l : Ln) : List Nat := [l.a, l.b, l.s, l.m]
noncomputable def lineWs (l : Ln) : List (List Nat) := cLine :: (lineNs l).map nC
noncomputable def workNs (k : Wk) : List Nat := [k.p, k.least, k.keep, k.start, k.e1, k.e2]
noncomputable def pieceC (v : Nat × Nat) : List Nat := J 58 ([v.1, v.2].map nC)
noncomputable def workWs (k : Wk) : List (List Nat) := cWork :: (workNs k).map nC ++ (if k.on then cOn else cOff) :: k.pieces.map pieceC
noncomputable def storeNs (t : Sto) : List Nat := [t.p, t.top, t.lev, t.taken, t.given]
noncomputable def storeWs (t : Sto) : List (List Nat) := cStore :: (storeNs t).map nC
noncomputable def wantC (v : Wnt) : List Nat := J 58 ([v.1, v.2.1, v.2.2].map nC)
noncomputable def hourWs (vs : List Wnt) : List (List Nat) := cHour :: vs.map wantC
noncomputable def stoWs : Option Sto → List (List (List Nat))
 | none => []
 | some t => [storeWs t]
noncomputable def rowsWs (n : Nat) (ls : List Ln) (ks : List Wk) (s : Option Sto) (hs : List (List Wnt)) : List (List (List Nat)) := netWs n :: (ls.map lineWs ++ (ks.map workWs ++ (stoWs s ++ hs.map hourWs)))
noncomputable def textC (n : Nat) (ls : List Ln) (ks : List Wk) (s : Option Sto) (hs : List (List Wnt)) : List Nat := J 10 ((rowsWs n ls ks s hs).map (J 32))
theorem pieceC_len {v : Nat × Nat} (h1 : v.1 ≤ 100) (h2 : v.2 ≤ 100) : (pieceC v).length ≤ 10 := by
 have a := (nums h1).l3
 have b := (nums h2).l3
 show (nC v.1 ++ ([58] ++ nC v.2)).length ≤ 10
 rw [List.length_append, List.length_append, List.length_singleton]; omega
theorem wantC_len {v : Wnt} (h1 : v.1 ≤ 100) (h2 : v.2.1 ≤ 100) (h3 : v.2.2 ≤ 100) : (wantC v).length ≤ 12 := by
 have a := (nums h1).l3
 have b := (nums h2).l3
 have c := (nums h3).l3
 show (nC v.1 ++ ([58] ++ (nC v.2.1 ++ ([58] ++ nC v.2.2)))).length ≤ 12
 simp only [List.length_append, List.length_singleton]; omega
noncomputable def sp_shown_work : Spw := fun ws G Q E => ∃ (k : Wk) (n : Nat), ws = [workW k] ∧ (WkOk n k) ∧ (n ≤ 4) ∧ Q (tW (J 32 (workWs k))) G
theorem len_shown_work (ws G Q E) (h : sp_shown_work ws G Q E) : ws.length = 1 := by obtain ⟨_, _, rfl, _⟩ := h; rfl
noncomputable def t_shown_work : TSw := (wSeq (wAsg (wVar 0) (gT 8 (gsC (gN 1) (gsC (gN 2) (gsC (gN 3) (gsC (gN 4) (gsC (gN 5) (gsC (gN 6) (gsC (gN 7) (gsC (gN 8) gsN))))))))))
  (wSeq (wAsg (wCall sp_shown_row (wCons (wC (.str "work")) (wCons (wTup (wCons (wVar 1) (wCons (wVar 2) (wCons (wVar 3) (wCons (wVar 5) (wCons (wVar 6) (wCons (wVar 7) wNil))))))) wNil))) (gN 9))
  (wRet (wTx wJoinT (wC (.str " ")) (wOp wAdd (wLst (wCons (wVar 9) (wCons (wIf (wTest (wVar 8)) (wC (.str "on")) (wC (.str "off"))) wNil))) (wLc [10] (iSeqW (wVar 4)) (gN 10) wYes (wCall sp_colons (wCons (wVar 10) wNil))))))))
theorem rd_shown_work (ws : List W) (G : Gp) (Q : QW) (E) (h : sp_shown_work ws G Q E) : t_shown_work { nx := fun _ G' => Q .non G', rt := Cl Q } (startW ["work", "place", "least", "keep", "pieces", "start", "stay", "rest", "was", "ahead", "piece"] ws) G := by
 obtain ⟨k, n, rfl, ok, n4, q⟩ := h
 show t_shown_work _ [some (workW k), none, none, none, none, none, none, none, none, none, none] G
 unfold t_shown_work
 k_upd
 have big : 1000 < sizeLine := by decide
 have o1 := ok.p
 have o2 := ok.least
 have o3 := ok.keep
 have o4 := ok.start
 have o5 := ok.e1
 have o6 := ok.e2
 have few := ok.few
 have hN : ∀ n ∈ workNs k, n ≤ 100 := fun x hx => by
  simp only [workNs, List.mem_cons, List.not_mem_nil, or_false] at hx
  omega
 refine ⟨by decide, cWork, workNs k, by rw [e_work]; rfl, by decide, by show 6 ≤ 10; decide, hN, ?_⟩
 walk_at "t"
 have pcs : ∀ v ∈ k.pieces, v.1 ≤ 100 ∧ v.2 ≤ 100 := fun v hv => by
  have := ok.pieces v hv
  omega
 have ahead : (J 32 (cWork :: (workNs k).map nC)).length ≤ 40 := by
  have : (J 32 (cWork :: (workNs k).map nC)).length ≤ 7 * (4 + 1) := J_len (b := 4) fun p hp => by
   rcases List.mem_cons.mp hp with rfl | hp
   ·decide
   ·obtain ⟨n, hn, rfl⟩ := List.mem_map.mp hp
    have := (nums (hN n hn)).l3
    omega
  omega
 have fin : ∀ (G2 : Gp) (o : List Nat), o = (if k.on then cOn else cOff) → wJoinT (.str (SX.S [32])) (.lst (tW (J 32 (cWork :: (workNs k).map nC)) :: tW o :: (k.pieces.map fun v => tW (pieceC v)))) G (Cl Q) := fun G2 o eo => by
  have ej : J 32 (J 32 (cWork :: (workNs k).map nC) :: (o :: k.pieces.map pieceC)) = J 32 (workWs k) := by rw [eo]; exact J_app (by simp)
  refine joinT (b := 40) (ps := J 32 (cWork :: (workNs k).map nC) :: (o :: k.pieces.map pieceC)) (by rw [List.map_cons, List.map_cons, List.map_map]; rfl) (fun p hp => ?_) ?_ (.inl (by rw [ej]; exact q))
  ·rcases List.mem_cons.mp hp with rfl | hp
   ·exact ahead
   ·rcases List.mem_cons.mp hp with rfl | hp
    ·rw [eo]; split <;> decide
    ·obtain ⟨v, hv, rfl⟩ := List.mem_map.mp hp
     have := pieceC_len (pcs v hv).1 (pcs v hv).2
     omega
  ·rw [List.length_cons, List.length_cons, List.length_map]; omega
 have piece : ∀ v ∈ k.pieces, ∀ P : QW, P (tW (pieceC v)) G → sp_colons [pieceW v] G P E0w := fun v hv P hP =>
  ⟨[v.1, v.2], rfl, by simp, fun n hn => by
   have := pcs v hv
   simp only [List.mem_cons, List.not_mem_nil, or_false] at hn
   omega, hP⟩
 cases hon : k.on
 ·rw [if_neg (by decide)]
  refine ⟨by decide, by omega, ?_⟩
  refine lcW_m (fun v => pieceW v) (fun v => tW (pieceC v)) _ _ ?_ ?_
  ·intro v hv P hP
   k_upd
   exact piece v hv P hP
  rw [e_sp, e_off]
  exact ⟨by rw [List.length_map]; omega, fin G cOff (by rw [hon]; rfl)⟩
 ·rw [if_pos rfl]
  refine ⟨by decide, by omega, ?_⟩
  refine lcW_m (fun v => pieceW v) (fun v => tW (pieceC v)) _ _ ?_ ?_
  ·intro v hv P hP
   k_upd
   exact piece v hv P hP
  rw [e_sp, e_on]
  exact ⟨by rw [List.length_map]; omega, fin G cOn (by rw [hon]; rfl)⟩
theorem line_ns {n : Nat} {l : Ln} (h : LnOk n l) (n4 : n ≤ 4) : ∀ x ∈ lineNs l, x ≤ 100 := fun x hx => by
 have h1 := h.a
 have h2 := h.b
 have h3 := h.s.2
 have h4 := h.m
 simp only [lineNs, List.mem_cons, List.not_mem_nil, or_false] at hx
 omega
theorem store_ns {n : Nat} {t : Sto} (h : StoOk n t) (n4 : n ≤ 4) : ∀ x ∈ storeNs t, x ≤ 100 := fun x hx => by
 have h1 := h.p
 have h2 := h.top
 have h3 := h.lev
 have h4 := h.taken
 have h5 := h.given
 simp only [storeNs, List.mem_cons, List.not_mem_nil, or_false] at hx
 omega
theorem work_ns {n : Nat} {k : Wk} (h : WkOk n k) (n4 : n ≤ 4) : ∀ x ∈ workNs k, x ≤ 100 := fun x hx => by
 have o1 := h.p
 have o2 := h.least
 have o3 := h.keep
 have o4 := h.start
 have o5 := h.e1
 have o6 := h.e2
 simp only [workNs, List.mem_cons, List.not_mem_nil, or_false] at hx
 omega
theorem want_len {n : Nat} {v : Wnt} (h : WntOk n v) (n4 : n ≤ 4) : (wantC v).length ≤ 12 := by
 obtain ⟨a, b, c⟩ := h
 exact wantC_len (by omega) (by omega) (by omega)
theorem piece_len {n : Nat} {k : Wk} (h : WkOk n k) {v : Nat × Nat} (hv : v ∈ k.pieces) : (pieceC v).length ≤ 10 := by
 have := h.pieces v hv
 exact pieceC_len (by omega) (by omega)
theorem row_words {n : Nat} {ls : List Ln} {ks : List Wk} {s : Option Sto} {hs : List (List Wnt)} (h : House n ls ks s hs) : ∀ r ∈ rowsWs n ls ks s hs, r ≠ [] ∧ r.length ≤ 10 ∧ ∀ w ∈ r, w.length ≤ 12 := by
 have n4 := h.net.n4
 have num : ∀ x, x ≤ 100 → (nC x).length ≤ 12 := fun x hx => by have := (nums hx).l3; omega
 intro r hr
 rcases List.mem_cons.mp hr with rfl | hr
 ·refine ⟨by simp [netWs], by simp [netWs], fun w hw => ?_⟩
  simp only [netWs, List.mem_cons, List.not_mem_nil, or_false] at hw
  rcases hw with rfl | rfl
  ·decide
  ·exact num n (by omega)
 rcases List.mem_append.mp hr with hr | hr
 ·obtain ⟨l, hl, rfl⟩ := List.mem_map.mp hr
  refine ⟨by simp [lineWs], by simp [lineWs, lineNs], fun w hw => ?_⟩
  rcases List.mem_cons.mp hw with rfl | hw
  ·decide
  ·obtain ⟨x, hx, rfl⟩ := List.mem_map.mp hw
   exact num x (line_ns (h.net.ok l hl) n4 x hx)
 rcases List.mem_append.mp hr with hr | hr
 ·obtain ⟨k, hk, rfl⟩ := List.mem_map.mp hr
  have ok := h.works k hk
  have few := ok.few
  refine ⟨by simp [workWs], by simp [workWs, workNs]; omega, fun w hw => ?_⟩
  rcases List.mem_append.mp hw with hw | hw
  ·rcases List.mem_cons.mp hw with rfl | hw
   ·decide
   ·obtain ⟨x, hx, rfl⟩ := List.mem_map.mp hw
    exact num x (work_ns ok n4 x hx)
  ·rcases List.mem_cons.mp hw with rfl | hw
   ·split <;> decide
   ·obtain ⟨v, hv, rfl⟩ := List.mem_map.mp hw
    have := piece_len ok hv
    omega
 rcases List.mem_append.mp hr with hr | hr
 ·cases s with
  | none => cases hr
  | some t =>
   rw [List.mem_singleton.mp hr]
   refine ⟨by simp [storeWs], by simp [storeWs, storeNs], fun w hw => ?_⟩
   rcases List.mem_cons.mp hw with rfl | hw
   ·decide
   ·obtain ⟨x, hx, rfl⟩ := List.mem_map.mp hw
    exact num x (store_ns (h.store t rfl) n4 x hx)
 ·obtain ⟨vs, hvs, rfl⟩ := List.mem_map.mp hr
  obtain ⟨a, b⟩ := h.wants vs hvs
  refine ⟨by simp [hourWs], by simp [hourWs]; omega, fun w hw => ?_⟩
  rcases List.mem_cons.mp hw with rfl | hw
  ·decide
  ·obtain ⟨v, hv, rfl⟩ := List.mem_map.mp hw
   exact want_len (b v hv) n4
theorem rows_few {n : Nat} {ls : List Ln} {ks : List Wk} {s : Option Sto} {hs : List (List Wnt)} (h : House n ls ks s hs) : (rowsWs n ls ks s hs).length ≤ 14 := by
 have := h.net.few
 have := h.few
 have e : (stoWs s).length ≤ 1 := by cases s <;> simp [stoWs]
 simp only [rowsWs, List.length_cons, List.length_append, List.length_map]
 omega
theorem row_len {n : Nat} {ls : List Ln} {ks : List Wk} {s : Option Sto} {hs : List (List Wnt)} (h : House n ls ks s hs) : ∀ r ∈ (rowsWs n ls ks s hs).map (J 32), r.length ≤ 130 := fun r hr => by
 obtain ⟨w, hw, rfl⟩ := List.mem_map.mp hr
 obtain ⟨_, a, b⟩ := row_words h w hw
 have := J_len (c := 32) b
 have := Nat.mul_le_mul_right 13 a
 omega
noncomputable def sp_house_rows : Spw := fun ws G Q E => ∃ (n : Nat) (ls : List Ln) (ks : List Wk) (s : Option Sto) (hs : List (List Wnt)), ws = [houseW n ls ks s hs] ∧ (House n ls ks s hs) ∧ Q (.lst ((rowsWs n ls ks s hs).map fun r => tW (J 32 r))) G
theorem len_house_rows (ws G Q E) (h : sp_house_rows ws G Q E) : ws.length = 1 := by obtain ⟨_, _, _, _, _, rfl, _⟩ := h; rfl
noncomputable def t_house_rows_r1 : TSw := (wFz 5 (wRet (wOp wAdd (wVar 5) (wLc [8] (iSeqW (wVar 4)) (gN 8) wYes (wTx wJoinT (wC (.str " ")) (wOp wAdd (wLst (wCons (wC (.str "hour")) wNil)) (wLc [9] (iSeqW (wVar 8)) (gN 9) wYes (wCall sp_colons (wCons (wVar 9) wNil)))))))))
noncomputable def t_house_rows : TSw := (wSeq (wAsg (wVar 0) (gT 4 (gsC (gN 1) (gsC (gN 2) (gsC (gN 3) (gsC (gN 4) gsN))))))
  (wSeq (wAsg (wOp wAddM (wLst (wCons (wCall sp_shown_row (wCons (wC (.str "net")) (wCons (wTup (wCons (wOp wIx (wVar 1) (wC (.int 0))) wNil)) wNil))) wNil)) (wLc [6] (iSeqW (wOp wIx (wVar 1) (wC (.int 1)))) (gN 6) wYes (wCall sp_shown_row (wCons (wC (.str "line")) (wCons (wVar 6) wNil))))) (gN 5))
  (wSeq (wDrop (wBM wM_extend (wVar 5) (wCons (wLc [7] (iSeqW (wVar 2)) (gN 7) wYes (wCall sp_shown_work (wCons (wVar 7) wNil))) wNil)))
  (wSeq (wIfS (wTest (wNotN (wVar 3))) (wDrop (wBM wM_append (wVar 5) (wCons (wCall sp_shown_row (wCons (wC (.str "store")) (wCons (wVar 3) wNil))) wNil))) wNext)
  t_house_rows_r1))))
theorem rd_house_rows (ws : List W) (G : Gp) (Q : QW) (E) (h : sp_house_rows ws G Q E) : t_house_rows { nx := fun _ G' => Q .non G', rt := Cl Q } (startW ["house", "net", "works", "store", "hours", "found", "line", "work", "wants", "want"] ws) G := by
 obtain ⟨n, ls, ks, s, hs, rfl, hh, q⟩ := h
 show t_house_rows _ [some (houseW n ls ks s hs), none, none, none, none, none, none, none, none, none] G
 unfold t_house_rows
 k_upd
 have big : 1000 < sizeLine := by decide
 have n4 := hh.net.n4
 have few := hh.net.few
 have fw := hh.few
 walk_at "t"
 refine ⟨by decide, cNet, [n], by rw [e_net]; rfl, by decide, by simp, fun x hx => by rw [List.mem_singleton.mp hx]; omega, ?_⟩
 walk_at "t"
 refine ⟨by decide, by omega, ?_⟩
 refine lcW_m (fun l => lineW l) (fun l => tW (J 32 (lineWs l))) _ _ ?_ ?_
 ·intro l hl P hP
  k_upd
  exact ⟨cLine, lineNs l, by rw [e_line]; rfl, by decide, by simp [lineNs], line_ns (hh.net.ok l hl) n4, hP⟩
 refine ⟨by rw [List.length_map]; omega, fun p hp => ⟨by omega, ?_⟩⟩
 have r1 : t_house_rows_r1 { nx := fun x G' => Q W.non G', rt := Cl Q } [some (houseW n ls ks s hs), some (netW n ls), some (W.tup (List.map (fun k => workW k) ks)), some (storeW s), some (W.tup (List.map (fun vs => wantsW vs) hs)), some (W.ref p), none, none, none, none]
   (gup G p (.lst (tW (J 32 (netWs n)) :: (ls.map fun l => tW (J 32 (lineWs l))) ++ (ks.map fun k => tW (J 32 (workWs k))) ++ (stoWs s).map fun r => tW (J 32 r)))) := by
  unfold t_house_rows_r1
  walk_at "t"
  rw [gdel_gup hp]
  refine ⟨by omega, ?_⟩
  refine lcW_m (fun vs => wantsW vs) (fun vs => tW (J 32 (hourWs vs))) _ _ ?_ ?_
  ·intro vs hvs P hP
   obtain ⟨a, b⟩ := hh.wants vs hvs
   walk_at "t"
   refine ⟨by decide, by omega, ?_⟩
   refine lcW_m (fun v => wantW v) (fun v => tW (wantC v)) _ _ ?_ ?_
   ·intro v hv P hP
    obtain ⟨o1, o2, o3⟩ := b v hv
    k_upd
    exact ⟨[v.1, v.2.1, v.2.2], rfl, by simp, fun x hx => by
     simp only [List.mem_cons, List.not_mem_nil, or_false] at hx
     omega, hP⟩
   walk_at "t"
   refine ⟨by omega, ?_⟩
   rw [e_sp, e_hour]
   refine joinT (b := 12) (ps := hourWs vs) (by unfold hourWs; rw [List.map_cons, List.map_map]; rfl) (fun w hw => ?_) (by unfold hourWs; rw [List.length_cons, List.length_map]; omega) hP
   rcases List.mem_cons.mp hw with rfl | hw
   ·decide
   ·obtain ⟨v, hv, rfl⟩ := List.mem_map.mp hw
    exact want_len (b v hv) n4
  have el : (stoWs s).length ≤ 1 := by cases s <;> simp [stoWs]
  refine ⟨by simp only [List.length_append, List.length_cons, List.length_map]; omega, .inl ?_⟩
  have e : tW (J 32 (netWs n)) :: (ls.map fun l => tW (J 32 (lineWs l))) ++ (ks.map fun k => tW (J 32 (workWs k))) ++ (stoWs s).map (fun r => tW (J 32 r)) ++ hs.map (fun vs => tW (J 32 (hourWs vs))) = (rowsWs n ls ks s hs).map fun r => tW (J 32 r) := by
   unfold rowsWs
   simp only [List.map_cons, List.map_append, List.map_map, List.cons_append, List.append_assoc, Function.comp_def]
  exact Eq.mp (congrArg (fun z => Q (W.lst z) G) e.symm) q
 refine lcW_m (fun k => workW k) (fun k => tW (J 32 (workWs k))) _ _ ?_ ?_
 ·intro k hk P hP
  k_upd
  exact ⟨k, n, rfl, hh.works k hk, n4, hP⟩
 walk_at "t"
 refine ⟨by (try simp only [List.length_cons, List.length_map]); omega, ?_⟩
 cases s with
 | none =>
  refine Eq.mpr (if_neg (by decide)) ?_
  rw [show (stoWs none).map (fun r => tW (J 32 r)) = [] from rfl, List.append_nil] at r1
  exact r1
 | some t =>
  refine Eq.mpr (if_pos rfl) ?_
  refine ⟨cStore, storeNs t, by rw [e_store]; rfl, by decide, by simp [storeNs], store_ns (hh.store t rfl) n4, ?_⟩
  walk_at "t"
  refine ⟨by (try simp only [List.length_append, List.length_cons, List.length_map]); omega, ?_⟩
  have e2 : tW (J 32 (netWs n)) :: (ls.map fun l => tW (J 32 (lineWs l))) ++ (ks.map fun k => tW (J 32 (workWs k))) ++ (stoWs (some t)).map (fun r => tW (J 32 r)) = tW (J 32 [cNet, nC n]) :: ((ls.map fun l => tW (J 32 (lineWs l))) ++ (ks.map fun k => tW (J 32 (workWs k))) ++ [tW (J 32 (cStore :: (storeNs t).map nC))]) := rfl
  rw [e2] at r1
  exact r1
noncomputable def sp_show_house : Spw := fun ws G Q E => ∃ (n : Nat) (ls : List Ln) (ks : List Wk) (s : Option Sto) (hs : List (List Wnt)), ws = [houseW n ls ks s hs] ∧ (House n ls ks s hs) ∧ Q (tW (textC n ls ks s hs)) G
theorem len_show_house (ws G Q E) (h : sp_show_house ws G Q E) : ws.length = 1 := by obtain ⟨_, _, _, _, _, rfl, _⟩ := h; rfl
noncomputable def t_show_house : TSw := (wRet (wTx wJoinT (wC (.str "\n")) (wCall sp_house_rows (wCons (wVar 0) wNil))))
theorem rd_show_house (ws : List W) (G : Gp) (Q : QW) (E) (h : sp_show_house ws G Q E) : t_show_house { nx := fun _ G' => Q .non G', rt := Cl Q } (startW ["house"] ws) G := by
 obtain ⟨n, ls, ks, s, hs, rfl, hh, q⟩ := h
 show t_show_house _ [some (houseW n ls ks s hs)] G
 unfold t_show_house
 k_upd
 walk_at "t"
 refine ⟨n, ls, ks, s, hs, rfl, hh, ?_⟩
 have rf := rows_few hh
 rw [e_nl]
 refine joinT (b := 130) (ps := (rowsWs n ls ks s hs).map (J 32)) (by rw [List.map_map]; rfl) (row_len hh) (by rw [List.length_map]; omega) (.inl q)
theorem S_len (p : List Nat) : (SX.S p).length = p.length := by show (SX.S p).cps.size = _; simp [SX.S]
theorem S_cps (p : List Nat) : (SX.S p).cps.toList = p := by simp [SX.S]
theorem e_fig : ("0123456789" : Str) = SX.S [48, 49, 50, 51, 52, 53, 54, 55, 56, 57] := by decide +kernel
theorem e_0 : ("0" : Str) = SX.S [48] := by decide +kernel
theorem S_inj {p q : List Nat} (h : SX.S p = SX.S q) : p = q := by rw [← S_cps p, h, S_cps]
theorem all_tr {α : Type} (xs : List α) : ((xs.map fun _ => true).all id) = true := by
 induction xs with
 | nil => rfl
 | cons x xs ih => simp
local macro_rules | `(tactic| k_upd) => `(tactic| walk_at "Wfbbfdf890d100efffffffff00000000000000efff12c7cffe3c3fff7e10")
noncomputable def sp_number_of : Spw := fun ws G Q E => ∃ (n : Nat), ws = [tW (nC n)] ∧ (n ≤ 200) ∧ Q (nW n) G
theorem len_number_of (ws G Q E) (h : sp_number_of ws G Q E) : ws.length = 1 := by obtain ⟨_, rfl, _⟩ := h; rfl
noncomputable def t_number_of : TSw := (wSeq (wIfS (wOr (wNot (wTest (wChain wLe wLe (wC (.int 1)) (wCB wLen (wCons (wVar 0) wNil)) (wC (.int 40))))) (wNot (wTest (wCB wAll (wCons (wLc [1] (iStrW (wVar 0)) (gN 1) wYes (wOp wInSg (wVar 1) (wC (.str "0123456789")))) wNil))))) (wRet (wC .non)) wNext)
  (wSeq (wIfS (wAnd (wTest (wOp wEq (wOp wIx (wVar 0) (wC (.int 0))) (wC (.str "0")))) (wTest (wOp wGt (wCB wLen (wCons (wVar 0) wNil)) (wC (.int 1))))) (wRet (wC .non)) wNext)
  (wRet (wCB wIntT (wCons (wVar 0) wNil)))))
theorem rd_number_of (ws : List W) (G : Gp) (Q : QW) (E) (h : sp_number_of ws G Q E) : t_number_of { nx := fun _ G' => Q .non G', rt := Cl Q } (startW ["word", "sign"] ws) G := by
 obtain ⟨n, rfl, h, q⟩ := h
 show t_number_of _ [some (tW (nC n)), none] G
 unfold t_number_of
 k_upd
 have N := nums2 h
 have l1 := N.l1
 have l3 := N.l3
 have dg := N.dig
 have ld := N.lead
 have it := N.int
 generalize nC n = p at l1 l3 dg ld it ⊢
 rw [show tW p = W.str (SX.S p) from rfl]
 have big : 1000 < sizeLine := by decide
 k_upd
 rw [S_len, decide_eq_true (show (1 : Int) ≤ ((p.length : Nat) : Int) by omega), if_pos rfl, decide_eq_true (show ((p.length : Nat) : Int) ≤ 40 by omega), if_neg (by decide), a_iStr]
 refine ⟨by omega, ?_⟩
 have fin : wIntT [W.str (SX.S p)] G (Cl Q) := ⟨SX.S p, _, rfl, it, by rw [S_len]; omega, .inl q⟩
 rw [v_0, strI_str]
 unfold signsW
 rw [S_cps, List.length_map]
 refine ⟨by omega, ?_⟩
 refine lcW_m (fun c : Nat => W.str ⟨#[c]⟩) (fun c => .bl (decide (c ∈ [48, 49, 50, 51, 52, 53, 54, 55, 56, 57]))) p _ ?_ ?_
 ·intro c hc P hP
  k_upd
  exact ⟨c, _, rfl, rfl, by rw [e_fig, S_cps]; exact hP⟩
 have em : (p.map fun c => W.bl (decide (c ∈ [48, 49, 50, 51, 52, 53, 54, 55, 56, 57]))) = (p.map fun _ => true).map W.bl := by
  rw [List.map_map]
  refine List.map_congr_left fun c hc => ?_
  have := dg c hc
  show W.bl (decide _) = W.bl true
  congr 1
  rw [decide_eq_true_eq]
  simp
  omega
 refine ⟨p.map fun _ => true, em, ?_⟩
 rw [all_tr, if_neg (by decide)]
 refine ⟨by omega, ?_⟩
 cases p with
 | nil => simp at l1
 | cons x xs =>
  rw [show L2.atI (x :: xs) 0 = some x by unfold L2.atI; simp [L2.ixN], isS_some]
  by_cases c : (⟨#[x]⟩ : Str) = ("0" : Str)
  ·rw [if_pos (decide_eq_true c)]
   have c : x = 48 := by
    rw [e_0] at c
    have := congrArg (fun z : Str => z.cps.toList) c
    simpa [SX.S] using this
   have : ¬ (1 < ((((x :: xs).length : Nat)) : Int)) := fun z => ld ⟨c, by omega⟩
   rw [decide_eq_false this, if_neg (by decide)]
   exact ⟨by omega, fin⟩
  ·rw [if_neg (by rw [decide_eq_true_eq]; exact c)]
   exact fin
theorem num_call {n : Nat} (h : n ≤ 200) {G : Gp} {Q : QW} {E : EXw} (q : Q (nW n) G) : sp_number_of [tW (nC n)] G Q E := ⟨n, rfl, h, q⟩
noncomputable def sp_must_be : Spw := fun ws G Q E => ∃ (b : Bool), ws = [.bl b] ∧ (b = true) ∧ Q .non G
theorem len_must_be (ws G Q E) (h : sp_must_be ws G Q E) : ws.length = 1 := by obtain ⟨_, rfl, _⟩ := h; rfl
noncomputable def t_must_be : TSw := (wIfS (wNot (wTest (wVar 0))) wNever wNext)
theorem rd_must_be (ws : List W) (G : Gp) (Q : QW) (E) (h : sp_must_be ws G Q E) : t_must_be { nx := fun _ G' => Q .non G', rt := Cl Q } (startW ["holds"] ws) G := by
 obtain ⟨b, rfl, h, q⟩ := h
 show t_must_be _ [some (.bl b)] G
 unfold t_must_be
 k_upd
 subst h
 k_upd
 exact q
noncomputable def sp_numbers_of : Spw := fun ws G Q E => ∃ (ns : List Nat), ws = [.lst (ns.map fun n => tW (nC n))] ∧ (∀ n ∈ ns, n ≤ 100) ∧ (ns.length ≤ 100) ∧ Q (.tup (ns.map fun n => nW n)) G
theorem len_numbers_of (ws G Q E) (h : sp_numbers_of ws G Q E) : ws.length = 1 := by obtain ⟨_, rfl, _⟩ := h; rfl
noncomputable def t_numbers_of : TSw := (wSeq (wAsg (wLc [2] (iSeqW (wVar 0)) (gN 2) wYes (wCall sp_number_of (wCons (wVar 2) wNil))) (gN 1))
  (wSeq (wDrop (wCall sp_must_be (wCons (wCB wAll (wCons (wLc [3] (iSeqW (wVar 1)) (gN 3) wYes (wNotN (wVar 3))) wNil)) wNil)))
  (wRet (wCB wTuple (wCons (wVar 1) wNil)))))
theorem rd_numbers_of (ws : List W) (G : Gp) (Q : QW) (E) (h : sp_numbers_of ws G Q E) : t_numbers_of { nx := fun _ G' => Q .non G', rt := Cl Q } (startW ["words", "found", "word", "number"] ws) G := by
 obtain ⟨ns, rfl, hn, few, q⟩ := h
 show t_numbers_of _ [some (.lst (ns.map fun n => tW (nC n))), none, none, none] G
 unfold t_numbers_of
 k_upd
 have big : 1000 < sizeLine := by decide
 refine ⟨by omega, ?_⟩
 refine lcW_m (fun n : Nat => tW (nC n)) (fun n => nW n) _ _ ?_ ?_
 ·intro n h P hP
  k_upd
  exact num_call (Nat.le_trans (hn n h) (by decide)) hP
 k_upd
 refine ⟨by omega, ?_⟩
 refine lcW_m (fun n : Nat => nW n) (fun _ => .bl true) _ _ ?_ ?_
 ·intro n h P hP
  k_upd
  exact hP
 refine ⟨ns.map fun _ => true, by rw [List.map_map]; rfl, ?_⟩
 refine ⟨_, rfl, all_tr ns, ?_⟩
 k_upd
 exact .inl q
noncomputable def sp_parted_numbers : Spw := fun ws G Q E => ∃ (ns : List Nat) (many : Nat), ws = [tW (J 58 (ns.map nC)), .int ((many : Nat) : Int)] ∧ (∀ n ∈ ns, n ≤ 100) ∧ (ns.length = many) ∧ (1 ≤ many ∧ many ≤ 5) ∧ Q (.tup (ns.map fun n => nW n)) G
theorem len_parted_numbers (ws G Q E) (h : sp_parted_numbers ws G Q E) : ws.length = 2 := by obtain ⟨_, _, rfl, _⟩ := h; rfl
noncomputable def t_parted_numbers : TSw := (wSeq (wAsg (wTx wSplitT (wVar 0) (wC (.str ":"))) (gN 2))
  (wSeq (wDrop (wCall sp_must_be (wCons (wOp wEq (wCB wLen (wCons (wVar 2) wNil)) (wVar 1)) wNil)))
  (wRet (wCall sp_numbers_of (wCons (wVar 2) wNil)))))
theorem rd_parted_numbers (ws : List W) (G : Gp) (Q : QW) (E) (h : sp_parted_numbers ws G Q E) : t_parted_numbers { nx := fun _ G' => Q .non G', rt := Cl Q } (startW ["word", "many", "parts"] ws) G := by
 obtain ⟨ns, many, rfl, hn, lm, m1, q⟩ := h
 show t_parted_numbers _ [some (tW (J 58 (ns.map nC))), some (.int ((many : Nat) : Int)), none] G
 unfold t_parted_numbers
 k_upd
 have big : 1000 < sizeLine := by decide
 have nb : ∀ p ∈ ns.map nC, p.length ≤ 3 := fun p hp => by
  obtain ⟨n, h, rfl⟩ := List.mem_map.mp hp
  exact (nums (hn n h)).l3
 have jl := J_len (c := 58) nb
 rw [List.length_map] at jl
 have sp := split_J (c := 58) (ps := ns.map nC) (by decide) (by intro z; rw [List.map_eq_nil_iff] at z; rw [z] at lm; simp at lm; omega) fun p hp z => by
  obtain ⟨n, h, rfl⟩ := List.mem_map.mp hp
  have := (nums (hn n h)).dig 58 z
  omega
 generalize J 58 (ns.map nC) = t at jl sp ⊢
 rw [a_wTx]
 k_upd
 rw [isTx_str]
 k_upd
 rw [e_co, wSplitT_eq, sp]
 refine ⟨by decide, by rw [S_len]; omega, ?_⟩
 k_upd
 rw [List.map_map]
 refine ⟨_, rfl, decide_eq_true (by omega), ?_⟩
 k_upd
 exact ⟨ns, by rw [List.map_map]; rfl, hn, by omega, .inl q⟩
theorem cut_id (ws : List W) {k : Nat} (h : k ≤ ws.length) : cutW ws (some ((k : Nat) : Int)) none = ws.drop k := by
 have := cut_from (fun w : W => w) ws h
 rw [List.map_id', List.map_id'] at this
 exact this
theorem atI_map' {α : Type} {g : α → W} {xs : List α} {k : Nat} (h : k < xs.length) : L2.atI (xs.map g) ((k : Nat) : Int) = some (g xs[k]) := by
 unfold L2.atI
 simp [L2.ixN, h]
noncomputable abbrev Rws := List (List (List Nat))
noncomputable abbrev rowX (r : List (List Nat)) : W := .lst (r.map fun p => tW p)
theorem cut_c1 (w : W) (ws : List W) : cutW (w :: ws) (some 1) none = ws := by
 have := cut_1 (fun w : W => w) (w :: ws) (by simp)
 simpa using this
noncomputable def sp_read_net : Spw := fun ws G Q E => ∃ (n : Nat), ws = [.lst ((netWs n).map fun p => tW p)] ∧ (n ≤ 100) ∧ Q (nW n) G
theorem len_read_net (ws G Q E) (h : sp_read_net ws G Q E) : ws.length = 1 := by obtain ⟨_, rfl, _⟩ := h; rfl
noncomputable def t_read_net : TSw := (wSeq (wDrop (wCall sp_must_be (wCons (wAndV (wOp wEq (wCB wLen (wCons (wVar 0) wNil)) (wC (.int 2))) (wOp wEq (wOp wIx (wVar 0) (wC (.int 0))) (wC (.str "net")))) wNil)))
  (wRet (wOp wIx (wCall sp_numbers_of (wCons (wSlice (wVar 0) (wpSome (wC (.int 1))) wpNone) wNil)) (wC (.int 0)))))
theorem rd_read_net (ws : List W) (G : Gp) (Q : QW) (E) (h : sp_read_net ws G Q E) : t_read_net { nx := fun _ G' => Q .non G', rt := Cl Q } (startW ["words"] ws) G := by
 obtain ⟨n, rfl, h, q⟩ := h
 show t_read_net _ [some (.lst ((netWs n).map fun p => tW p))] G
 unfold t_read_net
 k_upd
 have big : 1000 < sizeLine := by decide
 unfold netWs
 k_upd
 rw [cut_c1, if_pos (by decide)]
 refine ⟨_, rfl, by rw [e_net]; decide, ?_⟩
 refine ⟨[n], rfl, by simpa using h, by simp, ?_⟩
 k_upd
 exact .inl q
noncomputable def sp_read_line : Spw := fun ws G Q E => ∃ (l : Ln), ws = [.lst ((lineWs l).map fun p => tW p)] ∧ (∀ x ∈ lineNs l, x ≤ 100) ∧ Q (.tup ((lineNs l).map fun n => nW n)) G
theorem len_read_line (ws G Q E) (h : sp_read_line ws G Q E) : ws.length = 1 := by obtain ⟨_, rfl, _⟩ := h; rfl
noncomputable def t_read_line : TSw := (wSeq (wDrop (wCall sp_must_be (wCons (wOp wEq (wCB wLen (wCons (wVar 0) wNil)) (wC (.int 5))) wNil)))
  (wRet (wCall sp_numbers_of (wCons (wSlice (wVar 0) (wpSome (wC (.int 1))) wpNone) wNil))))
theorem rd_read_line (ws : List W) (G : Gp) (Q : QW) (E) (h : sp_read_line ws G Q E) : t_read_line { nx := fun _ G' => Q .non G', rt := Cl Q } (startW ["words"] ws) G := by
 obtain ⟨l, rfl, h, q⟩ := h
 show t_read_line _ [some (.lst ((lineWs l).map fun p => tW p))] G
 unfold t_read_line
 k_upd
 have big : 1000 < sizeLine := by decide
 unfold lineWs
 k_upd
 rw [cut_c1]
 refine ⟨_, rfl, decide_eq_true (by simp [lineNs]), ?_⟩
 exact ⟨lineNs l, by rw [List.map_map]; rfl, h, by simp [lineNs], .inl q⟩
noncomputable def sp_read_store : Spw := fun ws G Q E => ∃ (t : Sto), ws = [.lst ((storeWs t).map fun p => tW p)] ∧ (∀ x ∈ storeNs t, x ≤ 100) ∧ Q (.tup ((storeNs t).map fun n => nW n)) G
theorem len_read_store (ws G Q E) (h : sp_read_store ws G Q E) : ws.length = 1 := by obtain ⟨_, rfl, _⟩ := h; rfl
noncomputable def t_read_store : TSw := (wSeq (wDrop (wCall sp_must_be (wCons (wOp wEq (wCB wLen (wCons (wVar 0) wNil)) (wC (.int 6))) wNil)))
  (wRet (wCall sp_numbers_of (wCons (wSlice (wVar 0) (wpSome (wC (.int 1))) wpNone) wNil))))
theorem rd_read_store (ws : List W) (G : Gp) (Q : QW) (E) (h : sp_read_store ws G Q E) : t_read_store { nx := fun _ G' => Q .non G', rt := Cl Q } (startW ["words"] ws) G := by
 obtain ⟨t, rfl, h, q⟩ := h
 show t_read_store _ [some (.lst ((storeWs t).map fun p => tW p))] G
 unfold t_read_store
 k_upd
 have big : 1000 < sizeLine := by decide
 unfold storeWs
 k_upd
 rw [cut_c1]
 refine ⟨_, rfl, decide_eq_true (by simp [storeNs]), ?_⟩
 exact ⟨storeNs t, by rw [List.map_map]; rfl, h, by simp [storeNs], .inl q⟩
noncomputable def sp_read_hour : Spw := fun ws G Q E => ∃ (vs : List Wnt), ws = [.lst ((hourWs vs).map fun p => tW p)] ∧ (vs.length ≤ 10) ∧ (∀ v ∈ vs, v.1 ≤ 100 ∧ v.2.1 ≤ 100 ∧ v.2.2 ≤ 100) ∧ Q (wantsW vs) G
theorem len_read_hour (ws G Q E) (h : sp_read_hour ws G Q E) : ws.length = 1 := by obtain ⟨_, rfl, _⟩ := h; rfl
noncomputable def t_read_hour : TSw := (wRet (wCB wTuple (wCons (wLc [1] (iSeqW (wSlice (wVar 0) (wpSome (wC (.int 1))) wpNone)) (gN 1) wYes (wCall sp_parted_numbers (wCons (wVar 1) (wCons (wC (.int 3)) wNil)))) wNil)))
theorem rd_read_hour (ws : List W) (G : Gp) (Q : QW) (E) (h : sp_read_hour ws G Q E) : t_read_hour { nx := fun _ G' => Q .non G', rt := Cl Q } (startW ["words", "word"] ws) G := by
 obtain ⟨vs, rfl, few, h, q⟩ := h
 show t_read_hour _ [some (.lst ((hourWs vs).map fun p => tW p)), none] G
 unfold t_read_hour
 k_upd
 have big : 1000 < sizeLine := by decide
 unfold hourWs
 k_upd
 rw [cut_c1]
 refine ⟨by simp; omega, ?_⟩
 rw [List.map_map]
 refine lcW_m (fun v : Wnt => tW (wantC v)) (fun v => wantW v) vs _ ?_ ?_
 ·intro v hv P hP
  obtain ⟨h1, h2, h3⟩ := h v hv
  k_upd
  refine ⟨[v.1, v.2.1, v.2.2], 3, rfl, fun n hn => ?_, rfl, by decide, hP⟩
  simp only [List.mem_cons, List.not_mem_nil, or_false] at hn
  rcases hn with rfl | rfl | rfl <;> assumption
 k_upd
 exact .inl q
noncomputable def sp_read_work : Spw := fun ws G Q E => ∃ (k : Wk), ws = [.lst ((workWs k).map fun p => tW p)] ∧ (∀ x ∈ workNs k, x ≤ 100) ∧ (1 ≤ k.pieces.length ∧ k.pieces.length ≤ 10) ∧ (∀ v ∈ k.pieces, v.1 ≤ 100 ∧ v.2 ≤ 100) ∧ Q (workW k) G
theorem len_read_work (ws G Q E) (h : sp_read_work ws G Q E) : ws.length = 1 := by obtain ⟨_, rfl, _⟩ := h; rfl
noncomputable def t_read_work : TSw := (wSeq (wDrop (wCall sp_must_be (wCons (wAndV (wOp wGe (wCB wLen (wCons (wVar 0) wNil)) (wC (.int 9))) (wOp (wIn false) (wOp wIx (wVar 0) (wC (.int 7))) (wTup (wCons (wC (.str "on")) (wCons (wC (.str "off")) wNil))))) wNil)))
  (wSeq (wAsg (wCall sp_numbers_of (wCons (wSlice (wVar 0) (wpSome (wC (.int 1))) (wpSome (wC (.int 7)))) wNil)) (gT 6 (gsC (gN 1) (gsC (gN 2) (gsC (gN 3) (gsC (gN 4) (gsC (gN 5) (gsC (gN 6) gsN))))))))
  (wSeq (wAsg (wCB wTuple (wCons (wLc [8] (iSeqW (wSlice (wVar 0) (wpSome (wC (.int 8))) wpNone)) (gN 8) wYes (wCall sp_parted_numbers (wCons (wVar 8) (wCons (wC (.int 2)) wNil)))) wNil)) (gN 7))
  (wRet (wTup (wCons (wVar 1) (wCons (wVar 2) (wCons (wVar 3) (wCons (wVar 7) (wCons (wVar 4) (wCons (wVar 5) (wCons (wVar 6) (wCons (wOp wEq (wOp wIx (wVar 0) (wC (.int 7))) (wC (.str "on"))) wNil)))))))))))))
theorem rd_read_work (ws : List W) (G : Gp) (Q : QW) (E) (h : sp_read_work ws G Q E) : t_read_work { nx := fun _ G' => Q .non G', rt := Cl Q } (startW ["words", "place", "least", "keep", "start", "stay", "rest", "pieces", "word"] ws) G := by
 obtain ⟨k, rfl, h, few, hp, q⟩ := h
 show t_read_work _ [some (.lst ((workWs k).map fun p => tW p)), none, none, none, none, none, none, none, none] G
 unfold t_read_work
 k_upd
 have big : 1000 < sizeLine := by decide
 have ew : (workWs k).map (fun p => tW p) = tW cWork :: tW (nC k.p) :: tW (nC k.least) :: tW (nC k.keep) :: tW (nC k.start) :: tW (nC k.e1) :: tW (nC k.e2) :: tW (if k.on then cOn else cOff) :: k.pieces.map fun v => tW (pieceC v) := by
  unfold workWs workNs
  simp
 rw [ew]
 have oo : (if k.on then cOn else cOff) = cOn ∨ (if k.on then cOn else cOff) = cOff := by cases k.on <;> simp
 have od : (decide (SX.S (if k.on then cOn else cOff) = ("on" : Str))) = k.on := by rw [e_on]; cases k.on <;> decide
 generalize (if k.on then cOn else cOff) = ow at oo od ⊢
 k_upd
 have lw : (workWs k).length = 8 + k.pieces.length := by simp [workWs, workNs]; omega
 rw [if_pos (by rw [decide_eq_true_eq]; omega)]
 refine ⟨by decide, _, rfl, by rw [e_on, e_off]; rcases oo with rfl | rfl <;> decide +kernel, ?_⟩
 have c17 : cutW (tW cWork :: tW (nC k.p) :: tW (nC k.least) :: tW (nC k.keep) :: tW (nC k.start) :: tW (nC k.e1) :: tW (nC k.e2) :: tW ow :: k.pieces.map fun v => tW (pieceC v)) (some 1) (some 7) = (workNs k).map fun n => tW (nC n) := by
  unfold cutW
  rw [show ∀ n : Nat, 7 ≤ n → HT.sIx n 0 (some 1) = 1 from fun n h => by simp [HT.sIx]; omega, show ∀ n : Nat, 7 ≤ n → HT.sIx n n (some 7) = 7 from fun n h => by simp [HT.sIx]; omega]
  ·rfl
  ·simp
  ·simp
 have c8 : cutW (tW cWork :: tW (nC k.p) :: tW (nC k.least) :: tW (nC k.keep) :: tW (nC k.start) :: tW (nC k.e1) :: tW (nC k.e2) :: tW ow :: k.pieces.map fun v => tW (pieceC v)) (some 8) none = k.pieces.map fun v => tW (pieceC v) := by
  exact cut_id _ (k := 8) (by simp)
 rw [c17]
 refine ⟨workNs k, rfl, h, by simp [workNs], ?_⟩
 unfold workNs
 k_upd
 rw [c8, List.length_map]
 refine ⟨by omega, ?_⟩
 refine lcW_m (fun v : Nat × Nat => tW (pieceC v)) (fun v => pieceW v) k.pieces _ ?_ ?_
 ·intro v hv P hP
  obtain ⟨h1, h2⟩ := hp v hv
  k_upd
  refine ⟨[v.1, v.2], 2, rfl, fun n hn => ?_, rfl, by decide, hP⟩
  simp only [List.mem_cons, List.not_mem_nil, or_false] at hn
  rcases hn with rfl | rfl <;> assumption
 k_upd
 rw [od]
 exact ⟨by decide, .inl q⟩
noncomputable def sp_rows_with : Spw := fun ws G Q E => ∃ (rs ss : Rws) (c : List Nat), ws = [.lst ((rs ++ ss).map fun r => rowX r), tW c] ∧ ((rs ++ ss).length ≤ 100) ∧ (∀ r ∈ rs, r.head? = some c) ∧ (∀ r, ss.head? = some r → ∃ d, r.head? = some d ∧ d ≠ c) ∧ Q (.tup [.lst (rs.map fun r => rowX r), .lst (ss.map fun r => rowX r)]) G
theorem len_rows_with (ws G Q E) (h : sp_rows_with ws G Q E) : ws.length = 2 := by obtain ⟨_, _, _, rfl, _⟩ := h; rfl
noncomputable def t_rows_with_r1 : TSw := (wRet (wTup (wCons (wSlice (wVar 0) wpNone (wpSome (wVar 2))) (wCons (wSlice (wVar 0) (wpSome (wVar 2)) wpNone) wNil))))
noncomputable def t_rows_with : TSw := (wSeq (wAsg (wC (.int 0)) (gN 2))
  (wSeq (wWhile [false, false, false] (wAnd (wTest (wOp wLt (wVar 2) (wCB wLen (wCons (wVar 0) wNil)))) (wTest (wOp wEq (wOp wIx (wOp wIx (wVar 0) (wVar 2)) (wC (.int 0))) (wVar 1)))) (wAug 2 (wC (.int 1)) wAddI))
  t_rows_with_r1))
theorem rd_rows_with (ws : List W) (G : Gp) (Q : QW) (E) (h : sp_rows_with ws G Q E) : t_rows_with { nx := fun _ G' => Q .non G', rt := Cl Q } (startW ["rows", "first", "many"] ws) G := by
 obtain ⟨rs, ss, c, rfl, few, h1, h2, q⟩ := h
 show t_rows_with _ [some (.lst ((rs ++ ss).map fun r => rowX r)), some (tW c), none] G
 unfold t_rows_with
 k_upd
 have big : 1000 < sizeLine := by decide
 k_upd
 refine ⟨fun m σ G1 => ∃ j, j + m = rs.length ∧ G1 = G ∧ σ = [some (.lst ((rs ++ ss).map fun r => rowX r)), some (tW c), some (.int ((j : Nat) : Int))], ⟨rs.length, 0, by omega, rfl, rfl⟩, ?_⟩
 rintro m σ G1 ⟨j, hj, rfl, rfl⟩
 have la : (rs ++ ss).length = rs.length + ss.length := List.length_append
 have fin : t_rows_with_r1 { nx := fun x G' => Q W.non G', rt := Cl Q } [some (.lst ((rs ++ ss).map fun r => rowX r)), some (tW c), some (.int ((rs.length : Nat) : Int))] G1 := by
  unfold t_rows_with_r1
  k_upd
  rw [cut_to (fun r => rowX r) (rs ++ ss) (by omega), cut_from (fun r => rowX r) (rs ++ ss) (by omega)]
  rw [List.take_left' rfl, List.drop_left' rfl]
  exact ⟨by decide, .inl q⟩
 have h0 : ∀ (d : List Nat) (r : List (List Nat)), r.head? = some d → L2.atI (r.map fun p => tW p) 0 = some (tW d) := fun d r h => by
  cases r with
  | nil => cases h
  | cons x r =>
   simp only [List.head?_cons, Option.some.injEq] at h
   subst h
   unfold L2.atI
   simp [L2.ixN]
 k_upd
 by_cases hl : j < (rs ++ ss).length
 ·rw [if_pos (decide_eq_true (by omega)), atI_map' hl, isS_some]
  by_cases hr : j < rs.length
  ·have e := h0 c ((rs ++ ss)[j]) (by rw [List.getElem_append_left hr]; exact h1 _ (List.getElem_mem hr))
   k_upd
   rw [e]
   k_upd
   refine ⟨m - 1, by omega, j + 1, by omega, ?_⟩
   simp
  ·have jr : j = rs.length := by omega
   obtain ⟨d, hd, ne⟩ := h2 ((rs ++ ss)[j]) (by
    rw [List.getElem_append_right (by omega)]
    cases ss with
    | nil => simp at hl; omega
    | cons x ss => simp [jr])
   have e := h0 d _ hd
   k_upd
   rw [e]
   k_upd
   rw [if_neg (by rw [decide_eq_true_eq]; exact fun z => ne (S_inj z)), jr]
   exact fin
 ·have jr : j = rs.length := by omega
  rw [if_neg (by rw [decide_eq_true_eq]; omega), jr]
  exact fin
noncomputable def HeadNe (c : List Nat) (ss : Rws) : Prop := ∀ r ∈ ss, ∃ d, r.head? = some d ∧ d ≠ c
theorem HeadNe.fst {c : List Nat} {ss : Rws} (h : HeadNe c ss) : ∀ r, ss.head? = some r → ∃ d, r.head? = some d ∧ d ≠ c := fun r e => h r (List.mem_of_head? e)
theorem head_work (k : Wk) : (workWs k).head? = some cWork := rfl
theorem head_store (t : Sto) : (storeWs t).head? = some cStore := rfl
theorem head_hour (vs : List Wnt) : (hourWs vs).head? = some cHour := rfl
theorem ne_work {c : List Nat} (h : cWork ≠ c) (ks : List Wk) : HeadNe c (ks.map workWs) := fun r hr => by obtain ⟨k, _, rfl⟩ := List.mem_map.mp hr; exact ⟨_, head_work k, h⟩
theorem ne_hour {c : List Nat} (h : cHour ≠ c) (hs : List (List Wnt)) : HeadNe c (hs.map hourWs) := fun r hr => by obtain ⟨k, _, rfl⟩ := List.mem_map.mp hr; exact ⟨_, head_hour k, h⟩
theorem ne_store {c : List Nat} (h : cStore ≠ c) (s : Option Sto) : HeadNe c (stoWs s) := fun r hr => by
 cases s with
 | none => simp [stoWs] at hr
 | some t => simp [stoWs] at hr; subst hr; exact ⟨_, head_store t, h⟩
theorem ne_app {c : List Nat} {rs ss : Rws} (a : HeadNe c rs) (b : HeadNe c ss) : HeadNe c (rs ++ ss) := fun r hr => by
 rcases List.mem_append.mp hr with hr | hr
 ·exact a r hr
 ·exact b r hr
theorem sto_len (s : Option Sto) : (stoWs s).length ≤ 1 := by cases s <;> simp [stoWs]
noncomputable def sp_read_rows : Spw := fun ws G Q E => ∃ (n : Nat) (ls : List Ln) (ks : List Wk) (s : Option Sto) (hs : List (List Wnt)), ws = [.lst ((rowsWs n ls ks s hs).map fun r => rowX r)] ∧ (House n ls ks s hs) ∧ Q (houseW n ls ks s hs) G
theorem len_read_rows (ws G Q E) (h : sp_read_rows ws G Q E) : ws.length = 1 := by obtain ⟨_, _, _, _, _, rfl, _⟩ := h; rfl
noncomputable def t_read_rows_r1 : TSw := (wRet (wTup (wCons (wVar 7) (wCons (wVar 8) (wCons (wVar 9) (wCons (wCB wTuple (wCons (wLc [10] (iSeqW (wVar 6)) (gN 10) wYes (wCall sp_read_hour (wCons (wVar 10) wNil))) wNil)) wNil))))))
noncomputable def t_read_rows : TSw := (wSeq (wAsg (wCall sp_read_net (wCons (wOp wIx (wVar 0) (wC (.int 0))) wNil)) (gN 1))
  (wSeq (wAsg (wCall sp_rows_with (wCons (wSlice (wVar 0) (wpSome (wC (.int 1))) wpNone) (wCons (wC (.str "line")) wNil))) (gT 2 (gsC (gN 2) (gsC (gN 3) gsN))))
  (wSeq (wAsg (wCall sp_rows_with (wCons (wVar 3) (wCons (wC (.str "work")) wNil))) (gT 2 (gsC (gN 4) (gsC (gN 3) gsN))))
  (wSeq (wAsg (wCall sp_rows_with (wCons (wVar 3) (wCons (wC (.str "store")) wNil))) (gT 2 (gsC (gN 5) (gsC (gN 3) gsN))))
  (wSeq (wAsg (wCall sp_rows_with (wCons (wVar 3) (wCons (wC (.str "hour")) wNil))) (gT 2 (gsC (gN 6) (gsC (gN 3) gsN))))
  (wSeq (wDrop (wCall sp_must_be (wCons (wAndV (wOp wEq (wVar 3) (wLst wNil)) (wOp wLe (wCB wLen (wCons (wVar 5) wNil)) (wC (.int 1)))) wNil)))
  (wSeq (wAsg (wTup (wCons (wVar 1) (wCons (wCB wTuple (wCons (wLc [10] (iSeqW (wVar 2)) (gN 10) wYes (wCall sp_read_line (wCons (wVar 10) wNil))) wNil)) wNil))) (gN 7))
  (wSeq (wAsg (wCB wTuple (wCons (wLc [10] (iSeqW (wVar 4)) (gN 10) wYes (wCall sp_read_work (wCons (wVar 10) wNil))) wNil)) (gN 8))
  (wSeq (wAsg (wC .non) (gN 9))
  (wSeq (wIfS (wTest (wOp wNe (wVar 5) (wLst wNil))) (wAsg (wCall sp_read_store (wCons (wOp wIx (wVar 5) (wC (.int 0))) wNil)) (gN 9)) wNext)
  t_read_rows_r1))))))))))
theorem rd_read_rows (ws : List W) (G : Gp) (Q : QW) (E) (h : sp_read_rows ws G Q E) : t_read_rows { nx := fun _ G' => Q .non G', rt := Cl Q } (startW ["rows", "many", "lines", "left", "works", "stores", "hours", "net", "some", "store", "words"] ws) G := by
 obtain ⟨n, ls, ks, s, hs, rfl, h, q⟩ := h
 show t_read_rows _ [some (.lst ((rowsWs n ls ks s hs).map fun r => rowX r)), none, none, none, none, none, none, none, none, none, none] G
 unfold t_read_rows
 k_upd
 have big : 1000 < sizeLine := by decide
 have n4 := h.net.n4
 have lf := h.net.few
 obtain ⟨kf, h1, h3⟩ := h.few
 have sl := sto_len s
 unfold rowsWs
 k_upd
 refine ⟨n, rfl, by omega, ?_⟩
 k_upd
 rw [cut_c1]
 refine ⟨ls.map lineWs, ks.map workWs ++ (stoWs s ++ hs.map hourWs), cLine, by rw [e_line], by simp; omega, fun r hr => ?_, HeadNe.fst (ne_app (ne_work (by decide) ks) (ne_app (ne_store (by decide) s) (ne_hour (by decide) hs))), ?_⟩
 ·obtain ⟨l, _, rfl⟩ := List.mem_map.mp hr; rfl
 k_upd
 refine ⟨ks.map workWs, stoWs s ++ hs.map hourWs, cWork, by rw [e_work], by simp; omega, fun r hr => ?_, HeadNe.fst (ne_app (ne_store (by decide) s) (ne_hour (by decide) hs)), ?_⟩
 ·obtain ⟨l, _, rfl⟩ := List.mem_map.mp hr; rfl
 k_upd
 refine ⟨stoWs s, hs.map hourWs, cStore, by rw [e_store], by simp; omega, fun r hr => ?_, HeadNe.fst (ne_hour (by decide) hs), ?_⟩
 ·cases s with
  | none => simp [stoWs] at hr
  | some t => simp [stoWs] at hr; subst hr; rfl
 k_upd
 refine ⟨hs.map hourWs, [], cHour, by rw [e_hour, List.append_nil], by simp; omega, fun r hr => ?_, fun r e => by simp at e, ?_⟩
 ·obtain ⟨l, _, rfl⟩ := List.mem_map.mp hr; rfl
 have w0 : wD 1 (W.lst []) := wD_lst (d := 0) fun w hw => by cases hw
 have work : ∀ k ∈ ks, ∀ (P : QW), P (workW k) G → sp_read_work [rowX (workWs k)] G P E0w := fun k hk P hP => by
  have ok := h.works k hk
  exact ⟨k, rfl, work_ns ok n4, ⟨ok.few.1, by have := ok.few.2; omega⟩, fun v hv => by have := ok.pieces v hv; omega, hP⟩
 k_upd
 rw [weqb_self w0, if_pos rfl]
 refine ⟨Nat.zero_le _, wOk_of w0 (by decide), wOk_of w0 (by decide), _, rfl, decide_eq_true (by omega), ?_⟩
 refine ⟨by omega, ?_⟩
 rw [List.map_map]
 refine lcW_m (fun l : Ln => rowX (lineWs l)) (fun l => lineW l) ls _ ?_ ?_
 ·intro l hl P hP
  k_upd
  exact ⟨l, rfl, line_ns (h.net.ok l hl) n4, hP⟩
 refine ⟨by decide, by omega, ?_⟩
 rw [List.map_map]
 refine lcW_m (fun k : Wk => rowX (workWs k)) (fun k => workW k) ks _ ?_ ?_
 ·intro k hk P hP
  k_upd
  exact work k hk P hP
 have rest : ∀ (x0 x1 x2 x3 x4 x5 : Option W) (w : W), w = storeW s → t_read_rows_r1 { nx := fun x G' => Q W.non G', rt := Cl Q }
   [x0, x1, x2, x3, x4, x5,
    some (.lst ((hs.map hourWs).map fun r => rowX r)), some (.tup [nW n, .tup (ls.map fun l => lineW l)]), some (.tup (ks.map fun k => workW k)), some w, none] G := by
  rintro x0 x1 x2 x3 x4 x5 w rfl
  unfold t_read_rows_r1
  k_upd
  refine ⟨by omega, ?_⟩
  rw [List.map_map]
  refine lcW_m (fun vs : List Wnt => rowX (hourWs vs)) (fun vs => wantsW vs) hs _ ?_ ?_
  ·intro vs hvs P hP
   obtain ⟨a, b⟩ := h.wants vs hvs
   k_upd
   refine ⟨vs, rfl, by omega, fun v hv => ?_, hP⟩
   obtain ⟨b1, b2, b3⟩ := b v hv
   omega
  k_upd
  exact ⟨by decide, .inl q⟩
 cases s with
 | none =>
  refine ⟨Nat.zero_le _, wOk_of w0 (by decide), wOk_of w0 (by decide), ?_⟩
  rw [show weqb (.lst ((stoWs none).map fun r => rowX r)) (.lst []) = true from weqb_self w0, if_neg (by decide)]
  exact rest _ _ _ _ _ _ _ rfl
 | some t =>
  have ok := h.store t rfl
  have ns := store_ns ok n4
  have wt : ∀ p ∈ storeWs t, wD 0 (tW p) := fun p hp => by
   have dg : ∀ c ∈ p, c < 256 := fun c hc => by
    rcases List.mem_cons.mp hp with rfl | hp
    ·have : ∀ c ∈ cStore, c < 256 := by decide
     exact this c hc
    ·obtain ⟨x, hx, rfl⟩ := List.mem_map.mp hp
     have := (nums (ns x hx)).dig c hc
     omega
   have so : PyData.strOk (SX.S p) = true := by
    unfold PyData.strOk
    rw [← Array.all_toList, S_cps, List.all_eq_true]
    intro c hc
    have := dg c hc
    exact decide_eq_true (by omega)
   exact ⟨rfl, by simp [wdat, PyData.canLay0, so], by simp [wdat, PyData.depth]⟩
  have w2 : wD 2 (.lst ((stoWs (some t)).map fun r => rowX r)) := wD_lst (d := 1) fun w hw => by
   simp only [stoWs, List.map_cons, List.map_nil, List.mem_singleton] at hw
   subst hw
   exact wD_lst (d := 0) fun w hw => by
    obtain ⟨p, hp, rfl⟩ := List.mem_map.mp hw
    exact wt p hp
  refine ⟨Nat.zero_le _, wOk_of w2 (by decide), wOk_of w0 (by decide), ?_⟩
  rw [if_pos (by show (!weqb (.lst [rowX (storeWs t)]) (.lst [])) = true; simp [weqb, wdat, wdats, PyData.eqv, PyData.eqvAll])]
  rw [show L2.atI ((stoWs (some t)).map fun r => rowX r) 0 = some (rowX (storeWs t)) from rfl, isS_some]
  refine ⟨t, rfl, ns, ?_⟩
  exact rest _ _ _ _ _ _ _ rfl
theorem row_chars {n : Nat} {ls : List Ln} {ks : List Wk} {s : Option Sto} {hs : List (List Wnt)} (h : House n ls ks s hs) : ∀ r ∈ rowsWs n ls ks s hs, ∀ w ∈ r, ∀ c ∈ w, 48 ≤ c := by
 have n4 := h.net.n4
 have num : ∀ x, x ≤ 100 → ∀ c ∈ nC x, 48 ≤ c := fun x hx c hc => ((nums hx).dig c hc).1
 have join : ∀ ns : List Nat, (∀ x ∈ ns, x ≤ 100) → ∀ c ∈ J 58 (ns.map nC), 48 ≤ c := fun ns hn c hc => by
  rcases J_mem hc with rfl | ⟨p, hp, hx⟩
  ·decide
  ·obtain ⟨x, hx2, rfl⟩ := List.mem_map.mp hp
   exact num x (hn x hx2) c hx
 have kw : ∀ w ∈ [cNet, cLine, cWork, cStore, cHour, cOn, cOff], ∀ c ∈ w, 48 ≤ c := by decide
 intro r hr w hw
 rcases List.mem_cons.mp hr with rfl | hr
 ·simp only [netWs, List.mem_cons, List.not_mem_nil, or_false] at hw
  rcases hw with rfl | rfl
  ·exact kw _ (by simp)
  ·exact num n (by omega)
 rcases List.mem_append.mp hr with hr | hr
 ·obtain ⟨l, hl, rfl⟩ := List.mem_map.mp hr
  rcases List.mem_cons.mp hw with rfl | hw
  ·exact kw _ (by simp)
  ·obtain ⟨x, hx, rfl⟩ := List.mem_map.mp hw
   exact num x (line_ns (h.net.ok l hl) n4 x hx)
 rcases List.mem_append.mp hr with hr | hr
 ·obtain ⟨k, hk, rfl⟩ := List.mem_map.mp hr
  have ok := h.works k hk
  rcases List.mem_append.mp hw with hw | hw
  ·rcases List.mem_cons.mp hw with rfl | hw
   ·exact kw _ (by simp)
   ·obtain ⟨x, hx, rfl⟩ := List.mem_map.mp hw
    exact num x (work_ns ok n4 x hx)
  ·rcases List.mem_cons.mp hw with rfl | hw
   ·cases k.on <;> exact kw _ (by simp)
   ·obtain ⟨v, hv, rfl⟩ := List.mem_map.mp hw
    have := ok.pieces v hv
    exact join _ fun x hx => by
     simp only [List.mem_cons, List.not_mem_nil, or_false] at hx
     rcases hx with rfl | rfl <;> omega
 rcases List.mem_append.mp hr with hr | hr
 ·cases s with
  | none => simp [stoWs] at hr
  | some t =>
   simp [stoWs] at hr
   subst hr
   rcases List.mem_cons.mp hw with rfl | hw
   ·exact kw _ (by simp)
   ·obtain ⟨x, hx, rfl⟩ := List.mem_map.mp hw
    exact num x (store_ns (h.store t rfl) n4 x hx)
 ·obtain ⟨vs, hvs, rfl⟩ := List.mem_map.mp hr
  rcases List.mem_cons.mp hw with rfl | hw
  ·exact kw _ (by simp)
  ·obtain ⟨v, hv, rfl⟩ := List.mem_map.mp hw
   obtain ⟨b1, b2, b3⟩ := (h.wants vs hvs).2 v hv
   exact join _ fun x hx => by
    simp only [List.mem_cons, List.not_mem_nil, or_false] at hx
    rcases hx with rfl | rfl | rfl <;> omega
theorem house_dat {n : Nat} {ls : List Ln} {ks : List Wk} {s : Option Sto} {hs : List (List Wnt)} (h : House n ls ks s hs) : datB (houseW n ls ks s hs) = true := by
 have tup : ∀ ws : List W, (∀ w ∈ ws, datB w = true) → datB (.tup ws) = true := fun ws h => by
  rw [datB]; exact dats_all.mpr h
 have net : datB (netW n ls) = true := tup _ fun w hw => by
  simp only [List.mem_cons, List.not_mem_nil, or_false] at hw
  rcases hw with rfl | rfl
  ·rfl
  ·refine tup _ fun w hw => ?_
   obtain ⟨l, _, rfl⟩ := List.mem_map.mp hw
   rfl
 have works : datB (.tup (ks.map fun k => workW k)) = true := tup _ fun w hw => by
  obtain ⟨k, _, rfl⟩ := List.mem_map.mp hw
  refine tup _ fun w hw => ?_
  simp only [List.mem_cons, List.not_mem_nil, or_false] at hw
  rcases hw with rfl | rfl | rfl | rfl | rfl | rfl | rfl | rfl <;> try rfl
  refine tup _ fun w hw => ?_
  obtain ⟨v, _, rfl⟩ := List.mem_map.mp hw
  rfl
 have store : datB (storeW s) = true := by cases s <;> rfl
 have wants : datB (.tup (hs.map fun vs => wantsW vs)) = true := tup _ fun w hw => by
  obtain ⟨vs, _, rfl⟩ := List.mem_map.mp hw
  refine tup _ fun w hw => ?_
  obtain ⟨v, _, rfl⟩ := List.mem_map.mp hw
  rfl
 refine tup _ fun w hw => ?_
 simp only [List.mem_cons, List.not_mem_nil, or_false] at hw
 rcases hw with rfl | rfl | rfl | rfl
 ·exact net
 ·exact works
 ·exact store
 ·exact wants
noncomputable def sp_read_house : Spw := fun ws G Q E => ∃ (n : Nat) (ls : List Ln) (ks : List Wk) (s : Option Sto) (hs : List (List Wnt)), ws = [tW (textC n ls ks s hs)] ∧ (House n ls ks s hs) ∧ Q (houseW n ls ks s hs) G
theorem len_read_house (ws G Q E) (h : sp_read_house ws G Q E) : ws.length = 1 := by obtain ⟨_, _, _, _, _, rfl, _⟩ := h; rfl
noncomputable def t_read_house : TSw := (wSeq (wDrop (wCall sp_must_be (wCons (wUn (wIsi .str) (wVar 0)) wNil)))
  (wSeq (wAsg (wCall sp_read_rows (wCons (wLc [2] (iSeqW (wTx wSplitT (wVar 0) (wC (.str "\n")))) (gN 2) wYes (wTx wSplitT (wVar 2) (wC (.str " ")))) wNil)) (gN 1))
  (wSeq (wIfS (wNot (wTest (wCall sp_is_house (wCons (wVar 1) wNil)))) wNever wNext)
  (wRet (wVar 1)))))
theorem rd_read_house (ws : List W) (G : Gp) (Q : QW) (E) (h : sp_read_house ws G Q E) : t_read_house { nx := fun _ G' => Q .non G', rt := Cl Q } (startW ["text", "house", "row"] ws) G := by
 obtain ⟨n, ls, ks, s, hs, rfl, h, q⟩ := h
 show t_read_house _ [some (tW (textC n ls ks s hs)), none, none] G
 unfold t_read_house
 k_upd
 have big : 16000000 < sizeLine := by rw [sizeLine_eq]; omega
 k_upd
 refine ⟨_, rfl, rfl, ?_⟩
 have rf := rows_few h
 have rl := row_len h
 have rc := row_chars h
 have rw_ := row_words h
 have tl := J_len (c := 10) rl
 rw [List.length_map] at tl
 have ne10 : (rowsWs n ls ks s hs).map (J 32) ≠ [] := by simp [rowsWs]
 have sp10 := split_J (c := 10) (by decide) ne10 fun p hp z => by
  obtain ⟨r, hr, rfl⟩ := List.mem_map.mp hp
  rcases J_mem z with z | ⟨w, hw, hx⟩
  ·cases z
  ·have := rc r hr w hw 10 hx; omega
 dsimp only
 rw [a_wTx]
 k_upd
 rw [show tW (textC n ls ks s hs) = W.str (SX.S (textC n ls ks s hs)) from rfl, isTx_str]
 k_upd
 rw [e_nl, wSplitT_eq]
 unfold textC
 rw [sp10]
 refine ⟨by decide, by rw [S_len]; omega, ?_⟩
 k_upd
 refine ⟨by omega, ?_⟩
 rw [List.map_map, List.map_map]
 refine lcW_m (fun r : List (List Nat) => W.str (SX.S (J 32 r))) (fun r => rowX r) (rowsWs n ls ks s hs) _ ?_ ?_
 ·intro r hr P hP
  have sp32 := split_J (c := 32) (by decide) (rw_ r hr).1 fun p hp z => by have := rc r hr p hp 32 z; omega
  have l := rl _ (List.mem_map.mpr ⟨r, hr, rfl⟩)
  k_upd
  rw [a_wTx]
  k_upd
  rw [isTx_str]
  k_upd
  rw [e_sp, wSplitT_eq, sp32]
  refine ⟨by decide, by rw [S_len]; omega, ?_⟩
  rw [List.map_map]
  exact hP
 refine ⟨n, ls, ks, s, hs, rfl, h, ?_⟩
 k_upd
 refine ⟨houseW n ls ks s hs, rfl, house_dat h, fun m us e => ?_, ?_⟩
 ·have e : netW n ls = .tup [m, .tup us] := e
  have := h.net.few
  simp only [netW, W.tup.injEq, List.cons.injEq, and_true] at e
  obtain ⟨_, e⟩ := e
  have := congrArg List.length e
  simp at this
  omega
 rw [house_true h h.few.1 h.few.2.2]
 k_upd
 exact .inl q
theorem limOf_num {lost : Int} : ∀ {m : Nat}, (limOf lost m).length + (if 0 ≤ lost ∧ lost < (m : Int) then 2 else 0) = 2 * m
 | 0 => by
  rw [if_neg (by omega)]
  simp [limOf]
 | m + 1 => by
  have ih := limOf_num (lost := lost) (m := m)
  rw [limOf_succ, List.length_append]
  unfold lim1
  by_cases c : (m : Int) = lost
  ·rw [if_pos c, if_pos (by omega)]
   rw [if_neg (by omega)] at ih
   simp only [List.length_nil]
   omega
  ·rw [if_neg c]
   by_cases d : 0 ≤ lost ∧ lost < (m : Int)
   ·rw [if_pos (by omega)]
    rw [if_pos d] at ih
    simp only [List.length_cons, List.length_nil]
    omega
   ·rw [if_neg (by omega)]
    rw [if_neg d] at ih
    simp only [List.length_cons, List.length_nil]
    omega
theorem lims_num {n : Nat} {ls : List Ln} : (limsL n ls).length = 2 * ls.length + 2 * (ls.length - 1) * (dueL n ls).length := by
 have e : ∀ xs : List Nat, (∀ k ∈ xs, k < ls.length) → ((xs.map fun k : Nat => (k : Int)).flatMap fun l => limOf l ls.length).length = 2 * (ls.length - 1) * xs.length := by
  intro xs
  induction xs with
  | nil => intro _; simp
  | cons k xs ih =>
   intro h
   have hk := h k (.head _)
   have a := limOf_num (lost := (k : Int)) (m := ls.length)
   rw [if_pos (by omega)] at a
   rw [List.map_cons, List.flatMap_cons, List.length_append, ih fun j hj => h j (.tail _ hj), List.length_cons, Nat.mul_add]
   omega
 have a := limOf_num (lost := -1) (m := ls.length)
 rw [if_neg (by omega)] at a
 unfold limsL lostsL
 rw [List.flatMap_cons, List.length_append, e _ fun k hk => (due_mem hk).1]
 omega
local macro_rules | `(tactic| k_upd) => `(tactic| walk_at "Wffbe748a010006bd6bd6bd6ffff0000000000effff108300e7c30000a10")
local macro_rules | `(tactic| walk_at "t") => `(tactic| (k_upd; try simp only [a_wTx, isTx_str]; k_upd; try simp only [a_wTx, isTx_str]; k_upd))
theorem e_netsp : ("net " : Str) = SX.S (cNet ++ [32]) := by decide +kernel
theorem e_linesp : ("line " : Str) = SX.S (cLine ++ [32]) := by decide +kernel
theorem e_worksp : ("work " : Str) = SX.S (cWork ++ [32]) := by decide +kernel
theorem e_storesp : ("store " : Str) = SX.S (cStore ++ [32]) := by decide +kernel
theorem row_txt (c : List Nat) {ps : List (List Nat)} (ne : ps ≠ []) : SX.S (c ++ [32]) ++ SX.S (J 32 ps) = SX.S (J 32 (c :: ps)) := by
 rw [SX.S_cat, J_cons ne, List.append_assoc]
theorem strJ {c : Nat} {ns : List Nat} {G : Gp} {Q : QW} (hn : ∀ n ∈ ns, n ≤ 100) (few : ns.length ≤ 10) (q : Q (tW (J c (ns.map nC))) G) : wJoinT (.str (SX.S [c])) (.lst (ns.map fun n => tW (nC n))) G Q := by
 refine joinT (b := 3) (ps := ns.map nC) (by rw [List.map_map]; rfl) (fun p hp => ?_) (by rw [List.length_map]; omega) q
 obtain ⟨n, h, rfl⟩ := List.mem_map.mp hp
 exact (nums (hn n h)).l3
theorem J_few {c : Nat} {ns : List Nat} (hn : ∀ n ∈ ns, n ≤ 100) (few : ns.length ≤ 10) : (J c (ns.map nC)).length ≤ 40 := by
 have := J_len (c := c) (ps := ns.map nC) (b := 3) fun p hp => by
  obtain ⟨n, h, rfl⟩ := List.mem_map.mp hp
  exact (nums (hn n h)).l3
 rw [List.length_map] at this
 omega
noncomputable def sp_ztext : Spw := fun ws G Q E => ∃ (n : Nat) (ls : List Ln) (ks : List Wk) (s : Option Sto) (hs : List (List Wnt)), ws = [houseW n ls ks s hs] ∧ (House n ls ks s hs) ∧ Q (tW (textC n ls ks s hs)) G
theorem len_ztext (ws G Q E) (h : sp_ztext ws G Q E) : ws.length = 1 := by obtain ⟨_, _, _, _, _, rfl, _⟩ := h; rfl
noncomputable def t_ztext_b1 : TSw := (wDrop (wBM wM_append (wVar 5) (wCons (wOp wAdd (wC (.str "line ")) (wTx wJoinT (wC (.str " ")) (wLc [17] (iSeqW (wVar 6)) (gN 17) wYes (wCB wStrI (wCons (wVar 17) wNil))))) wNil)))
noncomputable def t_ztext_b2 : TSw := (wSeq (wAsg (wOp wAdd (wLc [17] (iSeqW (wTup (wCons (wVar 7) (wCons (wVar 8) (wCons (wVar 9) (wCons (wVar 11) (wCons (wVar 12) (wCons (wVar 13) wNil)))))))) (gN 17) wYes (wCB wStrI (wCons (wVar 17) wNil))) (wLst (wCons (wOp wIx (wLst (wCons (wC (.str "off")) (wCons (wC (.str "on")) wNil))) (wCB wInt (wCons (wVar 14) wNil))) wNil))) (gN 15))
  (wSeq (wAsg (wOp wAdd (wVar 15) (wLc [18, 19] (iSeqW (wVar 10)) (gT 2 (gsC (gN 18) (gsC (gN 19) gsN))) wYes (wOp wAdd (wOp wAdd (wCB wStrI (wCons (wVar 18) wNil)) (wC (.str ":"))) (wCB wStrI (wCons (wVar 19) wNil))))) (gN 15))
  (wDrop (wBM wM_append (wVar 5) (wCons (wOp wAdd (wC (.str "work ")) (wTx wJoinT (wC (.str " ")) (wVar 15))) wNil)))))
noncomputable def t_ztext_b3 : TSw := (wDrop (wBM wM_append (wVar 5) (wCons (wTx wJoinT (wC (.str " ")) (wOp wAdd (wLst (wCons (wC (.str "hour")) wNil)) (wLc [20] (iSeqW (wVar 16)) (gN 20) wYes (wTx wJoinT (wC (.str ":")) (wLc [17] (iSeqW (wVar 20)) (gN 17) wYes (wCB wStrI (wCons (wVar 17) wNil))))))) wNil)))
noncomputable def t_ztext_r1 : TSw := (wRet (wTx wJoinT (wC (.str "\n")) (wVar 5)))
noncomputable def t_ztext_r2 : TSw := (wSeq (wFor [true, true, true, true, true, false, true, true, true, true, true, true, true, true, true, true, true, true, true, true, true] (iSeqW (wVar 4)) (gN 16) t_ztext_b3)
  t_ztext_r1)
noncomputable def t_ztext_r3 : TSw := (wSeq (wIfS (wTest (wNotN (wVar 3))) (wDrop (wBM wM_append (wVar 5) (wCons (wOp wAdd (wC (.str "store ")) (wTx wJoinT (wC (.str " ")) (wLc [17] (iSeqW (wVar 3)) (gN 17) wYes (wCB wStrI (wCons (wVar 17) wNil))))) wNil))) wNext)
  t_ztext_r2)
noncomputable def t_ztext_r4 : TSw := (wSeq (wFor [true, true, true, false, false, false, true, true, true, true, true, true, true, true, true, true, true, true, true, true, true] (iSeqW (wVar 2)) (gT 8 (gsC (gN 7) (gsC (gN 8) (gsC (gN 9) (gsC (gN 10) (gsC (gN 11) (gsC (gN 12) (gsC (gN 13) (gsC (gN 14) gsN))))))))) t_ztext_b2)
  t_ztext_r3)
noncomputable def t_ztext : TSw := (wSeq (wAsg (wVar 0) (gT 4 (gsC (gN 1) (gsC (gN 2) (gsC (gN 3) (gsC (gN 4) gsN))))))
  (wSeq (wAsg (wLstM (wCons (wOp wAdd (wC (.str "net ")) (wCB wStrI (wCons (wOp wIx (wVar 1) (wC (.int 0))) wNil))) wNil)) (gN 5))
  (wSeq (wFor [true, true, false, false, false, false, true, true, true, true, true, true, true, true, true, true, true, true, true, true, true] (iSeqW (wOp wIx (wVar 1) (wC (.int 1)))) (gN 6) t_ztext_b1)
  t_ztext_r4)))
theorem rd_ztext (ws : List W) (G : Gp) (Q : QW) (E) (h : sp_ztext ws G Q E) : t_ztext { nx := fun _ G' => Q .non G', rt := Cl Q } (startW ["_law_house_here", "_law_net_here", "_law_works", "_law_store_here", "_law_hours", "_law_rows", "_law_line", "_law_place", "_law_least", "_law_keep", "_law_pieces", "_law_start", "_law_stay", "_law_rest", "_law_was", "_law_words", "_law_wants_here", "_law_number", "_law_width", "_law_price", "_law_want"] ws) G := by
 obtain ⟨n, ls, ks, s, hs, rfl, h, q⟩ := h
 show t_ztext _ [some (houseW n ls ks s hs), none, none, none, none, none, none, none, none, none, none, none, none, none, none, none, none, none, none, none, none] G
 unfold t_ztext
 k_upd
 have big : 16000000 < sizeLine := by rw [sizeLine_eq]; omega
 have n4 := h.net.n4
 walk_at "t"
 rw [e_netsp, nC_S, SX.S_cat, S_len, S_len]
 have nl := (nums (show n ≤ 100 by omega)).l3
 refine ⟨log2_small (by omega), by simp [cNet]; omega, by omega, fun p hp => ?_⟩
 rw [show cNet ++ [32] ++ nC n = J 32 (netWs n) by unfold netWs; rw [J_cons (by simp), List.append_assoc]; rfl]
 refine forW_ix (fun k σ G1 => G1 = gup G p (.lst (tW (J 32 (netWs n)) :: (ls.take k).map fun l => tW (J 32 (lineWs l)))) ∧ σ = [none, none, some (W.tup (List.map (fun k => workW k) ks)), some (storeW s), some (W.tup (List.map (fun vs => wantsW vs) hs)), some (W.ref p), none, none, none, none, none, none, none, none, none, none, none, none, none, none, none]) _ 0 _ _ ⟨rfl, rfl⟩ ?_ ?_
 ·rintro k w hw σ G1 N ⟨rfl, rfl⟩ hN
  rw [Nat.zero_add k] at hN
  rw [Nat.zero_add k]
  rw [show linesW ls = ls.map fun l => lineW l from rfl, List.getElem?_map] at hw
  by_cases hk : k < ls.length
  ·rw [List.getElem?_eq_getElem hk] at hw
   injection hw with hw
   subst hw
   have ns := line_ns (h.net.ok _ (List.getElem_mem hk)) n4
   have few := h.net.few
   rw [List.take_succ_eq_append_getElem hk, List.map_append] at hN
   generalize ls[k] = l at ns hN ⊢
   unfold t_ztext_b1
   walk_at "t"
   have l4 : l.a ≤ 100 ∧ l.b ≤ 100 ∧ l.s ≤ 100 ∧ l.m ≤ 100 := ⟨ns _ (by simp [lineNs]), ns _ (by simp [lineNs]), ns _ (by simp [lineNs]), ns _ (by simp [lineNs])⟩
   refine ⟨by omega, log2_small (by omega), log2_small (by omega), log2_small (by omega), log2_small (by omega), ?_⟩
   rw [nC_S, nC_S, nC_S, nC_S, e_sp]
   refine strJ (ns := lineNs l) ns (by simp [lineNs]) ?_
   have jl := J_few (c := 32) ns (by simp [lineNs])
   rw [e_linesp, wAdd_str, row_txt _ (by simp [lineNs]), S_len, S_len, gup_same, isG_lst, gup_gup]
   refine ⟨by have : (cLine ++ [32]).length = 5 := rfl; omega, by simp; omega, hN _ _ ⟨?_, rfl⟩⟩
   rfl
  ·rw [List.getElem?_eq_none (by omega)] at hw; cases hw
 ·rintro σ G1 ⟨rfl, rfl⟩
  unfold t_ztext_r4
  walk_at "t"
  have few := h.net.few
  obtain ⟨kf, h1, h3⟩ := h.few
  rw [List.take_length]
  generalize hA : tW (J 32 (netWs n)) :: (ls.map fun l => tW (J 32 (lineWs l))) = A1
  have lA : A1.length ≤ 7 := by rw [← hA]; simp; omega
  refine forW_ix (fun k σ G1 => G1 = gup G p (.lst (A1 ++ (ks.take k).map fun x => tW (J 32 (workWs x)))) ∧ σ = [none, none, none, some (storeW s), some (W.tup (List.map (fun vs => wantsW vs) hs)), some (W.ref p), none, none, none, none, none, none, none, none, none, none, none, none, none, none, none]) _ 0 _ _ ⟨by simp, rfl⟩ ?_ ?_
  ·rintro k w hw σ G1 N ⟨rfl, rfl⟩ hN
   rw [Nat.zero_add k] at hN
   rw [Nat.zero_add k]
   rw [List.getElem?_map] at hw
   by_cases hk : k < ks.length
   ·rw [List.getElem?_eq_getElem hk] at hw
    injection hw with hw
    subst hw
    have ok := h.works _ (List.getElem_mem hk)
    have ns := work_ns ok n4
    rw [List.take_succ_eq_append_getElem hk, List.map_append] at hN
    generalize ks[k] = x at ok ns hN ⊢
    unfold t_ztext_b2
    walk_at "t"
    have w6 : x.p ≤ 100 ∧ x.least ≤ 100 ∧ x.keep ≤ 100 ∧ x.start ≤ 100 ∧ x.e1 ≤ 100 ∧ x.e2 ≤ 100 := ⟨ns _ (by simp [workNs]), ns _ (by simp [workNs]), ns _ (by simp [workNs]), ns _ (by simp [workNs]), ns _ (by simp [workNs]), ns _ (by simp [workNs])⟩
    have eo : L2.atI [W.str (Str.ofString "off"), W.str (Str.ofString "on")] (if x.on = true then 1 else 0) = some (tW (if x.on then cOn else cOff)) := by
     rw [show Str.ofString "off" = SX.S cOff from e_off, show Str.ofString "on" = SX.S cOn from e_on]
     cases x.on <;> rfl
    rw [eo, isS_some]
    have pf := ok.few
    refine ⟨by omega, by omega, log2_small (by omega), log2_small (by omega), log2_small (by omega), log2_small (by omega), log2_small (by omega), log2_small (by omega), by omega, by omega, by omega, by omega, ?_⟩
    refine lcW_m (fun v => pieceW v) (fun v => tW (pieceC v)) x.pieces _ ?_ ?_
    ·intro v hv P hP
     have pv := ok.pieces v hv
     have a1 := (nums (show v.1 ≤ 100 by omega)).l3
     have a2 := (nums (show v.2 ≤ 100 by omega)).l3
     k_upd
     rw [nC_S, nC_S, e_co, SX.S_cat, SX.S_cat, S_len, S_len, S_len, S_len]
     have e : nC v.1 ++ [58] ++ nC v.2 = pieceC v := by
      unfold pieceC
      rw [List.map_cons, J_cons (by simp), List.append_assoc]; rfl
     rw [e]
     refine ⟨log2_small (by omega), by simp; omega, log2_small (by omega), by simp; omega, hP⟩
    rw [nC_S, nC_S, nC_S, nC_S, nC_S, nC_S, e_sp, List.length_map]
    refine ⟨by omega, by rw [asL_at gup_same]; rfl, ?_⟩
    have ow : ((if x.on then cOn else cOff) : List Nat).length ≤ 3 := by cases x.on <;> decide
    have pc : ∀ v ∈ x.pieces, (pieceC v).length ≤ 12 := fun v hv => by have := piece_len ok hv; omega
    have ew : workWs x = cWork :: ((workNs x).map nC ++ (if x.on then cOn else cOff) :: x.pieces.map pieceC) := rfl
    have bl : ∀ w ∈ (workNs x).map nC ++ (if x.on then cOn else cOff) :: x.pieces.map pieceC, w.length ≤ 12 := fun w hw => by
     rcases List.mem_append.mp hw with hw | hw
     ·obtain ⟨y, hy, rfl⟩ := List.mem_map.mp hw
      have := (nums (ns y hy)).l3
      omega
     ·rcases List.mem_cons.mp hw with rfl | hw
      ·omega
      ·obtain ⟨v, hv, rfl⟩ := List.mem_map.mp hw
       exact pc v hv
    have ll : ((workNs x).map nC ++ (if x.on then cOn else cOff) :: x.pieces.map pieceC).length = 7 + x.pieces.length := by simp [workNs]; omega
    refine joinT (b := 12) (ps := (workNs x).map nC ++ (if x.on then cOn else cOff) :: x.pieces.map pieceC) (by unfold workNs; simp [seqs, asL]) bl (by rw [ll]; omega) ?_
    have jl := J_len (c := 32) bl
    rw [ll] at jl
    rw [e_worksp, wAdd_str, row_txt _ (by simp), S_len, S_len, gup_same, isG_lst, gup_gup, ← ew]
    refine ⟨by have : (cWork ++ [32]).length = 5 := rfl; omega, by simp; omega, hN _ _ ⟨?_, rfl⟩⟩
    simp
   ·rw [List.getElem?_eq_none (by omega)] at hw; cases hw
  ·rintro σ G1 ⟨rfl, rfl⟩
   rw [Nat.zero_add, List.length_map, List.take_length]
   unfold t_ztext_r3
   walk_at "t"
   have rest : ∀ B : List W, B = A1 ++ (ks.map fun x => tW (J 32 (workWs x))) ++ (stoWs s).map (fun r => tW (J 32 r)) → t_ztext_r2 { nx := fun x G' => Q W.non G', rt := Cl Q }
     [none, none, none, some (storeW s), some (W.tup (List.map (fun vs => wantsW vs) hs)), some (W.ref p), none, none, none, none, none, none, none, none, none, none, none, none, none, none, none] (gup G p (.lst B)) := by
    rintro B rfl
    unfold t_ztext_r2
    walk_at "t"
    have sl := sto_len s
    generalize hB : A1 ++ (ks.map fun x => tW (J 32 (workWs x))) ++ (stoWs s).map (fun r => tW (J 32 r)) = B1
    have lB : B1.length ≤ 11 := by rw [← hB]; simp; omega
    refine forW_ix (fun k σ G1 => G1 = gup G p (.lst (B1 ++ (hs.take k).map fun vs => tW (J 32 (hourWs vs)))) ∧ σ = [none, none, none, none, none, some (W.ref p), none, none, none, none, none, none, none, none, none, none, none, none, none, none, none]) _ 0 _ _ ⟨by simp, rfl⟩ ?_ ?_
    ·rintro k w hw σ G1 N ⟨rfl, rfl⟩ hN
     rw [Nat.zero_add k] at hN
     rw [Nat.zero_add k]
     rw [List.getElem?_map] at hw
     by_cases hk : k < hs.length
     ·rw [List.getElem?_eq_getElem hk] at hw
      injection hw with hw
      subst hw
      obtain ⟨a, b⟩ := h.wants _ (List.getElem_mem hk)
      rw [List.take_succ_eq_append_getElem hk, List.map_append] at hN
      generalize hs[k] = vs at a b hN ⊢
      unfold t_ztext_b3
      walk_at "t"
      have bl : ∀ w ∈ hourWs vs, w.length ≤ 12 := fun w hw => by
       rcases List.mem_cons.mp hw with rfl | hw
       ·decide
       ·obtain ⟨v, hv, rfl⟩ := List.mem_map.mp hw
        exact want_len (b v hv) n4
      refine ⟨by omega, by omega, ?_⟩
      refine lcW_m (fun v => wantW v) (fun v => tW (wantC v)) vs _ ?_ ?_
      ·intro v hv P hP
       obtain ⟨o1, o2, o3⟩ := b v hv
       walk_at "t"
       rw [nC_S, nC_S, nC_S, e_co]
       have hn : ∀ x ∈ [v.1, v.2.1, v.2.2], x ≤ 100 := fun x hx => by
        simp only [List.mem_cons, List.not_mem_nil, or_false] at hx
        rcases hx with rfl | rfl | rfl <;> omega
       exact ⟨by omega, log2_small (by omega), log2_small (by omega), log2_small (by omega), strJ (ns := [v.1, v.2.1, v.2.2]) hn (by simp) hP⟩
      rw [e_sp, e_hour]
      refine ⟨by rw [List.length_map]; omega, ?_⟩
      refine joinT (b := 12) (ps := hourWs vs) (by unfold hourWs; rw [List.map_cons, List.map_map]; rfl) bl (by unfold hourWs; rw [List.length_cons, List.length_map]; omega) ?_
      rw [gup_same, isG_lst, gup_gup]
      refine ⟨by simp; omega, hN _ _ ⟨?_, rfl⟩⟩
      simp
     ·rw [List.getElem?_eq_none (by omega)] at hw; cases hw
    ·rintro σ G1 ⟨rfl, rfl⟩
     rw [Nat.zero_add, List.length_map, List.take_length]
     unfold t_ztext_r1
     walk_at "t"
     have rf := rows_few h
     have e : B1 ++ (hs.map fun vs => tW (J 32 (hourWs vs))) = (rowsWs n ls ks s hs).map fun r => tW (J 32 r) := by
      rw [← hB, ← hA]
      unfold rowsWs
      simp only [List.map_cons, List.map_append, List.map_map, List.cons_append, List.append_assoc, Function.comp_def]
     rw [e, e_nl]
     refine joinT (b := 130) (ps := (rowsWs n ls ks s hs).map (J 32)) (by rw [show ∀ G : Gp, seqs G (.ref p) = asL G (.ref p) from fun _ => rfl, asL_at gup_same, List.map_map]; rfl) (row_len h) (by rw [List.length_map]; omega) ?_
     exact Cl.drop hp q
   cases s with
   | none =>
    refine Eq.mpr (if_neg (by decide)) ?_
    refine rest _ ?_
    simp [stoWs]
   | some t =>
    have ns := store_ns (h.store t rfl) n4
    refine Eq.mpr (if_pos rfl) ?_
    unfold storeW
    walk_at "t"
    have w5 : t.p ≤ 100 ∧ t.top ≤ 100 ∧ t.lev ≤ 100 ∧ t.taken ≤ 100 ∧ t.given ≤ 100 := ⟨ns _ (by simp [storeNs]), ns _ (by simp [storeNs]), ns _ (by simp [storeNs]), ns _ (by simp [storeNs]), ns _ (by simp [storeNs])⟩
    refine ⟨by omega, log2_small (by omega), log2_small (by omega), log2_small (by omega), log2_small (by omega), log2_small (by omega), ?_⟩
    rw [nC_S, nC_S, nC_S, nC_S, nC_S, e_sp]
    refine strJ (ns := storeNs t) ns (by simp [storeNs]) ?_
    have jl := J_few (c := 32) ns (by simp [storeNs])
    rw [e_storesp, wAdd_str, row_txt _ (by simp [storeNs]), S_len, S_len, gup_same, isG_lst, gup_gup]
    refine ⟨by have : (cStore ++ [32]).length = 6 := rfl; omega, by simp; omega, ?_⟩
    exact rest _ rfl
local macro_rules | `(tactic| k_upd) => `(tactic| walk_at "Wf99f42000c1c36bd6bd6bd600000000000000effff3c7c15e3000087e10")
theorem ite_no {c A B : Prop} [Decidable c] (h : ¬ c) (b : B) : if c then A else B := by rw [if_neg h]; exact b
theorem ite_yes {c A B : Prop} [Decidable c] (h : c) (a : A) : if c then A else B := by rw [if_pos h]; exact a
noncomputable def sp_must_be_below : Spw := fun ws G Q E => ∃ (a b : Int), ws = [.int a, .int b] ∧ (a < b → Q .non G) ∧ (b ≤ a → E "NoNumber" [] G)
theorem len_must_be_below (ws G Q E) (h : sp_must_be_below ws G Q E) : ws.length = 2 := by obtain ⟨_, _, rfl, _⟩ := h; rfl
noncomputable def t_must_be_below : TSw := (wIfS (wTest (wOp wGe (wVar 0) (wVar 1))) (wRaise "NoNumber") wNext)
theorem rd_must_be_below (ws : List W) (G : Gp) (Q : QW) (E : EXw) (h : sp_must_be_below ws G Q E) : t_must_be_below { nx := fun _ G' => Q .non G', rt := Cl Q, ex := fun nm fs _ G' => E nm fs G' } (startW ["number", "many"] ws) G := by
 obtain ⟨a, b, rfl, q⟩ := h
 show t_must_be_below _ [some (.int a), some (.int b)] G
 unfold t_must_be_below
 k_upd
 by_cases c : a ≥ b
 ·rw [decide_eq_true c, if_pos rfl]
  exact q.2 c
 ·rw [decide_eq_false c, if_neg (by decide)]
  exact q.1 (by omega)
noncomputable def sp_behind_stop : Spw := fun ws G Q E => ∃ (n : Nat) (ls : List Ln) (ks : List Wk) (s : Option Sto) (hs : List (List Wnt)) (k : Nat), ws = [houseW n ls ks s hs, .int ((k : Nat) : Int)] ∧ (ks.length ≤ 9) ∧ (k < ks.length → Q (houseW n ls (ks.take k ++ ks.drop (k + 1)) s hs) G) ∧ (ks.length ≤ k → E "NoNumber" [] G)
theorem len_behind_stop (ws G Q E) (h : sp_behind_stop ws G Q E) : ws.length = 2 := by obtain ⟨_, _, _, _, _, _, rfl, _⟩ := h; rfl
noncomputable def t_behind_stop : TSw := (wSeq (wAsg (wVar 0) (gT 4 (gsC (gN 2) (gsC (gN 3) (gsC (gN 4) (gsC (gN 5) gsN))))))
  (wSeq (wDropX (wCallX sp_must_be_below (wCons (wVar 1) (wCons (wCB wLen (wCons (wVar 3) wNil)) wNil))))
  (wRet (wTup (wCons (wVar 2) (wCons (wOp wAdd (wSlice (wVar 3) wpNone (wpSome (wVar 1))) (wSlice (wVar 3) (wpSome (wOp wAdd (wVar 1) (wC (.int 1)))) wpNone)) (wCons (wVar 4) (wCons (wVar 5) wNil))))))))
theorem rd_behind_stop (ws : List W) (G : Gp) (Q : QW) (E : EXw) (h : sp_behind_stop ws G Q E) : t_behind_stop { nx := fun _ G' => Q .non G', rt := Cl Q, ex := fun nm fs _ G' => E nm fs G' } (startW ["house", "work", "net", "works", "store", "hours"] ws) G := by
 obtain ⟨n, ls, ks, s, hs, k, rfl, few, q⟩ := h
 show t_behind_stop _ [some (houseW n ls ks s hs), some (.int ((k : Nat) : Int)), none, none, none, none] G
 unfold t_behind_stop
 k_upd
 have big : 1000 < sizeLine := by decide
 refine ⟨_, _, rfl, fun h => ?_, fun h => q.2 (by omega)⟩
 have hk : k < ks.length := by omega
 k_upd
 have c1 : cutW (ks.map fun k => workW k) none (some ((k : Nat) : Int)) = (ks.take k).map fun k => workW k := cut_to _ _ (by omega)
 have c2 : cutW (ks.map fun k => workW k) (some (((k : Nat) : Int) + 1)) none = (ks.drop (k + 1)).map fun k => workW k := cut_from _ _ (k := k + 1) (by omega)
 rw [c1, c2, ← List.map_append]
 exact ⟨by simp; omega, by omega, .inl (q.1 hk)⟩
noncomputable def sp_with_wants : Spw := fun ws G Q E => ∃ (n : Nat) (ls : List Ln) (ks : List Wk) (s : Option Sto) (hs : List (List Wnt)) (h : Nat) (vs : List Wnt), ws = [houseW n ls ks s hs, .int ((h : Nat) : Int), wantsW vs] ∧ (h < hs.length) ∧ (hs.length ≤ 9) ∧ Q (houseW n ls ks s (hs.take h ++ [vs] ++ hs.drop (h + 1))) G
theorem len_with_wants (ws G Q E) (h : sp_with_wants ws G Q E) : ws.length = 3 := by obtain ⟨_, _, _, _, _, _, _, rfl, _⟩ := h; rfl
noncomputable def t_with_wants : TSw := (wSeq (wAsg (wVar 0) (gT 4 (gsC (gN 3) (gsC (gN 4) (gsC (gN 5) (gsC (gN 6) gsN))))))
  (wRet (wTup (wCons (wVar 3) (wCons (wVar 4) (wCons (wVar 5) (wCons (wOp wAdd (wOp wAdd (wSlice (wVar 6) wpNone (wpSome (wVar 1))) (wTup (wCons (wVar 2) wNil))) (wSlice (wVar 6) (wpSome (wOp wAdd (wVar 1) (wC (.int 1)))) wpNone)) wNil)))))))
theorem rd_with_wants (ws : List W) (G : Gp) (Q : QW) (E) (h : sp_with_wants ws G Q E) : t_with_wants { nx := fun _ G' => Q .non G', rt := Cl Q } (startW ["house", "hour", "wants", "net", "works", "store", "hours"] ws) G := by
 obtain ⟨n, ls, ks, s, hs, h, vs, rfl, hh, few, q⟩ := h
 show t_with_wants _ [some (houseW n ls ks s hs), some (.int ((h : Nat) : Int)), some (wantsW vs), none, none, none, none] G
 unfold t_with_wants
 k_upd
 have big : 1000 < sizeLine := by decide
 have c1 : cutW (hs.map fun vs => wantsW vs) none (some ((h : Nat) : Int)) = (hs.take h).map fun vs => wantsW vs := cut_to _ _ (by omega)
 have c2 : cutW (hs.map fun vs => wantsW vs) (some (((h : Nat) : Int) + 1)) none = (hs.drop (h + 1)).map fun vs => wantsW vs := cut_from _ _ (k := h + 1) (by omega)
 rw [c1, c2]
 have e : (hs.take h).map (fun vs => wantsW vs) ++ [wantsW vs] ++ (hs.drop (h + 1)).map (fun vs => wantsW vs) = (hs.take h ++ [vs] ++ hs.drop (h + 1)).map fun vs => wantsW vs := by simp
 rw [e]
 refine ⟨by omega, by simp; omega, by simp; omega, by omega, .inl q⟩
noncomputable def wantV (vs : List Wnt) (k z w : Nat) : List Wnt := vs.take k ++ [((vs.getD k (0, 0, 0)).1, z, w)] ++ vs.drop (k + 1)
noncomputable def wantH (hs : List (List Wnt)) (h k z w : Nat) : List (List Wnt) := hs.take h ++ [wantV (hs.getD h []) k z w] ++ hs.drop (h + 1)
noncomputable def WantOk (hs : List (List Wnt)) (h k z w : Nat) : Prop := h < hs.length ∧ k < (hs.getD h []).length ∧ z ≤ 30 ∧ w ≤ 100
noncomputable def sp_behind_want : Spw := fun ws G Q E => ∃ (n : Nat) (ls : List Ln) (ks : List Wk) (s : Option Sto) (hs : List (List Wnt)) (h k z w : Nat), ws = [houseW n ls ks s hs, .lst [.int ((h : Nat) : Int), .int ((k : Nat) : Int), .int ((z : Nat) : Int), .int ((w : Nat) : Int)]] ∧ (hs.length ≤ 9) ∧ (∀ vs ∈ hs, vs.length ≤ 3) ∧ (WantOk hs h k z w → Q (houseW n ls ks s (wantH hs h k z w)) G) ∧ (¬ WantOk hs h k z w → E "NoNumber" [] G)
theorem len_behind_want (ws G Q E) (h : sp_behind_want ws G Q E) : ws.length = 2 := by obtain ⟨_, _, _, _, _, _, _, _, _, rfl, _⟩ := h; rfl
noncomputable def t_behind_want : TSw := (wSeq (wAsg (wVar 1) (gT 4 (gsC (gN 2) (gsC (gN 3) (gsC (gN 4) (gsC (gN 5) gsN))))))
  (wSeq (wAsg (wOp wIx (wVar 0) (wC (.int 3))) (gN 6))
  (wSeq (wDropX (wCallX sp_must_be_below (wCons (wVar 2) (wCons (wCB wLen (wCons (wVar 6) wNil)) wNil))))
  (wSeq (wAsg (wOp wIx (wVar 6) (wVar 2)) (gN 7))
  (wSeq (wDropX (wCallX sp_must_be_below (wCons (wVar 3) (wCons (wCB wLen (wCons (wVar 7) wNil)) wNil))))
  (wSeq (wDropX (wCallX sp_must_be_below (wCons (wVar 4) (wCons (wOp wAdd (wC (.int 30)) (wC (.int 1))) wNil))))
  (wSeq (wDropX (wCallX sp_must_be_below (wCons (wVar 5) (wCons (wOp wAdd (wC (.int 100)) (wC (.int 1))) wNil))))
  (wRet (wCall sp_with_wants (wCons (wVar 0) (wCons (wVar 2) (wCons (wOp wAdd (wOp wAdd (wSlice (wVar 7) wpNone (wpSome (wVar 3))) (wTup (wCons (wTup (wCons (wOp wIx (wOp wIx (wVar 7) (wVar 3)) (wC (.int 0))) (wCons (wVar 4) (wCons (wVar 5) wNil)))) wNil))) (wSlice (wVar 7) (wpSome (wOp wAdd (wVar 3) (wC (.int 1)))) wpNone)) wNil))))))))))))
theorem rd_behind_want (ws : List W) (G : Gp) (Q : QW) (E : EXw) (h : sp_behind_want ws G Q E) : t_behind_want { nx := fun _ G' => Q .non G', rt := Cl Q, ex := fun nm fs _ G' => E nm fs G' } (startW ["house", "numbers", "hour", "k", "size", "worth", "hours", "wants"] ws) G := by
 obtain ⟨n, ls, ks, s, hs, h, k, z, w, rfl, few, small, q⟩ := h
 show t_behind_want _ [some (houseW n ls ks s hs), some (.lst [.int ((h : Nat) : Int), .int ((k : Nat) : Int), .int ((z : Nat) : Int), .int ((w : Nat) : Int)]), none, none, none, none, none, none] G
 unfold t_behind_want
 k_upd
 have big : 1000 < sizeLine := by decide
 refine ⟨_, _, rfl, fun a => ?_, fun a => q.2 fun o => by have := o.1; omega⟩
 have hh : h < hs.length := by omega
 k_upd
 rw [atI_map' hh, isS_some]
 have eg : hs.getD h [] = hs[h] := by simp [List.getD_eq_getElem?_getD, hh]
 have sm := small _ (List.getElem_mem hh)
 k_upd
 refine ⟨_, _, rfl, fun b => ?_, fun b => q.2 fun o => by have := o.2.1; rw [eg] at this; omega⟩
 have hk : k < hs[h].length := by omega
 k_upd
 refine ⟨_, _, rfl, fun c => ?_, fun c => q.2 fun o => by have := o.2.2.1; omega⟩
 k_upd
 refine ⟨_, _, rfl, fun d => ?_, fun d => q.2 fun o => by have := o.2.2.2; omega⟩
 k_upd
 rw [atI_map' hk, isS_some]
 k_upd
 have c1 : cutW (hs[h].map fun v => wantW v) none (some ((k : Nat) : Int)) = (hs[h].take k).map fun v => wantW v := cut_to _ _ (by omega)
 have c2 : cutW (hs[h].map fun v => wantW v) (some (((k : Nat) : Int) + 1)) none = (hs[h].drop (k + 1)).map fun v => wantW v := cut_from _ _ (k := k + 1) (by omega)
 rw [c1, c2]
 have e : (hs[h].take k).map (fun v => wantW v) ++ [W.tup [.int ((hs[h][k].1 : Nat) : Int), .int ((z : Nat) : Int), .int ((w : Nat) : Int)]] ++ (hs[h].drop (k + 1)).map (fun v => wantW v) = (wantV hs[h] k z w).map fun v => wantW v := by
  unfold wantV
  rw [show hs[h].getD k (0, 0, 0) = hs[h][k] by simp [List.getD_eq_getElem?_getD, hk]]
  simp
 rw [e]
 refine ⟨by omega, by omega, by simp; omega, by simp; omega, n, ls, ks, s, hs, h, wantV hs[h] k z w, rfl, hh, few, .inl ?_⟩
 have q1 := q.1 ⟨hh, by rw [eg]; exact hk, by omega, by omega⟩
 unfold wantH at q1
 rw [eg] at q1
 exact q1
noncomputable def sp_behind_loss_of_line : Spw := fun ws G Q E => ∃ (n : Nat) (ls : List Ln) (ks : List Wk) (s : Option Sto) (hs : List (List Wnt)) (k : Nat), ws = [houseW n ls ks s hs, .int ((k : Nat) : Int)] ∧ (Net n ls) ∧ (k ∈ dueL n ls → Q (houseW n (dropL ls k) ks s hs) G) ∧ (ls.length ≤ k → E "NoNumber" [] G) ∧ (k < ls.length → k ∉ dueL n ls → E "NoLoss" [] G)
theorem len_behind_loss_of_line (ws G Q E) (h : sp_behind_loss_of_line ws G Q E) : ws.length = 2 := by obtain ⟨_, _, _, _, _, _, rfl, _⟩ := h; rfl
noncomputable def t_behind_loss_of_line : TSw := (wSeq (wAsg (wVar 0) (gT 4 (gsC (gN 2) (gsC (gN 3) (gsC (gN 4) (gsC (gN 5) gsN))))))
  (wSeq (wDropX (wCallX sp_must_be_below (wCons (wVar 1) (wCons (wCB wLen (wCons (wOp wIx (wVar 2) (wC (.int 1))) wNil)) wNil))))
  (wSeq (wIfS (wTest (wOp (wIn true) (wVar 1) (wCall sp_losable (wCons (wVar 2) wNil)))) (wRaise "NoLoss") wNext)
  (wRet (wTup (wCons (wCall sp_without (wCons (wVar 2) (wCons (wVar 1) wNil))) (wCons (wVar 3) (wCons (wVar 4) (wCons (wVar 5) wNil)))))))))
theorem rd_behind_loss_of_line (ws : List W) (G : Gp) (Q : QW) (E : EXw) (h : sp_behind_loss_of_line ws G Q E) : t_behind_loss_of_line { nx := fun _ G' => Q .non G', rt := Cl Q, ex := fun nm fs _ G' => E nm fs G' } (startW ["house", "line", "net", "works", "store", "hours"] ws) G := by
 obtain ⟨n, ls, ks, s, hs, k, rfl, net, q⟩ := h
 show t_behind_loss_of_line _ [some (houseW n ls ks s hs), some (.int ((k : Nat) : Int)), none, none, none, none] G
 unfold t_behind_loss_of_line
 k_upd
 have big : 1000 < sizeLine := by decide
 refine ⟨_, _, rfl, fun a => ?_, fun a => q.2.1 (by omega)⟩
 have hk : k < ls.length := by omega
 k_upd
 refine ⟨n, ls, rfl, net, .inl ?_⟩
 k_upd
 refine ⟨List.all_eq_true.mpr fun w hw => by obtain ⟨j, _, rfl⟩ := List.mem_map.mp hw; rfl, ?_⟩
 by_cases m : k ∈ dueL n ls
 ·refine ite_no ?_ ⟨n, ls, k, rfl, net, m, by omega, .inl (q.1 m)⟩
  intro z
  rw [Bool.not_eq_true'] at z
  exact absurd (List.any_eq_false.mp z (.int ((k : Nat) : Int)) (List.mem_map.mpr ⟨k, m, rfl⟩)) (by simp)
 ·refine ite_yes ?_ (q.2.2 hk m)
  rw [Bool.not_eq_true']
  refine List.any_eq_false.mpr fun w hw => ?_
  obtain ⟨j, hj, rfl⟩ := List.mem_map.mp hw
  simp
  intro e
  exact m ((show j = k by omega) ▸ hj)
inductive Deed where
 | lose (k : Nat)
 | stop (k : Nat)
 | want (h k z w : Nat)
noncomputable def Deed.word : Deed → Str
 | .lose _ => "lose"
 | .stop _ => "stop"
 | .want .. => "want"
noncomputable def Deed.nums : Deed → List Nat
 | .lose k => [k]
 | .stop k => [k]
 | .want h k z w => [h, k, z, w]
noncomputable def DeedTo (n : Nat) (ls : List Ln) (ks : List Wk) (hs : List (List Wnt)) (ls2 : List Ln) (ks2 : List Wk) (hs2 : List (List Wnt)) : Deed → Prop
 | .lose k => k ∈ dueL n ls ∧ ls2 = dropL ls k ∧ ks2 = ks ∧ hs2 = hs
 | .stop k => k < ks.length ∧ ls2 = ls ∧ ks2 = ks.take k ++ ks.drop (k + 1) ∧ hs2 = hs
 | .want h k z w => WantOk hs h k z w ∧ ls2 = ls ∧ ks2 = ks ∧ hs2 = wantH hs h k z w
noncomputable def Deed10 (ls : List Ln) (ks : List Wk) (hs : List (List Wnt)) : Deed → Prop
 | .lose k => ls.length ≤ k
 | .stop k => ks.length ≤ k
 | .want h k z w => ¬ WantOk hs h k z w
noncomputable def Deed4 (n : Nat) (ls : List Ln) : Deed → Prop
 | .lose k => k < ls.length ∧ k ∉ dueL n ls
 | _ => False
noncomputable def sp_behind_deed : Spw := fun ws G Q E => ∃ (n : Nat) (ls : List Ln) (ks : List Wk) (s : Option Sto) (hs : List (List Wnt)) (d : Deed), ws = [houseW n ls ks s hs, .str d.word, .lst (natsW d.nums)] ∧ (Net n ls) ∧ (ks.length ≤ 9) ∧ (hs.length ≤ 9) ∧ (∀ vs ∈ hs, vs.length ≤ 3) ∧ (∀ ls2 ks2 hs2, DeedTo n ls ks hs ls2 ks2 hs2 d → Q (houseW n ls2 ks2 s hs2) G) ∧ (Deed10 ls ks hs d → E "NoNumber" [] G) ∧ (Deed4 n ls d → E "NoLoss" [] G)
theorem len_behind_deed (ws G Q E) (h : sp_behind_deed ws G Q E) : ws.length = 3 := by obtain ⟨_, _, _, _, _, _, rfl, _⟩ := h; rfl
noncomputable def t_behind_deed : TSw := (wSeq (wIfS (wTest (wOp wEq (wVar 1) (wC (.str "lose")))) (wRetX (wCallX sp_behind_loss_of_line (wCons (wVar 0) (wCons (wOp wIx (wVar 2) (wC (.int 0))) wNil)))) wNext)
  (wSeq (wIfS (wTest (wOp wEq (wVar 1) (wC (.str "stop")))) (wRetX (wCallX sp_behind_stop (wCons (wVar 0) (wCons (wOp wIx (wVar 2) (wC (.int 0))) wNil)))) wNext)
  (wRetX (wCallX sp_behind_want (wCons (wVar 0) (wCons (wVar 2) wNil))))))
theorem rd_behind_deed (ws : List W) (G : Gp) (Q : QW) (E : EXw) (h : sp_behind_deed ws G Q E) : t_behind_deed { nx := fun _ G' => Q .non G', rt := Cl Q, ex := fun nm fs _ G' => E nm fs G' } (startW ["house", "word", "numbers"] ws) G := by
 obtain ⟨n, ls, ks, s, hs, d, rfl, net, few, hfew, small, q⟩ := h
 show t_behind_deed _ [some (houseW n ls ks s hs), some (.str d.word), some (.lst (natsW d.nums))] G
 unfold t_behind_deed
 k_upd
 cases d with
 | lose k =>
  unfold Deed.word Deed.nums
  k_upd
  exact ⟨n, ls, ks, s, hs, k, rfl, net, fun m => .inl (q.1 _ _ _ ⟨m, rfl, rfl, rfl⟩), fun h => q.2.1 h, fun a b => q.2.2 ⟨a, b⟩⟩
 | stop k =>
  unfold Deed.word Deed.nums
  k_upd
  refine ite_no (show ¬ (decide (Str.ofString "stop" = Str.ofString "lose") = true) by decide) ?_
  exact ⟨n, ls, ks, s, hs, k, rfl, few, fun m => .inl (q.1 _ _ _ ⟨m, rfl, rfl, rfl⟩), fun h => q.2.1 h⟩
 | want h k z w =>
  unfold Deed.word Deed.nums
  k_upd
  refine ite_no (show ¬ (decide (Str.ofString "want" = Str.ofString "lose") = true) by decide) (ite_no (show ¬ (decide (Str.ofString "want" = Str.ofString "stop") = true) by decide) ?_)
  exact ⟨n, ls, ks, s, hs, h, k, z, w, rfl, hfew, small, fun m => .inl (q.1 _ _ _ ⟨m, rfl, rfl, rfl⟩), fun h => q.2.1 h⟩
local macro_rules | `(tactic| k_upd) => `(tactic| walk_at "Wfbff7f0e0d9df7bd6bd6bd630000000000000efffffcffffefc3f787ef1")
noncomputable def sp_Desk_price : Spw := fun _ _ _ _ => False
theorem len_Desk_price (ws G Q E) (h : sp_Desk_price ws G Q E) : ws.length = 3 := h.elim
noncomputable def t_Desk_price : TSw := wDead
theorem rd_Desk_price (ws : List W) (G : Gp) (Q : QW) (E : EXw) (h : sp_Desk_price ws G Q E) : t_Desk_price { nx := fun _ G' => Q .non G', rt := Cl Q, ex := fun nm fs _ G' => E nm fs G' } (startW ["self", "hour", "place", "net", "works", "store", "hours"] ws) G := h.elim
noncomputable def sp_Desk_of_run : Spw := fun _ _ _ _ => False
theorem len_Desk_of_run (ws G Q E) (h : sp_Desk_of_run ws G Q E) : ws.length = 2 := h.elim
noncomputable def t_Desk_of_run : TSw := wDead
theorem rd_Desk_of_run (ws : List W) (G : Gp) (Q : QW) (E : EXw) (h : sp_Desk_of_run ws G Q E) : t_Desk_of_run { nx := fun _ G' => Q .non G', rt := Cl Q } (startW ["self", "word", "run", "found", "entry", "one"] ws) G := h.elim
noncomputable def sp_Desk_run : Spw := fun _ _ _ _ => False
theorem len_Desk_run (ws G Q E) (h : sp_Desk_run ws G Q E) : ws.length = 1 := h.elim
noncomputable def t_Desk_run : TSw := wDead
theorem rd_Desk_run (ws : List W) (G : Gp) (Q : QW) (E : EXw) (h : sp_Desk_run ws G Q E) : t_Desk_run { nx := fun _ G' => Q .non G', rt := Cl Q } (startW ["self"] ws) G := h.elim
structure DeskAt (G : Gp) (p a f : Addr) (hw : List W) : Prop where
 ins : G p = some (.ins "Desk" [("houses", .ref a), ("found", .ref f)])
 hs : G a = some (.lst hw)
 pa : p ≠ a
theorem insOf_at' {G : Gp} {p : Addr} {n : Str} {fs : List (Str × W)} (h : G p = some (.ins n fs)) : insOf G (.ref p) = some (n, fs) := by simp only [insOf, h]
theorem DeskAt.f_houses {G : Gp} {p a f : Addr} {hw : List W} {Q : QW} (h : DeskAt G p a f hw) : wFld (Str.ofString "Desk") (Str.ofString "houses") (.ref p) G Q = Q (.ref a) G := by
 unfold wFld
 rw [insOf_at' h.ins]
 exact propext ⟨fun z => z.2, fun z => ⟨rfl, z⟩⟩
theorem atI_lastD {xs : List W} {w : W} (h : xs.getLast? = some w) : L2.atI xs (-1) = some w := by
 have n : 0 < xs.length := by
  cases xs with
  | nil => cases h
  | cons _ _ => simp
 unfold L2.atI ixN
 rw [if_neg (by decide), if_pos (by omega)]
 show xs[((-1 : Int) + (xs.length : Int)).toNat]? = _
 rw [show ((-1 : Int) + (xs.length : Int)).toNat = xs.length - 1 by omega, ← List.getLast?_eq_getElem?]
 exact h
theorem a_bmX {wr : RWM} {to : TEw} {te : EXs → TEw} {Ex : EXs} {σ : SW} {G : Gp} {Q : QW} : wBMX wr to te Ex σ G Q = to σ G fun o G1 => (asL G1 o).isSome = true ∧ te Ex σ G1 fun w G2 => wr o [w] G2 Q := rfl
theorem a_methX {nm m : Str} {sp : Spw} {to : TEw} {t : TAw} {Ex : EXs} {σ : SW} {G : Gp} {Q : QW} : wMethX nm m sp to t Ex σ G Q = to σ G fun x G1 => isS (insOf G1 x) fun o => o.1 = nm ∧ o.2.lookup m = none ∧ t σ G1 fun ws G2 => sp (x :: ws) G2 Q fun n fs G3 => Ex n fs σ G3 := rfl
noncomputable def sp_Desk___init__ : Spw := fun ws G Q E => ∃ (p : Addr) (n : Nat) (ls : List Ln) (ks : List Wk) (s : Option Sto) (hs : List (List Wnt)), ws = [.ref p, tW (textC n ls ks s hs)] ∧ (G p = some (.ins "Desk" [])) ∧ (House n ls ks s hs) ∧ ∀ a f G', DeskAt G' p a f [houseW n ls ks s hs] → G a = none → G f = none → (∀ q, q ≠ p → q ≠ a → q ≠ f → G' q = G q) → Q .non G'
theorem len_Desk___init__ (ws G Q E) (h : sp_Desk___init__ ws G Q E) : ws.length = 2 := by obtain ⟨_, _, _, _, _, _, rfl, _⟩ := h; rfl
noncomputable def t_Desk___init__ : TSw := (wSeq (wSetF "Desk" "houses" (wLstM (wCons (wCall sp_read_house (wCons (wVar 1) wNil)) wNil)) (wVar 0))
  (wSetF "Desk" "found" (wLstM wNil) (wVar 0)))
theorem rd_Desk___init__ (ws : List W) (G : Gp) (Q : QW) (E) (h : sp_Desk___init__ ws G Q E) : t_Desk___init__ { nx := fun _ G' => Q .non G', rt := Cl Q } (startW ["self", "text"] ws) G := by
 obtain ⟨p, n, ls, ks, s, hs, rfl, hp, H, q⟩ := h
 show t_Desk___init__ _ [some (.ref p), some (tW (textC n ls ks s hs))] G
 unfold t_Desk___init__
 k_upd
 have big : 1000 < sizeLine := by decide
 refine ⟨n, ls, ks, s, hs, rfl, H, ?_⟩
 k_upd
 refine ⟨by omega, fun a ha => ?_⟩
 have pa : p ≠ a := fun z => by rw [z, ha] at hp; cases hp
 rw [gup_ne (show p ≠ a from pa), hp]
 k_upd
 refine ⟨by show 0 < 1000; decide, by omega, fun f hf => ?_⟩
 have fp : f ≠ p := fun z => by rw [z, gup_same] at hf; cases hf
 have fa : f ≠ a := fun z => by rw [z, gup_ne (Ne.symm pa), gup_same] at hf; cases hf
 rw [gup_ne fp, gup_ne fa] at hf
 rw [gup_ne (Ne.symm fp), gup_same]
 k_upd
 refine ⟨by show 1 < 1000; decide, ?_⟩
 refine q a f _ ⟨gup_same, by rw [gup_ne (Ne.symm pa), gup_ne (Ne.symm fa), gup_ne (Ne.symm pa), gup_same], pa⟩ ha hf fun r h1 h2 h3 => by rw [gup_ne h1, gup_ne h3, gup_ne h1, gup_ne h2]
noncomputable def sp_Desk_house : Spw := fun ws G Q E => ∃ (p a f : Addr) (hw : List W) (w : W), ws = [.ref p] ∧ (DeskAt G p a f hw) ∧ (hw.getLast? = some w) ∧ Q w G
theorem len_Desk_house (ws G Q E) (h : sp_Desk_house ws G Q E) : ws.length = 1 := by obtain ⟨_, _, _, _, _, rfl, _⟩ := h; rfl
noncomputable def t_Desk_house : TSw := (wRet (wOp wIx (wUn (wFld "Desk" "houses") (wVar 0)) (wNeg (wC (.int 1)))))
theorem rd_Desk_house (ws : List W) (G : Gp) (Q : QW) (E) (h : sp_Desk_house ws G Q E) : t_Desk_house { nx := fun _ G' => Q .non G', rt := Cl Q } (startW ["self"] ws) G := by
 obtain ⟨p, a, f, hw, w, rfl, h, l, q⟩ := h
 show t_Desk_house _ [some (.ref p)] G
 unfold t_Desk_house
 k_upd
 rw [h.f_houses]
 k_upd
 rw [asL_at h.hs, isS_some, atI_lastD l, isS_some]
 exact .inl q
noncomputable def sp_Desk_take_back : Spw := fun ws G Q E => ∃ (p a f : Addr) (hw : List W), ws = [.ref p] ∧ (DeskAt G p a f hw) ∧ (hw.length ≤ 900) ∧ (0 < hw.length) ∧ (hw.length = 1 → E "NoDeed" [] G) ∧ (1 < hw.length → Q .non (gup G a (.lst hw.dropLast)))
theorem len_Desk_take_back (ws G Q E) (h : sp_Desk_take_back ws G Q E) : ws.length = 1 := by obtain ⟨_, _, _, _, rfl, _⟩ := h; rfl
noncomputable def t_Desk_take_back : TSw := (wSeq (wIfS (wTest (wOp wEq (wCB wLen (wCons (wUn (wFld "Desk" "houses") (wVar 0)) wNil)) (wC (.int 1)))) (wRaise "NoDeed") wNext)
  (wDrop (wBM0 wM_pop (wUn (wFld "Desk" "houses") (wVar 0)))))
theorem rd_Desk_take_back (ws : List W) (G : Gp) (Q : QW) (E : EXw) (h : sp_Desk_take_back ws G Q E) : t_Desk_take_back { nx := fun _ G' => Q .non G', rt := Cl Q, ex := fun nm fs _ G' => E nm fs G' } (startW ["self"] ws) G := by
 obtain ⟨p, a, f, hw, rfl, h, few, ne, q⟩ := h
 show t_Desk_take_back _ [some (.ref p)] G
 unfold t_Desk_take_back
 k_upd
 have big : 1000 < sizeLine := by decide
 rw [h.f_houses]
 k_upd
 rw [asL_at h.hs, isS_some]
 by_cases c : hw.length = 1
 ·rw [decide_eq_true (by omega), if_pos rfl]
  exact q.1 c
 ·rw [decide_eq_false (by omega), if_neg (by decide), h.f_houses]
  refine ⟨by rw [asL_at h.hs]; rfl, ?_⟩
  have q2 := q.2 (by omega)
  show isG (G a) _
  rw [isG_at h.hs, List.getElem?_eq_getElem (show hw.length - 1 < hw.length by omega), isS_some]
  exact q2
structure Hz where
 n : Nat
 ls : List Ln
 ks : List Wk
 s : Option Sto
 hs : List (List Wnt)
noncomputable abbrev Hz.w (x : Hz) : W := houseW x.n x.ls x.ks x.s x.hs
structure HzOk (x : Hz) : Prop where
 net : Net x.n x.ls
 few : x.ks.length ≤ 9
 hfew : x.hs.length ≤ 9
 small : ∀ vs ∈ x.hs, vs.length ≤ 3
noncomputable def Hz.to (x : Hz) (ls : List Ln) (ks : List Wk) (hs : List (List Wnt)) : Hz := ⟨x.n, ls, ks, x.s, hs⟩
theorem DeskAt.push {G : Gp} {p a f f2 : Addr} {hw hw2 : List W} (h : DeskAt G p a f hw) (hf : gup G a (.lst hw2) f2 = none) : DeskAt (gup (gup (gup G a (.lst hw2)) f2 (.lst [])) p (.ins "Desk" [("houses", .ref a), ("found", .ref f2)])) p a f2 hw2 := by
 have e1 : f2 ≠ a := fun z => by rw [z, gup_same] at hf; cases hf
 have e2 : f2 ≠ p := fun z => by rw [z, gup_ne h.pa, h.ins] at hf; cases hf
 exact ⟨gup_same, by rw [gup_ne (Ne.symm h.pa), gup_ne (Ne.symm e1), gup_same], h.pa⟩
theorem push_fr {G : Gp} {p a f2 : Addr} {hw2 : List W} {o : GO} (hf : gup G a (.lst hw2) f2 = none) : ∀ r, G r ≠ none → r ≠ p → r ≠ a → gup (gup (gup G a (.lst hw2)) f2 (.lst [])) p o r = G r := fun r hr h1 h2 => by
 have : r ≠ f2 := fun z => by subst z; rw [gup_ne h2] at hf; exact hr hf
 rw [gup_ne h1, gup_ne this, gup_ne h2]
noncomputable def wordU : Option Deed → Str
 | some d => d.word
 | none => "undo"
noncomputable def numsU : Option Deed → List Nat
 | some d => d.nums
 | none => []
noncomputable def sp_Desk_do : Spw := fun ws G Q E => ∃ (p a f : Addr) (L : List Hz) (x : Hz) (u : Option Deed), ws = [.ref p, .str (wordU u), .lst (natsW (numsU u))] ∧ (DeskAt G p a f ((L ++ [x]).map Hz.w)) ∧ (HzOk x) ∧ (L.length ≤ 800) ∧ (∀ d, u = some d → (∀ ls2 ks2 hs2 G' f2, DeedTo x.n x.ls x.ks x.hs ls2 ks2 hs2 d → DeskAt G' p a f2 ((L ++ [x] ++ [x.to ls2 ks2 hs2]).map Hz.w) → (∀ r, G r ≠ none → r ≠ p → r ≠ a → G' r = G r) → Q (.str "ok") G') ∧ (Deed10 x.ls x.ks x.hs d → E "NoNumber" [] G) ∧ (Deed4 x.n x.ls d → E "NoLoss" [] G)) ∧ (u = none → (L = [] → E "NoDeed" [] G) ∧ (L ≠ [] → ∀ G' f2, DeskAt G' p a f2 (L.map Hz.w) → (∀ r, G r ≠ none → r ≠ p → r ≠ a → G' r = G r) → Q (.str "ok") G'))
theorem len_Desk_do (ws G Q E) (h : sp_Desk_do ws G Q E) : ws.length = 3 := by obtain ⟨_, _, _, _, _, _, rfl, _⟩ := h; rfl
noncomputable def t_Desk_do_r1 : TSw := (wSeq (wSetF "Desk" "found" (wLstM wNil) (wVar 0))
  (wRet (wC (.str "ok"))))
noncomputable def t_Desk_do : TSw := (wSeq (wIfS (wTest (wOp wEq (wVar 1) (wC (.str "undo")))) (wDropX (wMethX "Desk" "take_back" sp_Desk_take_back (wVar 0) wNil)) (wDropX (wBMX wM_append (wUn (wFld "Desk" "houses") (wVar 0)) (wCallX sp_behind_deed (wCons (wMeth "Desk" "house" sp_Desk_house (wVar 0) wNil) (wCons (wVar 1) (wCons (wVar 2) wNil)))))))
  t_Desk_do_r1)
theorem rd_Desk_do (ws : List W) (G : Gp) (Q : QW) (E : EXw) (h : sp_Desk_do ws G Q E) : t_Desk_do { nx := fun _ G' => Q .non G', rt := Cl Q, ex := fun nm fs _ G' => E nm fs G' } (startW ["self", "word", "numbers"] ws) G := by
 obtain ⟨p, a, f, L, x, u, rfl, h, ok, few, q⟩ := h
 show t_Desk_do _ [some (.ref p), some (.str (wordU u)), some (.lst (natsW (numsU u)))] G
 unfold t_Desk_do
 k_upd
 have big : 1000 < sizeLine := by decide
 cases u with
 | some d =>
  have wu : ∀ {P R : Prop}, R → if decide (d.word = Str.ofString "undo") = true then P else R := fun r => ite_no (by
   cases d with
   | lose k => exact (show ¬ (decide (Str.ofString "lose" = Str.ofString "undo") = true) by decide)
   | stop k => exact (show ¬ (decide (Str.ofString "stop" = Str.ofString "undo") = true) by decide)
   | want h k z w => exact (show ¬ (decide (Str.ofString "want" = Str.ofString "undo") = true) by decide)) r
  refine wu ?_
  rw [a_bmX]
  k_upd
  rw [h.f_houses]
  refine ⟨by rw [asL_at h.hs]; rfl, ?_⟩
  k_upd
  rw [insOf_at' h.ins, isS_some]
  refine ⟨rfl, rfl, p, a, f, _, x.w, rfl, h, by simp, ?_⟩
  refine ⟨x.n, x.ls, x.ks, x.s, x.hs, d, rfl, ok.net, ok.few, ok.hfew, ok.small, fun ls2 ks2 hs2 D => ?_, fun e => (q.1 d rfl).2.1 e, fun e => (q.1 d rfl).2.2 e⟩
  dsimp only
  rw [isG_at h.hs]
  refine ⟨by simp; omega, ?_⟩
  unfold t_Desk_do_r1
  k_upd
  refine ⟨by omega, fun f2 hf2 => ?_⟩
  have e2 : f2 ≠ p := fun z => by rw [z, gup_ne h.pa, h.ins] at hf2; cases hf2
  rw [gup_ne (Ne.symm e2), gup_ne h.pa, h.ins]
  k_upd
  have hp := h.push hf2
  refine ⟨by decide, .inl ((q.1 d rfl).1 ls2 ks2 hs2 _ f2 D ?_ (push_fr hf2))⟩
  rw [show (L ++ [x] ++ [x.to ls2 ks2 hs2]).map Hz.w = (L ++ [x]).map Hz.w ++ [houseW x.n ls2 ks2 x.s hs2] by rw [List.map_append]; rfl]
  exact hp
 | none =>
  obtain ⟨q1, q2⟩ := q.2 rfl
  refine ite_yes (show decide (Str.ofString "undo" = Str.ofString "undo") = true by decide) ?_
  rw [a_methX]
  k_upd
  rw [insOf_at' h.ins, isS_some]
  refine ⟨rfl, rfl, p, a, f, _, rfl, h, by simp; omega, by simp, fun e => q1 ?_, fun e => ?_⟩
  ·cases L with
   | nil => rfl
   | cons y L => simp at e
  have nl : L ≠ [] := fun z => by rw [z] at e; simp at e
  have dl : ((L ++ [x]).map Hz.w).dropLast = L.map Hz.w := by rw [List.map_append]; simp
  rw [dl]
  unfold t_Desk_do_r1
  k_upd
  refine ⟨by omega, fun f2 hf2 => ?_⟩
  have e2 : f2 ≠ p := fun z => by rw [z, gup_ne h.pa, h.ins] at hf2; cases hf2
  rw [gup_ne (Ne.symm e2), gup_ne h.pa, h.ins]
  k_upd
  exact ⟨by decide, .inl (q2 nl _ f2 (h.push hf2) (push_fr hf2))⟩
local macro_rules | `(tactic| walk_at "t") => `(tactic| (k_upd; try simp only [a_wTx, isTx_str]; k_upd; try simp only [a_wTx, isTx_str]; k_upd))
noncomputable abbrev cntsL : List (Str × Int) := [("lose", 1), ("stop", 1), ("want", 4), ("undo", 0), ("house", 0), ("limits", 0), ("cost", 0), ("on", 0), ("price", 2), ("owed", 0)]
theorem nums_no {n c : Nat} (h : n ≤ 200) (hc : c < 48) : c ∉ nC n := fun z => by have := (nums2 h).dig c z; omega
noncomputable def sp_words_of : Spw := fun ws G Q E => ∃ (wd : List Nat) (ns : List Nat), ws = [tW (J 32 (wd :: ns.map nC))] ∧ (cntsL.lookup (SX.S wd) = some ((ns.length : Nat) : Int)) ∧ (32 ∉ wd) ∧ (∀ n ∈ ns, n ≤ 200) ∧ (ns.length ≤ 9) ∧ (wd.length ≤ 100) ∧ Q (.tup [tW wd, .lst (natsW ns)]) G
theorem len_words_of (ws G Q E) (h : sp_words_of ws G Q E) : ws.length = 1 := by obtain ⟨_, _, rfl, _⟩ := h; rfl
noncomputable def t_words_of : TSw := (wSeq (wIfS (wNot (wTest (wUn (wIsi .str) (wVar 0)))) wNever wNext)
  (wSeq (wAsg (wTx wSplitT (wVar 0) (wC (.str " "))) (gN 1))
  (wSeq (wIfS (wOr (wTest (wGIn true [("lose", 1), ("stop", 1), ("want", 4), ("undo", 0), ("house", 0), ("limits", 0), ("cost", 0), ("on", 0), ("price", 2), ("owed", 0)] (wOp wIx (wVar 1) (wC (.int 0))))) (wTest (wOp wNe (wCB wLen (wCons (wVar 1) wNil)) (wOp wAdd (wC (.int 1)) (wGGet [("lose", 1), ("stop", 1), ("want", 4), ("undo", 0), ("house", 0), ("limits", 0), ("cost", 0), ("on", 0), ("price", 2), ("owed", 0)] (wOp wIx (wVar 1) (wC (.int 0)))))))) wNever wNext)
  (wSeq (wAsg (wLc [3] (iSeqW (wSlice (wVar 1) (wpSome (wC (.int 1))) wpNone)) (gN 3) wYes (wCall sp_number_of (wCons (wVar 3) wNil))) (gN 2))
  (wSeq (wIfS (wTest (wOp (wIn false) (wC .non) (wVar 2))) wNever wNext)
  (wRet (wTup (wCons (wOp wIx (wVar 1) (wC (.int 0))) (wCons (wVar 2) wNil)))))))))
theorem rd_words_of (ws : List W) (G : Gp) (Q : QW) (E) (h : sp_words_of ws G Q E) : t_words_of { nx := fun _ G' => Q .non G', rt := Cl Q } (startW ["row", "words", "numbers", "word"] ws) G := by
 obtain ⟨wd, ns, rfl, hw, nb, hn, few, few2, q⟩ := h
 show t_words_of _ [some (tW (J 32 (wd :: ns.map nC))), none, none, none] G
 unfold t_words_of
 k_upd
 have big : 16000000 < sizeLine := by rw [sizeLine_eq]; omega
 have lens : ∀ p ∈ wd :: ns.map nC, p.length ≤ 100 := fun p hp => by
  rcases List.mem_cons.mp hp with rfl | hp
  ·exact few2
  ·obtain ⟨n, h, rfl⟩ := List.mem_map.mp hp
   have := (nums2 (hn n h)).l3
   omega
 have jl := J_len (c := 32) lens
 rw [List.length_cons, List.length_map] at jl
 have sp := split_J (c := 32) (ps := wd :: ns.map nC) (by decide) (by simp) fun p hp => by
  rcases List.mem_cons.mp hp with rfl | hp
  ·exact nb
  ·obtain ⟨n, h, rfl⟩ := List.mem_map.mp hp
   exact nums_no (hn n h) (by decide)
 rw [a_wTx]
 k_upd
 rw [show tW (J 32 (wd :: ns.map nC)) = W.str (SX.S (J 32 (wd :: ns.map nC))) from rfl, isTx_str]
 k_upd
 rw [e_sp, wSplitT_eq, sp]
 refine ⟨by decide, by rw [S_len]; omega, ?_⟩
 have el : (List.map SX.S (wd :: ns.map nC)).map W.str = tW wd :: (ns.map fun n => tW (nC n)) := by rw [List.map_cons, List.map_cons, List.map_map, List.map_map]; rfl
 rw [el]
 unfold wGIn wGGet
 k_upd
 refine ⟨SX.S wd, rfl, ?_⟩
 rw [show List.lookup (SX.S wd) cntsL = some ((ns.length : Nat) : Int) from hw]
 dsimp only [Option.isSome_some]
 k_upd
 refine ⟨SX.S wd, _, rfl, hw, ?_⟩
 k_upd
 rw [decide_eq_true (show ((ns.length + 1 : Nat) : Int) = 1 + ((ns.length : Nat) : Int) by omega), if_neg (by decide), cut_c1]
 refine ⟨by rw [List.length_map]; omega, ?_⟩
 refine lcW_m (fun n : Nat => tW (nC n)) (fun n => nW n) _ _ ?_ ?_
 ·intro n h P hP
  k_upd
  exact num_call (hn n h) hP
 refine ⟨List.all_eq_true.mpr fun w hw => by obtain ⟨n, _, rfl⟩ := List.mem_map.mp hw; rfl, ?_⟩
 refine ite_no ?_ ⟨by omega, .inl q⟩
 rw [Bool.not_eq_true, List.any_eq_false]
 intro w hw
 obtain ⟨n, _, rfl⟩ := List.mem_map.mp hw
 simp
inductive Row where
 | deed (u : Option Deed)
 | house
 | limits
noncomputable def Row.wd : Row → List Nat
 | .deed none => [117, 110, 100, 111]
 | .deed (some (.lose _)) => [108, 111, 115, 101]
 | .deed (some (.stop _)) => [115, 116, 111, 112]
 | .deed (some (.want ..)) => [119, 97, 110, 116]
 | .house => [104, 111, 117, 115, 101]
 | .limits => [108, 105, 109, 105, 116, 115]
noncomputable def Row.ns : Row → List Nat
 | .deed u => numsU u
 | _ => []
noncomputable def Row.txt (r : Row) : List Nat := J 32 (r.wd :: r.ns.map nC)
theorem Row.cnt (r : Row) : cntsL.lookup (SX.S r.wd) = some ((r.ns.length : Nat) : Int) := by
 cases r with
 | deed u => cases u with
  | none => decide +kernel
  | some d => cases d with
   | lose k => exact (show cntsL.lookup (SX.S [108, 111, 115, 101]) = some (1 : Int) by decide +kernel)
   | stop k => exact (show cntsL.lookup (SX.S [115, 116, 111, 112]) = some (1 : Int) by decide +kernel)
   | want h k z w => exact (show cntsL.lookup (SX.S [119, 97, 110, 116]) = some (4 : Int) by decide +kernel)
 | house => decide +kernel
 | limits => decide +kernel
theorem Row.str (u : Option Deed) : SX.S (Row.deed u).wd = wordU u := by
 cases u with
 | none => decide +kernel
 | some d => cases d with
  | lose k => exact (show SX.S [108, 111, 115, 101] = Str.ofString "lose" by decide +kernel)
  | stop k => exact (show SX.S [115, 116, 111, 112] = Str.ofString "stop" by decide +kernel)
  | want h k z w => exact (show SX.S [119, 97, 110, 116] = Str.ofString "want" by decide +kernel)
theorem Row.isd (u : Option Deed) : (Str.ofString "lose" == wordU u || (Str.ofString "stop" == wordU u || (Str.ofString "want" == wordU u || Str.ofString "undo" == wordU u))) = true := by
 cases u with
 | none => decide +kernel
 | some d => cases d with
  | lose k => exact (show (Str.ofString "lose" == Str.ofString "lose" || (Str.ofString "stop" == Str.ofString "lose" || (Str.ofString "want" == Str.ofString "lose" || Str.ofString "undo" == Str.ofString "lose"))) = true by decide +kernel)
  | stop k => exact (show (Str.ofString "lose" == Str.ofString "stop" || (Str.ofString "stop" == Str.ofString "stop" || (Str.ofString "want" == Str.ofString "stop" || Str.ofString "undo" == Str.ofString "stop"))) = true by decide +kernel)
  | want h k z w => exact (show (Str.ofString "lose" == Str.ofString "want" || (Str.ofString "stop" == Str.ofString "want" || (Str.ofString "want" == Str.ofString "want" || Str.ofString "undo" == Str.ofString "want"))) = true by decide +kernel)
theorem Row.nb (r : Row) : 32 ∉ r.wd ∧ r.wd.length ≤ 100 ∧ r.ns.length ≤ 9 := by
 cases r with
 | deed u => cases u with
  | none => decide
  | some d => cases d <;> exact ⟨by simp [Row.wd], by simp [Row.wd], by simp [Row.ns, numsU, Deed.nums]⟩
 | house => decide
 | limits => decide
theorem lims_len2 {n : Nat} {ls : List Ln} (net : Net n ls) : (limsL n ls).length ≤ 100 := by
 have few := net.few
 have dl := due_len (n := n) (ls := ls)
 rw [lims_num]
 have := Nat.mul_le_mul (show 2 * (ls.length - 1) ≤ 10 by omega) (show (dueL n ls).length ≤ 6 by omega)
 omega
theorem lines_split {n : Nat} {ls : List Ln} {ks : List Wk} {s : Option Sto} {hs : List (List Wnt)} (h : House n ls ks s hs) : Txt.split (SX.S (textC n ls ks s hs)) (SX.S [10]) = ((rowsWs n ls ks s hs).map (J 32)).map SX.S ∧ (textC n ls ks s hs).length ≤ 10000 := by
 have rf := rows_few h
 have rl := row_len h
 have rc := row_chars h
 have tl := J_len (c := 10) rl
 rw [List.length_map] at tl
 have ne10 : (rowsWs n ls ks s hs).map (J 32) ≠ [] := by simp [rowsWs]
 have sp10 := split_J (c := 10) (by decide) ne10 fun p hp z => by
  obtain ⟨r, hr, rfl⟩ := List.mem_map.mp hp
  rcases J_mem z with z | ⟨w, hw, hx⟩
  ·cases z
  ·have := rc r hr w hw 10 hx; omega
 unfold textC
 exact ⟨sp10, by omega⟩
theorem e_sc : (";" : Str) = SX.S [59] := by decide +kernel
theorem house_line {n : Nat} {ls : List Ln} {ks : List Wk} {s : Option Sto} {hs : List (List Wnt)} (h : House n ls ks s hs) {G : Gp} {Q : QW} (q : Q (tW (J 59 ((rowsWs n ls ks s hs).map (J 32)))) G) :
  isTx (tW (textC n ls ks s hs)) (wSplitT (tW (textC n ls ks s hs)) (W.str (Str.ofString "\n")) G fun y G2 => wJoinT (W.str (Str.ofString ";")) y G2 Q) := by
 have big : 16000000 < sizeLine := by rw [sizeLine_eq]; omega
 obtain ⟨sp, l⟩ := lines_split h
 rw [show tW (textC n ls ks s hs) = W.str (SX.S (textC n ls ks s hs)) from rfl, isTx_str, e_nl, wSplitT_eq, sp]
 refine ⟨by decide, by rw [S_len]; omega, ?_⟩
 rw [e_sc]
 have rf := rows_few h
 refine joinT (b := 130) (ps := (rowsWs n ls ks s hs).map (J 32)) (by rw [List.map_map]; rfl) (row_len h) (by rw [List.length_map]; omega) q
noncomputable def sp_Desk_say : Spw := fun ws G Q E => ∃ (p a f : Addr) (L : List Hz) (x : Hz) (r : Row), ws = [.ref p, tW r.txt] ∧ (DeskAt G p a f ((L ++ [x]).map Hz.w)) ∧ (House x.n x.ls x.ks x.s x.hs) ∧ (L.length ≤ 800) ∧ (∀ n ∈ r.ns, n ≤ 200) ∧ (∀ u, r = .deed u → (∀ d, u = some d → (∀ ls2 ks2 hs2 G' f2, DeedTo x.n x.ls x.ks x.hs ls2 ks2 hs2 d → DeskAt G' p a f2 ((L ++ [x] ++ [x.to ls2 ks2 hs2]).map Hz.w) → (∀ r, G r ≠ none → r ≠ p → r ≠ a → G' r = G r) → Q (.str "ok") G') ∧ (Deed10 x.ls x.ks x.hs d → E "NoNumber" [] G) ∧ (Deed4 x.n x.ls d → E "NoLoss" [] G)) ∧ (u = none → (L = [] → E "NoDeed" [] G) ∧ (L ≠ [] → ∀ G' f2, DeskAt G' p a f2 (L.map Hz.w) → (∀ r, G r ≠ none → r ≠ p → r ≠ a → G' r = G r) → Q (.str "ok") G'))) ∧ (r = .house → Q (tW (J 59 ((rowsWs x.n x.ls x.ks x.s x.hs).map (J 32)))) G) ∧ (r = .limits → Q (tW (nC (limsL x.n x.ls).length)) G)
theorem len_Desk_say (ws G Q E) (h : sp_Desk_say ws G Q E) : ws.length = 2 := by obtain ⟨_, _, _, _, _, _, rfl, _⟩ := h; rfl
noncomputable def t_Desk_say : TSw := (wSeq (wAsg (wCall sp_words_of (wCons (wVar 1) wNil)) (gT 2 (gsC (gN 2) (gsC (gN 3) gsN))))
  (wSeq (wIfS (wTest (wOp (wIn false) (wVar 2) (wTup (wCons (wC (.str "lose")) (wCons (wC (.str "stop")) (wCons (wC (.str "want")) (wCons (wC (.str "undo")) wNil))))))) (wRetX (wMethX "Desk" "do" sp_Desk_do (wVar 0) (wCons (wVar 2) (wCons (wVar 3) wNil)))) wNext)
  (wSeq (wIfS (wTest (wOp wEq (wVar 2) (wC (.str "price")))) (wRetX (wMethX "Desk" "price" sp_Desk_price (wVar 0) (wCons (wOp wIx (wVar 3) (wC (.int 0))) (wCons (wOp wIx (wVar 3) (wC (.int 1))) wNil)))) wNext)
  (wSeq (wIfS (wTest (wOp wEq (wVar 2) (wC (.str "house")))) (wRet (wTx wJoinT (wC (.str ";")) (wTx wSplitT (wCall sp_show_house (wCons (wMeth "Desk" "house" sp_Desk_house (wVar 0) wNil) wNil)) (wC (.str "\n"))))) wNext)
  (wSeq (wIfS (wTest (wOp wEq (wVar 2) (wC (.str "limits")))) (wRet (wCB wStrI (wCons (wCB wLen (wCons (wCall sp_limits (wCons (wOp wIx (wMeth "Desk" "house" sp_Desk_house (wVar 0) wNil) (wC (.int 0))) wNil)) wNil)) wNil))) wNext)
  (wRet (wMeth "Desk" "of_run" sp_Desk_of_run (wVar 0) (wCons (wVar 2) wNil))))))))
theorem rd_Desk_say (ws : List W) (G : Gp) (Q : QW) (E : EXw) (h : sp_Desk_say ws G Q E) : t_Desk_say { nx := fun _ G' => Q .non G', rt := Cl Q, ex := fun nm fs _ G' => E nm fs G' } (startW ["self", "row", "word", "numbers"] ws) G := by
 obtain ⟨p, a, f, L, x, r, rfl, h, H, few, hn, q⟩ := h
 show t_Desk_say _ [some (.ref p), some (tW r.txt), none, none] G
 unfold t_Desk_say
 k_upd
 have big : 16000000 < sizeLine := by rw [sizeLine_eq]; omega
 obtain ⟨nb1, nb2, nb3⟩ := r.nb
 refine ⟨r.wd, r.ns, rfl, r.cnt, nb1, hn, nb3, nb2, ?_⟩
 have ok : HzOk x := ⟨H.net, by have := H.few; omega, by have := H.few; omega, fun vs hv => (H.wants vs hv).1⟩
 cases r with
 | deed u =>
  have q := q.1 u rfl
  k_upd
  rw [Row.str u]
  refine ⟨by decide, ite_yes (Row.isd u) ?_⟩
  rw [a_methX]
  k_upd
  rw [insOf_at' h.ins, isS_some]
  exact ⟨rfl, rfl, p, a, f, L, x, u, (by show [W.ref p, W.str (SX.S (Row.deed u).wd), W.lst (natsW (numsU u))] = _; rw [Row.str u]), h, ok, few, fun d e => ⟨fun ls2 ks2 hs2 G' f2 D dk fr => .inl ((q.1 d e).1 ls2 ks2 hs2 G' f2 D dk fr), (q.1 d e).2⟩, fun e => ⟨(q.2 e).1, fun nl G' f2 dk fr => .inl ((q.2 e).2 nl G' f2 dk fr)⟩⟩
 | house =>
  have q := q.2.1 rfl
  have eh : SX.S Row.house.wd = Str.ofString "house" := by decide +kernel
  k_upd
  rw [eh]
  refine ⟨by decide, ite_no (by decide +kernel) (ite_no (by decide +kernel) (ite_yes (by decide +kernel) ?_))⟩
  rw [a_wTx]
  k_upd
  rw [isTx_str, a_wTx]
  k_upd
  rw [insOf_at' h.ins, isS_some]
  refine ⟨rfl, rfl, p, a, f, _, x.w, rfl, h, by simp, x.n, x.ls, x.ks, x.s, x.hs, rfl, H, ?_⟩
  exact house_line H (.inl q)
 | limits =>
  have q := q.2.2 rfl
  have eh : SX.S Row.limits.wd = Str.ofString "limits" := by decide +kernel
  k_upd
  rw [eh]
  refine ⟨by decide, ite_no (by decide +kernel) (ite_no (by decide +kernel) (ite_no (by decide +kernel) (ite_yes (by decide +kernel) ?_)))⟩
  rw [insOf_at' h.ins, isS_some]
  refine ⟨rfl, rfl, p, a, f, _, x.w, rfl, h, by simp, ?_⟩
  k_upd
  refine ⟨x.n, x.ls, rfl, H.net, .inl ?_⟩
  have ln := lims_len2 H.net
  k_upd
  refine ⟨?_, .inl ?_⟩
  ·exact Nat.lt_of_le_of_lt (Nat.log2_le_self _) (by simp; omega)
  ·rw [show Q (W.str (Str.ofString (toString (((limsL x.n x.ls).length : Nat) : Int)))) G = Q (tW (nC (limsL x.n x.ls).length)) G by rw [nC_S]]
   exact q
theorem idx_lt {L : List W} {j : Nat} (h : (L.take j).all (fun z => !eqW z (.bl true)) = true) : ∀ m z', m < j → L[m]? = some z' → eqW z' (.bl true) = false := fun m z' hm hz => by
 have := List.all_eq_true.mp h z' (List.mem_of_getElem? (i := m) (by rw [List.getElem?_take, if_pos hm]; exact hz))
 simpa using this
noncomputable def kindN (n : Str) : Int := if n = "NoNumber" then 10 else if n = "NoLoss" then 4 else 11
noncomputable def sp_zkind : SpE := fun a_e d_e n_e ws G Q => ∃ (k : Nat), ws = [.exc a_e d_e n_e []] ∧ (n_e ∈ (["NoNumber", "NoLoss", "NoDeed"] : List Str)) ∧ Q (.int (kindN n_e)) G
theorem len_zkind a_e d_e n_e ws G Q (h : sp_zkind a_e d_e n_e ws G Q) : ws.length = 1 := by obtain ⟨_, rfl, _⟩ := h; rfl
noncomputable def t_zkind (a_e : Addr) (d_e : Option Addr) (n_e : Str) : TSw := (wSeq (wAsg (wLst (wCons (wIsE a_e d_e n_e "NoFraction" (wVar 0)) (wCons (wIsE a_e d_e n_e "NoPuts" (wVar 0)) (wCons (wIsE a_e d_e n_e "NoBalance" (wVar 0)) (wCons (wIsE a_e d_e n_e "NoLine" (wVar 0)) wNil))))) (gN 1))
  (wSeq (wAsg (wOp wAdd (wVar 1) (wLst (wCons (wIsE a_e d_e n_e "NoLoss" (wVar 0)) (wCons (wIsE a_e d_e n_e "NoPaper" (wVar 0)) (wCons (wIsE a_e d_e n_e "NoMaking" (wVar 0)) (wCons (wIsE a_e d_e n_e "NoText" (wVar 0)) wNil)))))) (gN 1))
  (wSeq (wAsg (wOp wAdd (wVar 1) (wLst (wCons (wIsE a_e d_e n_e "NoHouse" (wVar 0)) (wCons (wIsE a_e d_e n_e "NoRow" (wVar 0)) (wCons (wIsE a_e d_e n_e "NoNumber" (wVar 0)) (wCons (wIsE a_e d_e n_e "NoDeed" (wVar 0)) wNil)))))) (gN 1))
  (wSeq (wIfS (wOr (wTest (wOp wNe (wBM wM_count (wVar 1) (wCons (wC (.bl true)) wNil)) (wC (.int 1)))) (wOr (wNot (wTest (wIsE a_e d_e n_e "MainsError" (wVar 0)))) (wNot (wTest (wIsE a_e d_e n_e "ValueError" (wVar 0)))))) (wRet (wNeg (wC (.int 1)))) wNext)
  (wRet (wBM wM_indexF (wVar 1) (wCons (wC (.bl true)) wNil)))))))
theorem rd_zkind (a_e : Addr) (d_e : Option Addr) (n_e : Str) (ws : List W) (G : Gp) (Q : QW) (h : sp_zkind a_e d_e n_e ws G Q) : t_zkind a_e d_e n_e { nx := fun _ G' => Q .non G', rt := Cl Q } (startW ["_law_e", "_law_marks"] ws) G := by
 obtain ⟨k, rfl, hn, q⟩ := h
 show t_zkind a_e d_e n_e _ [some (.exc a_e d_e n_e []), none] G
 unfold t_zkind
 k_upd
 simp only [List.mem_cons, List.not_mem_nil, or_false] at hn
 rcases hn with rfl | rfl | rfl
 all_goals
  simp (decide := true) only [subE, if_true, if_false, true_and, decide_true, decide_false, Bool.or_false, Bool.false_or, Bool.true_or]
  refine ⟨rfl, rfl, ?_⟩
  dsimp only
 ·rw [show W.int _ = W.int 1 from rfl]
  k_upd
  exact ⟨rfl, rfl, 10, .bl true, rfl, rfl, idx_lt rfl, .inl q⟩
 ·rw [show W.int _ = W.int 1 from rfl]
  k_upd
  exact ⟨rfl, rfl, 4, .bl true, rfl, rfl, idx_lt rfl, .inl q⟩
 ·rw [show W.int _ = W.int 1 from rfl]
  k_upd
  exact ⟨rfl, rfl, 11, .bl true, rfl, rfl, idx_lt rfl, .inl q⟩
noncomputable def codeD (x : Hz) : Deed → Int
 | .lose k => if x.ls.length ≤ k then 10 else if k ∈ dueL x.n x.ls then 0 else 4
 | .stop k => if x.ks.length ≤ k then 10 else 0
 | .want h k z w => if h < x.hs.length ∧ k < (x.hs.getD h []).length ∧ z ≤ 30 ∧ w ≤ 100 then 0 else 10
noncomputable def Hz.after (x : Hz) : Deed → Hz
 | .lose k => x.to (dropL x.ls k) x.ks x.hs
 | .stop k => x.to x.ls (x.ks.take k ++ x.ks.drop (k + 1)) x.hs
 | .want h k z w => x.to x.ls x.ks (wantH x.hs h k z w)
noncomputable abbrev Hz.H (x : Hz) : Prop := House x.n x.ls x.ks x.s x.hs
theorem code_ok {x : Hz} {d : Deed} {ls2 : List Ln} {ks2 : List Wk} {hs2 : List (List Wnt)} (D : DeedTo x.n x.ls x.ks x.hs ls2 ks2 hs2 d) (net : Net x.n x.ls) : codeD x d = 0 ∧ x.to ls2 ks2 hs2 = x.after d := by
 cases d with
 | lose k =>
  obtain ⟨a, rfl, rfl, rfl⟩ := D
  have lt := (due_mem a).1
  refine ⟨?_, rfl⟩
  show (if x.ls.length ≤ k then 10 else if k ∈ dueL x.n x.ls then 0 else 4) = (0 : Int)
  rw [if_neg (by omega), if_pos a]
 | stop k =>
  obtain ⟨a, rfl, rfl, rfl⟩ := D
  refine ⟨?_, rfl⟩
  show (if x.ks.length ≤ k then 10 else 0) = (0 : Int)
  rw [if_neg (by omega)]
 | want h k z w =>
  obtain ⟨a, rfl, rfl, rfl⟩ := D
  exact ⟨if_pos a, rfl⟩
theorem code_10 {x : Hz} {d : Deed} (D : Deed10 x.ls x.ks x.hs d) : codeD x d = 10 := by
 cases d with
 | lose k => exact if_pos D
 | stop k => exact if_pos D
 | want h k z w => exact if_neg D
theorem code_4 {x : Hz} {d : Deed} (D : Deed4 x.n x.ls d) : codeD x d = 4 := by
 cases d with
 | lose k =>
  have lt := D.1
  show (if x.ls.length ≤ k then 10 else if k ∈ dueL x.n x.ls then 0 else 4) = (4 : Int)
  rw [if_neg (by omega), if_neg D.2]
 | stop k => cases D
 | want h k z w => cases D
noncomputable def ans (L : List Hz) (x : Hz) : Row → W × List Hz × Hz
 | .deed (some d) => if codeD x d = 0 then (.str "ok", L ++ [x], x.after d) else (.int (codeD x d), L, x)
 | .deed none => match L with
  | [] => (.int 11, [], x)
  | y :: l => (.str "ok", (y :: l).dropLast, (y :: l).getLast (by simp))
 | .house => (tW (J 59 ((rowsWs x.n x.ls x.ks x.s x.hs).map (J 32))), L, x)
 | .limits => (tW (nC (limsL x.n x.ls).length), L, x)
theorem ans_ok {L : List Hz} {x : Hz} {d : Deed} (c : codeD x d = 0) : ans L x (.deed (some d)) = (.str "ok", L ++ [x], x.after d) := if_pos c
theorem ans_no {L : List Hz} {x : Hz} {d : Deed} (c : codeD x d ≠ 0) : ans L x (.deed (some d)) = (.int (codeD x d), L, x) := if_neg c
noncomputable def sp_zsaid : Spw := fun ws G Q E => ∃ (p a f : Addr) (L : List Hz) (x : Hz) (r : Row), ws = [.ref p, tW r.txt] ∧ (DeskAt G p a f ((L ++ [x]).map Hz.w)) ∧ (x.H) ∧ (L.length ≤ 800) ∧ (∀ n ∈ r.ns, n ≤ 200) ∧ ∀ G' f2, DeskAt G' p a f2 (((ans L x r).2.1 ++ [(ans L x r).2.2]).map Hz.w) → (∀ r, G r ≠ none → r ≠ p → r ≠ a → G' r = G r) → Q (ans L x r).1 G'
theorem len_zsaid (ws G Q E) (h : sp_zsaid ws G Q E) : ws.length = 2 := by obtain ⟨_, _, _, _, _, _, rfl, _⟩ := h; rfl
noncomputable def t_zsaid : TSw := (wTryAs 2 "MainsError" ["NoNumber", "NoLoss", "NoDeed"] (wRetX (wMethX "Desk" "say" sp_Desk_say (wVar 0) (wCons (wVar 1) wNil))) (fun a_e d_e n_e f_e => (wRet (wCallE sp_zkind a_e d_e n_e (wCons (wVar 2) wNil)))))
theorem rd_zsaid (ws : List W) (G : Gp) (Q : QW) (E) (h : sp_zsaid ws G Q E) : t_zsaid { nx := fun _ G' => Q .non G', rt := Cl Q } (startW ["_law_desk", "_law_row_here", "_law_e"] ws) G := by
 obtain ⟨p, a, f, L, x, r, rfl, h, H, few, hn, q⟩ := h
 show t_zsaid _ [some (.ref p), some (tW r.txt), none] G
 unfold t_zsaid
 k_upd
 rw [a_methX]
 k_upd
 rw [insOf_at' h.ins, isS_some]
 refine ⟨rfl, rfl, p, a, f, L, x, r, rfl, h, H, few, hn, ?_, ?_, ?_⟩
 ·rintro u rfl
  refine ⟨?_, ?_⟩
  ·rintro d rfl
   refine ⟨fun ls2 ks2 hs2 G' f2 D dk fr => ?_, fun D => ?_, fun D => ?_⟩
   ·obtain ⟨c1, c2⟩ := code_ok D H.net
    have q := q G' f2
    rw [ans_ok c1] at q
    rw [c2] at dk
    exact .inl (q dk fr)
   ·have q := q G f
    rw [ans_no (by rw [code_10 D]; decide), code_10 D] at q
    refine ⟨by simp, fun _ a d _ => ?_, fun z => by simp [subE] at z⟩
    refine ⟨0, rfl, by simp, .inl (q h fun _ _ _ _ => rfl)⟩
   ·have q := q G f
    rw [ans_no (by rw [code_4 D]; decide), code_4 D] at q
    refine ⟨by simp, fun _ a d _ => ?_, fun z => by simp [subE] at z⟩
    refine ⟨0, rfl, by simp, .inl (q h fun _ _ _ _ => rfl)⟩
  ·rintro rfl
   refine ⟨?_, fun nl G' f2 dk fr => ?_⟩
   ·rintro rfl
    refine ⟨by simp, fun _ a d _ => ?_, fun z => by simp [subE] at z⟩
    refine ⟨0, rfl, by simp, .inl (q G f h fun _ _ _ _ => rfl)⟩
   ·cases L with
    | nil => exact absurd rfl nl
    | cons y l =>
     refine .inl (q G' f2 ?_ fr)
     show DeskAt G' p a f2 (((y :: l).dropLast ++ [(y :: l).getLast (by simp)]).map Hz.w)
     rw [List.dropLast_concat_getLast]
     exact dk
 ·rintro rfl
  exact .inl (q G f h fun _ _ _ _ => rfl)
 ·rintro rfl
  exact .inl (q G f h fun _ _ _ _ => rfl)
noncomputable def sp_zlimits : Spw := fun ws G Q E => ∃ (n : Nat) (ls : List Ln), ws = [netW n ls] ∧ (Net n ls) ∧ Q (.int (((limsL n ls).length : Nat) : Int)) G
theorem len_zlimits (ws G Q E) (h : sp_zlimits ws G Q E) : ws.length = 1 := by obtain ⟨_, _, rfl, _⟩ := h; rfl
noncomputable def t_zlimits : TSw := (wSeq (wAsg (wCB wLen (wCons (wOp wIx (wVar 0) (wC (.int 1))) wNil)) (gN 1))
  (wRet (wOp wAdd (wOp wMul (wC (.int 2)) (wVar 1)) (wOp wMul (wOp wMul (wC (.int 2)) (wOp wSub (wVar 1) (wC (.int 1)))) (wCB wLen (wCons (wCall sp_zlosable (wCons (wVar 0) wNil)) wNil))))))
theorem rd_zlimits (ws : List W) (G : Gp) (Q : QW) (E) (h : sp_zlimits ws G Q E) : t_zlimits { nx := fun _ G' => Q .non G', rt := Cl Q } (startW ["_law_net_here", "_law_lines"] ws) G := by
 obtain ⟨n, ls, rfl, net, q⟩ := h
 show t_zlimits _ [some (netW n ls), none] G
 unfold t_zlimits
 k_upd
 have big : 1000 < sizeLine := by decide
 obtain ⟨m, rfl⟩ : ∃ m, n = m + 1 := ⟨n - 1, by have := net.n1; omega⟩
 have few := net.few
 have dl := due_len (n := m + 1) (ls := ls)
 refine ⟨cm64 (by decide) (by omega), cm64 (by decide) (by omega), m, ls, rfl, net, .inl ?_⟩
 k_upd
 have e : (2 * ((ls.length : Nat) : Int) + 2 * (((ls.length : Nat) : Int) - 1) * (((dueL (m + 1) ls).length : Nat) : Int)) = (((limsL (m + 1) ls).length : Nat) : Int) := by
  rw [lims_num]
  rcases Nat.eq_zero_or_pos ls.length with z | z
  ·have : (dueL (m + 1) ls).length = 0 := by omega
   rw [this, z]; rfl
  ·obtain ⟨j, ej⟩ : ∃ j, ls.length = j + 1 := ⟨ls.length - 1, by omega⟩
   rw [ej, Nat.add_sub_cancel]
   push_cast
   rw [Int.add_sub_cancel]
 rw [e]
 exact ⟨cm64 (by omega) (by omega), .inl q⟩
theorem takeT {ws : List W} {G : Gp} {Q : QW} (q : Q (.lst ws) G) {t : Addr} (n : G t = none) : Cl Q (.ref t) (gup G t (.lst ws)) := tellL.cl (.inl q) n
noncomputable def wordsD (d : Deed) : List (List Nat) := (Row.deed (some d)).wd :: d.nums.map nC
theorem e_lose : Str.ofString "lose" = SX.S [108, 111, 115, 101] := by decide +kernel
theorem e_stop : Str.ofString "stop" = SX.S [115, 116, 111, 112] := by decide +kernel
theorem e_want : Str.ofString "want" = SX.S [119, 97, 110, 116] := by decide +kernel
theorem log_ok {n : Nat} (h : n ≤ 200) : ((n : Nat) : Int).natAbs.log2 < 1920 := Nat.lt_of_le_of_lt (Nat.log2_le_self _) (by simp; omega)
theorem strN {n : Nat} (h : n ≤ 200) {G : Gp} {Q : QW} (q : Q (tW (nC n)) G) : wStrI [.int ((n : Nat) : Int)] G Q := by
 refine ⟨Nat.lt_of_le_of_lt (Nat.log2_le_self _) (by simp; omega), ?_⟩
 rw [nC_S]
 exact q
theorem intT {n : Nat} (h : n ≤ 200) {G : Gp} {Q : QW} (q : Q (nW n) G) : wIntT [tW (nC n)] G Q := by
 have N := nums2 h
 exact ⟨SX.S (nC n), _, rfl, N.int, by rw [S_len]; have := N.l3; omega, q⟩
noncomputable def sp_zdeed : Spw := fun ws G Q E => ∃ (p : Addr) (x : Hz), ws = [.ref p, x.w] ∧ (BagAt p G) ∧ (x.H) ∧ ∀ d G', (∀ n ∈ d.nums, n ≤ 200) → BagUp p G G' → Q (.lst ((wordsD d).map tW)) G'
theorem len_zdeed (ws G Q E) (h : sp_zdeed ws G Q E) : ws.length = 2 := by obtain ⟨_, _, rfl, _⟩ := h; rfl
noncomputable def t_zdeed : TSw := (wSeq (wAsg (wVar 1) (gT 4 (gsC (gN 2) (gsC (gN 3) (gsC (gN 4) (gsC (gN 5) gsN))))))
  (wSeq (wAsg (wCall sp_ztake (wCons (wVar 0) (wCons (wC (.int 3)) wNil))) (gN 6))
  (wSeq (wAsg (wCB wInt (wCons (wOp wEq (wCall sp_ztake (wCons (wVar 0) (wCons (wC (.int 6)) wNil))) (wC (.int 0))) wNil)) (gN 7))
  (wSeq (wIfS (wTest (wOp wEq (wVar 6) (wC (.int 0)))) (wRet (wLstM (wCons (wC (.str "lose")) (wCons (wCB wStrI (wCons (wCall sp_ztake (wCons (wVar 0) (wCons (wOp wSub (wOp wAdd (wCB wLen (wCons (wOp wIx (wVar 2) (wC (.int 1))) wNil)) (wC (.int 1))) (wCB wInt (wCons (wAndV (wOp wEq (wVar 7) (wC (.int 0))) (wOp wGt (wCB wLen (wCons (wOp wIx (wVar 2) (wC (.int 1))) wNil)) (wC (.int 0)))) wNil))) wNil))) wNil)) wNil)))) wNext)
  (wSeq (wIfS (wTest (wOp wEq (wVar 6) (wC (.int 1)))) (wRet (wLstM (wCons (wC (.str "stop")) (wCons (wCB wStrI (wCons (wCall sp_ztake (wCons (wVar 0) (wCons (wOp wSub (wOp wAdd (wCB wLen (wCons (wVar 3) wNil)) (wC (.int 1))) (wCB wInt (wCons (wAndV (wOp wEq (wVar 7) (wC (.int 0))) (wOp wGt (wCB wLen (wCons (wVar 3) wNil)) (wC (.int 0)))) wNil))) wNil))) wNil)) wNil)))) wNext)
  (wSeq (wAsg (wCall sp_ztake (wCons (wVar 0) (wCons (wOp wAdd (wCB wLen (wCons (wVar 5) wNil)) (wVar 7)) wNil))) (gN 8))
  (wSeq (wAsg (wCB wLen (wCons (wOp wIx (wOp wAdd (wVar 5) (wTup (wCons (wTup wNil) wNil))) (wVar 8)) wNil)) (gN 9))
  (wSeq (wAsg (wCall sp_ztake (wCons (wVar 0) (wCons (wOp wSub (wOp wAdd (wVar 9) (wC (.int 1))) (wCB wInt (wCons (wAndV (wOp wEq (wVar 7) (wC (.int 0))) (wOp wGt (wVar 9) (wC (.int 0)))) wNil))) wNil))) (gN 10))
  (wSeq (wAsg (wOp wAdd (wOp wIx (wLst (wCons (wCall sp_ztake (wCons (wVar 0) (wCons (wC (.int 101)) wNil))) (wCons (wC (.int 100)) wNil))) (wCB wInt (wCons (wOp wEq (wCall sp_ztake (wCons (wVar 0) (wCons (wC (.int 6)) wNil))) (wC (.int 0))) wNil))) (wOp wMul (wVar 7) (wCall sp_ztake (wCons (wVar 0) (wCons (wC (.int 3)) wNil))))) (gN 11))
  (wRet (wLstM (wCons (wC (.str "want")) (wCons (wCB wStrI (wCons (wVar 8) wNil)) (wCons (wCB wStrI (wCons (wVar 10) wNil)) (wCons (wCB wStrI (wCons (wCall sp_ztake (wCons (wVar 0) (wCons (wOp wAdd (wC (.int 31)) (wVar 7)) wNil))) wNil)) (wCons (wCB wStrI (wCons (wVar 11) wNil)) wNil))))))))))))))))
theorem rd_zdeed (ws : List W) (G : Gp) (Q : QW) (E) (h : sp_zdeed ws G Q E) : t_zdeed { nx := fun _ G' => Q .non G', rt := Cl Q } (startW ["_law_bag_here", "_law_house_here", "_law_net_here", "_law_works", "_law_store_here", "_law_hours", "_law_way", "_law_more", "_law_hour", "_law_many", "_law_k", "_law_worth"] ws) G := by
 obtain ⟨p, x, rfl, bag, H, q⟩ := h
 show t_zdeed _ [some (.ref p), some (x.w), none, none, none, none, none, none, none, none, none, none] G
 unfold t_zdeed
 k_upd
 have big : 1000 < sizeLine := by decide
 have few := H.few
 have nf := H.net.few
 refine take_up bag (by decide) fun w G1 hw u1 => ?_
 refine take_up u1.at (by decide) fun m G2 hm u2 => ?_
 have g2 := u1.trans u2
 obtain ⟨mo, hmo, emo⟩ : ∃ mo : Nat, mo ≤ 1 ∧ (if decide (((m : Nat) : Int) = 0) = true then (1 : Int) else 0) = ((mo : Nat) : Int) := by
  by_cases c : m = 0
  ·exact ⟨1, by omega, by rw [if_pos (decide_eq_true (by omega))]; rfl⟩
  ·exact ⟨0, by omega, by rw [if_neg (by rw [decide_eq_true_eq]; omega)]; rfl⟩
 k_upd
 rw [emo]
 have lose : ∀ k : Nat, k ≤ 200 → ∀ G3, BagUp p G2 G3 → wStrI [W.int ((k : Nat) : Int)] G3 fun x G1 => 2 ≤ sizeLine ∧ ∀ (p : Addr), G1 p = none → Cl Q (W.ref p) (gup G1 p (GO.lst [W.str (Str.ofString "lose"), x])) := fun k hk G3 u3 => by
  refine strN hk ⟨by omega, fun t ht => takeT ?_ ht⟩
  rw [e_lose]
  exact q (.lose k) G3 (by simpa [Deed.nums] using hk) (g2.trans u3)
 have stop : ∀ k : Nat, k ≤ 200 → ∀ G3, BagUp p G2 G3 → wStrI [W.int ((k : Nat) : Int)] G3 fun x G1 => 2 ≤ sizeLine ∧ ∀ (p : Addr), G1 p = none → Cl Q (W.ref p) (gup G1 p (GO.lst [W.str (Str.ofString "stop"), x])) := fun k hk G3 u3 => by
  refine strN hk ⟨by omega, fun t ht => takeT ?_ ht⟩
  rw [e_stop]
  exact q (.stop k) G3 (by simpa [Deed.nums] using hk) (g2.trans u3)
 have take : ∀ (Gx : Gp) (n : Nat) (Q' : QW), BagAt p Gx → n ≤ 100 → (∀ (k : Nat) G3, k ≤ n → BagUp p Gx G3 → Q' (.int ((k : Nat) : Int)) G3) →
   (if decide (((mo : Nat) : Int) = 0) = true then sp_ztake [W.ref p, W.int (((n : Nat) : Int) + 1 - if decide (0 < ((n : Nat) : Int)) = true then 1 else 0)] Gx Q' E0w else sp_ztake [W.ref p, W.int (((n : Nat) : Int) + 1 - 0)] Gx Q' E0w) := fun Gx n Q' ux hn h => by
  split
  ·by_cases c : 0 < n
   ·rw [if_pos (decide_eq_true (by omega))]
    exact take_up ux (by omega) fun k G3 hk u3 => h k G3 (by omega) u3
   ·rw [if_neg (by rw [decide_eq_true_eq]; omega)]
    exact take_up ux (by omega) fun k G3 hk u3 => h k G3 (by omega) u3
  ·exact take_up ux (by omega) fun k G3 hk u3 => h k G3 (by omega) u3
 rcases (show w = 0 ∨ w = 1 ∨ w = 2 by omega) with rfl | rfl | rfl
 ·rw [if_pos (by decide)]
  k_upd
  exact take G2 x.ls.length _ u2.at (by omega) fun k G3 hk u3 => lose k (by omega) G3 u3
 ·rw [if_neg (by decide), if_pos (by decide)]
  k_upd
  exact take G2 x.ks.length _ u2.at (by omega) fun k G3 hk u3 => stop k (by omega) G3 u3
 ·rw [if_neg (by decide), if_neg (by decide)]
  k_upd
  refine take_up u2.at (by omega) fun h G3 hh u3 => ?_
  have g3 := g2.trans u3
  have eh : (x.hs.map fun vs => wantsW vs) ++ [W.tup []] = (x.hs ++ [[]]).map fun vs => wantsW vs := by rw [List.map_append]; rfl
  have hl : h < (x.hs ++ [[]]).length := by rw [List.length_append, List.length_singleton]; omega
  rw [eh]
  refine ⟨by decide, by omega, by omega, ?_⟩
  k_upd
  rw [atI_map' hl, isS_some]
  have l3 : (x.hs ++ [[]])[h].length ≤ 3 := by
   rcases List.mem_append.mp (List.getElem_mem hl) with z | z
   ·exact (H.wants _ z).1
   ·rw [List.mem_singleton.mp z]; simp
  generalize (x.hs ++ [[]])[h] = vs at l3 ⊢
  k_upd
  refine take G3 vs.length _ u3.at (by omega) fun k G4 hk u4 => ?_
  k_upd
  refine take_up u4.at (by decide) fun v0 G5 hv0 u5 => ?_
  k_upd
  refine ⟨by decide, take_up u5.at (by decide) fun c G6 hc u6 => ?_⟩
  k_upd
  obtain ⟨v, hv, ev⟩ : ∃ v : Nat, v ≤ 100 ∧ L2.atI [W.int ((v0 : Nat) : Int), W.int 100] (if decide (((c : Nat) : Int) = 0) = true then 1 else 0) = some (.int ((v : Nat) : Int)) := by
   by_cases z : c = 0
   ·exact ⟨100, by omega, by rw [if_pos (decide_eq_true (by omega))]; rfl⟩
   ·exact ⟨v0, by omega, by rw [if_neg (by rw [decide_eq_true_eq]; omega)]; rfl⟩
  rw [ev, isS_some]
  refine take_up u6.at (by decide) fun t G7 ht u7 => ?_
  k_upd
  have l2 : mo * t ≤ 2 := by
   have := Nat.mul_le_mul hmo (show t ≤ 2 by omega)
   omega
  refine ⟨cm64 (by omega) (by omega), log_ok (by omega), log_ok (by omega), take_up u7.at (by omega) fun z G8 hz u8 => ?_⟩
  k_upd
  rw [show ((v : Nat) : Int) + ((mo : Nat) : Int) * ((t : Nat) : Int) = ((v + mo * t : Nat) : Int) by push_cast; rfl]
  refine ⟨log_ok (by omega), log_ok (by omega), by decide, fun tt ht => takeT ?_ ht⟩
  rw [nC_S, nC_S, nC_S, nC_S, e_want]
  refine q (.want h k z (v + mo * t)) G8 (fun n hn => ?_) (((((g3.trans u4).trans u5).trans u6).trans u7).trans u8)
  simp only [Deed.nums, List.mem_cons, List.not_mem_nil, or_false] at hn
  rcases hn with rfl | rfl | rfl | rfl <;> omega
noncomputable def sp_zbehind : Spw := fun ws G Q E => ∃ (x : Hz) (d : Deed), ws = [x.w, .lst ((wordsD d).map tW)] ∧ (x.H) ∧ (∀ n ∈ d.nums, n ≤ 200) ∧ Q (if codeD x d = 0 then (x.after d).w else .int (codeD x d)) G
theorem len_zbehind (ws G Q E) (h : sp_zbehind ws G Q E) : ws.length = 2 := by obtain ⟨_, _, rfl, _⟩ := h; rfl
noncomputable def t_zbehind : TSw := (wSeq (wAsg (wVar 0) (gT 4 (gsC (gN 2) (gsC (gN 3) (gsC (gN 4) (gsC (gN 5) gsN))))))
  (wSeq (wIfS (wTest (wOp wEq (wOp wIx (wVar 1) (wC (.int 0))) (wC (.str "lose")))) (wSeq (wAsg (wCB wIntT (wCons (wOp wIx (wVar 1) (wC (.int 1))) wNil)) (gN 6))
  (wSeq (wIfS (wTest (wOp wGe (wVar 6) (wCB wLen (wCons (wOp wIx (wVar 2) (wC (.int 1))) wNil)))) (wRet (wC (.int 10))) wNext)
  (wSeq (wIfS (wTest (wOp (wIn true) (wVar 6) (wCall sp_zlosable (wCons (wVar 2) wNil)))) (wRet (wC (.int 4))) wNext)
  (wRet (wTup (wCons (wTup (wCons (wOp wIx (wVar 2) (wC (.int 0))) (wCons (wOp wAdd (wSlice (wOp wIx (wVar 2) (wC (.int 1))) wpNone (wpSome (wVar 6))) (wSlice (wOp wIx (wVar 2) (wC (.int 1))) (wpSome (wOp wAdd (wVar 6) (wC (.int 1)))) wpNone)) wNil))) (wCons (wVar 3) (wCons (wVar 4) (wCons (wVar 5) wNil))))))))) wNext)
  (wSeq (wIfS (wTest (wOp wEq (wOp wIx (wVar 1) (wC (.int 0))) (wC (.str "stop")))) (wSeq (wAsg (wCB wIntT (wCons (wOp wIx (wVar 1) (wC (.int 1))) wNil)) (gN 7))
  (wSeq (wIfS (wTest (wOp wGe (wVar 7) (wCB wLen (wCons (wVar 3) wNil)))) (wRet (wC (.int 10))) wNext)
  (wRet (wTup (wCons (wVar 2) (wCons (wOp wAdd (wSlice (wVar 3) wpNone (wpSome (wVar 7))) (wSlice (wVar 3) (wpSome (wOp wAdd (wVar 7) (wC (.int 1)))) wpNone)) (wCons (wVar 4) (wCons (wVar 5) wNil)))))))) wNext)
  (wSeq (wAsg (wLc [13] (iSeqW (wSlice (wVar 1) (wpSome (wC (.int 1))) wpNone)) (gN 13) wYes (wCB wIntT (wCons (wVar 13) wNil))) (gT 4 (gsC (gN 8) (gsC (gN 9) (gsC (gN 10) (gsC (gN 11) gsN))))))
  (wSeq (wIfS (wOr (wTest (wOp wGe (wVar 8) (wCB wLen (wCons (wVar 5) wNil)))) (wOr (wTest (wOp wGe (wVar 9) (wCB wLen (wCons (wOp wIx (wVar 5) (wVar 8)) wNil)))) (wOr (wTest (wOp wGt (wVar 10) (wC (.int 30)))) (wTest (wOp wGt (wVar 11) (wC (.int 100))))))) (wRet (wC (.int 10))) wNext)
  (wSeq (wAsg (wOp wIx (wVar 5) (wVar 8)) (gN 12))
  (wSeq (wAsg (wOp wAdd (wOp wAdd (wSlice (wVar 12) wpNone (wpSome (wVar 9))) (wTup (wCons (wTup (wCons (wOp wIx (wOp wIx (wVar 12) (wVar 9)) (wC (.int 0))) (wCons (wVar 10) (wCons (wVar 11) wNil)))) wNil))) (wSlice (wVar 12) (wpSome (wOp wAdd (wVar 9) (wC (.int 1)))) wpNone)) (gN 12))
  (wRet (wTup (wCons (wVar 2) (wCons (wVar 3) (wCons (wVar 4) (wCons (wOp wAdd (wOp wAdd (wSlice (wVar 5) wpNone (wpSome (wVar 8))) (wTup (wCons (wVar 12) wNil))) (wSlice (wVar 5) (wpSome (wOp wAdd (wVar 8) (wC (.int 1)))) wpNone)) wNil)))))))))))))
theorem rd_zbehind (ws : List W) (G : Gp) (Q : QW) (E) (h : sp_zbehind ws G Q E) : t_zbehind { nx := fun _ G' => Q .non G', rt := Cl Q } (startW ["_law_house_here", "_law_words", "_law_net_here", "_law_works", "_law_store_here", "_law_hours", "_law_line", "_law_work_here", "_law_hour", "_law_k", "_law_size_here", "_law_worth", "_law_wants_here", "_law_word"] ws) G := by
 obtain ⟨x, d, rfl, H, hn, q⟩ := h
 show t_zbehind _ [some (x.w), some (.lst ((wordsD d).map tW)), none, none, none, none, none, none, none, none, none, none, none, none] G
 unfold t_zbehind
 k_upd
 have big : 1000 < sizeLine := by decide
 have few := H.few
 have net := H.net
 have nf := net.few
 obtain ⟨m, en⟩ : ∃ m, x.n = m + 1 := ⟨x.n - 1, by have := net.n1; omega⟩
 cases d with
 | lose k =>
  have hk : k ≤ 200 := hn k (by simp [Deed.nums])
  rw [show (wordsD (Deed.lose k)).map tW = [W.str (Str.ofString "lose"), tW (nC k)] by unfold wordsD; rw [e_lose]; rfl]
  k_upd
  refine intT hk ?_
  k_upd
  by_cases c : x.ls.length ≤ k
  ·have e : codeD x (.lose k) = 10 := if_pos c
   rw [e, if_neg (by decide)] at q
   rw [if_pos (decide_eq_true (by omega))]
   exact .inl q
  rw [if_neg (by rw [decide_eq_true_eq]; omega)]
  have e : codeD x (.lose k) = if k ∈ dueL x.n x.ls then 0 else 4 := if_neg c
  refine ⟨m, x.ls, by rw [en], by rw [← en]; exact net, .inl ?_⟩
  rw [← en]
  k_upd
  refine ⟨List.all_eq_true.mpr fun w hw => by obtain ⟨j, _, rfl⟩ := List.mem_map.mp hw; rfl, ?_⟩
  by_cases mk : k ∈ dueL x.n x.ls
  ·rw [e, if_pos mk, if_pos rfl] at q
   refine ite_no ?_ ?_
   ·intro z
    rw [Bool.not_eq_true'] at z
    exact absurd (List.any_eq_false.mp z (.int ((k : Nat) : Int)) (List.mem_map.mpr ⟨k, mk, rfl⟩)) (by simp)
   have c1 : cutW (linesW x.ls) none (some ((k : Nat) : Int)) = linesW (x.ls.take k) := cut_to _ _ (by omega)
   have c2 : cutW (linesW x.ls) (some (((k : Nat) : Int) + 1)) none = linesW (x.ls.drop (k + 1)) := cut_from _ _ (k := k + 1) (by omega)
   rw [c1, c2]
   have e3 : linesW (x.ls.take k) ++ linesW (x.ls.drop (k + 1)) = linesW (dropL x.ls k) := (List.map_append).symm
   rw [e3]
   have l3 : (linesW (x.ls.take k)).length + (linesW (x.ls.drop (k + 1))).length ≤ 12 := by unfold linesW; rw [List.length_map, List.length_map, List.length_take, List.length_drop]; omega
   exact ⟨by omega, by decide, by decide, .inl q⟩
  ·rw [e, if_neg mk, if_neg (by decide)] at q
   refine ite_yes ?_ (.inl q)
   rw [Bool.not_eq_true']
   refine List.any_eq_false.mpr fun w hw => ?_
   obtain ⟨j, hj, rfl⟩ := List.mem_map.mp hw
   simp
   intro e
   exact mk ((show j = k by omega) ▸ hj)
 | stop k =>
  have hk : k ≤ 200 := hn k (by simp [Deed.nums])
  rw [show (wordsD (Deed.stop k)).map tW = [W.str (Str.ofString "stop"), tW (nC k)] by unfold wordsD; rw [e_stop]; rfl]
  k_upd
  refine ite_no (show ¬ (decide (Str.ofString "stop" = Str.ofString "lose") = true) by decide) ?_
  refine intT hk ?_
  k_upd
  by_cases c : x.ks.length ≤ k
  ·have e : codeD x (.stop k) = 10 := if_pos c
   rw [e, if_neg (by decide)] at q
   rw [if_pos (decide_eq_true (by omega))]
   exact .inl q
  rw [if_neg (by rw [decide_eq_true_eq]; omega)]
  have e : codeD x (.stop k) = 0 := if_neg c
  rw [e, if_pos rfl] at q
  have c1 : cutW (x.ks.map fun k => workW k) none (some ((k : Nat) : Int)) = (x.ks.take k).map fun k => workW k := cut_to _ _ (by omega)
  have c2 : cutW (x.ks.map fun k => workW k) (some (((k : Nat) : Int) + 1)) none = (x.ks.drop (k + 1)).map fun k => workW k := cut_from _ _ (k := k + 1) (by omega)
  rw [c1, c2, ← List.map_append]
  exact ⟨by simp; omega, by decide, .inl q⟩
 | want h k z w =>
  have h1 : h ≤ 200 := hn h (by simp [Deed.nums])
  have h2 : k ≤ 200 := hn k (by simp [Deed.nums])
  have h3 : z ≤ 200 := hn z (by simp [Deed.nums])
  have h4 : w ≤ 200 := hn w (by simp [Deed.nums])
  rw [show (wordsD (Deed.want h k z w)).map tW = W.str (Str.ofString "want") :: [h, k, z, w].map fun n => tW (nC n) by unfold wordsD; rw [e_want]; rfl]
  k_upd
  refine ite_no (show ¬ (decide (Str.ofString "want" = Str.ofString "lose") = true) by decide) (ite_no (show ¬ (decide (Str.ofString "want" = Str.ofString "stop") = true) by decide) ?_)
  have cc : cutW [W.str (Str.ofString "want"), tW (nC h), tW (nC k), tW (nC z), tW (nC w)] (some 1) none = [h, k, z, w].map fun n => tW (nC n) := rfl
  rw [cc]
  refine ⟨by simp; omega, ?_⟩
  refine lcW_m (fun n : Nat => tW (nC n)) (fun n => nW n) _ _ ?_ ?_
  ·intro n hm P hP
   k_upd
   refine intT ?_ hP
   simp only [List.mem_cons, List.not_mem_nil, or_false] at hm
   rcases hm with rfl | rfl | rfl | rfl <;> assumption
  k_upd
  have no : ¬ WantOk x.hs h k z w → Cl Q (W.int 10) G := fun n => by
   have e : codeD x (.want h k z w) = 10 := if_neg n
   rw [e, if_neg (by decide)] at q
   exact .inl q
  by_cases c1 : x.hs.length ≤ h
  ·rw [if_pos (decide_eq_true (by omega))]
   exact no fun o => by have := o.1; omega
  rw [if_neg (by rw [decide_eq_true_eq]; omega)]
  have hh : h < x.hs.length := by omega
  have eg : x.hs.getD h [] = x.hs[h] := by simp [List.getD_eq_getElem?_getD, hh]
  have sm := (H.wants _ (List.getElem_mem hh)).1
  rw [atI_map' hh, isS_some]
  k_upd
  by_cases c2 : x.hs[h].length ≤ k
  ·rw [if_pos (decide_eq_true (by omega))]
   exact no fun o => by have := o.2.1; rw [eg] at this; omega
  rw [if_neg (by rw [decide_eq_true_eq]; omega)]
  have hk : k < x.hs[h].length := by omega
  by_cases c3 : 30 < z
  ·rw [if_pos (decide_eq_true (by omega))]
   exact no fun o => by have := o.2.2.1; omega
  rw [if_neg (by rw [decide_eq_true_eq]; omega)]
  by_cases c4 : 100 < w
  ·rw [if_pos (decide_eq_true (by omega))]
   exact no fun o => by have := o.2.2.2; omega
  rw [if_neg (by rw [decide_eq_true_eq]; omega)]
  have e : codeD x (.want h k z w) = 0 := if_pos ⟨hh, by rw [eg]; exact hk, by omega, by omega⟩
  rw [e, if_pos rfl] at q
  try rw [atI_map' hh, isS_some]
  k_upd
  rw [atI_map' hk, isS_some]
  k_upd
  have c1 : cutW (x.hs[h].map fun v => wantW v) none (some ((k : Nat) : Int)) = (x.hs[h].take k).map fun v => wantW v := cut_to _ _ (by omega)
  have c2 : cutW (x.hs[h].map fun v => wantW v) (some (((k : Nat) : Int) + 1)) none = (x.hs[h].drop (k + 1)).map fun v => wantW v := cut_from _ _ (k := k + 1) (by omega)
  have d1 : cutW (x.hs.map fun vs => wantsW vs) none (some ((h : Nat) : Int)) = (x.hs.take h).map fun vs => wantsW vs := cut_to _ _ (by omega)
  have d2 : cutW (x.hs.map fun vs => wantsW vs) (some (((h : Nat) : Int) + 1)) none = (x.hs.drop (h + 1)).map fun vs => wantsW vs := cut_from _ _ (k := h + 1) (by omega)
  rw [c1, c2, d1, d2]
  have e1 : (x.hs[h].take k).map (fun v => wantW v) ++ [W.tup [.int ((x.hs[h][k].1 : Nat) : Int), nW z, nW w]] ++ (x.hs[h].drop (k + 1)).map (fun v => wantW v) = (wantV x.hs[h] k z w).map fun v => wantW v := by
   unfold wantV
   rw [show x.hs[h].getD k (0, 0, 0) = x.hs[h][k] by simp [List.getD_eq_getElem?_getD, hk]]
   simp
  rw [e1]
  have e2 : (x.hs.take h).map (fun vs => wantsW vs) ++ [wantsW (wantV x.hs[h] k z w)] ++ (x.hs.drop (h + 1)).map (fun vs => wantsW vs) = (wantH x.hs h k z w).map fun vs => wantsW vs := by
   unfold wantH
   rw [eg]
   simp
  rw [e2]
  exact ⟨by decide, by decide, by simp; omega, by simp; omega, by decide, by simp; omega, by simp; omega, by decide, .inl q⟩
theorem House.after {x : Hz} {d : Deed} (H : x.H) (c : codeD x d = 0) : (x.after d).H := by
 cases d with
 | lose k =>
  have c : (if x.ls.length ≤ k then 10 else if k ∈ dueL x.n x.ls then 0 else 4) = (0 : Int) := c
  have hk : k ∈ dueL x.n x.ls := by
   split at c
   ·cases c
   ·split at c
    ·assumption
    ·cases c
  exact ⟨net_drop H.net hk, H.works, H.store, H.wants, H.few⟩
 | stop k =>
  refine ⟨H.net, fun y hy => H.works y ?_, H.store, H.wants, ?_⟩
  ·rcases List.mem_append.mp hy with h | h
   ·exact List.mem_of_mem_take h
   ·exact List.mem_of_mem_drop h
  ·have := H.few
   refine ⟨?_, this.2⟩
   show (x.ks.take k ++ x.ks.drop (k + 1)).length ≤ 3
   simp
   omega
 | want h k z w =>
  have c : (if h < x.hs.length ∧ k < (x.hs.getD h []).length ∧ z ≤ 30 ∧ w ≤ 100 then 0 else 10) = (0 : Int) := c
  have o : WantOk x.hs h k z w := by
   split at c
   ·assumption
   ·cases c
  obtain ⟨o1, o2, o3, o4⟩ := o
  have eg : x.hs.getD h [] = x.hs[h] := by simp [List.getD_eq_getElem?_getD, o1]
  rw [eg] at o2
  have W0 := H.wants _ (List.getElem_mem o1)
  refine ⟨H.net, H.works, H.store, fun vs hv => ?_, ?_⟩
  ·rcases List.mem_append.mp hv with hv | hv
   ·rcases List.mem_append.mp hv with hv | hv
    ·exact H.wants vs (List.mem_of_mem_take hv)
    ·rw [List.mem_singleton.mp hv, eg]
     refine ⟨?_, fun v hv => ?_⟩
     ·unfold wantV
      have := W0.1
      simp
      omega
     ·rcases List.mem_append.mp hv with hv | hv
      ·rcases List.mem_append.mp hv with hv | hv
       ·exact W0.2 v (List.mem_of_mem_take hv)
       ·rw [List.mem_singleton.mp hv, show x.hs[h].getD k (0, 0, 0) = x.hs[h][k] by simp [List.getD_eq_getElem?_getD, o2]]
        have w1 := W0.2 _ (List.getElem_mem o2)
        exact ⟨w1.1, o3, o4⟩
      ·exact W0.2 v (List.mem_of_mem_drop hv)
   ·exact H.wants vs (List.mem_of_mem_drop hv)
  ·have := H.few
   refine ⟨this.1, ?_⟩
   have e : (wantH x.hs h k z w).length = x.hs.length := by unfold wantH; simp; omega
   show 1 ≤ (wantH x.hs h k z w).length ∧ (wantH x.hs h k z w).length ≤ 3
   rw [e]
   exact this.2
theorem e_limits : Str.ofString "limits" = SX.S Row.limits.txt := by decide +kernel
theorem e_undo : Str.ofString "undo" = SX.S (Row.deed none).txt := by decide +kernel
theorem e_house : Str.ofString "house" = SX.S Row.house.txt := by decide +kernel
theorem words_len {d : Deed} (h : ∀ n ∈ d.nums, n ≤ 200) : (∀ p ∈ wordsD d, p.length ≤ 100) ∧ (wordsD d).length ≤ 10 := by
 have nb := Row.nb (.deed (some d))
 refine ⟨fun p hp => ?_, ?_⟩
 ·rcases List.mem_cons.mp hp with rfl | hp
  ·exact nb.2.1
  ·obtain ⟨n, hn, rfl⟩ := List.mem_map.mp hp
   have := (nums2 (h n hn)).l3
   omega
 ·unfold wordsD
  have : d.nums.length ≤ 9 := nb.2.2
  rw [List.length_cons, List.length_map]
  omega
noncomputable def sp_zrow : Spw := fun ws G Q E => ∃ (p b : Addr) (L : List Hz) (x : Hz) (way : Nat), ws = [.ref p, .ref b, .int ((way : Nat) : Int)] ∧ (BagAt p G) ∧ (G b = some (.lst ((L ++ [x]).map Hz.w))) ∧ (x.H) ∧ (L.length ≤ 800) ∧ (b ≠ p) ∧ ∀ (r : Row) G', (∀ n ∈ r.ns, n ≤ 200) → BagAt p G' → G' b = some (.lst (((ans L x r).2.1 ++ [(ans L x r).2.2]).map Hz.w)) → (∀ q, q ≠ p → q ≠ b → G' q = G q) → Q (.tup [tW r.txt, (ans L x r).1]) G'
theorem len_zrow (ws G Q E) (h : sp_zrow ws G Q E) : ws.length = 3 := by obtain ⟨_, _, _, _, _, rfl, _⟩ := h; rfl
noncomputable def t_zrow : TSw := (wSeq (wAsg (wOp wIx (wVar 1) (wNeg (wC (.int 1)))) (gN 3))
  (wSeq (wIfS (wTest (wOp wEq (wVar 2) (wC (.int 0)))) (wRet (wTup (wCons (wC (.str "limits")) (wCons (wCB wStrI (wCons (wCall sp_zlimits (wCons (wOp wIx (wVar 3) (wC (.int 0))) wNil)) wNil)) wNil)))) wNext)
  (wSeq (wIfS (wTest (wOp wLt (wVar 2) (wC (.int 3)))) (wSeq (wIfS (wTest (wOp wEq (wCB wLen (wCons (wVar 1) wNil)) (wC (.int 1)))) (wRet (wTup (wCons (wC (.str "undo")) (wCons (wC (.int 11)) wNil)))) wNext)
  (wSeq (wDrop (wBM0 wM_pop (wVar 1)))
  (wRet (wTup (wCons (wC (.str "undo")) (wCons (wC (.str "ok")) wNil)))))) wNext)
  (wSeq (wAsg (wCall sp_zdeed (wCons (wVar 0) (wCons (wVar 3) wNil))) (gN 4))
  (wSeq (wAsg (wCall sp_zbehind (wCons (wVar 3) (wCons (wVar 4) wNil))) (gN 5))
  (wSeq (wIfS (wTest (wUn (wIsi .int) (wVar 5))) (wRet (wTup (wCons (wTx wJoinT (wC (.str " ")) (wVar 4)) (wCons (wVar 5) wNil)))) wNext)
  (wSeq (wDrop (wBM wM_append (wVar 1) (wCons (wVar 5) wNil)))
  (wRet (wTup (wCons (wTx wJoinT (wC (.str " ")) (wVar 4)) (wCons (wC (.str "ok")) wNil)))))))))))
theorem rd_zrow (ws : List W) (G : Gp) (Q : QW) (E) (h : sp_zrow ws G Q E) : t_zrow { nx := fun _ G' => Q .non G', rt := Cl Q } (startW ["_law_bag_here", "_law_houses", "_law_way", "_law_house_here", "_law_words", "_law_behind_here"] ws) G := by
 obtain ⟨p, b, L, x, way, rfl, bag, hb, H, few, bp, q⟩ := h
 show t_zrow _ [some (.ref p), some (.ref b), some (.int ((way : Nat) : Int)), none, none, none] G
 unfold t_zrow
 k_upd
 have big : 16000000 < sizeLine := by rw [sizeLine_eq]; omega
 rw [asL_at hb, isS_some, atI_lastD (show ((L ++ [x]).map Hz.w).getLast? = some x.w by simp), isS_some]
 k_upd
 by_cases c0 : way = 0
 ·rw [if_pos (decide_eq_true (by omega))]
  k_upd
  refine ⟨x.n, x.ls, rfl, H.net, ?_⟩
  have ln := lims_len2 H.net
  refine strN (by omega) ⟨by decide, .inl ?_⟩
  rw [e_limits]
  exact q .limits G (by simp [Row.ns]) bag hb fun _ _ _ => rfl
 rw [if_neg (by rw [decide_eq_true_eq]; omega)]
 by_cases c3 : way < 3
 ·rw [if_pos (decide_eq_true (by omega))]
  k_upd
  rw [e_undo]
  have lm : ((L ++ [x]).map Hz.w).length = L.length + 1 := by rw [List.length_map, List.length_append]; rfl
  by_cases l0 : L = []
  ·subst l0
   rw [if_pos (decide_eq_true (by simp))]
   exact ⟨by decide, .inl (q (.deed none) G (by simp [Row.ns, numsU]) bag hb fun _ _ _ => rfl)⟩
  ·have lp : 0 < L.length := List.length_pos_iff.mpr l0
   rw [if_neg (by rw [decide_eq_true_eq, List.length_append, List.length_singleton]; omega)]
   rw [isG_at hb, List.getElem?_eq_getElem (show ((L ++ [x]).map Hz.w).length - 1 < ((L ++ [x]).map Hz.w).length by omega), isS_some]
   refine ⟨by decide, .inl ?_⟩
   have dl : ((L ++ [x]).map Hz.w).dropLast = L.map Hz.w := by rw [List.map_append]; simp
   rw [dl]
   cases L with
   | nil => exact absurd rfl l0
   | cons y l =>
    refine q (.deed none) _ (by simp [Row.ns, numsU]) (bag.up (Ne.symm bp)) ?_ fun q' _ h2 => gup_ne h2
    rw [gup_same]
    show _ = some (GO.lst (((y :: l).dropLast ++ [(y :: l).getLast (by simp)]).map Hz.w))
    rw [List.dropLast_concat_getLast]
 rw [if_neg (by rw [decide_eq_true_eq]; omega)]
 refine ⟨p, x, rfl, bag, H, fun d G1 hn u => ?_⟩
 k_upd
 refine ⟨x, d, rfl, H, hn, ?_⟩
 dsimp only
 obtain ⟨w1, w2⟩ := words_len hn
 have hb1 : G1 b = some (.lst ((L ++ [x]).map Hz.w)) := by rw [u.ne bp]; exact hb
 by_cases c : codeD x d = 0
 ·rw [if_pos c]
  k_upd
  refine ⟨by rw [asL_at hb1]; rfl, ?_⟩
  rw [isG_at hb1]
  refine ⟨by simp; omega, ?_⟩
  rw [a_wTx]
  k_upd
  rw [isTx_str, e_sp]
  k_upd
  refine joinT (b := 100) (ps := wordsD d) rfl w1 (by omega) ⟨by decide, .inl ?_⟩
  have q := q (.deed (some d)) (gup G1 b (.lst ((L ++ [x]).map Hz.w ++ [(x.after d).w]))) hn (u.at.up (Ne.symm bp)) (by rw [ans_ok c, gup_same]; simp) fun r h1 h2 => by rw [gup_ne h2]; exact u.ne h1
  rw [ans_ok c] at q
  exact q
 ·rw [if_neg c]
  k_upd
  rw [a_wTx]
  k_upd
  rw [isTx_str, e_sp]
  k_upd
  refine joinT (b := 100) (ps := wordsD d) rfl w1 (by omega) ⟨by decide, .inl ?_⟩
  have q := q (.deed (some d)) G1 hn u.at (by rw [ans_no c]; exact hb1) fun r h1 _ => u.ne h1
  rw [ans_no c] at q
  exact q
local macro_rules | `(tactic| k_upd) => `(tactic| walk_at "Wfff77002500206bd6bd6bd63000bd6bd6bd6bffffff08dffe7c70008a10")
noncomputable def upi {α : Type} (f : Nat → α) (i : Nat) (x : α) : Nat → α := fun j => if j = i then x else f j
theorem upi_same {α : Type} {f : Nat → α} {i : Nat} {x : α} : upi f i x i = x := if_pos rfl
theorem upi_ne {α : Type} {f : Nat → α} {i j : Nat} {x : α} (h : j ≠ i) : upi f i x j = f j := if_neg h
theorem lst_ne {G : Gp} {p q : Addr} {n : Str} {fs : List (Str × W)} {ws : List W} (h : G p = some (.ins n fs)) (h2 : G q = some (.lst ws)) : p ≠ q := fun z => by rw [z, h2] at h; cases h
structure St (G : Gp) (P A B F : Nat → Addr) (L : Nat → List Hz) (X : Nat → Hz) (n k : Nat) : Prop where
 desk : ∀ i, i < n → DeskAt G (P i) (A i) (F i) ((L i ++ [X i]).map Hz.w)
 kept : ∀ i, i < n → G (B i) = some (.lst ((L i ++ [X i]).map Hz.w))
 H : ∀ i, i < n → (X i).H ∧ ∀ y ∈ L i, y.H
 len : ∀ i, i < n → (L i).length ≤ k
 PP : ∀ i j, i < n → j < n → i ≠ j → P i ≠ P j
 AA : ∀ i j, i < n → j < n → i ≠ j → A i ≠ A j
 BB : ∀ i j, i < n → j < n → i ≠ j → B i ≠ B j
 AB : ∀ i j, i < n → j < n → A i ≠ B j
section
variable {G : Gp} {P A B F : Nat → Addr} {L : Nat → List Hz} {X : Nat → Hz} {n k : Nat}
theorem St.keep {G' : Gp} (S : St G P A B F L X n k) (fr : ∀ i, i < n → G' (P i) = G (P i) ∧ G' (A i) = G (A i) ∧ G' (B i) = G (B i)) : St G' P A B F L X n k :=
 { S with
  desk := fun i h => ⟨by rw [(fr i h).1]; exact (S.desk i h).ins, by rw [(fr i h).2.1]; exact (S.desk i h).hs, (S.desk i h).pa⟩
  kept := fun i h => by rw [(fr i h).2.2]; exact S.kept i h }
theorem St.PA (S : St G P A B F L X n k) {i j : Nat} (h : i < n) (h2 : j < n) : P i ≠ A j := lst_ne (S.desk i h).ins (S.desk j h2).hs
theorem St.PB (S : St G P A B F L X n k) {i j : Nat} (h : i < n) (h2 : j < n) : P i ≠ B j := lst_ne (S.desk i h).ins (S.kept j h2)
theorem St.step (S : St G P A B F L X n k) {i bp f2 k2 : Nat} {L2 : List Hz} {x2 : Hz} {G1 G2 : Gp} (hi : i < n) (bP : ∀ j, j < n → P j ≠ bp) (bA : ∀ j, j < n → A j ≠ bp) (bB : ∀ j, j < n → B j ≠ bp)
  (hb : G1 (B i) = some (.lst ((L2 ++ [x2]).map Hz.w))) (fr1 : ∀ q, q ≠ bp → q ≠ B i → G1 q = G q) (dk : DeskAt G2 (P i) (A i) f2 ((L2 ++ [x2]).map Hz.w)) (fr2 : ∀ r, G1 r ≠ none → r ≠ P i → r ≠ A i → G2 r = G1 r)
  (hH : x2.H ∧ ∀ y ∈ L2, y.H) (l2 : L2.length ≤ k2) (kk : k ≤ k2) : St G2 P A B (upi F i f2) (upi L i L2) (upi X i x2) n k2 := by
 have g1P : ∀ j, j < n → G1 (P j) = G (P j) := fun j hj => fr1 _ (bP j hj) (S.PB hj hi)
 have g1A : ∀ j, j < n → G1 (A j) = G (A j) := fun j hj => fr1 _ (bA j hj) (S.AB j i hj hi)
 have sP : ∀ j, j < n → j ≠ i → G2 (P j) = G (P j) := fun j hj ne => by
  rw [fr2 _ (by rw [g1P j hj, (S.desk j hj).ins]; simp) (S.PP j i hj hi ne) (S.PA hj hi)]; exact g1P j hj
 have sA : ∀ j, j < n → j ≠ i → G2 (A j) = G (A j) := fun j hj ne => by
  rw [fr2 _ (by rw [g1A j hj, (S.desk j hj).hs]; simp) (Ne.symm (S.PA hi hj)) (S.AA j i hj hi ne)]; exact g1A j hj
 have sB : ∀ j, j < n → j ≠ i → G2 (B j) = G (B j) := fun j hj ne => by
  have e := fr1 (B j) (bB j hj) (S.BB j i hj hi ne)
  rw [fr2 _ (by rw [e, S.kept j hj]; simp) (Ne.symm (S.PB hi hj)) (Ne.symm (S.AB i j hi hj))]; exact e
 refine ⟨fun j hj => ?_, fun j hj => ?_, fun j hj => ?_, fun j hj => ?_, S.PP, S.AA, S.BB, S.AB⟩
 ·by_cases e : j = i
  ·subst e; rw [upi_same, upi_same, upi_same]; exact dk
  ·rw [upi_ne e, upi_ne e, upi_ne e]
   exact ⟨by rw [sP j hj e]; exact (S.desk j hj).ins, by rw [sA j hj e]; exact (S.desk j hj).hs, (S.desk j hj).pa⟩
 ·by_cases e : j = i
  ·subst e; rw [upi_same, upi_same, fr2 _ (by rw [hb]; simp) (Ne.symm (S.PB hj hj)) (Ne.symm (S.AB j j hj hj))]; exact hb
  ·rw [upi_ne e, upi_ne e, sB j hj e]; exact S.kept j hj
 ·by_cases e : j = i
  ·subst e; rw [upi_same, upi_same]; exact hH
  ·rw [upi_ne e, upi_ne e]; exact S.H j hj
 ·by_cases e : j = i
  ·subst e; rw [upi_same]; exact l2
  ·rw [upi_ne e]; exact Nat.le_trans (S.len j hj) kk
end
theorem ans_H {L : List Hz} {x : Hz} {r : Row} (hx : x.H) (hL : ∀ y ∈ L, y.H) : (ans L x r).2.2.H ∧ (∀ y ∈ (ans L x r).2.1, y.H) ∧ (ans L x r).2.1.length ≤ L.length + 1 := by
 cases r with
 | deed u => cases u with
  | some d =>
   by_cases c : codeD x d = 0
   ·rw [ans_ok c]
    refine ⟨House.after hx c, fun y hy => ?_, by simp⟩
    rcases List.mem_append.mp hy with h | h
    ·exact hL y h
    ·rw [List.mem_singleton.mp h]; exact hx
   ·rw [ans_no c]
    exact ⟨hx, hL, Nat.le_succ _⟩
  | none => cases L with
   | nil => exact ⟨hx, fun y (hy : y ∈ ([] : List Hz)) => (by cases hy), Nat.zero_le _⟩
   | cons y l =>
    refine ⟨hL _ (List.getLast_mem (by simp)), fun z hz => hL z ((List.dropLast_subset _) hz), ?_⟩
    show (y :: l).dropLast.length ≤ _
    simp
    omega
 | house => exact ⟨hx, hL, Nat.le_succ _⟩
 | limits => exact ⟨hx, hL, Nat.le_succ _⟩
theorem ans_v {L : List Hz} {x : Hz} {r : Row} : (∃ z, (ans L x r).1 = .str z) ∨ ∃ j, (ans L x r).1 = .int j := by
 cases r with
 | deed u => cases u with
  | some d =>
   by_cases c : codeD x d = 0
   ·rw [ans_ok c]; exact .inl ⟨_, rfl⟩
   ·rw [ans_no c]; exact .inr ⟨_, rfl⟩
  | none => cases L with
   | nil => exact .inr ⟨_, rfl⟩
   | cons y l => exact .inl ⟨_, rfl⟩
 | house => exact .inl ⟨_, rfl⟩
 | limits => exact .inl ⟨_, rfl⟩
theorem ne_same {v : W} (h : (∃ z, v = .str z) ∨ ∃ j, v = .int j) {G : Gp} {Q : QW} (q : Q (.bl false) G) : wNe v v G Q := by
 rcases h with ⟨z, rfl⟩ | ⟨z, rfl⟩
 ·k_upd
  exact q
 ·k_upd
  exact q
noncomputable def t_law_b1 : TSw := (wSeq (wAsg (wCall sp_zhouse (wCons (wCall sp_zbag (wCons (wVar 0) (wCons (wVar 3) wNil))) wNil)) (gN 4))
  (wSeq (wDrop (wBM wM_append (wVar 1) (wCons (wLstM (wCons (wVar 4) wNil)) wNil)))
  (wDrop (wBM wM_append (wVar 2) (wCons (wMake "Desk" sp_Desk___init__ (wCons (wCall sp_ztext (wCons (wVar 4) wNil)) wNil)) wNil)))))
noncomputable def t_law_b2 : TSw := (wIfS (wTest (wOp wNe (wCall sp_zsaid (wCons (wVar 12) (wCons (wC (.str "house")) wNil))) (wTx wJoinT (wC (.str ";")) (wTx wSplitT (wCall sp_ztext (wCons (wOp wIx (wVar 13) (wNeg (wC (.int 1)))) wNil)) (wC (.str "\n")))))) (wRet (wC (.bl false))) wNext)
noncomputable def t_law_r1 : TSw := (wSeq (wAsg (wCall sp_zrow (wCons (wVar 5) (wCons (wOp wIx (wVar 1) (wVar 8)) (wCons (wVar 9) wNil)))) (gT 2 (gsC (gN 10) (gsC (gN 11) gsN))))
  (wSeq (wIfS (wTest (wOp wNe (wCall sp_zsaid (wCons (wOp wIx (wVar 2) (wVar 8)) (wCons (wVar 10) wNil))) (wVar 11))) (wRet (wC (.bl false))) wNext)
  (wFor [true, false, false, true, true, false, false, true, true, true, true, true, true, true] (i_zipG2 (wCons (wVar 2) (wCons (wVar 1) wNil))) (gT 2 (gsC (gN 12) (gsC (gN 13) gsN))) t_law_b2)))
noncomputable def t_law_b3 : TSw := (wSeq (wAsg (wCall sp_ztake (wCons (wVar 5) (wCons (wC (.int 2)) wNil))) (gN 8))
  (wSeq (wAsg (wCall sp_ztake (wCons (wVar 5) (wCons (wC (.int 8)) wNil))) (gN 9))
  (wSeq (wIfS (wTest (wVar 6)) (wSeq (wAsg (wCB wInt (wCons (wOp wEq (wOp wMod (wVar 7) (wC (.int 9))) (wC (.int 7))) wNil)) (gN 8))
  (wAsg (wOp wIx (wLst (wCons (wC (.int 3)) (wCons (wC (.int 1)) wNil))) (wCB wInt (wCons (wOp wGt (wVar 7) (wC (.int 13))) wNil))) (gN 9))) wNext)
  t_law_r1)))
noncomputable def t_law_r2 : TSw := (wSeq (wFz 2 (wFz 1 (wAsg (wCall sp_zbag (wCons (wVar 0) (wCons (wC (.int 2)) wNil))) (gN 5))))
  (wSeq (wAsg (wOp wEq (wCall sp_ztake (wCons (wVar 5) (wCons (wC (.int 8)) wNil))) (wC (.int 0))) (gN 6))
  (wSeq (wFor [true, false, false, true, true, false, false, true, true, true, true, true, true, true] (iR1 (wCons (wOp wIx (wLst (wCons (wOp wAdd (wC (.int 4)) (wCall sp_ztake (wCons (wVar 5) (wCons (wC (.int 9)) wNil)))) (wCons (wC (.int 26)) wNil))) (wCB wInt (wCons (wVar 6) wNil))) wNil)) (gN 7) t_law_b3)
  (wRet (wC (.bl true))))))
noncomputable def t_law : TSw := (wSeq (wAsg (wLstM wNil) (gN 1))
  (wSeq (wAsg (wLstM wNil) (gN 2))
  (wSeq (wFor [false, false, false, true, true, true, true, true, true, true, true, true, true, true] (iR1 (wCons (wC (.int 2)) wNil)) (gN 3) t_law_b1)
  t_law_r2)))
theorem rd_law (ws : List W) (G : Gp) (Q : QW) (E) (h : sp_law ws G Q E) : t_law { nx := fun _ G' => Q .non G', rt := Cl Q } (startW ["_law_script", "_law_kept", "_law_desks", "_law_k", "_law_house_here", "_law_bag_here", "_law_deep", "_law_turn", "_law_at", "_law_way", "_law_row_here", "_law_due", "_law_desk", "_law_houses"] ws) G := by
 obtain ⟨ns, rfl, hl, q⟩ := h
 show t_law _ [some (.scr (ns.map W.int)), none, none, none, none, none, none, none, none, none, none, none, none, none] G
 unfold t_law
 k_upd
 have big : 1000 < sizeLine := by decide
 refine ⟨by decide, fun kk hkk => ⟨by decide, fun dd hdd => ⟨by decide, by decide, ?_⟩⟩⟩
 have kd : dd ≠ kk := fun z => by rw [z, gup_same] at hdd; cases hdd
 have hdd0 : G dd = none := by rw [gup_ne kd] at hdd; exact hdd
 refine forW_range (fun k σ G1 => (k ≤ 2 ∧ ∃ P A B F X, St G1 P A B F (fun _ => []) X k 0 ∧ G1 kk = some (.lst ((List.range k).map fun i => W.ref (B i))) ∧ G1 dd = some (.lst ((List.range k).map fun i => W.ref (P i))) ∧ (∀ i, i < k → A i ≠ kk ∧ A i ≠ dd ∧ B i ≠ kk ∧ B i ≠ dd)) ∧ σ = [some (.scr (ns.map W.int)), some (.ref kk), some (.ref dd), none, none, none, none, none, none, none, none, none, none, none]) ⟨⟨by decide, fun _ => 0, fun _ => 0, fun _ => 0, fun _ => 0, fun _ => ⟨0, [], [], none, []⟩, ⟨by simp, by simp, by simp, by simp, by simp, by simp, by simp, by simp⟩, by rw [gup_ne (Ne.symm kd), gup_same]; rfl, by rw [gup_same]; rfl, by simp⟩, rfl⟩ ?_ ?_
 ·rintro k hk σ G1 N ⟨⟨hk2, P, A, B, F, X, S, gk, gd, ne⟩, rfl⟩ hN
  unfold t_law_b1
  k_upd
  rw [Int.zero_add]
  refine bag_up hl (by omega) (by omega) fun p0 G2 hp0 b2 o2 => ?_
  refine ⟨p0, rfl, b2, fun n ls ks s hs G3 HH u3 => ?_⟩
  have k0 : kk ≠ p0 := fun z => by rw [z, hp0] at gk; cases gk
  have d0 : dd ≠ p0 := fun z => by rw [z, hp0] at gd; cases gd
  have g3 : ∀ q, q ≠ p0 → G3 q = G1 q := fun q h => by rw [u3.ne h, o2 q h]
  have g3k := (g3 kk k0).trans gk
  have g3d := (g3 dd d0).trans gd
  k_upd
  refine ⟨by rw [asL_at g3k]; rfl, by decide, fun b hb => ?_⟩
  have bk : b ≠ kk := fun z => by rw [z, g3k] at hb; cases hb
  have bd : b ≠ dd := fun z => by rw [z, g3d] at hb; cases hb
  rw [gup_ne (Ne.symm bk), isG_at g3k]
  refine ⟨by simp; omega, ?_⟩
  generalize hG4 : gup (gup G3 b (.lst [houseW n ls ks s hs])) kk (.lst ((List.range k).map (fun i => W.ref (B i)) ++ [.ref b])) = G4
  have g4 : ∀ q, q ≠ b → q ≠ kk → G4 q = G3 q := fun q h1 h2 => by rw [← hG4, gup_ne h2, gup_ne h1]
  have g4k : G4 kk = some (.lst ((List.range k).map (fun i => W.ref (B i)) ++ [.ref b])) := by rw [← hG4, gup_same]
  have g4b : G4 b = some (.lst [houseW n ls ks s hs]) := by rw [← hG4, gup_ne bk, gup_same]
  have g4d := (g4 dd (Ne.symm bd) kd).trans g3d
  refine ⟨by rw [asL_at g4d]; rfl, n, ls, ks, s, hs, rfl, HH, fun p hp => ?_⟩
  refine ⟨p, n, ls, ks, s, hs, rfl, gup_same, HH, fun a f G5 dk ha hf fr => ⟨rfl, ?_⟩⟩
  have nz : ∀ q, G4 q ≠ none → q ≠ p ∧ q ≠ a ∧ q ≠ f := fun q h => by
   have h1 : q ≠ p := fun z => h (by rw [z]; exact hp)
   exact ⟨h1, fun z => h (by rw [← gup_ne (G := G4) (o := .ins "Desk" []) h1, z]; exact ha), fun z => h (by rw [← gup_ne (G := G4) (o := .ins "Desk" []) h1, z]; exact hf)⟩
  have g5 : ∀ q, G4 q ≠ none → G5 q = G4 q := fun q h => by
   obtain ⟨h1, h2, h3⟩ := nz q h
   rw [fr q h1 h2 h3, gup_ne h1]
  have g5d := (g5 dd (by rw [g4d]; simp)).trans g4d
  have g5k := (g5 kk (by rw [g4k]; simp)).trans g4k
  have g5b := (g5 b (by rw [g4b]; simp)).trans g4b
  rw [isG_at g5d]
  refine ⟨by simp; omega, ?_⟩
  have old : ∀ q, G1 q ≠ none → q ≠ kk → q ≠ dd → q ≠ b ∧ q ≠ p ∧ q ≠ a ∧ gup G5 dd (.lst ((List.range k).map (fun i => W.ref (P i)) ++ [.ref p])) q = G1 q := fun q h h1 h2 => by
   have q0 : q ≠ p0 := fun z => h (by rw [z]; exact hp0)
   have e3 := g3 q q0
   have qb : q ≠ b := fun z => h (by rw [← e3, z]; exact hb)
   have e4 := g4 q qb h1
   have n4 : G4 q ≠ none := by rw [e4, e3]; exact h
   obtain ⟨h3, h4, _⟩ := nz q n4
   exact ⟨qb, h3, h4, by rw [gup_ne h2, g5 q n4, e4, e3]⟩
  have pd : p ≠ dd := fun z => by rw [z, g4d] at hp; cases hp
  have pk : p ≠ kk := fun z => by rw [z, g4k] at hp; cases hp
  have ad : a ≠ dd := fun z => (nz dd (by rw [g4d]; simp)).2.1 z.symm
  have ak : a ≠ kk := fun z => (nz kk (by rw [g4k]; simp)).2.1 z.symm
  have ab : a ≠ b := fun z => (nz b (by rw [g4b]; simp)).2.1 z.symm
  have oP : ∀ i, i < k → _ := fun i hi => old (P i) (by rw [(S.desk i hi).ins]; simp) (lst_ne (S.desk i hi).ins gk) (lst_ne (S.desk i hi).ins gd)
  have oA : ∀ i, i < k → _ := fun i hi => old (A i) (by rw [(S.desk i hi).hs]; simp) (ne i hi).1 (ne i hi).2.1
  have oB : ∀ i, i < k → _ := fun i hi => old (B i) (by rw [S.kept i hi]; simp) (ne i hi).2.2.1 (ne i hi).2.2.2
  have lt : ∀ {i}, i < k + 1 → i ≠ k → i < k := fun h e => by omega
  have rg : ∀ (f : Nat → Addr) (z : Addr), (List.range (k + 1)).map (fun i => W.ref (upi f k z i)) = (List.range k).map (fun i => W.ref (f i)) ++ [.ref z] := fun f z => by
   rw [List.range_succ, List.map_append, List.map_cons, List.map_nil, upi_same]
   congr 1
   refine List.map_congr_left fun i hi => ?_
   rw [upi_ne (by have := List.mem_range.mp hi; omega)]
  refine hN _ _ ⟨⟨by omega, upi P k p, upi A k a, upi B k b, upi F k f, upi X k ⟨n, ls, ks, s, hs⟩, ⟨fun i hi => ?_, fun i hi => ?_, fun i hi => ?_, fun i hi => by simp, fun i j hi hj e => ?_, fun i j hi hj e => ?_, fun i j hi hj e => ?_, fun i j hi hj => ?_⟩, ?_, ?_, fun i hi => ?_⟩, rfl⟩
  ·by_cases e : i = k
   ·subst e
    rw [upi_same, upi_same, upi_same, upi_same]
    exact ⟨by rw [gup_ne pd]; exact dk.ins, by rw [gup_ne ad]; exact dk.hs, dk.pa⟩
   ·rw [upi_ne e, upi_ne e, upi_ne e, upi_ne e]
    have hi := lt hi e
    exact ⟨by rw [(oP i hi).2.2.2]; exact (S.desk i hi).ins, by rw [(oA i hi).2.2.2]; exact (S.desk i hi).hs, (S.desk i hi).pa⟩
  ·by_cases e : i = k
   ·subst e
    rw [upi_same, upi_same, gup_ne bd]
    exact g5b
   ·rw [upi_ne e, upi_ne e, (oB i (lt hi e)).2.2.2]
    exact S.kept i (lt hi e)
  ·by_cases e : i = k
   ·subst e
    rw [upi_same]
    exact ⟨HH, by simp⟩
   ·rw [upi_ne e]
    exact S.H i (lt hi e)
  ·by_cases e1 : i = k
   ·subst e1
    have e2 : j ≠ i := Ne.symm e
    rw [upi_same, upi_ne e2]
    exact Ne.symm (oP j (lt hj e2)).2.1
   ·rw [upi_ne e1]
    by_cases e2 : j = k
    ·subst e2; rw [upi_same]; exact (oP i (lt hi e1)).2.1
    ·rw [upi_ne e2]; exact S.PP i j (lt hi e1) (lt hj e2) e
  ·by_cases e1 : i = k
   ·subst e1
    have e2 : j ≠ i := Ne.symm e
    rw [upi_same, upi_ne e2]
    exact Ne.symm (oA j (lt hj e2)).2.2.1
   ·rw [upi_ne e1]
    by_cases e2 : j = k
    ·subst e2; rw [upi_same]; exact (oA i (lt hi e1)).2.2.1
    ·rw [upi_ne e2]; exact S.AA i j (lt hi e1) (lt hj e2) e
  ·by_cases e1 : i = k
   ·subst e1
    have e2 : j ≠ i := Ne.symm e
    rw [upi_same, upi_ne e2]
    exact Ne.symm (oB j (lt hj e2)).1
   ·rw [upi_ne e1]
    by_cases e2 : j = k
    ·subst e2; rw [upi_same]; exact (oB i (lt hi e1)).1
    ·rw [upi_ne e2]; exact S.BB i j (lt hi e1) (lt hj e2) e
  ·by_cases e1 : i = k
   ·subst e1
    rw [upi_same]
    by_cases e2 : j = i
    ·rw [e2, upi_same]; exact ab
    ·rw [upi_ne e2]; exact Ne.symm (oB j (lt hj e2)).2.2.1
   ·rw [upi_ne e1]
    by_cases e2 : j = k
    ·subst e2; rw [upi_same]; exact (oA i (lt hi e1)).1
    ·rw [upi_ne e2]; exact S.AB i j (lt hi e1) (lt hj e2)
  ·rw [gup_ne (Ne.symm kd), g5k, rg]
  ·rw [gup_same, rg]
  ·by_cases e : i = k
   ·subst e
    rw [upi_same, upi_same]
    exact ⟨ak, ad, bk, bd⟩
   ·rw [upi_ne e, upi_ne e]
    exact ne i (lt hi e)
 ·rintro σ G1 ⟨⟨_, P, A, B, F, X, S, gk, gd, ne⟩, rfl⟩
  unfold t_law_r2
  k_upd
  have n2 : Int.toNat 2 = 2 := rfl
  rw [n2] at S gk gd ne
  rw [isG_at gd, isG_at (show gdel G1 dd kk = _ by rw [gdel_ne (Ne.symm kd)]; exact gk)]
  have fz : ∀ q, q ≠ kk → q ≠ dd → gdel (gdel G1 dd) kk q = G1 q := fun q h1 h2 => by rw [gdel_ne h1, gdel_ne h2]
  have S2 : St (gdel (gdel G1 dd) kk) P A B F (fun _ => []) X 2 0 := S.keep fun i hi => ⟨fz _ (lst_ne (S.desk i hi).ins gk) (lst_ne (S.desk i hi).ins gd), fz _ (ne i hi).1 (ne i hi).2.1, fz _ (ne i hi).2.2.1 (ne i hi).2.2.2⟩
  generalize gdel (gdel G1 dd) kk = G2 at S2 ⊢
  refine bag_up hl (by decide) (by decide) fun bp G3 hbp b3 o3 => ?_
  have bP : ∀ j, j < 2 → P j ≠ bp := fun j hj z => by have := (S2.desk j hj).ins; rw [z, hbp] at this; cases this
  have bA : ∀ j, j < 2 → A j ≠ bp := fun j hj z => by have := (S2.desk j hj).hs; rw [z, hbp] at this; cases this
  have bB : ∀ j, j < 2 → B j ≠ bp := fun j hj z => by have := S2.kept j hj; rw [z, hbp] at this; cases this
  have S3 : St G3 P A B F (fun _ => []) X 2 0 := S2.keep fun i hi => ⟨o3 _ (bP i hi), o3 _ (bA i hi), o3 _ (bB i hi)⟩
  refine take_up b3 (by decide) fun d8 G4 hd8 u4 => ?_
  k_upd
  generalize decide (((d8 : Nat) : Int) = 0) = deep
  refine take_up u4.at (by decide) fun d9 G5 hd9 u5 => ?_
  k_upd
  have u45 := u4.trans u5
  have S5 : St G5 P A B F (fun _ => []) X 2 0 := S3.keep fun i hi => ⟨u45.ne (bP i hi), u45.ne (bA i hi), u45.ne (bB i hi)⟩
  obtain ⟨T, hT, eT⟩ : ∃ T : Nat, T ≤ 26 ∧ L2.atI [W.int (4 + ((d9 : Nat) : Int)), W.int 26] (if deep = true then 1 else 0) = some (.int ((T : Nat) : Int)) := by
   cases deep with
   | true => exact ⟨26, by omega, rfl⟩
   | false => exact ⟨4 + d9, by omega, by show some (W.int (4 + ((d9 : Nat) : Int))) = _; rw [show (4 : Int) + ((d9 : Nat) : Int) = ((4 + d9 : Nat) : Int) by push_cast; rfl]⟩
  refine ⟨by decide, ?_⟩
  rw [eT, isS_some]
  k_upd
  refine ⟨by omega, by omega, ?_⟩
  rw [show ((T : Nat) : Int).toNat = T by omega]
  have rr : ∀ f : Nat → Addr, (List.range 2).map (fun i => W.ref (f i)) = [W.ref (f 0), W.ref (f 1)] := fun f => rfl
  have atR : ∀ (f : Nat → Addr) (i : Nat), i < 2 → L2.atI ((List.range 2).map fun i => W.ref (f i)) ((i : Nat) : Int) = some (.ref (f i)) := fun f i hi => by
   rcases (show i = 0 ∨ i = 1 by omega) with rfl | rfl <;> rfl
  refine forW_range (fun k σ G6 => (∃ F L X, St G6 P A B F L X 2 k ∧ BagAt bp G6) ∧ σ = [none, some (.lst ((List.range 2).map fun i => W.ref (B i))), some (.lst ((List.range 2).map fun i => W.ref (P i))), none, none, some (.ref bp), some (.bl deep), none, none, none, none, none, none, none]) ⟨⟨F, _, X, S5, u5.at⟩, rfl⟩ ?_ ?_
  ·rintro k hk σ G6 N ⟨⟨F, L, X, S6, bg6⟩, rfl⟩ hN
   have r1 : ∀ (i way : Nat) (G7 : Gp) (D : EndsW), i < 2 → BagUp bp G6 G7 → D.nx = N →
     t_law_r1 D [none, some (.lst ((List.range 2).map fun i => W.ref (B i))), some (.lst ((List.range 2).map fun i => W.ref (P i))), none, none, some (.ref bp), some (.bl deep), some (.int (0 + (k : Int))), some (.int ((i : Nat) : Int)), some (.int ((way : Nat) : Int)), none, none, none, none] G7 := by
    intro i way G7 D hi u7 hD
    have S7 : St G7 P A B F L X 2 k := S6.keep fun i hi => ⟨u7.ne (bP i hi), u7.ne (bA i hi), u7.ne (bB i hi)⟩
    unfold t_law_r1
    k_upd
    rw [atR B i hi, isS_some]
    have l8 : (L i).length ≤ 800 := by have := S7.len i hi; omega
    refine ⟨bp, B i, L i, X i, way, rfl, u7.at, S7.kept i hi, (S7.H i hi).1, l8, bB i hi, fun r G8 hn b8 hb8 fr8 => ?_⟩
    k_upd
    rw [atR P i hi, isS_some]
    have dk8 : DeskAt G8 (P i) (A i) (F i) ((L i ++ [X i]).map Hz.w) := ⟨by rw [fr8 _ (bP i hi) (S7.PB hi hi)]; exact (S7.desk i hi).ins, by rw [fr8 _ (bA i hi) (S7.AB i i hi hi)]; exact (S7.desk i hi).hs, (S7.desk i hi).pa⟩
    refine ⟨P i, A i, F i, L i, X i, r, rfl, dk8, (S7.H i hi).1, l8, hn, fun G9 f2 dk9 fr9 => ?_⟩
    obtain ⟨aH1, aH2, aL⟩ := ans_H (r := r) (S7.H i hi).1 (S7.H i hi).2
    have li := S7.len i hi
    have S9 : St G9 P A B (upi F i f2) (upi L i (ans (L i) (X i) r).2.1) (upi X i (ans (L i) (X i) r).2.2) 2 (k + 1) := S7.step hi bP bA bB hb8 fr8 dk9 fr9 ⟨aH1, aH2⟩ (by omega) (Nat.le_succ k)
    have b9 : BagAt bp G9 := by
     obtain ⟨c, y, g, r'⟩ := b8
     exact ⟨c, y, by rw [fr9 bp (by rw [g]; simp) (Ne.symm (bP i hi)) (Ne.symm (bA i hi))]; exact g, r'⟩
    try dsimp only
    refine ne_same ans_v ?_
    k_upd
    generalize upi F i f2 = F9 at S9
    generalize upi L i (ans (L i) (X i) r).2.1 = L9 at S9
    generalize upi X i (ans (L i) (X i) r).2.2 = X9 at S9
    have b2 : ∀ (j : Nat) (Gx : Gp) (F2 : Nat → Addr) (D2 : EndsW), j < 2 → St Gx P A B F2 L9 X9 2 (k + 1) → BagAt bp Gx → (∀ Gy F3, St Gy P A B F3 L9 X9 2 (k + 1) → BagAt bp Gy → D2.nx [none, some (.lst ((List.range 2).map fun i => W.ref (B i))), some (.lst ((List.range 2).map fun i => W.ref (P i))), none, none, some (.ref bp), some (.bl deep), none, none, none, none, none, some (.ref (P j)), some (.ref (B j))] Gy) →
      t_law_b2 D2 [none, some (.lst ((List.range 2).map fun i => W.ref (B i))), some (.lst ((List.range 2).map fun i => W.ref (P i))), none, none, some (.ref bp), some (.bl deep), none, none, none, none, none, some (.ref (P j)), some (.ref (B j))] Gx := by
     intro j Gx F2 D2 hj Sx bx hD2
     unfold t_law_b2
     k_upd
     rw [e_house]
     have lx := Sx.len j hj
     have Hj := (Sx.H j hj).1
     refine ⟨P j, A j, F2 j, L9 j, X9 j, .house, rfl, Sx.desk j hj, Hj, by omega, by simp [Row.ns], fun Gy f3 dky fry => ?_⟩
     have kB : Gy (B j) = some (.lst ((L9 j ++ [X9 j]).map Hz.w)) := by
      rw [fry _ (by rw [Sx.kept j hj]; simp) (Ne.symm (Sx.PB hj hj)) (Ne.symm (Sx.AB j j hj hj))]
      exact Sx.kept j hj
     have Sy0 := Sx.step (G1 := Gx) (i := j) (bp := bp) (f2 := f3) (k2 := k + 1) (L2 := L9 j) (x2 := X9 j) hj bP bA bB (Sx.kept j hj) (fun _ _ _ => rfl) dky fry (Sx.H j hj) lx (Nat.le_refl _)
     have eL : upi L9 j (L9 j) = L9 := by funext z; unfold upi; split; rename_i h; rw [h]; rfl
     have eX : upi X9 j (X9 j) = X9 := by funext z; unfold upi; split; rename_i h; rw [h]; rfl
     rw [eL, eX] at Sy0
     have by_ : BagAt bp Gy := by
      obtain ⟨c, y, g, r'⟩ := bx
      exact ⟨c, y, by rw [fry bp (by rw [g]; simp) (Ne.symm (bP j hj)) (Ne.symm (bA j hj))]; exact g, r'⟩
     try dsimp only
     rw [a_wTx]
     k_upd
     rw [isTx_str, a_wTx]
     k_upd
     rw [asL_at kB, isS_some, atI_lastD (show ((L9 j ++ [X9 j]).map Hz.w).getLast? = some (X9 j).w by simp), isS_some]
     refine ⟨(X9 j).n, (X9 j).ls, (X9 j).ks, (X9 j).s, (X9 j).hs, rfl, Hj, ?_⟩
     refine house_line Hj ?_
     refine ne_same (v := tW (J 59 ((rowsWs (X9 j).n (X9 j).ls (X9 j).ks (X9 j).s (X9 j).hs).map (J 32)))) (.inl ⟨_, rfl⟩) ?_
     k_upd
     exact hD2 Gy _ Sy0 by_
    refine forW_ix (fun j σ Gx => (∃ F2, St Gx P A B F2 L9 X9 2 (k + 1) ∧ BagAt bp Gx) ∧ σ = [none, some (.lst ((List.range 2).map fun i => W.ref (B i))), some (.lst ((List.range 2).map fun i => W.ref (P i))), none, none, some (.ref bp), some (.bl deep), none, none, none, none, none, none, none]) _ 0 _ _ ⟨⟨F9, S9, b9⟩, rfl⟩ ?_ ?_
    ·rintro j w hw σ Gx N2 ⟨⟨F2, Sx, bx⟩, rfl⟩ hN2
     rcases j with _ | _ | j
     ·cases hw
      unfold tup2
      k_upd
      exact b2 0 Gx F2 _ (by decide) Sx bx fun Gy F3 Sy by_ => hN2 _ _ ⟨⟨F3, Sy, by_⟩, rfl⟩
     ·cases hw
      unfold tup2
      k_upd
      exact b2 1 Gx F2 _ (by decide) Sx bx fun Gy F3 Sy by_ => hN2 _ _ ⟨⟨F3, Sy, by_⟩, rfl⟩
     ·cases hw
    ·rintro σ Gx ⟨⟨F2, Sx, bx⟩, rfl⟩
     rw [hD]
     exact hN _ _ ⟨⟨F2, L9, X9, Sx, bx⟩, rfl⟩
   unfold t_law_b3
   k_upd
   refine take_up bg6 (by decide) fun i G7 hi u7 => ?_
   refine take_up u7.at (by decide) fun way G8 hw u8 => ?_
   have u78 := u7.trans u8
   cases deep with
   | false =>
    rw [if_neg (by decide)]
    exact r1 i way G8 _ (by omega) u78 rfl
   | true =>
    rw [if_pos rfl]
    obtain ⟨i2, hi2, ei⟩ : ∃ i2 : Nat, i2 < 2 ∧ (if decide ((0 + (k : Int)).fmod 9 = 7) = true then (1 : Int) else 0) = ((i2 : Nat) : Int) := by
     split
     ·exact ⟨1, by decide, rfl⟩
     ·exact ⟨0, by decide, rfl⟩
    obtain ⟨w2, ew⟩ : ∃ w2 : Nat, L2.atI [W.int 3, W.int 1] (if decide (13 < 0 + (k : Int)) = true then 1 else 0) = some (.int ((w2 : Nat) : Int)) := by
     split
     ·exact ⟨1, rfl⟩
     ·exact ⟨3, rfl⟩
    rw [ei, ew, isS_some]
    exact ⟨by decide, by decide, r1 i2 w2 G8 _ hi2 u78 rfl⟩
  ·rintro σ G6 ⟨⟨F, L, X, S6, bg6⟩, rfl⟩
   k_upd
   exact .inl (q _)
end WL
namespace WL
open PySem PySem.Spec PyProof.Rows L2
local macro_rules | `(tactic| walk_at "s") => `(tactic| exact ⟨rfl, rfl, rfl, by decide +kernel, rfl, by decide +kernel, by decide +kernel⟩)
theorem ln1 {α : Type} : ∀ {us : List α}, us.length = 1 → ∃ a, us = [a]
 | [a], _ => ⟨a, rfl⟩
theorem ln2 {α : Type} {us : List α} (h : us.length = 2) : ∃ a0 a1, us = [a0, a1] := by
 cases us with
 | nil => cases h
 | cons a us =>
  obtain ⟨_, rfl⟩ := ln1 (us := us) (by simpa using h)
  exact ⟨a, _, rfl⟩
theorem ln3 {α : Type} {us : List α} (h : us.length = 3) : ∃ a0 a1 a2, us = [a0, a1, a2] := by
 cases us with
 | nil => cases h
 | cons a us =>
  obtain ⟨_, _, rfl⟩ := ln2 (us := us) (by simpa using h)
  exact ⟨a, _, _, rfl⟩
theorem ln4 {α : Type} {us : List α} (h : us.length = 4) : ∃ a0 a1 a2 a3, us = [a0, a1, a2, a3] := by
 cases us with
 | nil => cases h
 | cons a us =>
  obtain ⟨_, _, _, rfl⟩ := ln3 (us := us) (by simpa using h)
  exact ⟨a, _, _, _, rfl⟩
theorem ln5 {α : Type} {us : List α} (h : us.length = 5) : ∃ a0 a1 a2 a3 a4, us = [a0, a1, a2, a3, a4] := by
 cases us with
 | nil => cases h
 | cons a us =>
  obtain ⟨_, _, _, _, rfl⟩ := ln4 (us := us) (by simpa using h)
  exact ⟨a, _, _, _, _, rfl⟩
theorem ln6 {α : Type} {us : List α} (h : us.length = 6) : ∃ a0 a1 a2 a3 a4 a5, us = [a0, a1, a2, a3, a4, a5] := by
 cases us with
 | nil => cases h
 | cons a us =>
  obtain ⟨_, _, _, _, _, rfl⟩ := ln5 (us := us) (by simpa using h)
  exact ⟨a, _, _, _, _, _, rfl⟩
theorem ln7 {α : Type} {us : List α} (h : us.length = 7) : ∃ a0 a1 a2 a3 a4 a5 a6, us = [a0, a1, a2, a3, a4, a5, a6] := by
 cases us with
 | nil => cases h
 | cons a us =>
  obtain ⟨_, _, _, _, _, _, rfl⟩ := ln6 (us := us) (by simpa using h)
  exact ⟨a, _, _, _, _, _, _, rfl⟩
theorem ln8 {α : Type} {us : List α} (h : us.length = 8) : ∃ a0 a1 a2 a3 a4 a5 a6 a7, us = [a0, a1, a2, a3, a4, a5, a6, a7] := by
 cases us with
 | nil => cases h
 | cons a us =>
  obtain ⟨_, _, _, _, _, _, _, rfl⟩ := ln7 (us := us) (by simpa using h)
  exact ⟨a, _, _, _, _, _, _, _, rfl⟩
theorem ln9 {α : Type} {us : List α} (h : us.length = 9) : ∃ a0 a1 a2 a3 a4 a5 a6 a7 a8, us = [a0, a1, a2, a3, a4, a5, a6, a7, a8] := by
 cases us with
 | nil => cases h
 | cons a us =>
  obtain ⟨_, _, _, _, _, _, _, _, rfl⟩ := ln8 (us := us) (by simpa using h)
  exact ⟨a, _, _, _, _, _, _, _, _, rfl⟩
section
variable {D_MainsError D_NoBalance D_NoDeed D_NoFraction D_NoHouse D_NoLine D_NoLoss D_NoMaking D_NoNumber D_NoPaper D_NoPuts D_NoRow D_NoText : Addr}
section
variable {P : Program} {w : World} {K : PySem.W.Frag} {mg : Str → Option Value} {base : Heap}
theorem sc_is_whole : FnScope ["thing"] ["thing"] (defScope sD_is_whole) := by walk_at "s"
theorem ok_is_whole {f : Addr} {fd : FuncData} (F : Fun K "is_whole" "is_whole" sD_is_whole f fd) (seer : base.NoSeer) (tree : P.given.tree = none) (m_isinstance : mg "isinstance" = none) (m_int : mg "int" = none) (m_bool : mg "bool" = none) : FnOk P w K mg base CX0 (40 + 1) f fd ["thing"] (liftSp K sp_is_whole) := by
 refine okW F sc_is_whole seer tree (by decide) (fun ws G Q E h => ?_) (fun cdv A outer s H E hr hd => ⟨t_is_whole, ?_, rd_is_whole⟩)
 ·exact len_is_whole ws G Q E h
 ·exact (qs_one (qret (qandV (qisi (k := .int) (by decide) (by decide +kernel) (by decide) (by decide) rfl m_isinstance rfl m_int (qv 0)) (qone (qnotV (qisi (k := .bool) (by decide) (by decide +kernel) (by decide) (by decide) rfl m_isinstance rfl m_bool (qv 0)))))))
theorem sc_hangs_together : FnScope ["many", "lines", "met", "left", "place", "one", "other", "stiffness", "most", "there"] ["many", "lines"] (defScope sD_hangs_together) := by walk_at "s"
theorem ok_hangs_together {f : Addr} {fd : FuncData} (F : Fun K "hangs_together" "hangs_together" sD_hangs_together f fd) (seer : base.NoSeer) (tree : P.given.tree = none) (m_len : mg "len" = none) : FnOk P w K mg base CX0 (40 + 1) f fd ["many", "lines"] (liftSp K sp_hangs_together) := by
 refine okW F sc_hangs_together seer tree (by decide) (fun ws G Q E h => ?_) (fun cdv A outer s H E hr hd => ⟨t_hangs_together, ?_, rd_hangs_together⟩)
 ·exact len_hangs_together ws G Q E h
 ·exact (qs_cons (qset (i := 2) sc_hangs_together.nd rfl (he := (qlstM (qa_cons qint qa_nil))))
  (qs_cons (qset (i := 3) sc_hangs_together.nd rfl (he := (qlstM (qa_cons qint qa_nil))))
  (qs_cons (qwhile (ks := [false, false, false, false, true, true, true, true, true, true]) PassesOwn.never (qtne hr (qv 3) (qlst qa_nil)) (qs_cons (qset (i := 4) sc_hangs_together.nd rfl (he := (qm_pop (qv 3))))
  (qs_one (qfor (ks := [false, false, false, false, false, true, true, true, true, true]) PassesOwn.never rfl (qiseq (qv 1)) (qgT rfl (qgs_cons (qgN (i := 5) sc_hangs_together.nd rfl) (qgs_cons (qgN (i := 6) sc_hangs_together.nd rfl) (qgs_cons (qgN (i := 7) sc_hangs_together.nd rfl) (qgs_cons (qgN (i := 8) sc_hangs_together.nd rfl) qgs_nil))))) (qs_one (qif (qtin (qv 4) (qtup (qa_cons (qv 5) (qa_cons (qv 6) qa_nil)))) (qs_cons (qset (i := 9) sc_hangs_together.nd rfl (he := (qsub (qadd (qv 5) (qv 6)) (qv 4))))
  (qs_one (qif (qtnin (qv 9) (qv 2)) (qs_cons (qexpr (qm_append (qv 2) (qa_cons (qv 9) qa_nil)))
  (qs_one (qexpr (qm_append (qv 3) (qa_cons (qv 9) qa_nil))))) qs_nil))) qs_nil))))))
  (qs_one (qret (qeq hr (qlen rfl m_len (qa_cons (qv 2) qa_nil)) (qv 0)))))))
theorem sc_left_lines : FnScope ["net", "line"] ["net", "line"] (defScope sD_left_lines) := by walk_at "s"
theorem ok_left_lines {f : Addr} {fd : FuncData} (F : Fun K "left_lines" "left_lines" sD_left_lines f fd) (seer : base.NoSeer) (tree : P.given.tree = none) : FnOk P w K mg base CX0 (40 + 1) f fd ["net", "line"] (liftSp K sp_left_lines) := by
 refine okW F sc_left_lines seer tree (by decide) (fun ws G Q E h => ?_) (fun cdv A outer s H E hr hd => ⟨t_left_lines, ?_, rd_left_lines⟩)
 ·exact len_left_lines ws G Q E h
 ·exact (qs_one (qret (qadd (qslice (qix (qv 0) qint) qp_none (qp_some (qv 1))) (qslice (qix (qv 0) qint) (qp_some (qadd (qv 1) qint)) qp_none))))
theorem sc_is_row_of : FnScope ["thing", "least", "most"] ["thing", "least", "most"] (defScope sD_is_row_of) := by walk_at "s"
theorem ok_is_row_of {f : Addr} {fd : FuncData} (F : Fun K "is_row_of" "is_row_of" sD_is_row_of f fd) (seer : base.NoSeer) (tree : P.given.tree = none) (m_isinstance : mg "isinstance" = none) (m_tuple : mg "tuple" = none) (m_len : mg "len" = none) : FnOk P w K mg base CX0 (40 + 1) f fd ["thing", "least", "most"] (liftSp K sp_is_row_of) := by
 refine okW F sc_is_row_of seer tree (by decide) (fun ws G Q E h => ?_) (fun cdv A outer s H E hr hd => ⟨t_is_row_of, ?_, rd_is_row_of⟩)
 ·exact len_is_row_of ws G Q E h
 ·exact (qs_one (qret (qandV (qisi (k := .tuple) (by decide) (by decide +kernel) (by decide) (by decide) rfl m_isinstance rfl m_tuple (qv 0)) (qone (qlele (qv 1) (qlen rfl m_len (qa_cons (qv 0) qa_nil)) (qv 2))))))
theorem sc_number_of : FnScope ["word", "sign"] ["word"] (defScope sD_number_of) := by walk_at "s"
theorem ok_number_of {f : Addr} {fd : FuncData} (F : Fun K "number_of" "number_of" sD_number_of f fd) (seer : base.NoSeer) (tree : P.given.tree = none) (m_len : mg "len" = none) (m_all : mg "all" = none) (m_int : mg "int" = none) (c_MOST_FIGURES : GlobW K mg "MOST_FIGURES" (.int 40)) (c_FIGURES : GlobW K mg "FIGURES" (.str "0123456789")) : FnOk P w K mg base CX0 (40 + 1) f fd ["word"] (liftSp K sp_number_of) := by
 refine okW F sc_number_of seer tree (by decide) (fun ws G Q E h => ?_) (fun cdv A outer s H E hr hd => ⟨t_number_of, ?_, rd_number_of⟩)
 ·exact len_number_of ws G Q E h
 ·exact (qs_cons (qif (qwt (qor (qnot (qtlele qint (qlen rfl m_len (qa_cons (qv 0) qa_nil)) (qglob rfl c_MOST_FIGURES))) (qor1 (qnot (qtv (qall rfl rfl m_all (qa_cons (qlc (own := [("sign", 1)]) rfl sc_number_of.nd (qistr (qv 0)) (blkOk_by (N := ["word", "sign"]) (sc := defScope sD_number_of) (by decide +kernel)) (gcN (i := 1) sc_number_of.nd rfl) (fun _ _ _ _ _ => qts_nil) (fun _ _ _ _ _ => (qinSg (qv 1) (qglob rfl c_FIGURES)))) qa_nil))))))) (qs_one (qret qnon)) qs_nil)
  (qs_cons (qif (qwt (qand (qteq hr (qix (qv 0) qint) qstr) (qand1 (qtgt (qlen rfl m_len (qa_cons (qv 0) qa_nil)) qint)))) (qs_one (qret qnon)) qs_nil)
  (qs_one (qret (qintT rfl m_int (qa_cons (qv 0) qa_nil))))))
theorem sc_must_be : FnScope ["holds"] ["holds"] (defScope sD_must_be) := by walk_at "s"
theorem ok_must_be {f : Addr} {fd : FuncData} (F : Fun K "must_be" "must_be" sD_must_be f fd) (seer : base.NoSeer) (tree : P.given.tree = none) : FnOk P w K mg base CX0 (40 + 1) f fd ["holds"] (liftSp K sp_must_be) := by
 refine okW F sc_must_be seer tree (by decide) (fun ws G Q E h => ?_) (fun cdv A outer s H E hr hd => ⟨t_must_be, ?_, rd_must_be⟩)
 ·exact len_must_be ws G Q E h
 ·exact (qs_one (qif (qnot (qtv (qv 0))) (qs_one qnever) qs_nil))
theorem sc_rows_with : FnScope ["rows", "first", "many"] ["rows", "first"] (defScope sD_rows_with) := by walk_at "s"
theorem ok_rows_with {f : Addr} {fd : FuncData} (F : Fun K "rows_with" "rows_with" sD_rows_with f fd) (seer : base.NoSeer) (tree : P.given.tree = none) (m_len : mg "len" = none) : FnOk P w K mg base CX0 (40 + 1) f fd ["rows", "first"] (liftSp K sp_rows_with) := by
 refine okW F sc_rows_with seer tree (by decide) (fun ws G Q E h => ?_) (fun cdv A outer s H E hr hd => ⟨t_rows_with, ?_, rd_rows_with⟩)
 ·exact len_rows_with ws G Q E h
 ·exact (qs_cons (qset (i := 2) sc_rows_with.nd rfl (he := qint))
  (qs_cons (qwhile (ks := [false, false, false]) PassesOwn.never (qwt (qand (qtlt (qv 2) (qlen rfl m_len (qa_cons (qv 0) qa_nil))) (qand1 (qteq hr (qix (qix (qv 0) (qv 2)) qint) (qv 1))))) (qs_one (qaugA (i := 2) sc_rows_with.nd rfl (he := qint))))
  (qs_one (qret (qtup (qa_cons (qslice (qv 0) qp_none (qp_some (qv 2))) (qa_cons (qslice (qv 0) (qp_some (qv 2)) qp_none) qa_nil)))))))
theorem sc_shown_row : FnScope ["first", "numbers", "number"] ["first", "numbers"] (defScope sD_shown_row) := by walk_at "s"
theorem ok_shown_row {f : Addr} {fd : FuncData} (F : Fun K "shown_row" "shown_row" sD_shown_row f fd) (seer : base.NoSeer) (tree : P.given.tree = none) (m_str : mg "str" = none) : FnOk P w K mg base CX0 (40 + 1) f fd ["first", "numbers"] (liftSp K sp_shown_row) := by
 refine okW F sc_shown_row seer tree (by decide) (fun ws G Q E h => ?_) (fun cdv A outer s H E hr hd => ⟨t_shown_row, ?_, rd_shown_row⟩)
 ·exact len_shown_row ws G Q E h
 ·exact (qs_one (qret (qjoin qstr (qadd (qlst (qa_cons (qv 0) qa_nil)) (qlc (own := [("number", 2)]) rfl sc_shown_row.nd (qiseq (qv 1)) (blkOk_by (N := ["first", "numbers", "number"]) (sc := defScope sD_shown_row) (by decide +kernel)) (gcN (i := 2) sc_shown_row.nd rfl) (fun _ _ _ _ _ => qts_nil) (fun _ _ _ _ _ => (qstrI rfl m_str (qa_cons (qv 2) qa_nil))))))))
theorem sc_colons : FnScope ["numbers", "number"] ["numbers"] (defScope sD_colons) := by walk_at "s"
theorem ok_colons {f : Addr} {fd : FuncData} (F : Fun K "colons" "colons" sD_colons f fd) (seer : base.NoSeer) (tree : P.given.tree = none) (m_str : mg "str" = none) : FnOk P w K mg base CX0 (40 + 1) f fd ["numbers"] (liftSp K sp_colons) := by
 refine okW F sc_colons seer tree (by decide) (fun ws G Q E h => ?_) (fun cdv A outer s H E hr hd => ⟨t_colons, ?_, rd_colons⟩)
 ·exact len_colons ws G Q E h
 ·exact (qs_one (qret (qjoin qstr (qlc (own := [("number", 1)]) rfl sc_colons.nd (qiseq (qv 0)) (blkOk_by (N := ["numbers", "number"]) (sc := defScope sD_colons) (by decide +kernel)) (gcN (i := 1) sc_colons.nd rfl) (fun _ _ _ _ _ => qts_nil) (fun _ _ _ _ _ => (qstrI rfl m_str (qa_cons (qv 1) qa_nil)))))))
theorem sc_must_be_below : FnScope ["number", "many"] ["number", "many"] (defScope sD_must_be_below) := by walk_at "s"
theorem ok_must_be_below {f : Addr} {fd : FuncData} (F : Fun K "must_be_below" "must_be_below" sD_must_be_below f fd) (seer : base.NoSeer) (tree : P.given.tree = none) (e_NoNumber : Err K mg "NoNumber") : FnOk P w K mg base (L2N.CX P w) (40 + 1) f fd ["number", "many"] (liftSp K sp_must_be_below) := by
 refine okWX F sc_must_be_below seer tree (by decide) (fun ws G Q E h => ?_) (fun cdv A outer s H E hr hd hp => ⟨t_must_be_below, ?_, rd_must_be_below⟩)
 ·exact len_must_be_below ws G Q E h
 ·exact (qs_one (qif (qtge (qv 0) (qv 1)) (qs_one (qraise e_NoNumber rfl rfl)) qs_nil))
theorem sc_with_wants : FnScope ["house", "hour", "wants", "net", "works", "store", "hours"] ["house", "hour", "wants"] (defScope sD_with_wants) := by walk_at "s"
theorem ok_with_wants {f : Addr} {fd : FuncData} (F : Fun K "with_wants" "with_wants" sD_with_wants f fd) (seer : base.NoSeer) (tree : P.given.tree = none) : FnOk P w K mg base CX0 (40 + 1) f fd ["house", "hour", "wants"] (liftSp K sp_with_wants) := by
 refine okW F sc_with_wants seer tree (by decide) (fun ws G Q E h => ?_) (fun cdv A outer s H E hr hd => ⟨t_with_wants, ?_, rd_with_wants⟩)
 ·exact len_with_wants ws G Q E h
 ·exact (qs_cons (qasg (qv 0) (qgT rfl (qgs_cons (qgN (i := 3) sc_with_wants.nd rfl) (qgs_cons (qgN (i := 4) sc_with_wants.nd rfl) (qgs_cons (qgN (i := 5) sc_with_wants.nd rfl) (qgs_cons (qgN (i := 6) sc_with_wants.nd rfl) qgs_nil))))))
  (qs_one (qret (qtup (qa_cons (qv 3) (qa_cons (qv 4) (qa_cons (qv 5) (qa_cons (qadd (qadd (qslice (qv 6) qp_none (qp_some (qv 1))) (qtup (qa_cons (qv 2) qa_nil))) (qslice (qv 6) (qp_some (qadd (qv 1) qint)) qp_none)) qa_nil))))))))
theorem sc_Desk_house : FnScope ["self"] ["self"] (defScope sD_Desk_house) := by walk_at "s"
theorem ok_Desk_house {f : Addr} {fd : FuncData} (F : Fun K "house" "Desk.house" sD_Desk_house f fd) (seer : base.NoSeer) (tree : P.given.tree = none) (f_Desk_houses : FldOk K "Desk" "houses") : FnOk P w K mg base CX0 (40 + 1) f fd ["self"] (liftSp K sp_Desk_house) := by
 refine okW F sc_Desk_house seer tree (by decide) (fun ws G Q E h => ?_) (fun cdv A outer s H E hr hd => ⟨t_Desk_house, ?_, rd_Desk_house⟩)
 ·exact len_Desk_house ws G Q E h
 ·exact (qs_one (qret (qix (qfld f_Desk_houses (qv 0)) (qneg qint))))
theorem sc_Desk_take_back : FnScope ["self"] ["self"] (defScope sD_Desk_take_back) := by walk_at "s"
theorem ok_Desk_take_back {f : Addr} {fd : FuncData} (F : Fun K "take_back" "Desk.take_back" sD_Desk_take_back f fd) (seer : base.NoSeer) (tree : P.given.tree = none) (f_Desk_houses : FldOk K "Desk" "houses") (m_len : mg "len" = none) (e_NoDeed : Err K mg "NoDeed") : FnOk P w K mg base (L2N.CX P w) (40 + 1) f fd ["self"] (liftSp K sp_Desk_take_back) := by
 refine okWX F sc_Desk_take_back seer tree (by decide) (fun ws G Q E h => ?_) (fun cdv A outer s H E hr hd hp => ⟨t_Desk_take_back, ?_, rd_Desk_take_back⟩)
 ·exact len_Desk_take_back ws G Q E h
 ·exact (qs_cons (qif (qteq hr (qlen rfl m_len (qa_cons (qfld f_Desk_houses (qv 0)) qa_nil)) qint) (qs_one (qraise e_NoDeed rfl rfl)) qs_nil)
  (qs_one (qexpr (qm_pop (qfld f_Desk_houses (qv 0))))))
theorem sc_zbag : FnScope ["_law_script", "_law_at", "_law_cell", "_law_mix", "_law_k"] ["_law_script", "_law_at"] (defScope sD_zbag) := by walk_at "s"
theorem ok_zbag {f : Addr} {fd : FuncData} (F : Fun K "_law_bag" "_law_bag" sD_zbag f fd) (seer : base.NoSeer) (tree : P.given.tree = none) (m_len : mg "len" = none) (m_abs : mg "abs" = none) (m_range : mg "range" = none) (m_min : mg "min" = none) : FnOk P w K mg base CX0 (40 + 1) f fd ["_law_script", "_law_at"] (liftSp K sp_zbag) := by
 refine okW F sc_zbag seer tree (by decide) (fun ws G Q E h => ?_) (fun cdv A outer s H E hr hd => ⟨t_zbag, ?_, rd_zbag⟩)
 ·exact len_zbag ws G Q E h
 ·exact (qs_cons (qset (i := 2) sc_zbag.nd rfl (he := qint))
  (qs_cons (qif (qtlt (qv 1) (qlen rfl m_len (qa_cons (qv 0) qa_nil))) (qs_one (qset (i := 2) sc_zbag.nd rfl (he := (qabs rfl m_abs (qa_cons (qix (qv 0) (qv 1)) qa_nil))))) qs_nil)
  (qs_cons (qset (i := 3) sc_zbag.nd rfl (he := (qmod (qpow (qadd (qadd (qmod (qv 2) qint) (qmul qint (qv 1))) qint) qint) qint)))
  (qs_cons (qfor (ks := [false, true, false, false, true]) PassesOwn.never rfl (qrange1 rfl m_range (qa_cons (qmin2 rfl rfl m_min (qa_cons (qlen rfl m_len (qa_cons (qv 0) qa_nil)) (qa_cons qint qa_nil))) qa_nil)) (qgN (i := 4) sc_zbag.nd rfl) (qs_one (qset (i := 3) sc_zbag.nd rfl (he := (qmod (qadd (qadd (qmul (qv 3) qint) (qmul (qmod (qix (qv 0) (qv 4)) qint) (qadd (qv 4) qint))) (qv 4)) qint)))))
  (qs_cons (qif (qtlt (qv 2) (qpow qint qint)) (qs_one (qset (i := 2) sc_zbag.nd rfl (he := qint))) qs_nil)
  (qs_one (qret (qlstM (qa_cons (qv 2) (qa_cons (qv 3) qa_nil))))))))))
theorem sc_ztake : FnScope ["_law_bag_here", "_law_many", "_law_digit"] ["_law_bag_here", "_law_many"] (defScope sD_ztake) := by walk_at "s"
theorem ok_ztake {f : Addr} {fd : FuncData} (F : Fun K "_law_take" "_law_take" sD_ztake f fd) (seer : base.NoSeer) (tree : P.given.tree = none) : FnOk P w K mg base CX0 (40 + 1) f fd ["_law_bag_here", "_law_many"] (liftSp K sp_ztake) := by
 refine okW F sc_ztake seer tree (by decide) (fun ws G Q E h => ?_) (fun cdv A outer s H E hr hd => ⟨t_ztake, ?_, rd_ztake⟩)
 ·exact len_ztake ws G Q E h
 ·exact (qs_cons (qif (qtgt (qix (qv 0) qint) qint) (qs_cons (qset (i := 2) sc_ztake.nd rfl (he := (qmod (qix (qv 0) qint) (qv 1))))
  (qs_cons (qasg (qfdiv ⟨hd.seer, hd.tree, hd.room, hd.frame⟩ (qix (qv 0) qint) (qv 1)) (qgIx (qv 0) qint))
  (qs_one (qret (qv 2))))) qs_nil)
  (qs_cons (qasg (qmod (qadd (qmul (qix (qv 0) qint) qint) qint) qint) (qgIx (qv 0) qint))
  (qs_one (qret (qmod (qmod (qmul (qfdiv ⟨hd.seer, hd.tree, hd.room, hd.frame⟩ (qmod (qpow (qix (qv 0) qint) qint) qint) qint) qint) qint) (qv 1))))))
theorem sc_zstiff : FnScope ["_law_net_here", "_law_lost", "_law_table", "_law_k", "_law_one", "_law_other", "_law_stiffness", "_law_most", "_law_i", "_law_j", "_law_row_here"] ["_law_net_here", "_law_lost"] (defScope sD_zstiff) := by walk_at "s"
theorem ok_zstiff {f : Addr} {fd : FuncData} (F : Fun K "_law_stiff" "_law_stiff" sD_zstiff f fd) (seer : base.NoSeer) (tree : P.given.tree = none) (m_range : mg "range" = none) (m_enumerate : mg "enumerate" = none) : FnOk P w K mg base CX0 (40 + 1) f fd ["_law_net_here", "_law_lost"] (liftSp K sp_zstiff) := by
 refine okW F sc_zstiff seer tree (by decide) (fun ws G Q E h => ?_) (fun cdv A outer s H E hr hd => ⟨t_zstiff, ?_, rd_zstiff⟩)
 ·exact len_zstiff ws G Q E h
 ·exact (qs_cons (qsetLc (j := 2) (own := [("_law_i", 8)]) rfl sc_zstiff.nd rfl rfl (sw_true rfl rfl rfl (by decide +kernel)) (qrange1 rfl m_range (qa_cons (qix (qv 0) qint) qa_nil)) (blkOk_by (N := ["_law_net_here", "_law_lost", "_law_table", "_law_k", "_law_one", "_law_other", "_law_stiffness", "_law_most", "_law_i", "_law_j", "_law_row_here"]) (sc := defScope sD_zstiff) (by decide +kernel)) (gcN (i := 8) sc_zstiff.nd rfl) (fun _ _ _ _ _ => qts_nil) (fun _ _ _ _ _ => (qlcM (own := [("_law_j", 9)]) rfl sc_zstiff.nd (qrange1 rfl m_range (qa_cons (qix (qv 0) qint) qa_nil)) (by exact blkOk_nest (N := ["_law_net_here", "_law_lost", "_law_table", "_law_k", "_law_one", "_law_other", "_law_stiffness", "_law_most", "_law_i", "_law_j", "_law_row_here"]) (by decide +kernel)) (gcN (i := 9) sc_zstiff.nd rfl) (fun _ _ _ _ _ => qts_nil) (fun _ _ _ _ _ => qint))))
  (qs_cons (qfor (ks := [true, false, false, true, true, true, true, true, true, true, true]) PassesOwn.never rfl (qienumG rfl m_enumerate (qa_cons (qix (qv 0) qint) qa_nil)) (qgT rfl (qgs_cons (qgN (i := 3) sc_zstiff.nd rfl) (qgs_cons (qgT rfl (qgs_cons (qgN (i := 4) sc_zstiff.nd rfl) (qgs_cons (qgN (i := 5) sc_zstiff.nd rfl) (qgs_cons (qgN (i := 6) sc_zstiff.nd rfl) (qgs_cons (qgN (i := 7) sc_zstiff.nd rfl) qgs_nil))))) qgs_nil))) (qs_one (qif (qtne hr (qv 3) (qv 1)) (qs_one (qfor (ks := [true, false, false, true, true, true, false, true, true, true, true]) PassesOwn.never rfl (qiseq (qlst (qa_cons (qtup (qa_cons (qv 4) (qa_cons (qv 5) qa_nil))) (qa_cons (qtup (qa_cons (qv 5) (qa_cons (qv 4) qa_nil))) qa_nil)))) (qgT rfl (qgs_cons (qgN (i := 8) sc_zstiff.nd rfl) (qgs_cons (qgN (i := 9) sc_zstiff.nd rfl) qgs_nil))) (qs_cons (qasg (qadd (qix (qix (qv 2) (qv 8)) (qv 8)) (qv 6)) (qgIx (qix (qv 2) (qv 8)) (qv 8)))
  (qs_one (qasg (qsub (qix (qix (qv 2) (qv 8)) (qv 9)) (qv 6)) (qgIx (qix (qv 2) (qv 8)) (qv 9))))))) qs_nil)))
  (qs_one (qfzN 2 (qret (qlcM (own := [("_law_row_here", 10)]) rfl sc_zstiff.nd (qiseq (qslice (qv 2) (qp_some qint) qp_none)) (blkOk_by (N := ["_law_net_here", "_law_lost", "_law_table", "_law_k", "_law_one", "_law_other", "_law_stiffness", "_law_most", "_law_i", "_law_j", "_law_row_here"]) (sc := defScope sD_zstiff) (by decide +kernel)) (gcN (i := 10) sc_zstiff.nd rfl) (fun _ _ _ _ _ => qts_nil) (fun _ _ _ _ _ => (qslice (qv 10) (qp_some qint) qp_none))))))))
theorem sc_ztext : FnScope ["_law_house_here", "_law_net_here", "_law_works", "_law_store_here", "_law_hours", "_law_rows", "_law_line", "_law_place", "_law_least", "_law_keep", "_law_pieces", "_law_start", "_law_stay", "_law_rest", "_law_was", "_law_words", "_law_wants_here", "_law_number", "_law_width", "_law_price", "_law_want"] ["_law_house_here"] (defScope sD_ztext) := by walk_at "s"
theorem ok_ztext {f : Addr} {fd : FuncData} (F : Fun K "_law_text" "_law_text" sD_ztext f fd) (seer : base.NoSeer) (tree : P.given.tree = none) (m_str : mg "str" = none) (m_int : mg "int" = none) : FnOk P w K mg base CX0 (40 + 1) f fd ["_law_house_here"] (liftSp K sp_ztext) := by
 refine okW F sc_ztext seer tree (by decide) (fun ws G Q E h => ?_) (fun cdv A outer s H E hr hd => ⟨t_ztext, ?_, rd_ztext⟩)
 ·exact len_ztext ws G Q E h
 ·exact (qs_cons (qasg (qv 0) (qgT rfl (qgs_cons (qgN (i := 1) sc_ztext.nd rfl) (qgs_cons (qgN (i := 2) sc_ztext.nd rfl) (qgs_cons (qgN (i := 3) sc_ztext.nd rfl) (qgs_cons (qgN (i := 4) sc_ztext.nd rfl) qgs_nil))))))
  (qs_cons (qset (i := 5) sc_ztext.nd rfl (he := (qlstM (qa_cons (qadd qstr (qstrI rfl m_str (qa_cons (qix (qv 1) qint) qa_nil))) qa_nil))))
  (qs_cons (qfor (ks := [true, true, false, false, false, false, true, true, true, true, true, true, true, true, true, true, true, true, true, true, true]) PassesOwn.never rfl (qiseq (qix (qv 1) qint)) (qgN (i := 6) sc_ztext.nd rfl) (qs_one (qexpr (qm_append (qv 5) (qa_cons (qadd qstr (qjoin qstr (qlc (own := [("_law_number", 17)]) rfl sc_ztext.nd (qiseq (qv 6)) (blkOk_by (N := ["_law_house_here", "_law_net_here", "_law_works", "_law_store_here", "_law_hours", "_law_rows", "_law_line", "_law_place", "_law_least", "_law_keep", "_law_pieces", "_law_start", "_law_stay", "_law_rest", "_law_was", "_law_words", "_law_wants_here", "_law_number", "_law_width", "_law_price", "_law_want"]) (sc := defScope sD_ztext) (by decide +kernel)) (gcN (i := 17) sc_ztext.nd rfl) (fun _ _ _ _ _ => qts_nil) (fun _ _ _ _ _ => (qstrI rfl m_str (qa_cons (qv 17) qa_nil)))))) qa_nil)))))
  (qs_cons (qfor (ks := [true, true, true, false, false, false, true, true, true, true, true, true, true, true, true, true, true, true, true, true, true]) PassesOwn.never rfl (qiseq (qv 2)) (qgT rfl (qgs_cons (qgN (i := 7) sc_ztext.nd rfl) (qgs_cons (qgN (i := 8) sc_ztext.nd rfl) (qgs_cons (qgN (i := 9) sc_ztext.nd rfl) (qgs_cons (qgN (i := 10) sc_ztext.nd rfl) (qgs_cons (qgN (i := 11) sc_ztext.nd rfl) (qgs_cons (qgN (i := 12) sc_ztext.nd rfl) (qgs_cons (qgN (i := 13) sc_ztext.nd rfl) (qgs_cons (qgN (i := 14) sc_ztext.nd rfl) qgs_nil))))))))) (qs_cons (qset (i := 15) sc_ztext.nd rfl (he := (qadd (qlc (own := [("_law_number", 17)]) rfl sc_ztext.nd (qiseq (qtup (qa_cons (qv 7) (qa_cons (qv 8) (qa_cons (qv 9) (qa_cons (qv 11) (qa_cons (qv 12) (qa_cons (qv 13) qa_nil)))))))) (blkOk_by (N := ["_law_house_here", "_law_net_here", "_law_works", "_law_store_here", "_law_hours", "_law_rows", "_law_line", "_law_place", "_law_least", "_law_keep", "_law_pieces", "_law_start", "_law_stay", "_law_rest", "_law_was", "_law_words", "_law_wants_here", "_law_number", "_law_width", "_law_price", "_law_want"]) (sc := defScope sD_ztext) (by decide +kernel)) (gcN (i := 17) sc_ztext.nd rfl) (fun _ _ _ _ _ => qts_nil) (fun _ _ _ _ _ => (qstrI rfl m_str (qa_cons (qv 17) qa_nil)))) (qlst (qa_cons (qix (qlst (qa_cons qstr (qa_cons qstr qa_nil))) (qint1 rfl m_int (qa_cons (qv 14) qa_nil))) qa_nil)))))
  (qs_cons (qset (i := 15) sc_ztext.nd rfl (he := (qadd (qv 15) (qlc (own := [("_law_width", 18), ("_law_price", 19)]) rfl sc_ztext.nd (qiseq (qv 10)) (blkOk_by (N := ["_law_house_here", "_law_net_here", "_law_works", "_law_store_here", "_law_hours", "_law_rows", "_law_line", "_law_place", "_law_least", "_law_keep", "_law_pieces", "_law_start", "_law_stay", "_law_rest", "_law_was", "_law_words", "_law_wants_here", "_law_number", "_law_width", "_law_price", "_law_want"]) (sc := defScope sD_ztext) (by decide +kernel)) (gcT rfl (gcs_cons (i := 18) sc_ztext.nd rfl (gcs_cons (i := 19) sc_ztext.nd rfl gcs_nil))) (fun _ _ _ _ _ => qts_nil) (fun _ _ _ _ _ => (qadd (qadd (qstrI rfl m_str (qa_cons (qv 18) qa_nil)) qstr) (qstrI rfl m_str (qa_cons (qv 19) qa_nil))))))))
  (qs_one (qexpr (qm_append (qv 5) (qa_cons (qadd qstr (qjoin qstr (qv 15))) qa_nil)))))))
  (qs_cons (qif (qtnotN (qv 3)) (qs_one (qexpr (qm_append (qv 5) (qa_cons (qadd qstr (qjoin qstr (qlc (own := [("_law_number", 17)]) rfl sc_ztext.nd (qiseq (qv 3)) (blkOk_by (N := ["_law_house_here", "_law_net_here", "_law_works", "_law_store_here", "_law_hours", "_law_rows", "_law_line", "_law_place", "_law_least", "_law_keep", "_law_pieces", "_law_start", "_law_stay", "_law_rest", "_law_was", "_law_words", "_law_wants_here", "_law_number", "_law_width", "_law_price", "_law_want"]) (sc := defScope sD_ztext) (by decide +kernel)) (gcN (i := 17) sc_ztext.nd rfl) (fun _ _ _ _ _ => qts_nil) (fun _ _ _ _ _ => (qstrI rfl m_str (qa_cons (qv 17) qa_nil)))))) qa_nil)))) qs_nil)
  (qs_cons (qfor (ks := [true, true, true, true, true, false, true, true, true, true, true, true, true, true, true, true, true, true, true, true, true]) PassesOwn.never rfl (qiseq (qv 4)) (qgN (i := 16) sc_ztext.nd rfl) (qs_one (qexpr (qm_append (qv 5) (qa_cons (qjoin qstr (qadd (qlst (qa_cons qstr qa_nil)) (qlc (own := [("_law_want", 20)]) rfl sc_ztext.nd (qiseq (qv 16)) (blkOk_by (N := ["_law_house_here", "_law_net_here", "_law_works", "_law_store_here", "_law_hours", "_law_rows", "_law_line", "_law_place", "_law_least", "_law_keep", "_law_pieces", "_law_start", "_law_stay", "_law_rest", "_law_was", "_law_words", "_law_wants_here", "_law_number", "_law_width", "_law_price", "_law_want"]) (sc := defScope sD_ztext) (by decide +kernel)) (gcN (i := 20) sc_ztext.nd rfl) (fun _ _ _ _ _ => qts_nil) (fun _ _ _ _ _ => (qjoin qstr (qlc (own := [("_law_number", 17)]) rfl sc_ztext.nd (qiseq (qv 20)) (by exact blkOk_nest (N := ["_law_house_here", "_law_net_here", "_law_works", "_law_store_here", "_law_hours", "_law_rows", "_law_line", "_law_place", "_law_least", "_law_keep", "_law_pieces", "_law_start", "_law_stay", "_law_rest", "_law_was", "_law_words", "_law_wants_here", "_law_number", "_law_width", "_law_price", "_law_want"]) (by decide +kernel)) (gcN (i := 17) sc_ztext.nd rfl) (fun _ _ _ _ _ => qts_nil) (fun _ _ _ _ _ => (qstrI rfl m_str (qa_cons (qv 17) qa_nil))))))))) qa_nil)))))
  (qs_one (qret (qjoin qstr (qv 5))))))))))
theorem sc_zkind : FnScope ["_law_e", "_law_marks"] ["_law_e"] (defScope sD_zkind) := by walk_at "s"
theorem ok_zkind {f : Addr} {fd : FuncData} (F : Fun K "_law_kind" "_law_kind" sD_zkind f fd) (m_isinstance : mg "isinstance" = none) (m_ValueError : mg "ValueError" = none) (gT_MainsError : mg "MainsError" = some (.ref D_MainsError)) (gT_NoBalance : mg "NoBalance" = some (.ref D_NoBalance)) (gT_NoDeed : mg "NoDeed" = some (.ref D_NoDeed)) (gT_NoFraction : mg "NoFraction" = some (.ref D_NoFraction)) (gT_NoHouse : mg "NoHouse" = some (.ref D_NoHouse)) (gT_NoLine : mg "NoLine" = some (.ref D_NoLine)) (gT_NoLoss : mg "NoLoss" = some (.ref D_NoLoss)) (gT_NoMaking : mg "NoMaking" = some (.ref D_NoMaking)) (gT_NoNumber : mg "NoNumber" = some (.ref D_NoNumber)) (gT_NoPaper : mg "NoPaper" = some (.ref D_NoPaper)) (gT_NoPuts : mg "NoPuts" = some (.ref D_NoPuts)) (gT_NoRow : mg "NoRow" = some (.ref D_NoRow)) (gT_NoText : mg "NoText" = some (.ref D_NoText)) (kT_NoFraction : ErrT K ["NoNumber", "NoLoss", "NoDeed"] "NoFraction" (.ref D_NoFraction)) (kT_NoPuts : ErrT K ["NoNumber", "NoLoss", "NoDeed"] "NoPuts" (.ref D_NoPuts)) (kT_NoBalance : ErrT K ["NoNumber", "NoLoss", "NoDeed"] "NoBalance" (.ref D_NoBalance)) (kT_NoLine : ErrT K ["NoNumber", "NoLoss", "NoDeed"] "NoLine" (.ref D_NoLine)) (kT_NoLoss : ErrT K ["NoNumber", "NoLoss", "NoDeed"] "NoLoss" (.ref D_NoLoss)) (kT_NoPaper : ErrT K ["NoNumber", "NoLoss", "NoDeed"] "NoPaper" (.ref D_NoPaper)) (kT_NoMaking : ErrT K ["NoNumber", "NoLoss", "NoDeed"] "NoMaking" (.ref D_NoMaking)) (kT_NoText : ErrT K ["NoNumber", "NoLoss", "NoDeed"] "NoText" (.ref D_NoText)) (kT_NoHouse : ErrT K ["NoNumber", "NoLoss", "NoDeed"] "NoHouse" (.ref D_NoHouse)) (kT_NoRow : ErrT K ["NoNumber", "NoLoss", "NoDeed"] "NoRow" (.ref D_NoRow)) (kT_NoNumber : ErrT K ["NoNumber", "NoLoss", "NoDeed"] "NoNumber" (.ref D_NoNumber)) (kT_NoDeed : ErrT K ["NoNumber", "NoLoss", "NoDeed"] "NoDeed" (.ref D_NoDeed)) (kT_MainsError : ErrT K ["NoNumber", "NoLoss", "NoDeed"] "MainsError" (.ref D_MainsError)) (kT_ValueError : ErrT K ["NoNumber", "NoLoss", "NoDeed"] "ValueError" (.type "ValueError")) (eC : ErrC K ["NoNumber", "NoLoss", "NoDeed"]) : FnE P w K mg base ["NoNumber", "NoLoss", "NoDeed"] (40 + 1) f fd ["_law_e"] sp_zkind := by
 refine okE F sc_zkind (fun a d n ws G Q h => len_zkind a d n ws G Q h) (fun cdv A outer s H p_e d_e n_e hn hr hot => ⟨t_zkind p_e.1 d_e n_e, ?_, rd_zkind p_e.1 d_e n_e⟩)
 exact (qs_cons (qset (i := 1) sc_zkind.nd rfl (he := (qlst (qa_cons (qisE hot hn kT_NoFraction eC .own rfl m_isinstance (qv 0) (qclsv rfl gT_NoFraction)) (qa_cons (qisE hot hn kT_NoPuts eC .own rfl m_isinstance (qv 0) (qclsv rfl gT_NoPuts)) (qa_cons (qisE hot hn kT_NoBalance eC .own rfl m_isinstance (qv 0) (qclsv rfl gT_NoBalance)) (qa_cons (qisE hot hn kT_NoLine eC .own rfl m_isinstance (qv 0) (qclsv rfl gT_NoLine)) qa_nil)))))))
  (qs_cons (qset (i := 1) sc_zkind.nd rfl (he := (qadd (qv 1) (qlst (qa_cons (qisE hot hn kT_NoLoss eC .own rfl m_isinstance (qv 0) (qclsv rfl gT_NoLoss)) (qa_cons (qisE hot hn kT_NoPaper eC .own rfl m_isinstance (qv 0) (qclsv rfl gT_NoPaper)) (qa_cons (qisE hot hn kT_NoMaking eC .own rfl m_isinstance (qv 0) (qclsv rfl gT_NoMaking)) (qa_cons (qisE hot hn kT_NoText eC .own rfl m_isinstance (qv 0) (qclsv rfl gT_NoText)) qa_nil))))))))
  (qs_cons (qset (i := 1) sc_zkind.nd rfl (he := (qadd (qv 1) (qlst (qa_cons (qisE hot hn kT_NoHouse eC .own rfl m_isinstance (qv 0) (qclsv rfl gT_NoHouse)) (qa_cons (qisE hot hn kT_NoRow eC .own rfl m_isinstance (qv 0) (qclsv rfl gT_NoRow)) (qa_cons (qisE hot hn kT_NoNumber eC .own rfl m_isinstance (qv 0) (qclsv rfl gT_NoNumber)) (qa_cons (qisE hot hn kT_NoDeed eC .own rfl m_isinstance (qv 0) (qclsv rfl gT_NoDeed)) qa_nil))))))))
  (qs_cons (qif (qwt (qor (qtneH hr (qm_count (qv 1) (qa_cons qbl qa_nil)) qint) (qor (qnot (qtv (qisE hot hn kT_MainsError eC .own rfl m_isinstance (qv 0) (qclsv rfl gT_MainsError)))) (qor1 (qnot (qtv (qisE hot hn kT_ValueError eC .ty rfl m_isinstance (qv 0) (qclsT rfl m_ValueError (by decide +kernel))))))))) (qs_one (qret (qneg qint))) qs_nil)
  (qs_one (qret (qm_indexF (qv 1) (qa_cons qbl qa_nil))))))))
theorem sc_is_from : FnScope ["thing", "least", "most"] ["thing", "least", "most"] (defScope sD_is_from) := by walk_at "s"
theorem ok_is_from {f : Addr} {fd : FuncData} (F : Fun K "is_from" "is_from" sD_is_from f fd) (seer : base.NoSeer) (tree : P.given.tree = none) (c_is_whole : Cal P w K mg base CX0 41 "is_whole" sp_is_whole) : FnOk P w K mg base CX0 (41 + 1) f fd ["thing", "least", "most"] (liftSp K sp_is_from) := by
 refine okW F sc_is_from seer tree (by decide) (fun ws G Q E h => ?_) (fun cdv A outer s H E hr hd => ⟨t_is_from, ?_, rd_is_from⟩)
 ·exact len_is_from ws G Q E h
 ·exact (qs_one (qret (qandV (qcall c_is_whole (hr.mono (by decide)) rfl (qa_cons (qv 0) qa_nil)) (qone (qlele (qv 1) (qv 0) (qv 2))))))
theorem sc_losable : FnScope ["net", "k"] ["net"] (defScope sD_losable) := by walk_at "s"
theorem ok_losable {f : Addr} {fd : FuncData} (F : Fun K "losable" "losable" sD_losable f fd) (seer : base.NoSeer) (tree : P.given.tree = none) (c_hangs_together : Cal P w K mg base CX0 41 "hangs_together" sp_hangs_together) (c_left_lines : Cal P w K mg base CX0 41 "left_lines" sp_left_lines) (m_range : mg "range" = none) (m_len : mg "len" = none) : FnOk P w K mg base CX0 (41 + 1) f fd ["net"] (liftSp K sp_losable) := by
 refine okW F sc_losable seer tree (by decide) (fun ws G Q E h => ?_) (fun cdv A outer s H E hr hd => ⟨t_losable, ?_, rd_losable⟩)
 ·exact len_losable ws G Q E h
 ·exact (qs_one (qret (qlcM (own := [("k", 1)]) rfl sc_losable.nd (qrange1 rfl m_range (qa_cons (qlen rfl m_len (qa_cons (qix (qv 0) qint) qa_nil)) qa_nil)) (blkOk_by (N := ["net", "k"]) (sc := defScope sD_losable) (by decide +kernel)) (gcN (i := 1) sc_losable.nd rfl) (fun _ _ _ _ _ => qts_one (qtv (qcall c_hangs_together (hr.mono (by decide)) rfl (qa_cons (qix (qv 0) qint) (qa_cons (qcall c_left_lines (hr.mono (by decide)) rfl (qa_cons (qv 0) (qa_cons (qv 1) qa_nil))) qa_nil))))) (fun _ _ _ _ _ => (qv 1)))))
theorem sc_numbers_of : FnScope ["words", "found", "word", "number"] ["words"] (defScope sD_numbers_of) := by walk_at "s"
theorem ok_numbers_of {f : Addr} {fd : FuncData} (F : Fun K "numbers_of" "numbers_of" sD_numbers_of f fd) (seer : base.NoSeer) (tree : P.given.tree = none) (c_number_of : Cal P w K mg base CX0 41 "number_of" sp_number_of) (c_must_be : Cal P w K mg base CX0 41 "must_be" sp_must_be) (m_all : mg "all" = none) (m_tuple : mg "tuple" = none) : FnOk P w K mg base CX0 (41 + 1) f fd ["words"] (liftSp K sp_numbers_of) := by
 refine okW F sc_numbers_of seer tree (by decide) (fun ws G Q E h => ?_) (fun cdv A outer s H E hr hd => ⟨t_numbers_of, ?_, rd_numbers_of⟩)
 ·exact len_numbers_of ws G Q E h
 ·exact (qs_cons (qsetLc (j := 1) (own := [("word", 2)]) rfl sc_numbers_of.nd rfl rfl (sw_true rfl rfl rfl (by decide +kernel)) (qiseq (qv 0)) (blkOk_by (N := ["words", "found", "word", "number"]) (sc := defScope sD_numbers_of) (by decide +kernel)) (gcN (i := 2) sc_numbers_of.nd rfl) (fun _ _ _ _ _ => qts_nil) (fun _ _ _ _ _ => (qcall c_number_of (hr.mono (by decide)) rfl (qa_cons (qv 2) qa_nil))))
  (qs_cons (qexpr (qcall c_must_be (hr.mono (by decide)) rfl (qa_cons (qall rfl rfl m_all (qa_cons (qlc (own := [("number", 3)]) rfl sc_numbers_of.nd (qiseq (qv 1)) (blkOk_by (N := ["words", "found", "word", "number"]) (sc := defScope sD_numbers_of) (by decide +kernel)) (gcN (i := 3) sc_numbers_of.nd rfl) (fun _ _ _ _ _ => qts_nil) (fun _ _ _ _ _ => (qnotN (qv 3)))) qa_nil)) qa_nil)))
  (qs_one (qret (qtuple rfl m_tuple (qa_cons (qv 1) qa_nil))))))
theorem sc_shown_work : FnScope ["work", "place", "least", "keep", "pieces", "start", "stay", "rest", "was", "ahead", "piece"] ["work"] (defScope sD_shown_work) := by walk_at "s"
theorem ok_shown_work {f : Addr} {fd : FuncData} (F : Fun K "shown_work" "shown_work" sD_shown_work f fd) (seer : base.NoSeer) (tree : P.given.tree = none) (c_shown_row : Cal P w K mg base CX0 41 "shown_row" sp_shown_row) (c_colons : Cal P w K mg base CX0 41 "colons" sp_colons) (c_ON : GlobW K mg "ON" (.str "on")) (c_OFF : GlobW K mg "OFF" (.str "off")) : FnOk P w K mg base CX0 (41 + 1) f fd ["work"] (liftSp K sp_shown_work) := by
 refine okW F sc_shown_work seer tree (by decide) (fun ws G Q E h => ?_) (fun cdv A outer s H E hr hd => ⟨t_shown_work, ?_, rd_shown_work⟩)
 ·exact len_shown_work ws G Q E h
 ·exact (qs_cons (qasg (qv 0) (qgT rfl (qgs_cons (qgN (i := 1) sc_shown_work.nd rfl) (qgs_cons (qgN (i := 2) sc_shown_work.nd rfl) (qgs_cons (qgN (i := 3) sc_shown_work.nd rfl) (qgs_cons (qgN (i := 4) sc_shown_work.nd rfl) (qgs_cons (qgN (i := 5) sc_shown_work.nd rfl) (qgs_cons (qgN (i := 6) sc_shown_work.nd rfl) (qgs_cons (qgN (i := 7) sc_shown_work.nd rfl) (qgs_cons (qgN (i := 8) sc_shown_work.nd rfl) qgs_nil))))))))))
  (qs_cons (qset (i := 9) sc_shown_work.nd rfl (he := (qcall c_shown_row (hr.mono (by decide)) rfl (qa_cons qstr (qa_cons (qtup (qa_cons (qv 1) (qa_cons (qv 2) (qa_cons (qv 3) (qa_cons (qv 5) (qa_cons (qv 6) (qa_cons (qv 7) qa_nil))))))) qa_nil)))))
  (qs_one (qret (qjoin qstr (qadd (qlst (qa_cons (qv 9) (qa_cons (qifExp (qtv (qv 8)) (qglob rfl c_ON) (qglob rfl c_OFF)) qa_nil))) (qlc (own := [("piece", 10)]) rfl sc_shown_work.nd (qiseq (qv 4)) (blkOk_by (N := ["work", "place", "least", "keep", "pieces", "start", "stay", "rest", "was", "ahead", "piece"]) (sc := defScope sD_shown_work) (by decide +kernel)) (gcN (i := 10) sc_shown_work.nd rfl) (fun _ _ _ _ _ => qts_nil) (fun _ _ _ _ _ => (qcall c_colons (hr.mono (by decide)) rfl (qa_cons (qv 10) qa_nil))))))))))
theorem sc_words_of : FnScope ["row", "words", "numbers", "word"] ["row"] (defScope sD_words_of) := by walk_at "s"
theorem ok_words_of {f : Addr} {fd : FuncData} (F : Fun K "words_of" "words_of" sD_words_of f fd) (seer : base.NoSeer) (tree : P.given.tree = none) (c_number_of : Cal P w K mg base CX0 41 "number_of" sp_number_of) (m_isinstance : mg "isinstance" = none) (m_str : mg "str" = none) (m_len : mg "len" = none) (c_COUNTS : GDic K mg w "COUNTS" [("lose", 1), ("stop", 1), ("want", 4), ("undo", 0), ("house", 0), ("limits", 0), ("cost", 0), ("on", 0), ("price", 2), ("owed", 0)]) : FnOk P w K mg base CX0 (41 + 1) f fd ["row"] (liftSp K sp_words_of) := by
 refine okW F sc_words_of seer tree (by decide) (fun ws G Q E h => ?_) (fun cdv A outer s H E hr hd => ⟨t_words_of, ?_, rd_words_of⟩)
 ·exact len_words_of ws G Q E h
 ·exact (qs_cons (qif (qnot (qtv (qisi (k := .str) (by decide) (by decide +kernel) (by decide) (by decide) rfl m_isinstance rfl m_str (qv 0)))) (qs_one qnever) qs_nil)
  (qs_cons (qset (i := 1) sc_words_of.nd rfl (he := (qsplit (qv 0) qstr)))
  (qs_cons (qif (qwt (qor (qtninG c_COUNTS rfl (qix (qv 1) qint)) (qor1 (qtne hr (qlen rfl m_len (qa_cons (qv 1) qa_nil)) (qadd qint (qGget c_COUNTS rfl (qix (qv 1) qint))))))) (qs_one qnever) qs_nil)
  (qs_cons (qsetLc (j := 2) (own := [("word", 3)]) rfl sc_words_of.nd rfl rfl (sw_true rfl rfl rfl (by decide +kernel)) (qiseq (qslice (qv 1) (qp_some qint) qp_none)) (blkOk_by (N := ["row", "words", "numbers", "word"]) (sc := defScope sD_words_of) (by decide +kernel)) (gcN (i := 3) sc_words_of.nd rfl) (fun _ _ _ _ _ => qts_nil) (fun _ _ _ _ _ => (qcall c_number_of (hr.mono (by decide)) rfl (qa_cons (qv 3) qa_nil))))
  (qs_cons (qif (qtin qnon (qv 2)) (qs_one qnever) qs_nil)
  (qs_one (qret (qtup (qa_cons (qix (qv 1) qint) (qa_cons (qv 2) qa_nil))))))))))
theorem sc_behind_stop : FnScope ["house", "work", "net", "works", "store", "hours"] ["house", "work"] (defScope sD_behind_stop) := by walk_at "s"
theorem ok_behind_stop {f : Addr} {fd : FuncData} (F : Fun K "behind_stop" "behind_stop" sD_behind_stop f fd) (seer : base.NoSeer) (tree : P.given.tree = none) (c_must_be_below : Cal P w K mg base (L2N.CX P w) 41 "must_be_below" sp_must_be_below) (m_len : mg "len" = none) : FnOk P w K mg base (L2N.CX P w) (41 + 1) f fd ["house", "work"] (liftSp K sp_behind_stop) := by
 refine okWX F sc_behind_stop seer tree (by decide) (fun ws G Q E h => ?_) (fun cdv A outer s H E hr hd hp => ⟨t_behind_stop, ?_, rd_behind_stop⟩)
 ·exact len_behind_stop ws G Q E h
 ·exact (qs_cons (qasg (qv 0) (qgT rfl (qgs_cons (qgN (i := 2) sc_behind_stop.nd rfl) (qgs_cons (qgN (i := 3) sc_behind_stop.nd rfl) (qgs_cons (qgN (i := 4) sc_behind_stop.nd rfl) (qgs_cons (qgN (i := 5) sc_behind_stop.nd rfl) qgs_nil))))))
  (qs_cons (qexprX (qcallX c_must_be_below (hr.mono (by decide)) rfl (qa_cons (qv 1) (qa_cons (qlen rfl m_len (qa_cons (qv 3) qa_nil)) qa_nil))))
  (qs_one (qret (qtup (qa_cons (qv 2) (qa_cons (qadd (qslice (qv 3) qp_none (qp_some (qv 1))) (qslice (qv 3) (qp_some (qadd (qv 1) qint)) qp_none)) (qa_cons (qv 4) (qa_cons (qv 5) qa_nil)))))))))
theorem sc_behind_want : FnScope ["house", "numbers", "hour", "k", "size", "worth", "hours", "wants"] ["house", "numbers"] (defScope sD_behind_want) := by walk_at "s"
theorem ok_behind_want {f : Addr} {fd : FuncData} (F : Fun K "behind_want" "behind_want" sD_behind_want f fd) (seer : base.NoSeer) (tree : P.given.tree = none) (c_must_be_below : Cal P w K mg base (L2N.CX P w) 41 "must_be_below" sp_must_be_below) (c_with_wants : Cal P w K mg base CX0 41 "with_wants" sp_with_wants) (m_len : mg "len" = none) (c_MOST_SIZE_desk : GlobW K mg "MOST_SIZE_desk" (.int 30)) (c_MOST_WORTH : GlobW K mg "MOST_WORTH" (.int 100)) : FnOk P w K mg base (L2N.CX P w) (41 + 1) f fd ["house", "numbers"] (liftSp K sp_behind_want) := by
 refine okWX F sc_behind_want seer tree (by decide) (fun ws G Q E h => ?_) (fun cdv A outer s H E hr hd hp => ⟨t_behind_want, ?_, rd_behind_want⟩)
 ·exact len_behind_want ws G Q E h
 ·exact (qs_cons (qasg (qv 1) (qgT rfl (qgs_cons (qgN (i := 2) sc_behind_want.nd rfl) (qgs_cons (qgN (i := 3) sc_behind_want.nd rfl) (qgs_cons (qgN (i := 4) sc_behind_want.nd rfl) (qgs_cons (qgN (i := 5) sc_behind_want.nd rfl) qgs_nil))))))
  (qs_cons (qset (i := 6) sc_behind_want.nd rfl (he := (qix (qv 0) qint)))
  (qs_cons (qexprX (qcallX c_must_be_below (hr.mono (by decide)) rfl (qa_cons (qv 2) (qa_cons (qlen rfl m_len (qa_cons (qv 6) qa_nil)) qa_nil))))
  (qs_cons (qset (i := 7) sc_behind_want.nd rfl (he := (qix (qv 6) (qv 2))))
  (qs_cons (qexprX (qcallX c_must_be_below (hr.mono (by decide)) rfl (qa_cons (qv 3) (qa_cons (qlen rfl m_len (qa_cons (qv 7) qa_nil)) qa_nil))))
  (qs_cons (qexprX (qcallX c_must_be_below (hr.mono (by decide)) rfl (qa_cons (qv 4) (qa_cons (qadd (qglob rfl c_MOST_SIZE_desk) qint) qa_nil))))
  (qs_cons (qexprX (qcallX c_must_be_below (hr.mono (by decide)) rfl (qa_cons (qv 5) (qa_cons (qadd (qglob rfl c_MOST_WORTH) qint) qa_nil))))
  (qs_one (qret (qcall c_with_wants (hr.mono (by decide)) rfl (qa_cons (qv 0) (qa_cons (qv 2) (qa_cons (qadd (qadd (qslice (qv 7) qp_none (qp_some (qv 3))) (qtup (qa_cons (qtup (qa_cons (qix (qix (qv 7) (qv 3)) qint) (qa_cons (qv 4) (qa_cons (qv 5) qa_nil)))) qa_nil))) (qslice (qv 7) (qp_some (qadd (qv 3) qint)) qp_none)) qa_nil)))))))))))))
theorem sc_znet : FnScope ["_law_bag_here", "_law_many", "_law_lines", "_law_place", "_law_k", "_law_one", "_law_high", "_law_other"] ["_law_bag_here", "_law_many"] (defScope sD_znet) := by walk_at "s"
theorem ok_znet {f : Addr} {fd : FuncData} (F : Fun K "_law_net" "_law_net" sD_znet f fd) (seer : base.NoSeer) (tree : P.given.tree = none) (c_ztake : Cal P w K mg base CX0 41 "_law_take" sp_ztake) (m_range : mg "range" = none) (m_int : mg "int" = none) (m_tuple : mg "tuple" = none) : FnOk P w K mg base CX0 (41 + 1) f fd ["_law_bag_here", "_law_many"] (liftSp K sp_znet) := by
 refine okW F sc_znet seer tree (by decide) (fun ws G Q E h => ?_) (fun cdv A outer s H E hr hd => ⟨t_znet, ?_, rd_znet⟩)
 ·exact len_znet ws G Q E h
 ·exact (qs_cons (qset (i := 2) sc_znet.nd rfl (he := (qlstM qa_nil)))
  (qs_cons (qfor (ks := [false, false, false, true, true, true, true, true]) PassesOwn.never rfl (qrange2 rfl m_range (qa_cons qint (qa_cons (qv 1) qa_nil))) (qgN (i := 3) sc_znet.nd rfl) (qs_one (qexpr (qm_append (qv 2) (qa_cons (qtup (qa_cons (qcall c_ztake (hr.mono (by decide)) rfl (qa_cons (qv 0) (qa_cons (qv 3) qa_nil))) (qa_cons (qv 3) qa_nil))) qa_nil)))))
  (qs_cons (qfor (ks := [false, false, false, true, true, true, true, true]) PassesOwn.never rfl (qrange1 rfl m_range (qa_cons (qmul (qcall c_ztake (hr.mono (by decide)) rfl (qa_cons (qv 0) (qa_cons (qsub qint (qv 1)) qa_nil))) (qint1 rfl m_int (qa_cons (qgt (qv 1) qint) qa_nil))) qa_nil)) (qgN (i := 4) sc_znet.nd rfl) (qs_cons (qset (i := 5) sc_znet.nd rfl (he := (qcall c_ztake (hr.mono (by decide)) rfl (qa_cons (qv 0) (qa_cons (qv 1) qa_nil)))))
  (qs_one (qexpr (qm_append (qv 2) (qa_cons (qtup (qa_cons (qv 5) (qa_cons (qmod (qadd (qadd (qv 5) qint) (qcall c_ztake (hr.mono (by decide)) rfl (qa_cons (qv 0) (qa_cons (qsub (qv 1) qint) qa_nil)))) (qv 1)) qa_nil))) qa_nil))))))
  (qs_cons (qfz 2 (qset (i := 6) sc_znet.nd rfl (he := (qix (qlst (qa_cons qint (qa_cons qint (qa_cons qint (qa_cons qint qa_nil))))) (qcall c_ztake (hr.mono (by decide)) rfl (qa_cons (qv 0) (qa_cons qint qa_nil)))))))
  (qs_one (qret (qtup (qa_cons (qv 1) (qa_cons (qtuple rfl m_tuple (qa_cons (qlc (own := [("_law_one", 5), ("_law_other", 7)]) rfl sc_znet.nd (qiseq (qv 2)) (blkOk_by (N := ["_law_bag_here", "_law_many", "_law_lines", "_law_place", "_law_k", "_law_one", "_law_high", "_law_other"]) (sc := defScope sD_znet) (by decide +kernel)) (gcT rfl (gcs_cons (i := 5) sc_znet.nd rfl (gcs_cons (i := 7) sc_znet.nd rfl gcs_nil))) (fun _ _ _ _ _ => qts_nil) (fun _ _ _ _ _ => (qtup (qa_cons (qv 5) (qa_cons (qv 7) (qa_cons (qadd qint (qcall c_ztake (hr.mono (by decide)) rfl (qa_cons (qv 0) (qa_cons qint qa_nil)))) (qa_cons (qcall c_ztake (hr.mono (by decide)) rfl (qa_cons (qv 0) (qa_cons (qadd (qv 6) qint) qa_nil))) qa_nil))))))) qa_nil)) qa_nil)))))))))
theorem sc_zwork : FnScope ["_law_bag_here", "_law_many", "_law_place", "_law_least", "_law_pieces", "_law_keep", "_law_start", "_law_was"] ["_law_bag_here", "_law_many"] (defScope sD_zwork) := by walk_at "s"
theorem ok_zwork {f : Addr} {fd : FuncData} (F : Fun K "_law_work" "_law_work" sD_zwork f fd) (seer : base.NoSeer) (tree : P.given.tree = none) (c_ztake : Cal P w K mg base CX0 41 "_law_take" sp_ztake) (m_tuple : mg "tuple" = none) : FnOk P w K mg base CX0 (41 + 1) f fd ["_law_bag_here", "_law_many"] (liftSp K sp_zwork) := by
 refine okW F sc_zwork seer tree (by decide) (fun ws G Q E h => ?_) (fun cdv A outer s H E hr hd => ⟨t_zwork, ?_, rd_zwork⟩)
 ·exact len_zwork ws G Q E h
 ·exact (qs_cons (qset (i := 2) sc_zwork.nd rfl (he := (qcall c_ztake (hr.mono (by decide)) rfl (qa_cons (qv 0) (qa_cons (qv 1) qa_nil)))))
  (qs_cons (qset (i := 3) sc_zwork.nd rfl (he := (qix (qlst (qa_cons qint (qa_cons (qcall c_ztake (hr.mono (by decide)) rfl (qa_cons (qv 0) (qa_cons qint qa_nil))) (qa_cons (qcall c_ztake (hr.mono (by decide)) rfl (qa_cons (qv 0) (qa_cons qint qa_nil))) qa_nil)))) (qcall c_ztake (hr.mono (by decide)) rfl (qa_cons (qv 0) (qa_cons qint qa_nil))))))
  (qs_cons (qset (i := 4) sc_zwork.nd rfl (he := (qlstM (qa_cons (qtup (qa_cons (qadd qint (qcall c_ztake (hr.mono (by decide)) rfl (qa_cons (qv 0) (qa_cons qint qa_nil)))) (qa_cons (qcall c_ztake (hr.mono (by decide)) rfl (qa_cons (qv 0) (qa_cons qint qa_nil))) qa_nil))) qa_nil))))
  (qs_cons (qif (qteq hr (qcall c_ztake (hr.mono (by decide)) rfl (qa_cons (qv 0) (qa_cons qint qa_nil))) qint) (qs_one (qexpr (qm_append (qv 4) (qa_cons (qtup (qa_cons (qadd qint (qcall c_ztake (hr.mono (by decide)) rfl (qa_cons (qv 0) (qa_cons qint qa_nil)))) (qa_cons (qadd (qix (qix (qv 4) qint) qint) (qcall c_ztake (hr.mono (by decide)) rfl (qa_cons (qv 0) (qa_cons qint qa_nil)))) qa_nil))) qa_nil)))) qs_nil)
  (qs_cons (qset (i := 5) sc_zwork.nd rfl (he := (qcall c_ztake (hr.mono (by decide)) rfl (qa_cons (qv 0) (qa_cons qint qa_nil)))))
  (qs_cons (qset (i := 6) sc_zwork.nd rfl (he := (qcall c_ztake (hr.mono (by decide)) rfl (qa_cons (qv 0) (qa_cons qint qa_nil)))))
  (qs_cons (qset (i := 7) sc_zwork.nd rfl (he := (qeq hr (qcall c_ztake (hr.mono (by decide)) rfl (qa_cons (qv 0) (qa_cons qint qa_nil))) qint)))
  (qs_one (qret (qtup (qa_cons (qv 2) (qa_cons (qv 3) (qa_cons (qv 5) (qa_cons (qtuple rfl m_tuple (qa_cons (qv 4) qa_nil)) (qa_cons (qv 6) (qa_cons (qadd qint (qcall c_ztake (hr.mono (by decide)) rfl (qa_cons (qv 0) (qa_cons qint qa_nil)))) (qa_cons (qadd qint (qcall c_ztake (hr.mono (by decide)) rfl (qa_cons (qv 0) (qa_cons qint qa_nil)))) (qa_cons (qv 7) qa_nil))))))))))))))))))
theorem sc_zwants : FnScope ["_law_bag_here", "_law_many", "_law_found", "_law_k", "_law_worth"] ["_law_bag_here", "_law_many"] (defScope sD_zwants) := by walk_at "s"
theorem ok_zwants {f : Addr} {fd : FuncData} (F : Fun K "_law_wants" "_law_wants" sD_zwants f fd) (seer : base.NoSeer) (tree : P.given.tree = none) (c_ztake : Cal P w K mg base CX0 41 "_law_take" sp_ztake) (m_range : mg "range" = none) (m_int : mg "int" = none) (m_tuple : mg "tuple" = none) : FnOk P w K mg base CX0 (41 + 1) f fd ["_law_bag_here", "_law_many"] (liftSp K sp_zwants) := by
 refine okW F sc_zwants seer tree (by decide) (fun ws G Q E h => ?_) (fun cdv A outer s H E hr hd => ⟨t_zwants, ?_, rd_zwants⟩)
 ·exact len_zwants ws G Q E h
 ·exact (qs_cons (qset (i := 2) sc_zwants.nd rfl (he := (qlstM qa_nil)))
  (qs_cons (qfor (ks := [false, false, false, true, true]) PassesOwn.never rfl (qrange1 rfl m_range (qa_cons (qcall c_ztake (hr.mono (by decide)) rfl (qa_cons (qv 0) (qa_cons qint qa_nil))) qa_nil)) (qgN (i := 3) sc_zwants.nd rfl) (qs_cons (qset (i := 4) sc_zwants.nd rfl (he := (qix (qlst (qa_cons (qcall c_ztake (hr.mono (by decide)) rfl (qa_cons (qv 0) (qa_cons qint qa_nil))) (qa_cons qint qa_nil))) (qint1 rfl m_int (qa_cons (qeq hr (qcall c_ztake (hr.mono (by decide)) rfl (qa_cons (qv 0) (qa_cons qint qa_nil))) qint) qa_nil)))))
  (qs_one (qexpr (qm_append (qv 2) (qa_cons (qtup (qa_cons (qcall c_ztake (hr.mono (by decide)) rfl (qa_cons (qv 0) (qa_cons (qv 1) qa_nil))) (qa_cons (qcall c_ztake (hr.mono (by decide)) rfl (qa_cons (qv 0) (qa_cons qint qa_nil))) (qa_cons (qv 4) qa_nil)))) qa_nil))))))
  (qs_one (qret (qtuple rfl m_tuple (qa_cons (qv 2) qa_nil))))))
theorem sc_zstore : FnScope ["_law_bag_here", "_law_many", "_law_top", "_law_taken"] ["_law_bag_here", "_law_many"] (defScope sD_zstore) := by walk_at "s"
theorem ok_zstore {f : Addr} {fd : FuncData} (F : Fun K "_law_store" "_law_store" sD_zstore f fd) (seer : base.NoSeer) (tree : P.given.tree = none) (c_ztake : Cal P w K mg base CX0 41 "_law_take" sp_ztake) : FnOk P w K mg base CX0 (41 + 1) f fd ["_law_bag_here", "_law_many"] (liftSp K sp_zstore) := by
 refine okW F sc_zstore seer tree (by decide) (fun ws G Q E h => ?_) (fun cdv A outer s H E hr hd => ⟨t_zstore, ?_, rd_zstore⟩)
 ·exact len_zstore ws G Q E h
 ·exact (qs_cons (qif (qteq hr (qcall c_ztake (hr.mono (by decide)) rfl (qa_cons (qv 0) (qa_cons qint qa_nil))) qint) (qs_one (qret qnon)) qs_nil)
  (qs_cons (qset (i := 2) sc_zstore.nd rfl (he := (qadd qint (qcall c_ztake (hr.mono (by decide)) rfl (qa_cons (qv 0) (qa_cons qint qa_nil))))))
  (qs_cons (qset (i := 3) sc_zstore.nd rfl (he := (qadd qint (qcall c_ztake (hr.mono (by decide)) rfl (qa_cons (qv 0) (qa_cons qint qa_nil))))))
  (qs_one (qret (qtup (qa_cons (qcall c_ztake (hr.mono (by decide)) rfl (qa_cons (qv 0) (qa_cons (qv 1) qa_nil))) (qa_cons (qv 2) (qa_cons (qcall c_ztake (hr.mono (by decide)) rfl (qa_cons (qv 0) (qa_cons (qadd (qv 2) qint) qa_nil))) (qa_cons (qv 3) (qa_cons (qcall c_ztake (hr.mono (by decide)) rfl (qa_cons (qv 0) (qa_cons (qadd (qv 3) qint) qa_nil))) qa_nil)))))))))))
theorem sc_zdeed : FnScope ["_law_bag_here", "_law_house_here", "_law_net_here", "_law_works", "_law_store_here", "_law_hours", "_law_way", "_law_more", "_law_hour", "_law_many", "_law_k", "_law_worth"] ["_law_bag_here", "_law_house_here"] (defScope sD_zdeed) := by walk_at "s"
theorem ok_zdeed {f : Addr} {fd : FuncData} (F : Fun K "_law_deed" "_law_deed" sD_zdeed f fd) (seer : base.NoSeer) (tree : P.given.tree = none) (c_ztake : Cal P w K mg base CX0 41 "_law_take" sp_ztake) (m_int : mg "int" = none) (m_str : mg "str" = none) (m_len : mg "len" = none) : FnOk P w K mg base CX0 (41 + 1) f fd ["_law_bag_here", "_law_house_here"] (liftSp K sp_zdeed) := by
 refine okW F sc_zdeed seer tree (by decide) (fun ws G Q E h => ?_) (fun cdv A outer s H E hr hd => ⟨t_zdeed, ?_, rd_zdeed⟩)
 ·exact len_zdeed ws G Q E h
 ·exact (qs_cons (qasg (qv 1) (qgT rfl (qgs_cons (qgN (i := 2) sc_zdeed.nd rfl) (qgs_cons (qgN (i := 3) sc_zdeed.nd rfl) (qgs_cons (qgN (i := 4) sc_zdeed.nd rfl) (qgs_cons (qgN (i := 5) sc_zdeed.nd rfl) qgs_nil))))))
  (qs_cons (qset (i := 6) sc_zdeed.nd rfl (he := (qcall c_ztake (hr.mono (by decide)) rfl (qa_cons (qv 0) (qa_cons qint qa_nil)))))
  (qs_cons (qset (i := 7) sc_zdeed.nd rfl (he := (qint1 rfl m_int (qa_cons (qeq hr (qcall c_ztake (hr.mono (by decide)) rfl (qa_cons (qv 0) (qa_cons qint qa_nil))) qint) qa_nil))))
  (qs_cons (qif (qteq hr (qv 6) qint) (qs_one (qret (qlstM (qa_cons qstr (qa_cons (qstrI rfl m_str (qa_cons (qcall c_ztake (hr.mono (by decide)) rfl (qa_cons (qv 0) (qa_cons (qsub (qadd (qlen rfl m_len (qa_cons (qix (qv 2) qint) qa_nil)) qint) (qint1 rfl m_int (qa_cons (qandV (qeq hr (qv 7) qint) (qone (qgt (qlen rfl m_len (qa_cons (qix (qv 2) qint) qa_nil)) qint))) qa_nil))) qa_nil))) qa_nil)) qa_nil))))) qs_nil)
  (qs_cons (qif (qteq hr (qv 6) qint) (qs_one (qret (qlstM (qa_cons qstr (qa_cons (qstrI rfl m_str (qa_cons (qcall c_ztake (hr.mono (by decide)) rfl (qa_cons (qv 0) (qa_cons (qsub (qadd (qlen rfl m_len (qa_cons (qv 3) qa_nil)) qint) (qint1 rfl m_int (qa_cons (qandV (qeq hr (qv 7) qint) (qone (qgt (qlen rfl m_len (qa_cons (qv 3) qa_nil)) qint))) qa_nil))) qa_nil))) qa_nil)) qa_nil))))) qs_nil)
  (qs_cons (qset (i := 8) sc_zdeed.nd rfl (he := (qcall c_ztake (hr.mono (by decide)) rfl (qa_cons (qv 0) (qa_cons (qadd (qlen rfl m_len (qa_cons (qv 5) qa_nil)) (qv 7)) qa_nil)))))
  (qs_cons (qset (i := 9) sc_zdeed.nd rfl (he := (qlen rfl m_len (qa_cons (qix (qadd (qv 5) (qtup (qa_cons (qtup qa_nil) qa_nil))) (qv 8)) qa_nil))))
  (qs_cons (qset (i := 10) sc_zdeed.nd rfl (he := (qcall c_ztake (hr.mono (by decide)) rfl (qa_cons (qv 0) (qa_cons (qsub (qadd (qv 9) qint) (qint1 rfl m_int (qa_cons (qandV (qeq hr (qv 7) qint) (qone (qgt (qv 9) qint))) qa_nil))) qa_nil)))))
  (qs_cons (qset (i := 11) sc_zdeed.nd rfl (he := (qadd (qix (qlst (qa_cons (qcall c_ztake (hr.mono (by decide)) rfl (qa_cons (qv 0) (qa_cons qint qa_nil))) (qa_cons qint qa_nil))) (qint1 rfl m_int (qa_cons (qeq hr (qcall c_ztake (hr.mono (by decide)) rfl (qa_cons (qv 0) (qa_cons qint qa_nil))) qint) qa_nil))) (qmul (qv 7) (qcall c_ztake (hr.mono (by decide)) rfl (qa_cons (qv 0) (qa_cons qint qa_nil)))))))
  (qs_one (qret (qlstM (qa_cons qstr (qa_cons (qstrI rfl m_str (qa_cons (qv 8) qa_nil)) (qa_cons (qstrI rfl m_str (qa_cons (qv 10) qa_nil)) (qa_cons (qstrI rfl m_str (qa_cons (qcall c_ztake (hr.mono (by decide)) rfl (qa_cons (qv 0) (qa_cons (qadd qint (qv 7)) qa_nil))) qa_nil)) (qa_cons (qstrI rfl m_str (qa_cons (qv 11) qa_nil)) qa_nil)))))))))))))))))
theorem sc_is_line : FnScope ["many", "thing", "one", "other", "stiffness", "most"] ["many", "thing"] (defScope sD_is_line) := by walk_at "s"
theorem ok_is_line {f : Addr} {fd : FuncData} (F : Fun K "is_line" "is_line" sD_is_line f fd) (seer : base.NoSeer) (tree : P.given.tree = none) (c_is_from : Cal P w K mg base CX0 42 "is_from" sp_is_from) (m_isinstance : mg "isinstance" = none) (m_tuple : mg "tuple" = none) (m_len : mg "len" = none) (c_STIFFEST : GlobW K mg "STIFFEST" (.int 9)) (c_MOST_BORNE : GlobW K mg "MOST_BORNE" (.int 99)) : FnOk P w K mg base CX0 (42 + 1) f fd ["many", "thing"] (liftSp K sp_is_line) := by
 refine okW F sc_is_line seer tree (by decide) (fun ws G Q E h => ?_) (fun cdv A outer s H E hr hd => ⟨t_is_line, ?_, rd_is_line⟩)
 ·exact len_is_line ws G Q E h
 ·exact (qs_cons (qif (qwt (qor (qnot (qtv (qisi (k := .tuple) (by decide) (by decide +kernel) (by decide) (by decide) rfl m_isinstance rfl m_tuple (qv 1)))) (qor1 (qtne hr (qlen rfl m_len (qa_cons (qv 1) qa_nil)) qint)))) (qs_one (qret qbl)) qs_nil)
  (qs_cons (qasg (qv 1) (qgT rfl (qgs_cons (qgN (i := 2) sc_is_line.nd rfl) (qgs_cons (qgN (i := 3) sc_is_line.nd rfl) (qgs_cons (qgN (i := 4) sc_is_line.nd rfl) (qgs_cons (qgN (i := 5) sc_is_line.nd rfl) qgs_nil))))))
  (qs_cons (qif (qwt (qor (qnot (qtv (qcall c_is_from (hr.mono (by decide)) rfl (qa_cons (qv 2) (qa_cons qint (qa_cons (qsub (qv 0) qint) qa_nil)))))) (qor (qnot (qtv (qcall c_is_from (hr.mono (by decide)) rfl (qa_cons (qv 3) (qa_cons qint (qa_cons (qsub (qv 0) qint) qa_nil)))))) (qor1 (qteq hr (qv 2) (qv 3)))))) (qs_one (qret qbl)) qs_nil)
  (qs_one (qret (qandV (qcall c_is_from (hr.mono (by decide)) rfl (qa_cons (qv 4) (qa_cons qint (qa_cons (qglob rfl c_STIFFEST) qa_nil)))) (qone (qcall c_is_from (hr.mono (by decide)) rfl (qa_cons (qv 5) (qa_cons qint (qa_cons (qglob rfl c_MOST_BORNE) qa_nil)))))))))))
theorem sc_without : FnScope ["net", "line"] ["net", "line"] (defScope sD_without) := by walk_at "s"
theorem ok_without {f : Addr} {fd : FuncData} (F : Fun K "without" "without" sD_without f fd) (seer : base.NoSeer) (tree : P.given.tree = none) (c_is_from : Cal P w K mg base CX0 42 "is_from" sp_is_from) (c_hangs_together : Cal P w K mg base CX0 41 "hangs_together" sp_hangs_together) (c_left_lines : Cal P w K mg base CX0 41 "left_lines" sp_left_lines) (m_len : mg "len" = none) : FnOk P w K mg base CX0 (42 + 1) f fd ["net", "line"] (liftSp K sp_without) := by
 refine okW F sc_without seer tree (by decide) (fun ws G Q E h => ?_) (fun cdv A outer s H E hr hd => ⟨t_without, ?_, rd_without⟩)
 ·exact len_without ws G Q E h
 ·exact (qs_cons (qif (qnot (qtv (qcall c_is_from (hr.mono (by decide)) rfl (qa_cons (qv 1) (qa_cons qint (qa_cons (qsub (qlen rfl m_len (qa_cons (qix (qv 0) qint) qa_nil)) qint) qa_nil)))))) (qs_one qnever) qs_nil)
  (qs_cons (qif (qnot (qtv (qcall c_hangs_together (hr.mono (by decide)) rfl (qa_cons (qix (qv 0) qint) (qa_cons (qcall c_left_lines (hr.mono (by decide)) rfl (qa_cons (qv 0) (qa_cons (qv 1) qa_nil))) qa_nil))))) (qs_one qnever) qs_nil)
  (qs_one (qret (qtup (qa_cons (qix (qv 0) qint) (qa_cons (qcall c_left_lines (hr.mono (by decide)) rfl (qa_cons (qv 0) (qa_cons (qv 1) qa_nil))) qa_nil)))))))
theorem sc_limits : FnScope ["net", "found", "lost", "line"] ["net"] (defScope sD_limits) := by walk_at "s"
theorem ok_limits {f : Addr} {fd : FuncData} (F : Fun K "limits" "limits" sD_limits f fd) (seer : base.NoSeer) (tree : P.given.tree = none) (c_losable : Cal P w K mg base CX0 42 "losable" sp_losable) (m_range : mg "range" = none) (m_len : mg "len" = none) : FnOk P w K mg base CX0 (42 + 1) f fd ["net"] (liftSp K sp_limits) := by
 refine okW F sc_limits seer tree (by decide) (fun ws G Q E h => ?_) (fun cdv A outer s H E hr hd => ⟨t_limits, ?_, rd_limits⟩)
 ·exact len_limits ws G Q E h
 ·exact (qs_cons (qset (i := 1) sc_limits.nd rfl (he := (qlstM qa_nil)))
  (qs_cons (qfor (ks := [false, false, true, true]) PassesOwn.never rfl (qiseq (qadd (qlst (qa_cons (qneg qint) qa_nil)) (qcall c_losable (hr.mono (by decide)) rfl (qa_cons (qv 0) qa_nil)))) (qgN (i := 2) sc_limits.nd rfl) (qs_one (qfor (ks := [false, false, false, true]) PassesOwn.never rfl (qrange1 rfl m_range (qa_cons (qlen rfl m_len (qa_cons (qix (qv 0) qint) qa_nil)) qa_nil)) (qgN (i := 3) sc_limits.nd rfl) (qs_one (qif (qtne hr (qv 3) (qv 2)) (qs_one (qexpr (qm_extend (qv 1) (qa_cons (qlst (qa_cons (qtup (qa_cons (qv 2) (qa_cons (qv 3) (qa_cons (qneg qint) qa_nil)))) (qa_cons (qtup (qa_cons (qv 2) (qa_cons (qv 3) (qa_cons qint qa_nil)))) qa_nil))) qa_nil)))) qs_nil)))))
  (qs_one (qret (qv 1)))))
theorem sc_is_piece : FnScope ["thing"] ["thing"] (defScope sD_is_piece) := by walk_at "s"
theorem ok_is_piece {f : Addr} {fd : FuncData} (F : Fun K "is_piece" "is_piece" sD_is_piece f fd) (seer : base.NoSeer) (tree : P.given.tree = none) (c_is_row_of : Cal P w K mg base CX0 41 "is_row_of" sp_is_row_of) (c_is_from : Cal P w K mg base CX0 42 "is_from" sp_is_from) (c_MOST_WIDTH : GlobW K mg "MOST_WIDTH" (.int 20)) (c_MOST_PRICE : GlobW K mg "MOST_PRICE" (.int 99)) : FnOk P w K mg base CX0 (42 + 1) f fd ["thing"] (liftSp K sp_is_piece) := by
 refine okW F sc_is_piece seer tree (by decide) (fun ws G Q E h => ?_) (fun cdv A outer s H E hr hd => ⟨t_is_piece, ?_, rd_is_piece⟩)
 ·exact len_is_piece ws G Q E h
 ·exact (qs_one (qret (qandV (qcall c_is_row_of (hr.mono (by decide)) rfl (qa_cons (qv 0) (qa_cons qint (qa_cons qint qa_nil)))) (qandV (qcall c_is_from (hr.mono (by decide)) rfl (qa_cons (qix (qv 0) qint) (qa_cons qint (qa_cons (qglob rfl c_MOST_WIDTH) qa_nil)))) (qone (qcall c_is_from (hr.mono (by decide)) rfl (qa_cons (qix (qv 0) qint) (qa_cons qint (qa_cons (qglob rfl c_MOST_PRICE) qa_nil)))))))))
theorem sc_is_store : FnScope ["thing", "many", "place", "top", "level", "taken", "given"] ["thing", "many"] (defScope sD_is_store) := by walk_at "s"
theorem ok_is_store {f : Addr} {fd : FuncData} (F : Fun K "is_store" "is_store" sD_is_store f fd) (seer : base.NoSeer) (tree : P.given.tree = none) (c_is_row_of : Cal P w K mg base CX0 41 "is_row_of" sp_is_row_of) (c_is_from : Cal P w K mg base CX0 42 "is_from" sp_is_from) (c_TOPMOST : GlobW K mg "TOPMOST" (.int 2)) (c_MOST_WIDTH : GlobW K mg "MOST_WIDTH" (.int 20)) : FnOk P w K mg base CX0 (42 + 1) f fd ["thing", "many"] (liftSp K sp_is_store) := by
 refine okW F sc_is_store seer tree (by decide) (fun ws G Q E h => ?_) (fun cdv A outer s H E hr hd => ⟨t_is_store, ?_, rd_is_store⟩)
 ·exact len_is_store ws G Q E h
 ·exact (qs_cons (qif (qtisN (qv 0)) (qs_one (qret qbl)) qs_nil)
  (qs_cons (qif (qnot (qtv (qcall c_is_row_of (hr.mono (by decide)) rfl (qa_cons (qv 0) (qa_cons qint (qa_cons qint qa_nil)))))) (qs_one (qret qbl)) qs_nil)
  (qs_cons (qasg (qv 0) (qgT rfl (qgs_cons (qgN (i := 2) sc_is_store.nd rfl) (qgs_cons (qgN (i := 3) sc_is_store.nd rfl) (qgs_cons (qgN (i := 4) sc_is_store.nd rfl) (qgs_cons (qgN (i := 5) sc_is_store.nd rfl) (qgs_cons (qgN (i := 6) sc_is_store.nd rfl) qgs_nil)))))))
  (qs_cons (qif (qwt (qor (qnot (qtv (qcall c_is_from (hr.mono (by decide)) rfl (qa_cons (qv 2) (qa_cons qint (qa_cons (qsub (qv 1) qint) qa_nil)))))) (qor (qnot (qtv (qcall c_is_from (hr.mono (by decide)) rfl (qa_cons (qv 3) (qa_cons qint (qa_cons (qglob rfl c_TOPMOST) qa_nil)))))) (qor1 (qnot (qtv (qcall c_is_from (hr.mono (by decide)) rfl (qa_cons (qv 4) (qa_cons qint (qa_cons (qv 3) qa_nil)))))))))) (qs_one (qret qbl)) qs_nil)
  (qs_one (qret (qandV (qcall c_is_from (hr.mono (by decide)) rfl (qa_cons (qv 5) (qa_cons qint (qa_cons (qglob rfl c_MOST_WIDTH) qa_nil)))) (qone (qcall c_is_from (hr.mono (by decide)) rfl (qa_cons (qv 6) (qa_cons qint (qa_cons (qv 5) qa_nil))))))))))))
theorem sc_is_want : FnScope ["thing", "many"] ["thing", "many"] (defScope sD_is_want) := by walk_at "s"
theorem ok_is_want {f : Addr} {fd : FuncData} (F : Fun K "is_want" "is_want" sD_is_want f fd) (seer : base.NoSeer) (tree : P.given.tree = none) (c_is_row_of : Cal P w K mg base CX0 41 "is_row_of" sp_is_row_of) (c_is_from : Cal P w K mg base CX0 42 "is_from" sp_is_from) (c_MOST_SIZE_houses : GlobW K mg "MOST_SIZE_houses" (.int 30)) (c_FIRM : GlobW K mg "FIRM" (.int 100)) : FnOk P w K mg base CX0 (42 + 1) f fd ["thing", "many"] (liftSp K sp_is_want) := by
 refine okW F sc_is_want seer tree (by decide) (fun ws G Q E h => ?_) (fun cdv A outer s H E hr hd => ⟨t_is_want, ?_, rd_is_want⟩)
 ·exact len_is_want ws G Q E h
 ·exact (qs_cons (qif (qnot (qtv (qcall c_is_row_of (hr.mono (by decide)) rfl (qa_cons (qv 0) (qa_cons qint (qa_cons qint qa_nil)))))) (qs_one (qret qbl)) qs_nil)
  (qs_one (qret (qandV (qcall c_is_from (hr.mono (by decide)) rfl (qa_cons (qix (qv 0) qint) (qa_cons qint (qa_cons (qsub (qv 1) qint) qa_nil)))) (qandV (qcall c_is_from (hr.mono (by decide)) rfl (qa_cons (qix (qv 0) qint) (qa_cons qint (qa_cons (qglob rfl c_MOST_SIZE_houses) qa_nil)))) (qone (qcall c_is_from (hr.mono (by decide)) rfl (qa_cons (qix (qv 0) qint) (qa_cons qint (qa_cons (qglob rfl c_FIRM) qa_nil))))))))))
theorem sc_parted_numbers : FnScope ["word", "many", "parts"] ["word", "many"] (defScope sD_parted_numbers) := by walk_at "s"
theorem ok_parted_numbers {f : Addr} {fd : FuncData} (F : Fun K "parted_numbers" "parted_numbers" sD_parted_numbers f fd) (seer : base.NoSeer) (tree : P.given.tree = none) (c_must_be : Cal P w K mg base CX0 41 "must_be" sp_must_be) (c_numbers_of : Cal P w K mg base CX0 42 "numbers_of" sp_numbers_of) (m_len : mg "len" = none) : FnOk P w K mg base CX0 (42 + 1) f fd ["word", "many"] (liftSp K sp_parted_numbers) := by
 refine okW F sc_parted_numbers seer tree (by decide) (fun ws G Q E h => ?_) (fun cdv A outer s H E hr hd => ⟨t_parted_numbers, ?_, rd_parted_numbers⟩)
 ·exact len_parted_numbers ws G Q E h
 ·exact (qs_cons (qset (i := 2) sc_parted_numbers.nd rfl (he := (qsplit (qv 0) qstr)))
  (qs_cons (qexpr (qcall c_must_be (hr.mono (by decide)) rfl (qa_cons (qeq hr (qlen rfl m_len (qa_cons (qv 2) qa_nil)) (qv 1)) qa_nil)))
  (qs_one (qret (qcall c_numbers_of (hr.mono (by decide)) rfl (qa_cons (qv 2) qa_nil))))))
theorem sc_read_net : FnScope ["words"] ["words"] (defScope sD_read_net) := by walk_at "s"
theorem ok_read_net {f : Addr} {fd : FuncData} (F : Fun K "read_net" "read_net" sD_read_net f fd) (seer : base.NoSeer) (tree : P.given.tree = none) (c_must_be : Cal P w K mg base CX0 41 "must_be" sp_must_be) (c_numbers_of : Cal P w K mg base CX0 42 "numbers_of" sp_numbers_of) (m_len : mg "len" = none) : FnOk P w K mg base CX0 (42 + 1) f fd ["words"] (liftSp K sp_read_net) := by
 refine okW F sc_read_net seer tree (by decide) (fun ws G Q E h => ?_) (fun cdv A outer s H E hr hd => ⟨t_read_net, ?_, rd_read_net⟩)
 ·exact len_read_net ws G Q E h
 ·exact (qs_cons (qexpr (qcall c_must_be (hr.mono (by decide)) rfl (qa_cons (qandV (qeq hr (qlen rfl m_len (qa_cons (qv 0) qa_nil)) qint) (qone (qeq hr (qix (qv 0) qint) qstr))) qa_nil)))
  (qs_one (qret (qix (qcall c_numbers_of (hr.mono (by decide)) rfl (qa_cons (qslice (qv 0) (qp_some qint) qp_none) qa_nil)) qint))))
theorem sc_read_line : FnScope ["words"] ["words"] (defScope sD_read_line) := by walk_at "s"
theorem ok_read_line {f : Addr} {fd : FuncData} (F : Fun K "read_line" "read_line" sD_read_line f fd) (seer : base.NoSeer) (tree : P.given.tree = none) (c_must_be : Cal P w K mg base CX0 41 "must_be" sp_must_be) (c_numbers_of : Cal P w K mg base CX0 42 "numbers_of" sp_numbers_of) (m_len : mg "len" = none) : FnOk P w K mg base CX0 (42 + 1) f fd ["words"] (liftSp K sp_read_line) := by
 refine okW F sc_read_line seer tree (by decide) (fun ws G Q E h => ?_) (fun cdv A outer s H E hr hd => ⟨t_read_line, ?_, rd_read_line⟩)
 ·exact len_read_line ws G Q E h
 ·exact (qs_cons (qexpr (qcall c_must_be (hr.mono (by decide)) rfl (qa_cons (qeq hr (qlen rfl m_len (qa_cons (qv 0) qa_nil)) qint) qa_nil)))
  (qs_one (qret (qcall c_numbers_of (hr.mono (by decide)) rfl (qa_cons (qslice (qv 0) (qp_some qint) qp_none) qa_nil)))))
theorem sc_read_store : FnScope ["words"] ["words"] (defScope sD_read_store) := by walk_at "s"
theorem ok_read_store {f : Addr} {fd : FuncData} (F : Fun K "read_store" "read_store" sD_read_store f fd) (seer : base.NoSeer) (tree : P.given.tree = none) (c_must_be : Cal P w K mg base CX0 41 "must_be" sp_must_be) (c_numbers_of : Cal P w K mg base CX0 42 "numbers_of" sp_numbers_of) (m_len : mg "len" = none) : FnOk P w K mg base CX0 (42 + 1) f fd ["words"] (liftSp K sp_read_store) := by
 refine okW F sc_read_store seer tree (by decide) (fun ws G Q E h => ?_) (fun cdv A outer s H E hr hd => ⟨t_read_store, ?_, rd_read_store⟩)
 ·exact len_read_store ws G Q E h
 ·exact (qs_cons (qexpr (qcall c_must_be (hr.mono (by decide)) rfl (qa_cons (qeq hr (qlen rfl m_len (qa_cons (qv 0) qa_nil)) qint) qa_nil)))
  (qs_one (qret (qcall c_numbers_of (hr.mono (by decide)) rfl (qa_cons (qslice (qv 0) (qp_some qint) qp_none) qa_nil)))))
theorem sc_house_rows : FnScope ["house", "net", "works", "store", "hours", "found", "line", "work", "wants", "want"] ["house"] (defScope sD_house_rows) := by walk_at "s"
theorem ok_house_rows {f : Addr} {fd : FuncData} (F : Fun K "house_rows" "house_rows" sD_house_rows f fd) (seer : base.NoSeer) (tree : P.given.tree = none) (c_shown_row : Cal P w K mg base CX0 41 "shown_row" sp_shown_row) (c_shown_work : Cal P w K mg base CX0 42 "shown_work" sp_shown_work) (c_colons : Cal P w K mg base CX0 41 "colons" sp_colons) : FnOk P w K mg base CX0 (42 + 1) f fd ["house"] (liftSp K sp_house_rows) := by
 refine okW F sc_house_rows seer tree (by decide) (fun ws G Q E h => ?_) (fun cdv A outer s H E hr hd => ⟨t_house_rows, ?_, rd_house_rows⟩)
 ·exact len_house_rows ws G Q E h
 ·exact (qs_cons (qasg (qv 0) (qgT rfl (qgs_cons (qgN (i := 1) sc_house_rows.nd rfl) (qgs_cons (qgN (i := 2) sc_house_rows.nd rfl) (qgs_cons (qgN (i := 3) sc_house_rows.nd rfl) (qgs_cons (qgN (i := 4) sc_house_rows.nd rfl) qgs_nil))))))
  (qs_cons (qset (i := 5) sc_house_rows.nd rfl (he := (qaddM (qlst (qa_cons (qcall c_shown_row (hr.mono (by decide)) rfl (qa_cons qstr (qa_cons (qtup (qa_cons (qix (qv 1) qint) qa_nil)) qa_nil))) qa_nil)) (qlc (own := [("line", 6)]) rfl sc_house_rows.nd (qiseq (qix (qv 1) qint)) (blkOk_by (N := ["house", "net", "works", "store", "hours", "found", "line", "work", "wants", "want"]) (sc := defScope sD_house_rows) (by decide +kernel)) (gcN (i := 6) sc_house_rows.nd rfl) (fun _ _ _ _ _ => qts_nil) (fun _ _ _ _ _ => (qcall c_shown_row (hr.mono (by decide)) rfl (qa_cons qstr (qa_cons (qv 6) qa_nil))))))))
  (qs_cons (qexpr (qm_extend (qv 5) (qa_cons (qlc (own := [("work", 7)]) rfl sc_house_rows.nd (qiseq (qv 2)) (blkOk_by (N := ["house", "net", "works", "store", "hours", "found", "line", "work", "wants", "want"]) (sc := defScope sD_house_rows) (by decide +kernel)) (gcN (i := 7) sc_house_rows.nd rfl) (fun _ _ _ _ _ => qts_nil) (fun _ _ _ _ _ => (qcall c_shown_work (hr.mono (by decide)) rfl (qa_cons (qv 7) qa_nil)))) qa_nil)))
  (qs_cons (qif (qtnotN (qv 3)) (qs_one (qexpr (qm_append (qv 5) (qa_cons (qcall c_shown_row (hr.mono (by decide)) rfl (qa_cons qstr (qa_cons (qv 3) qa_nil))) qa_nil)))) qs_nil)
  (qs_one (qfz 5 (qret (qadd (qv 5) (qlc (own := [("wants", 8)]) rfl sc_house_rows.nd (qiseq (qv 4)) (blkOk_by (N := ["house", "net", "works", "store", "hours", "found", "line", "work", "wants", "want"]) (sc := defScope sD_house_rows) (by decide +kernel)) (gcN (i := 8) sc_house_rows.nd rfl) (fun _ _ _ _ _ => qts_nil) (fun _ _ _ _ _ => (qjoin qstr (qadd (qlst (qa_cons qstr qa_nil)) (qlc (own := [("want", 9)]) rfl sc_house_rows.nd (qiseq (qv 8)) (by exact blkOk_nest (N := ["house", "net", "works", "store", "hours", "found", "line", "work", "wants", "want"]) (by decide +kernel)) (gcN (i := 9) sc_house_rows.nd rfl) (fun _ _ _ _ _ => qts_nil) (fun _ _ _ _ _ => (qcall c_colons (hr.mono (by decide)) rfl (qa_cons (qv 9) qa_nil))))))))))))))))
theorem sc_zhouse : FnScope ["_law_bag_here", "_law_many", "_law_hours", "_law_works", "_law_net_here", "_law_some", "_law_store_here", "_law_k"] ["_law_bag_here"] (defScope sD_zhouse) := by walk_at "s"
theorem ok_zhouse {f : Addr} {fd : FuncData} (F : Fun K "_law_house" "_law_house" sD_zhouse f fd) (seer : base.NoSeer) (tree : P.given.tree = none) (c_ztake : Cal P w K mg base CX0 41 "_law_take" sp_ztake) (c_znet : Cal P w K mg base CX0 42 "_law_net" sp_znet) (c_zwork : Cal P w K mg base CX0 42 "_law_work" sp_zwork) (c_zstore : Cal P w K mg base CX0 42 "_law_store" sp_zstore) (c_zwants : Cal P w K mg base CX0 42 "_law_wants" sp_zwants) (m_tuple : mg "tuple" = none) (m_range : mg "range" = none) : FnOk P w K mg base CX0 (42 + 1) f fd ["_law_bag_here"] (liftSp K sp_zhouse) := by
 refine okW F sc_zhouse seer tree (by decide) (fun ws G Q E h => ?_) (fun cdv A outer s H E hr hd => ⟨t_zhouse, ?_, rd_zhouse⟩)
 ·exact len_zhouse ws G Q E h
 ·exact (qs_cons (qset (i := 1) sc_zhouse.nd rfl (he := (qadd qint (qcall c_ztake (hr.mono (by decide)) rfl (qa_cons (qv 0) (qa_cons qint qa_nil))))))
  (qs_cons (qset (i := 2) sc_zhouse.nd rfl (he := (qadd qint (qcall c_ztake (hr.mono (by decide)) rfl (qa_cons (qv 0) (qa_cons qint qa_nil))))))
  (qs_cons (qset (i := 3) sc_zhouse.nd rfl (he := (qcall c_ztake (hr.mono (by decide)) rfl (qa_cons (qv 0) (qa_cons qint qa_nil)))))
  (qs_cons (qif (qteq hr (qcall c_ztake (hr.mono (by decide)) rfl (qa_cons (qv 0) (qa_cons qint qa_nil))) qint) (qs_cons (qset (i := 3) sc_zhouse.nd rfl (he := qint))
  (qs_one (qset (i := 2) sc_zhouse.nd rfl (he := (qadd qint (qcall c_ztake (hr.mono (by decide)) rfl (qa_cons (qv 0) (qa_cons qint qa_nil)))))))) qs_nil)
  (qs_cons (qset (i := 4) sc_zhouse.nd rfl (he := (qcall c_znet (hr.mono (by decide)) rfl (qa_cons (qv 0) (qa_cons (qv 1) qa_nil)))))
  (qs_cons (qset (i := 5) sc_zhouse.nd rfl (he := (qtuple rfl m_tuple (qa_cons (qlc (own := [("_law_k", 7)]) rfl sc_zhouse.nd (qrange1 rfl m_range (qa_cons (qv 3) qa_nil)) (blkOk_by (N := ["_law_bag_here", "_law_many", "_law_hours", "_law_works", "_law_net_here", "_law_some", "_law_store_here", "_law_k"]) (sc := defScope sD_zhouse) (by decide +kernel)) (gcN (i := 7) sc_zhouse.nd rfl) (fun _ _ _ _ _ => qts_nil) (fun _ _ _ _ _ => (qcall c_zwork (hr.mono (by decide)) rfl (qa_cons (qv 0) (qa_cons (qv 1) qa_nil))))) qa_nil))))
  (qs_cons (qset (i := 6) sc_zhouse.nd rfl (he := (qcall c_zstore (hr.mono (by decide)) rfl (qa_cons (qv 0) (qa_cons (qv 1) qa_nil)))))
  (qs_one (qret (qtup (qa_cons (qv 4) (qa_cons (qv 5) (qa_cons (qv 6) (qa_cons (qtuple rfl m_tuple (qa_cons (qlc (own := [("_law_k", 7)]) rfl sc_zhouse.nd (qrange1 rfl m_range (qa_cons (qv 2) qa_nil)) (blkOk_by (N := ["_law_bag_here", "_law_many", "_law_hours", "_law_works", "_law_net_here", "_law_some", "_law_store_here", "_law_k"]) (sc := defScope sD_zhouse) (by decide +kernel)) (gcN (i := 7) sc_zhouse.nd rfl) (fun _ _ _ _ _ => qts_nil) (fun _ _ _ _ _ => (qcall c_zwants (hr.mono (by decide)) rfl (qa_cons (qv 0) (qa_cons (qv 1) qa_nil))))) qa_nil)) qa_nil))))))))))))))
theorem sc_is_net : FnScope ["thing", "many", "lines", "line"] ["thing"] (defScope sD_is_net) := by walk_at "s"
theorem ok_is_net {f : Addr} {fd : FuncData} (F : Fun K "is_net" "is_net" sD_is_net f fd) (seer : base.NoSeer) (tree : P.given.tree = none) (c_is_from : Cal P w K mg base CX0 42 "is_from" sp_is_from) (c_is_line : Cal P w K mg base CX0 43 "is_line" sp_is_line) (c_hangs_together : Cal P w K mg base CX0 41 "hangs_together" sp_hangs_together) (m_isinstance : mg "isinstance" = none) (m_tuple : mg "tuple" = none) (m_len : mg "len" = none) (m_all : mg "all" = none) (c_MOST_PLACES : GlobW K mg "MOST_PLACES" (.int 4)) (c_MOST_LINES : GlobW K mg "MOST_LINES" (.int 6)) : FnOk P w K mg base CX0 (43 + 1) f fd ["thing"] (liftSp K sp_is_net) := by
 refine okW F sc_is_net seer tree (by decide) (fun ws G Q E h => ?_) (fun cdv A outer s H E hr hd => ⟨t_is_net, ?_, rd_is_net⟩)
 ·exact len_is_net ws G Q E h
 ·exact (qs_cons (qif (qwt (qor (qnot (qtv (qisi (k := .tuple) (by decide) (by decide +kernel) (by decide) (by decide) rfl m_isinstance rfl m_tuple (qv 0)))) (qor (qtne hr (qlen rfl m_len (qa_cons (qv 0) qa_nil)) qint) (qor1 (qnot (qtv (qcall c_is_from (hr.mono (by decide)) rfl (qa_cons (qix (qv 0) qint) (qa_cons qint (qa_cons (qglob rfl c_MOST_PLACES) qa_nil)))))))))) (qs_one (qret qbl)) qs_nil)
  (qs_cons (qasg (qv 0) (qgT rfl (qgs_cons (qgN (i := 1) sc_is_net.nd rfl) (qgs_cons (qgN (i := 2) sc_is_net.nd rfl) qgs_nil))))
  (qs_cons (qif (qwt (qor (qnot (qtv (qisi (k := .tuple) (by decide) (by decide +kernel) (by decide) (by decide) rfl m_isinstance rfl m_tuple (qv 2)))) (qor1 (qtgt (qlen rfl m_len (qa_cons (qv 2) qa_nil)) (qglob rfl c_MOST_LINES))))) (qs_one (qret qbl)) qs_nil)
  (qs_one (qret (qandV (qall rfl rfl m_all (qa_cons (qlc (own := [("line", 3)]) rfl sc_is_net.nd (qiseq (qv 2)) (blkOk_by (N := ["thing", "many", "lines", "line"]) (sc := defScope sD_is_net) (by decide +kernel)) (gcN (i := 3) sc_is_net.nd rfl) (fun _ _ _ _ _ => qts_nil) (fun _ _ _ _ _ => (qcall c_is_line (hr.mono (by decide)) rfl (qa_cons (qv 1) (qa_cons (qv 3) qa_nil))))) qa_nil)) (qone (qcall c_hangs_together (hr.mono (by decide)) rfl (qa_cons (qv 1) (qa_cons (qv 2) qa_nil))))))))))
theorem sc_are_pieces : FnScope ["thing", "piece"] ["thing"] (defScope sD_are_pieces) := by walk_at "s"
theorem ok_are_pieces {f : Addr} {fd : FuncData} (F : Fun K "are_pieces" "are_pieces" sD_are_pieces f fd) (seer : base.NoSeer) (tree : P.given.tree = none) (c_is_row_of : Cal P w K mg base CX0 41 "is_row_of" sp_is_row_of) (c_is_piece : Cal P w K mg base CX0 43 "is_piece" sp_is_piece) (m_all : mg "all" = none) : FnOk P w K mg base CX0 (43 + 1) f fd ["thing"] (liftSp K sp_are_pieces) := by
 refine okW F sc_are_pieces seer tree (by decide) (fun ws G Q E h => ?_) (fun cdv A outer s H E hr hd => ⟨t_are_pieces, ?_, rd_are_pieces⟩)
 ·exact len_are_pieces ws G Q E h
 ·exact (qs_cons (qif (qwt (qor (qnot (qtv (qcall c_is_row_of (hr.mono (by decide)) rfl (qa_cons (qv 0) (qa_cons qint (qa_cons qint qa_nil)))))) (qor1 (qnot (qtv (qall rfl rfl m_all (qa_cons (qlc (own := [("piece", 1)]) rfl sc_are_pieces.nd (qiseq (qv 0)) (blkOk_by (N := ["thing", "piece"]) (sc := defScope sD_are_pieces) (by decide +kernel)) (gcN (i := 1) sc_are_pieces.nd rfl) (fun _ _ _ _ _ => qts_nil) (fun _ _ _ _ _ => (qcall c_is_piece (hr.mono (by decide)) rfl (qa_cons (qv 1) qa_nil)))) qa_nil))))))) (qs_one (qret qbl)) qs_nil)
  (qs_one (qret (qle (qix (qix (qv 0) qint) qint) (qix (qix (qv 0) (qneg qint)) qint)))))
theorem sc_are_wants : FnScope ["thing", "many", "want"] ["thing", "many"] (defScope sD_are_wants) := by walk_at "s"
theorem ok_are_wants {f : Addr} {fd : FuncData} (F : Fun K "are_wants" "are_wants" sD_are_wants f fd) (seer : base.NoSeer) (tree : P.given.tree = none) (c_is_row_of : Cal P w K mg base CX0 41 "is_row_of" sp_is_row_of) (c_is_want : Cal P w K mg base CX0 43 "is_want" sp_is_want) (m_all : mg "all" = none) (c_MOST_WANTS : GlobW K mg "MOST_WANTS" (.int 3)) : FnOk P w K mg base CX0 (43 + 1) f fd ["thing", "many"] (liftSp K sp_are_wants) := by
 refine okW F sc_are_wants seer tree (by decide) (fun ws G Q E h => ?_) (fun cdv A outer s H E hr hd => ⟨t_are_wants, ?_, rd_are_wants⟩)
 ·exact len_are_wants ws G Q E h
 ·exact (qs_one (qret (qandV (qcall c_is_row_of (hr.mono (by decide)) rfl (qa_cons (qv 0) (qa_cons qint (qa_cons (qglob rfl c_MOST_WANTS) qa_nil)))) (qone (qall rfl rfl m_all (qa_cons (qlc (own := [("want", 2)]) rfl sc_are_wants.nd (qiseq (qv 0)) (blkOk_by (N := ["thing", "many", "want"]) (sc := defScope sD_are_wants) (by decide +kernel)) (gcN (i := 2) sc_are_wants.nd rfl) (fun _ _ _ _ _ => qts_nil) (fun _ _ _ _ _ => (qcall c_is_want (hr.mono (by decide)) rfl (qa_cons (qv 2) (qa_cons (qv 1) qa_nil))))) qa_nil))))))
theorem sc_read_work : FnScope ["words", "place", "least", "keep", "start", "stay", "rest", "pieces", "word"] ["words"] (defScope sD_read_work) := by walk_at "s"
theorem ok_read_work {f : Addr} {fd : FuncData} (F : Fun K "read_work" "read_work" sD_read_work f fd) (seer : base.NoSeer) (tree : P.given.tree = none) (c_must_be : Cal P w K mg base CX0 41 "must_be" sp_must_be) (c_numbers_of : Cal P w K mg base CX0 42 "numbers_of" sp_numbers_of) (c_parted_numbers : Cal P w K mg base CX0 43 "parted_numbers" sp_parted_numbers) (m_len : mg "len" = none) (m_tuple : mg "tuple" = none) (c_ON : GlobW K mg "ON" (.str "on")) (c_OFF : GlobW K mg "OFF" (.str "off")) : FnOk P w K mg base CX0 (43 + 1) f fd ["words"] (liftSp K sp_read_work) := by
 refine okW F sc_read_work seer tree (by decide) (fun ws G Q E h => ?_) (fun cdv A outer s H E hr hd => ⟨t_read_work, ?_, rd_read_work⟩)
 ·exact len_read_work ws G Q E h
 ·exact (qs_cons (qexpr (qcall c_must_be (hr.mono (by decide)) rfl (qa_cons (qandV (qge (qlen rfl m_len (qa_cons (qv 0) qa_nil)) qint) (qone (qin (qix (qv 0) qint) (qtup (qa_cons (qglob rfl c_ON) (qa_cons (qglob rfl c_OFF) qa_nil)))))) qa_nil)))
  (qs_cons (qasg (qcall c_numbers_of (hr.mono (by decide)) rfl (qa_cons (qslice (qv 0) (qp_some qint) (qp_some qint)) qa_nil)) (qgT rfl (qgs_cons (qgN (i := 1) sc_read_work.nd rfl) (qgs_cons (qgN (i := 2) sc_read_work.nd rfl) (qgs_cons (qgN (i := 3) sc_read_work.nd rfl) (qgs_cons (qgN (i := 4) sc_read_work.nd rfl) (qgs_cons (qgN (i := 5) sc_read_work.nd rfl) (qgs_cons (qgN (i := 6) sc_read_work.nd rfl) qgs_nil))))))))
  (qs_cons (qset (i := 7) sc_read_work.nd rfl (he := (qtuple rfl m_tuple (qa_cons (qlc (own := [("word", 8)]) rfl sc_read_work.nd (qiseq (qslice (qv 0) (qp_some qint) qp_none)) (blkOk_by (N := ["words", "place", "least", "keep", "start", "stay", "rest", "pieces", "word"]) (sc := defScope sD_read_work) (by decide +kernel)) (gcN (i := 8) sc_read_work.nd rfl) (fun _ _ _ _ _ => qts_nil) (fun _ _ _ _ _ => (qcall c_parted_numbers (hr.mono (by decide)) rfl (qa_cons (qv 8) (qa_cons qint qa_nil))))) qa_nil))))
  (qs_one (qret (qtup (qa_cons (qv 1) (qa_cons (qv 2) (qa_cons (qv 3) (qa_cons (qv 7) (qa_cons (qv 4) (qa_cons (qv 5) (qa_cons (qv 6) (qa_cons (qeq hr (qix (qv 0) qint) (qglob rfl c_ON)) qa_nil))))))))))))))
theorem sc_read_hour : FnScope ["words", "word"] ["words"] (defScope sD_read_hour) := by walk_at "s"
theorem ok_read_hour {f : Addr} {fd : FuncData} (F : Fun K "read_hour" "read_hour" sD_read_hour f fd) (seer : base.NoSeer) (tree : P.given.tree = none) (c_parted_numbers : Cal P w K mg base CX0 43 "parted_numbers" sp_parted_numbers) (m_tuple : mg "tuple" = none) : FnOk P w K mg base CX0 (43 + 1) f fd ["words"] (liftSp K sp_read_hour) := by
 refine okW F sc_read_hour seer tree (by decide) (fun ws G Q E h => ?_) (fun cdv A outer s H E hr hd => ⟨t_read_hour, ?_, rd_read_hour⟩)
 ·exact len_read_hour ws G Q E h
 ·exact (qs_one (qret (qtuple rfl m_tuple (qa_cons (qlc (own := [("word", 1)]) rfl sc_read_hour.nd (qiseq (qslice (qv 0) (qp_some qint) qp_none)) (blkOk_by (N := ["words", "word"]) (sc := defScope sD_read_hour) (by decide +kernel)) (gcN (i := 1) sc_read_hour.nd rfl) (fun _ _ _ _ _ => qts_nil) (fun _ _ _ _ _ => (qcall c_parted_numbers (hr.mono (by decide)) rfl (qa_cons (qv 1) (qa_cons qint qa_nil))))) qa_nil))))
theorem sc_show_house : FnScope ["house"] ["house"] (defScope sD_show_house) := by walk_at "s"
theorem ok_show_house {f : Addr} {fd : FuncData} (F : Fun K "show_house" "show_house" sD_show_house f fd) (seer : base.NoSeer) (tree : P.given.tree = none) (c_house_rows : Cal P w K mg base CX0 43 "house_rows" sp_house_rows) : FnOk P w K mg base CX0 (43 + 1) f fd ["house"] (liftSp K sp_show_house) := by
 refine okW F sc_show_house seer tree (by decide) (fun ws G Q E h => ?_) (fun cdv A outer s H E hr hd => ⟨t_show_house, ?_, rd_show_house⟩)
 ·exact len_show_house ws G Q E h
 ·exact (qs_one (qret (qjoin qstr (qcall c_house_rows (hr.mono (by decide)) rfl (qa_cons (qv 0) qa_nil)))))
theorem sc_behind_loss_of_line : FnScope ["house", "line", "net", "works", "store", "hours"] ["house", "line"] (defScope sD_behind_loss_of_line) := by walk_at "s"
theorem ok_behind_loss_of_line {f : Addr} {fd : FuncData} (F : Fun K "behind_loss_of_line" "behind_loss_of_line" sD_behind_loss_of_line f fd) (seer : base.NoSeer) (tree : P.given.tree = none) (c_must_be_below : Cal P w K mg base (L2N.CX P w) 41 "must_be_below" sp_must_be_below) (c_losable : Cal P w K mg base CX0 42 "losable" sp_losable) (c_without : Cal P w K mg base CX0 43 "without" sp_without) (m_len : mg "len" = none) (e_NoLoss : Err K mg "NoLoss") : FnOk P w K mg base (L2N.CX P w) (43 + 1) f fd ["house", "line"] (liftSp K sp_behind_loss_of_line) := by
 refine okWX F sc_behind_loss_of_line seer tree (by decide) (fun ws G Q E h => ?_) (fun cdv A outer s H E hr hd hp => ⟨t_behind_loss_of_line, ?_, rd_behind_loss_of_line⟩)
 ·exact len_behind_loss_of_line ws G Q E h
 ·exact (qs_cons (qasg (qv 0) (qgT rfl (qgs_cons (qgN (i := 2) sc_behind_loss_of_line.nd rfl) (qgs_cons (qgN (i := 3) sc_behind_loss_of_line.nd rfl) (qgs_cons (qgN (i := 4) sc_behind_loss_of_line.nd rfl) (qgs_cons (qgN (i := 5) sc_behind_loss_of_line.nd rfl) qgs_nil))))))
  (qs_cons (qexprX (qcallX c_must_be_below (hr.mono (by decide)) rfl (qa_cons (qv 1) (qa_cons (qlen rfl m_len (qa_cons (qix (qv 2) qint) qa_nil)) qa_nil))))
  (qs_cons (qif (qtnin (qv 1) (qcall c_losable (hr.mono (by decide)) rfl (qa_cons (qv 2) qa_nil))) (qs_one (qraise e_NoLoss rfl rfl)) qs_nil)
  (qs_one (qret (qtup (qa_cons (qcall c_without (hr.mono (by decide)) rfl (qa_cons (qv 2) (qa_cons (qv 1) qa_nil))) (qa_cons (qv 3) (qa_cons (qv 4) (qa_cons (qv 5) qa_nil))))))))))
theorem sc_is_work : FnScope ["thing", "many", "place", "least", "keep", "pieces", "start", "stay", "rest", "was"] ["thing", "many"] (defScope sD_is_work) := by walk_at "s"
theorem ok_is_work {f : Addr} {fd : FuncData} (F : Fun K "is_work" "is_work" sD_is_work f fd) (seer : base.NoSeer) (tree : P.given.tree = none) (c_is_row_of : Cal P w K mg base CX0 41 "is_row_of" sp_is_row_of) (c_is_from : Cal P w K mg base CX0 42 "is_from" sp_is_from) (c_are_pieces : Cal P w K mg base CX0 44 "are_pieces" sp_are_pieces) (m_isinstance : mg "isinstance" = none) (m_bool : mg "bool" = none) (c_MOST_LEAST : GlobW K mg "MOST_LEAST" (.int 20)) (c_MOST_PRICE : GlobW K mg "MOST_PRICE" (.int 99)) (c_LONGEST : GlobW K mg "LONGEST" (.int 2)) : FnOk P w K mg base CX0 (44 + 1) f fd ["thing", "many"] (liftSp K sp_is_work) := by
 refine okW F sc_is_work seer tree (by decide) (fun ws G Q E h => ?_) (fun cdv A outer s H E hr hd => ⟨t_is_work, ?_, rd_is_work⟩)
 ·exact len_is_work ws G Q E h
 ·exact (qs_cons (qif (qnot (qtv (qcall c_is_row_of (hr.mono (by decide)) rfl (qa_cons (qv 0) (qa_cons qint (qa_cons qint qa_nil)))))) (qs_one (qret qbl)) qs_nil)
  (qs_cons (qasg (qv 0) (qgT rfl (qgs_cons (qgN (i := 2) sc_is_work.nd rfl) (qgs_cons (qgN (i := 3) sc_is_work.nd rfl) (qgs_cons (qgN (i := 4) sc_is_work.nd rfl) (qgs_cons (qgN (i := 5) sc_is_work.nd rfl) (qgs_cons (qgN (i := 6) sc_is_work.nd rfl) (qgs_cons (qgN (i := 7) sc_is_work.nd rfl) (qgs_cons (qgN (i := 8) sc_is_work.nd rfl) (qgs_cons (qgN (i := 9) sc_is_work.nd rfl) qgs_nil))))))))))
  (qs_cons (qif (qwt (qor (qnot (qtv (qcall c_is_from (hr.mono (by decide)) rfl (qa_cons (qv 2) (qa_cons qint (qa_cons (qsub (qv 1) qint) qa_nil)))))) (qor (qnot (qtv (qcall c_is_from (hr.mono (by decide)) rfl (qa_cons (qv 3) (qa_cons qint (qa_cons (qglob rfl c_MOST_LEAST) qa_nil)))))) (qor1 (qnot (qtv (qcall c_is_from (hr.mono (by decide)) rfl (qa_cons (qv 4) (qa_cons qint (qa_cons (qglob rfl c_MOST_PRICE) qa_nil)))))))))) (qs_one (qret qbl)) qs_nil)
  (qs_cons (qif (qwt (qor (qnot (qtv (qcall c_are_pieces (hr.mono (by decide)) rfl (qa_cons (qv 5) qa_nil)))) (qor1 (qnot (qtv (qcall c_is_from (hr.mono (by decide)) rfl (qa_cons (qv 6) (qa_cons qint (qa_cons (qglob rfl c_MOST_PRICE) qa_nil))))))))) (qs_one (qret qbl)) qs_nil)
  (qs_one (qret (qandV (qcall c_is_from (hr.mono (by decide)) rfl (qa_cons (qv 7) (qa_cons qint (qa_cons (qglob rfl c_LONGEST) qa_nil)))) (qandV (qcall c_is_from (hr.mono (by decide)) rfl (qa_cons (qv 8) (qa_cons qint (qa_cons (qglob rfl c_LONGEST) qa_nil)))) (qone (qisi (k := .bool) (by decide) (by decide +kernel) (by decide) (by decide) rfl m_isinstance rfl m_bool (qv 9)))))))))))
theorem sc_read_rows : FnScope ["rows", "many", "lines", "left", "works", "stores", "hours", "net", "some", "store", "words"] ["rows"] (defScope sD_read_rows) := by walk_at "s"
theorem ok_read_rows {f : Addr} {fd : FuncData} (F : Fun K "read_rows" "read_rows" sD_read_rows f fd) (seer : base.NoSeer) (tree : P.given.tree = none) (c_read_net : Cal P w K mg base CX0 43 "read_net" sp_read_net) (c_rows_with : Cal P w K mg base CX0 41 "rows_with" sp_rows_with) (c_must_be : Cal P w K mg base CX0 41 "must_be" sp_must_be) (c_read_line : Cal P w K mg base CX0 43 "read_line" sp_read_line) (c_read_work : Cal P w K mg base CX0 44 "read_work" sp_read_work) (c_read_store : Cal P w K mg base CX0 43 "read_store" sp_read_store) (c_read_hour : Cal P w K mg base CX0 44 "read_hour" sp_read_hour) (m_len : mg "len" = none) (m_tuple : mg "tuple" = none) : FnOk P w K mg base CX0 (44 + 1) f fd ["rows"] (liftSp K sp_read_rows) := by
 refine okW F sc_read_rows seer tree (by decide) (fun ws G Q E h => ?_) (fun cdv A outer s H E hr hd => ⟨t_read_rows, ?_, rd_read_rows⟩)
 ·exact len_read_rows ws G Q E h
 ·exact (qs_cons (qset (i := 1) sc_read_rows.nd rfl (he := (qcall c_read_net (hr.mono (by decide)) rfl (qa_cons (qix (qv 0) qint) qa_nil))))
  (qs_cons (qasg (qcall c_rows_with (hr.mono (by decide)) rfl (qa_cons (qslice (qv 0) (qp_some qint) qp_none) (qa_cons qstr qa_nil))) (qgT rfl (qgs_cons (qgN (i := 2) sc_read_rows.nd rfl) (qgs_cons (qgN (i := 3) sc_read_rows.nd rfl) qgs_nil))))
  (qs_cons (qasg (qcall c_rows_with (hr.mono (by decide)) rfl (qa_cons (qv 3) (qa_cons qstr qa_nil))) (qgT rfl (qgs_cons (qgN (i := 4) sc_read_rows.nd rfl) (qgs_cons (qgN (i := 3) sc_read_rows.nd rfl) qgs_nil))))
  (qs_cons (qasg (qcall c_rows_with (hr.mono (by decide)) rfl (qa_cons (qv 3) (qa_cons qstr qa_nil))) (qgT rfl (qgs_cons (qgN (i := 5) sc_read_rows.nd rfl) (qgs_cons (qgN (i := 3) sc_read_rows.nd rfl) qgs_nil))))
  (qs_cons (qasg (qcall c_rows_with (hr.mono (by decide)) rfl (qa_cons (qv 3) (qa_cons qstr qa_nil))) (qgT rfl (qgs_cons (qgN (i := 6) sc_read_rows.nd rfl) (qgs_cons (qgN (i := 3) sc_read_rows.nd rfl) qgs_nil))))
  (qs_cons (qexpr (qcall c_must_be (hr.mono (by decide)) rfl (qa_cons (qandV (qeq hr (qv 3) (qlst qa_nil)) (qone (qle (qlen rfl m_len (qa_cons (qv 5) qa_nil)) qint))) qa_nil)))
  (qs_cons (qset (i := 7) sc_read_rows.nd rfl (he := (qtup (qa_cons (qv 1) (qa_cons (qtuple rfl m_tuple (qa_cons (qlc (own := [("words", 10)]) rfl sc_read_rows.nd (qiseq (qv 2)) (blkOk_by (N := ["rows", "many", "lines", "left", "works", "stores", "hours", "net", "some", "store", "words"]) (sc := defScope sD_read_rows) (by decide +kernel)) (gcN (i := 10) sc_read_rows.nd rfl) (fun _ _ _ _ _ => qts_nil) (fun _ _ _ _ _ => (qcall c_read_line (hr.mono (by decide)) rfl (qa_cons (qv 10) qa_nil)))) qa_nil)) qa_nil)))))
  (qs_cons (qset (i := 8) sc_read_rows.nd rfl (he := (qtuple rfl m_tuple (qa_cons (qlc (own := [("words", 10)]) rfl sc_read_rows.nd (qiseq (qv 4)) (blkOk_by (N := ["rows", "many", "lines", "left", "works", "stores", "hours", "net", "some", "store", "words"]) (sc := defScope sD_read_rows) (by decide +kernel)) (gcN (i := 10) sc_read_rows.nd rfl) (fun _ _ _ _ _ => qts_nil) (fun _ _ _ _ _ => (qcall c_read_work (hr.mono (by decide)) rfl (qa_cons (qv 10) qa_nil)))) qa_nil))))
  (qs_cons (qset (i := 9) sc_read_rows.nd rfl (he := qnon))
  (qs_cons (qif (qtne hr (qv 5) (qlst qa_nil)) (qs_one (qset (i := 9) sc_read_rows.nd rfl (he := (qcall c_read_store (hr.mono (by decide)) rfl (qa_cons (qix (qv 5) qint) qa_nil))))) qs_nil)
  (qs_one (qret (qtup (qa_cons (qv 7) (qa_cons (qv 8) (qa_cons (qv 9) (qa_cons (qtuple rfl m_tuple (qa_cons (qlc (own := [("words", 10)]) rfl sc_read_rows.nd (qiseq (qv 6)) (blkOk_by (N := ["rows", "many", "lines", "left", "works", "stores", "hours", "net", "some", "store", "words"]) (sc := defScope sD_read_rows) (by decide +kernel)) (gcN (i := 10) sc_read_rows.nd rfl) (fun _ _ _ _ _ => qts_nil) (fun _ _ _ _ _ => (qcall c_read_hour (hr.mono (by decide)) rfl (qa_cons (qv 10) qa_nil)))) qa_nil)) qa_nil)))))))))))))))))
theorem sc_behind_deed : FnScope ["house", "word", "numbers"] ["house", "word", "numbers"] (defScope sD_behind_deed) := by walk_at "s"
theorem ok_behind_deed {f : Addr} {fd : FuncData} (F : Fun K "behind_deed" "behind_deed" sD_behind_deed f fd) (seer : base.NoSeer) (tree : P.given.tree = none) (c_behind_loss_of_line : Cal P w K mg base (L2N.CX P w) 44 "behind_loss_of_line" sp_behind_loss_of_line) (c_behind_stop : Cal P w K mg base (L2N.CX P w) 42 "behind_stop" sp_behind_stop) (c_behind_want : Cal P w K mg base (L2N.CX P w) 42 "behind_want" sp_behind_want) : FnOk P w K mg base (L2N.CX P w) (44 + 1) f fd ["house", "word", "numbers"] (liftSp K sp_behind_deed) := by
 refine okWX F sc_behind_deed seer tree (by decide) (fun ws G Q E h => ?_) (fun cdv A outer s H E hr hd hp => ⟨t_behind_deed, ?_, rd_behind_deed⟩)
 ·exact len_behind_deed ws G Q E h
 ·exact (qs_cons (qif (qteq hr (qv 1) qstr) (qs_one (qretX (qcallX c_behind_loss_of_line (hr.mono (by decide)) rfl (qa_cons (qv 0) (qa_cons (qix (qv 2) qint) qa_nil))))) qs_nil)
  (qs_cons (qif (qteq hr (qv 1) qstr) (qs_one (qretX (qcallX c_behind_stop (hr.mono (by decide)) rfl (qa_cons (qv 0) (qa_cons (qix (qv 2) qint) qa_nil))))) qs_nil)
  (qs_one (qretX (qcallX c_behind_want (hr.mono (by decide)) rfl (qa_cons (qv 0) (qa_cons (qv 2) qa_nil)))))))
theorem sc_is_house : FnScope ["thing", "many", "work", "wants"] ["thing"] (defScope sD_is_house) := by walk_at "s"
theorem ok_is_house {f : Addr} {fd : FuncData} (F : Fun K "is_house" "is_house" sD_is_house f fd) (seer : base.NoSeer) (tree : P.given.tree = none) (c_is_row_of : Cal P w K mg base CX0 41 "is_row_of" sp_is_row_of) (c_is_net : Cal P w K mg base CX0 44 "is_net" sp_is_net) (c_is_work : Cal P w K mg base CX0 45 "is_work" sp_is_work) (c_is_store : Cal P w K mg base CX0 43 "is_store" sp_is_store) (c_are_wants : Cal P w K mg base CX0 44 "are_wants" sp_are_wants) (m_all : mg "all" = none) (c_MOST_WORKS : GlobW K mg "MOST_WORKS" (.int 3)) (c_MOST_HOURS : GlobW K mg "MOST_HOURS" (.int 3)) : FnOk P w K mg base CX0 (45 + 1) f fd ["thing"] (liftSp K sp_is_house) := by
 refine okW F sc_is_house seer tree (by decide) (fun ws G Q E h => ?_) (fun cdv A outer s H E hr hd => ⟨t_is_house, ?_, rd_is_house⟩)
 ·exact len_is_house ws G Q E h
 ·exact (qs_cons (qif (qwt (qor (qnot (qtv (qcall c_is_row_of (hr.mono (by decide)) rfl (qa_cons (qv 0) (qa_cons qint (qa_cons qint qa_nil)))))) (qor1 (qnot (qtv (qcall c_is_net (hr.mono (by decide)) rfl (qa_cons (qix (qv 0) qint) qa_nil))))))) (qs_one (qret qbl)) qs_nil)
  (qs_cons (qset (i := 1) sc_is_house.nd rfl (he := (qix (qix (qv 0) qint) qint)))
  (qs_cons (qif (qwt (qor (qnot (qtv (qcall c_is_row_of (hr.mono (by decide)) rfl (qa_cons (qix (qv 0) qint) (qa_cons qint (qa_cons (qglob rfl c_MOST_WORKS) qa_nil)))))) (qor1 (qnot (qtv (qall rfl rfl m_all (qa_cons (qlc (own := [("work", 2)]) rfl sc_is_house.nd (qiseq (qix (qv 0) qint)) (blkOk_by (N := ["thing", "many", "work", "wants"]) (sc := defScope sD_is_house) (by decide +kernel)) (gcN (i := 2) sc_is_house.nd rfl) (fun _ _ _ _ _ => qts_nil) (fun _ _ _ _ _ => (qcall c_is_work (hr.mono (by decide)) rfl (qa_cons (qv 2) (qa_cons (qv 1) qa_nil))))) qa_nil))))))) (qs_one (qret qbl)) qs_nil)
  (qs_cons (qif (qwt (qor (qnot (qtv (qcall c_is_store (hr.mono (by decide)) rfl (qa_cons (qix (qv 0) qint) (qa_cons (qv 1) qa_nil))))) (qor1 (qnot (qtv (qcall c_is_row_of (hr.mono (by decide)) rfl (qa_cons (qix (qv 0) qint) (qa_cons qint (qa_cons (qglob rfl c_MOST_HOURS) qa_nil))))))))) (qs_one (qret qbl)) qs_nil)
  (qs_one (qret (qall rfl rfl m_all (qa_cons (qlc (own := [("wants", 3)]) rfl sc_is_house.nd (qiseq (qix (qv 0) qint)) (blkOk_by (N := ["thing", "many", "work", "wants"]) (sc := defScope sD_is_house) (by decide +kernel)) (gcN (i := 3) sc_is_house.nd rfl) (fun _ _ _ _ _ => qts_nil) (fun _ _ _ _ _ => (qcall c_are_wants (hr.mono (by decide)) rfl (qa_cons (qv 3) (qa_cons (qv 1) qa_nil))))) qa_nil))))))))
theorem sc_Desk_do : FnScope ["self", "word", "numbers"] ["self", "word", "numbers"] (defScope sD_Desk_do) := by walk_at "s"
theorem ok_Desk_do {f : Addr} {fd : FuncData} (F : Fun K "do" "Desk.do" sD_Desk_do f fd) (seer : base.NoSeer) (tree : P.given.tree = none) (c_Desk_take_back : CalM P w K mg base (L2N.CX P w) 41 "Desk" "take_back" sp_Desk_take_back) (c_behind_deed : Cal P w K mg base (L2N.CX P w) 45 "behind_deed" sp_behind_deed) (c_Desk_house : CalM P w K mg base CX0 41 "Desk" "house" sp_Desk_house) (f_Desk_houses : FldOk K "Desk" "houses") (f_Desk_found : FldOk K "Desk" "found") : FnOk P w K mg base (L2N.CX P w) (45 + 1) f fd ["self", "word", "numbers"] (liftSp K sp_Desk_do) := by
 refine okWX F sc_Desk_do seer tree (by decide) (fun ws G Q E h => ?_) (fun cdv A outer s H E hr hd hp => ⟨t_Desk_do, ?_, rd_Desk_do⟩)
 ·exact len_Desk_do ws G Q E h
 ·exact (qs_cons (qif (qteq hr (qv 1) qstr) (qs_one (qexprX (qmethX0 c_Desk_take_back (hr.mono (by decide)) (qv 0)))) (qs_one (qexprX (qbmX PySem.F.slot_list_append PySem.F.type_list_append mt_append sim_append (qfld f_Desk_houses (qv 0)) (qcallX c_behind_deed (hr.mono (by decide)) rfl (qa_cons (qmeth0 c_Desk_house (hr.mono (by decide)) (qv 0)) (qa_cons (qv 1) (qa_cons (qv 2) qa_nil))))))))
  (qs_cons (qsetF f_Desk_found (qv 0) (qlstM qa_nil))
  (qs_one (qret qstr))))
theorem sc_zsize : FnScope ["_law_table", "_law_found", "_law_j", "_law_rest", "_law_row_here"] ["_law_table"] (defScope sD_zsize) := by walk_at "s"
theorem ok0_zsize {f : Addr} {fd : FuncData} (F : Fun K "_law_size" "_law_size" sD_zsize f fd) (seer : base.NoSeer) (tree : P.given.tree = none) : FnOk P w K mg base CX0 (40 + 1) f fd ["_law_table"] (liftSp K (spr_zsize 0)) := by
 exact okW F sc_zsize seer tree (by decide) (fun ws G Q E h => (h : False).elim) (fun cdv A outer s H E hr hd => ⟨wNever, qs_never, fun _ _ _ _ h => (h : False).elim⟩)
theorem ok_zsize (n : Nat) (hn : n ≤ 5) {f : Addr} {fd : FuncData} (F : Fun K "_law_size" "_law_size" sD_zsize f fd) (seer : base.NoSeer) (tree : P.given.tree = none) (m_range : mg "range" = none) (m_len : mg "len" = none) (c_rec : Cal P w K mg base CX0 (41 + n) "_law_size" (spr_zsize n)) : FnOk P w K mg base CX0 (41 + n + 1) f fd ["_law_table"] (liftSp K (spr_zsize (n + 1))) := by
 refine okW F sc_zsize seer tree (by omega) (fun ws G Q E h => ?_) (fun cdv A outer s H E hr hd => ⟨t_zsize (spr_zsize n), ?_, rd_zsize n⟩)
 ·exact len_zsize n ws G Q E h
 ·exact (qs_cons (qif (qteq hr (qv 0) (qlst qa_nil)) (qs_one (qret qint)) qs_nil)
  (qs_cons (qset (i := 1) sc_zsize.nd rfl (he := qint))
  (qs_cons (qfor (ks := [false, false, true, true, true]) PassesOwn.never rfl (qrange1 rfl m_range (qa_cons (qlen rfl m_len (qa_cons (qv 0) qa_nil)) qa_nil)) (qgN (i := 2) sc_zsize.nd rfl) (qs_cons (qsetLc (j := 3) (own := [("_law_row_here", 4)]) rfl sc_zsize.nd rfl rfl (sw_true rfl rfl rfl (by decide +kernel)) (qiseq (qslice (qv 0) (qp_some qint) qp_none)) (blkOk_by (N := ["_law_table", "_law_found", "_law_j", "_law_rest", "_law_row_here"]) (sc := defScope sD_zsize) (by decide +kernel)) (gcN (i := 4) sc_zsize.nd rfl) (fun _ _ _ _ _ => qts_nil) (fun _ _ _ _ _ => (qadd (qslice (qv 4) qp_none (qp_some (qv 2))) (qslice (qv 4) (qp_some (qadd (qv 2) qint)) qp_none))))
  (qs_one (qset (i := 1) sc_zsize.nd rfl (he := (qadd (qv 1) (qmul (qmul (qix (qix (qv 0) qint) (qv 2)) (qsub qint (qmul qint (qmod (qv 2) qint)))) (qcall c_rec (hr.mono (by omega)) rfl (qa_cons (qv 3) qa_nil)))))))))
  (qs_one (qret (qv 1))))))
theorem sc_read_house : FnScope ["text", "house", "row"] ["text"] (defScope sD_read_house) := by walk_at "s"
theorem ok_read_house {f : Addr} {fd : FuncData} (F : Fun K "read_house" "read_house" sD_read_house f fd) (seer : base.NoSeer) (tree : P.given.tree = none) (c_must_be : Cal P w K mg base CX0 41 "must_be" sp_must_be) (c_read_rows : Cal P w K mg base CX0 45 "read_rows" sp_read_rows) (c_is_house : Cal P w K mg base CX0 46 "is_house" sp_is_house) (m_isinstance : mg "isinstance" = none) (m_str : mg "str" = none) : FnOk P w K mg base CX0 (46 + 1) f fd ["text"] (liftSp K sp_read_house) := by
 refine okW F sc_read_house seer tree (by decide) (fun ws G Q E h => ?_) (fun cdv A outer s H E hr hd => ⟨t_read_house, ?_, rd_read_house⟩)
 ·exact len_read_house ws G Q E h
 ·exact (qs_cons (qexpr (qcall c_must_be (hr.mono (by decide)) rfl (qa_cons (qisi (k := .str) (by decide) (by decide +kernel) (by decide) (by decide) rfl m_isinstance rfl m_str (qv 0)) qa_nil)))
  (qs_cons (qset (i := 1) sc_read_house.nd rfl (he := (qcall c_read_rows (hr.mono (by decide)) rfl (qa_cons (qlc (own := [("row", 2)]) rfl sc_read_house.nd (qiseq (qsplit (qv 0) qstr)) (blkOk_by (N := ["text", "house", "row"]) (sc := defScope sD_read_house) (by decide +kernel)) (gcN (i := 2) sc_read_house.nd rfl) (fun _ _ _ _ _ => qts_nil) (fun _ _ _ _ _ => (qsplit (qv 2) qstr))) qa_nil))))
  (qs_cons (qif (qnot (qtv (qcall c_is_house (hr.mono (by decide)) rfl (qa_cons (qv 1) qa_nil)))) (qs_one qnever) qs_nil)
  (qs_one (qret (qv 1))))))
theorem sc_zlosable : FnScope ["_law_net_here", "_law_k"] ["_law_net_here"] (defScope sD_zlosable) := by walk_at "s"
theorem ok_zlosable {f : Addr} {fd : FuncData} (F : Fun K "_law_losable" "_law_losable" sD_zlosable f fd) (seer : base.NoSeer) (tree : P.given.tree = none) (c_zsize : Cal P w K mg base CX0 46 "_law_size" sp_zsize) (c_zstiff : Cal P w K mg base CX0 41 "_law_stiff" sp_zstiff) (m_range : mg "range" = none) (m_len : mg "len" = none) : FnOk P w K mg base CX0 (46 + 1) f fd ["_law_net_here"] (liftSp K sp_zlosable) := by
 refine okW F sc_zlosable seer tree (by decide) (fun ws G Q E h => ?_) (fun cdv A outer s H E hr hd => ⟨t_zlosable, ?_, rd_zlosable⟩)
 ·exact len_zlosable ws G Q E h
 ·exact (qs_one (qret (qlcM (own := [("_law_k", 1)]) rfl sc_zlosable.nd (qrange1 rfl m_range (qa_cons (qlen rfl m_len (qa_cons (qix (qv 0) qint) qa_nil)) qa_nil)) (blkOk_by (N := ["_law_net_here", "_law_k"]) (sc := defScope sD_zlosable) (by decide +kernel)) (gcN (i := 1) sc_zlosable.nd rfl) (fun _ _ _ _ _ => qts_one (qtne hr (qcall c_zsize (hr.mono (by decide)) rfl (qa_cons (qcall c_zstiff (hr.mono (by decide)) rfl (qa_cons (qv 0) (qa_cons (qv 1) qa_nil))) qa_nil)) qint)) (fun _ _ _ _ _ => (qv 1)))))
theorem sc_Desk___init__ : FnScope ["self", "text"] ["self", "text"] (defScope sD_Desk___init__) := by walk_at "s"
theorem ok_Desk___init__ {f : Addr} {fd : FuncData} (F : Fun K "__init__" "Desk.__init__" sD_Desk___init__ f fd) (seer : base.NoSeer) (tree : P.given.tree = none) (c_read_house : Cal P w K mg base CX0 47 "read_house" sp_read_house) (f_Desk_houses : FldOk K "Desk" "houses") (f_Desk_found : FldOk K "Desk" "found") : FnOk P w K mg base CX0 (47 + 1) f fd ["self", "text"] (liftSp K sp_Desk___init__) := by
 refine okW F sc_Desk___init__ seer tree (by decide) (fun ws G Q E h => ?_) (fun cdv A outer s H E hr hd => ⟨t_Desk___init__, ?_, rd_Desk___init__⟩)
 ·exact len_Desk___init__ ws G Q E h
 ·exact (qs_cons (qsetF f_Desk_houses (qv 0) (qlstM (qa_cons (qcall c_read_house (hr.mono (by decide)) rfl (qa_cons (qv 1) qa_nil)) qa_nil)))
  (qs_one (qsetF f_Desk_found (qv 0) (qlstM qa_nil))))
theorem sc_zbehind : FnScope ["_law_house_here", "_law_words", "_law_net_here", "_law_works", "_law_store_here", "_law_hours", "_law_line", "_law_work_here", "_law_hour", "_law_k", "_law_size_here", "_law_worth", "_law_wants_here", "_law_word"] ["_law_house_here", "_law_words"] (defScope sD_zbehind) := by walk_at "s"
theorem ok_zbehind {f : Addr} {fd : FuncData} (F : Fun K "_law_behind" "_law_behind" sD_zbehind f fd) (seer : base.NoSeer) (tree : P.given.tree = none) (c_zlosable : Cal P w K mg base CX0 47 "_law_losable" sp_zlosable) (m_int : mg "int" = none) (m_len : mg "len" = none) : FnOk P w K mg base CX0 (47 + 1) f fd ["_law_house_here", "_law_words"] (liftSp K sp_zbehind) := by
 refine okW F sc_zbehind seer tree (by decide) (fun ws G Q E h => ?_) (fun cdv A outer s H E hr hd => ⟨t_zbehind, ?_, rd_zbehind⟩)
 ·exact len_zbehind ws G Q E h
 ·exact (qs_cons (qasg (qv 0) (qgT rfl (qgs_cons (qgN (i := 2) sc_zbehind.nd rfl) (qgs_cons (qgN (i := 3) sc_zbehind.nd rfl) (qgs_cons (qgN (i := 4) sc_zbehind.nd rfl) (qgs_cons (qgN (i := 5) sc_zbehind.nd rfl) qgs_nil))))))
  (qs_cons (qif (qteq hr (qix (qv 1) qint) qstr) (qs_cons (qset (i := 6) sc_zbehind.nd rfl (he := (qintT rfl m_int (qa_cons (qix (qv 1) qint) qa_nil))))
  (qs_cons (qif (qtge (qv 6) (qlen rfl m_len (qa_cons (qix (qv 2) qint) qa_nil))) (qs_one (qret qint)) qs_nil)
  (qs_cons (qif (qtnin (qv 6) (qcall c_zlosable (hr.mono (by decide)) rfl (qa_cons (qv 2) qa_nil))) (qs_one (qret qint)) qs_nil)
  (qs_one (qret (qtup (qa_cons (qtup (qa_cons (qix (qv 2) qint) (qa_cons (qadd (qslice (qix (qv 2) qint) qp_none (qp_some (qv 6))) (qslice (qix (qv 2) qint) (qp_some (qadd (qv 6) qint)) qp_none)) qa_nil))) (qa_cons (qv 3) (qa_cons (qv 4) (qa_cons (qv 5) qa_nil)))))))))) qs_nil)
  (qs_cons (qif (qteq hr (qix (qv 1) qint) qstr) (qs_cons (qset (i := 7) sc_zbehind.nd rfl (he := (qintT rfl m_int (qa_cons (qix (qv 1) qint) qa_nil))))
  (qs_cons (qif (qtge (qv 7) (qlen rfl m_len (qa_cons (qv 3) qa_nil))) (qs_one (qret qint)) qs_nil)
  (qs_one (qret (qtup (qa_cons (qv 2) (qa_cons (qadd (qslice (qv 3) qp_none (qp_some (qv 7))) (qslice (qv 3) (qp_some (qadd (qv 7) qint)) qp_none)) (qa_cons (qv 4) (qa_cons (qv 5) qa_nil))))))))) qs_nil)
  (qs_cons (qasg (qlc (own := [("_law_word", 13)]) rfl sc_zbehind.nd (qiseq (qslice (qv 1) (qp_some qint) qp_none)) (blkOk_by (N := ["_law_house_here", "_law_words", "_law_net_here", "_law_works", "_law_store_here", "_law_hours", "_law_line", "_law_work_here", "_law_hour", "_law_k", "_law_size_here", "_law_worth", "_law_wants_here", "_law_word"]) (sc := defScope sD_zbehind) (by decide +kernel)) (gcN (i := 13) sc_zbehind.nd rfl) (fun _ _ _ _ _ => qts_nil) (fun _ _ _ _ _ => (qintT rfl m_int (qa_cons (qv 13) qa_nil)))) (qgT rfl (qgs_cons (qgN (i := 8) sc_zbehind.nd rfl) (qgs_cons (qgN (i := 9) sc_zbehind.nd rfl) (qgs_cons (qgN (i := 10) sc_zbehind.nd rfl) (qgs_cons (qgN (i := 11) sc_zbehind.nd rfl) qgs_nil))))))
  (qs_cons (qif (qwt (qor (qtge (qv 8) (qlen rfl m_len (qa_cons (qv 5) qa_nil))) (qor (qtge (qv 9) (qlen rfl m_len (qa_cons (qix (qv 5) (qv 8)) qa_nil))) (qor (qtgt (qv 10) qint) (qor1 (qtgt (qv 11) qint)))))) (qs_one (qret qint)) qs_nil)
  (qs_cons (qset (i := 12) sc_zbehind.nd rfl (he := (qix (qv 5) (qv 8))))
  (qs_cons (qset (i := 12) sc_zbehind.nd rfl (he := (qadd (qadd (qslice (qv 12) qp_none (qp_some (qv 9))) (qtup (qa_cons (qtup (qa_cons (qix (qix (qv 12) (qv 9)) qint) (qa_cons (qv 10) (qa_cons (qv 11) qa_nil)))) qa_nil))) (qslice (qv 12) (qp_some (qadd (qv 9) qint)) qp_none))))
  (qs_one (qret (qtup (qa_cons (qv 2) (qa_cons (qv 3) (qa_cons (qv 4) (qa_cons (qadd (qadd (qslice (qv 5) qp_none (qp_some (qv 8))) (qtup (qa_cons (qv 12) qa_nil))) (qslice (qv 5) (qp_some (qadd (qv 8) qint)) qp_none)) qa_nil))))))))))))))
theorem sc_zlimits : FnScope ["_law_net_here", "_law_lines"] ["_law_net_here"] (defScope sD_zlimits) := by walk_at "s"
theorem ok_zlimits {f : Addr} {fd : FuncData} (F : Fun K "_law_limits" "_law_limits" sD_zlimits f fd) (seer : base.NoSeer) (tree : P.given.tree = none) (c_zlosable : Cal P w K mg base CX0 47 "_law_losable" sp_zlosable) (m_len : mg "len" = none) : FnOk P w K mg base CX0 (47 + 1) f fd ["_law_net_here"] (liftSp K sp_zlimits) := by
 refine okW F sc_zlimits seer tree (by decide) (fun ws G Q E h => ?_) (fun cdv A outer s H E hr hd => ⟨t_zlimits, ?_, rd_zlimits⟩)
 ·exact len_zlimits ws G Q E h
 ·exact (qs_cons (qset (i := 1) sc_zlimits.nd rfl (he := (qlen rfl m_len (qa_cons (qix (qv 0) qint) qa_nil))))
  (qs_one (qret (qadd (qmul qint (qv 1)) (qmul (qmul qint (qsub (qv 1) qint)) (qlen rfl m_len (qa_cons (qcall c_zlosable (hr.mono (by decide)) rfl (qa_cons (qv 0) qa_nil)) qa_nil)))))))
theorem sc_zrow : FnScope ["_law_bag_here", "_law_houses", "_law_way", "_law_house_here", "_law_words", "_law_behind_here"] ["_law_bag_here", "_law_houses", "_law_way"] (defScope sD_zrow) := by walk_at "s"
theorem ok_zrow {f : Addr} {fd : FuncData} (F : Fun K "_law_row" "_law_row" sD_zrow f fd) (seer : base.NoSeer) (tree : P.given.tree = none) (c_zlimits : Cal P w K mg base CX0 48 "_law_limits" sp_zlimits) (c_zdeed : Cal P w K mg base CX0 42 "_law_deed" sp_zdeed) (c_zbehind : Cal P w K mg base CX0 48 "_law_behind" sp_zbehind) (m_str : mg "str" = none) (m_len : mg "len" = none) (m_isinstance : mg "isinstance" = none) (m_int : mg "int" = none) : FnOk P w K mg base CX0 (48 + 1) f fd ["_law_bag_here", "_law_houses", "_law_way"] (liftSp K sp_zrow) := by
 refine okW F sc_zrow seer tree (by decide) (fun ws G Q E h => ?_) (fun cdv A outer s H E hr hd => ⟨t_zrow, ?_, rd_zrow⟩)
 ·exact len_zrow ws G Q E h
 ·exact (qs_cons (qset (i := 3) sc_zrow.nd rfl (he := (qix (qv 1) (qneg qint))))
  (qs_cons (qif (qteq hr (qv 2) qint) (qs_one (qret (qtup (qa_cons qstr (qa_cons (qstrI rfl m_str (qa_cons (qcall c_zlimits (hr.mono (by decide)) rfl (qa_cons (qix (qv 3) qint) qa_nil)) qa_nil)) qa_nil))))) qs_nil)
  (qs_cons (qif (qtlt (qv 2) qint) (qs_cons (qif (qteq hr (qlen rfl m_len (qa_cons (qv 1) qa_nil)) qint) (qs_one (qret (qtup (qa_cons qstr (qa_cons qint qa_nil))))) qs_nil)
  (qs_cons (qexpr (qm_pop (qv 1)))
  (qs_one (qret (qtup (qa_cons qstr (qa_cons qstr qa_nil))))))) qs_nil)
  (qs_cons (qset (i := 4) sc_zrow.nd rfl (he := (qcall c_zdeed (hr.mono (by decide)) rfl (qa_cons (qv 0) (qa_cons (qv 3) qa_nil)))))
  (qs_cons (qset (i := 5) sc_zrow.nd rfl (he := (qcall c_zbehind (hr.mono (by decide)) rfl (qa_cons (qv 3) (qa_cons (qv 4) qa_nil)))))
  (qs_cons (qif (qtv (qisi (k := .int) (by decide) (by decide +kernel) (by decide) (by decide) rfl m_isinstance rfl m_int (qv 5))) (qs_one (qret (qtup (qa_cons (qjoin qstr (qv 4)) (qa_cons (qv 5) qa_nil))))) qs_nil)
  (qs_cons (qexpr (qm_append (qv 1) (qa_cons (qv 5) qa_nil)))
  (qs_one (qret (qtup (qa_cons (qjoin qstr (qv 4)) (qa_cons qstr qa_nil))))))))))))
theorem sc_Desk_price : FnScope ["self", "hour", "place", "net", "works", "store", "hours"] ["self", "hour", "place"] (defScope sD_Desk_price) := by walk_at "s"
theorem ok_Desk_price {f : Addr} {fd : FuncData} (F : Fun K "price" "Desk.price" sD_Desk_price f fd) (seer : base.NoSeer) (tree : P.given.tree = none) : FnOk P w K mg base (L2N.CX P w) (54 + 1) f fd ["self", "hour", "place"] (liftSp K sp_Desk_price) := by
 refine okWX F sc_Desk_price seer tree (by decide) (fun ws G Q E h => ?_) (fun cdv A outer s H E hr hd hp => ⟨t_Desk_price, ?_, rd_Desk_price⟩)
 ·exact len_Desk_price ws G Q E h
 ·exact qdead
theorem sc_Desk_of_run : FnScope ["self", "word", "run", "found", "entry", "one"] ["self", "word"] (defScope sD_Desk_of_run) := by walk_at "s"
theorem ok_Desk_of_run {f : Addr} {fd : FuncData} (F : Fun K "of_run" "Desk.of_run" sD_Desk_of_run f fd) (seer : base.NoSeer) (tree : P.given.tree = none) : FnOk P w K mg base CX0 (54 + 1) f fd ["self", "word"] (liftSp K sp_Desk_of_run) := by
 refine okW F sc_Desk_of_run seer tree (by decide) (fun ws G Q E h => ?_) (fun cdv A outer s H E hr hd => ⟨t_Desk_of_run, ?_, rd_Desk_of_run⟩)
 ·exact len_Desk_of_run ws G Q E h
 ·exact qdead
theorem sc_Desk_say : FnScope ["self", "row", "word", "numbers"] ["self", "row"] (defScope sD_Desk_say) := by walk_at "s"
theorem ok_Desk_say {f : Addr} {fd : FuncData} (F : Fun K "say" "Desk.say" sD_Desk_say f fd) (seer : base.NoSeer) (tree : P.given.tree = none) (c_words_of : Cal P w K mg base CX0 42 "words_of" sp_words_of) (c_Desk_do : CalM P w K mg base (L2N.CX P w) 46 "Desk" "do" sp_Desk_do) (c_Desk_price : CalM P w K mg base (L2N.CX P w) 55 "Desk" "price" sp_Desk_price) (c_show_house : Cal P w K mg base CX0 44 "show_house" sp_show_house) (c_Desk_house : CalM P w K mg base CX0 41 "Desk" "house" sp_Desk_house) (c_limits : Cal P w K mg base CX0 43 "limits" sp_limits) (c_Desk_of_run : CalM P w K mg base CX0 55 "Desk" "of_run" sp_Desk_of_run) (m_str : mg "str" = none) (m_len : mg "len" = none) : FnOk P w K mg base (L2N.CX P w) (55 + 1) f fd ["self", "row"] (liftSp K sp_Desk_say) := by
 refine okWX F sc_Desk_say seer tree (by decide) (fun ws G Q E h => ?_) (fun cdv A outer s H E hr hd hp => ⟨t_Desk_say, ?_, rd_Desk_say⟩)
 ·exact len_Desk_say ws G Q E h
 ·exact (qs_cons (qasg (qcall c_words_of (hr.mono (by decide)) rfl (qa_cons (qv 1) qa_nil)) (qgT rfl (qgs_cons (qgN (i := 2) sc_Desk_say.nd rfl) (qgs_cons (qgN (i := 3) sc_Desk_say.nd rfl) qgs_nil))))
  (qs_cons (qif (qtin (qv 2) (qtup (qa_cons qstr (qa_cons qstr (qa_cons qstr (qa_cons qstr qa_nil)))))) (qs_one (qretX (qmethX c_Desk_do (hr.mono (by decide)) (qv 0) (qa_cons (qv 2) (qa_cons (qv 3) qa_nil))))) qs_nil)
  (qs_cons (qif (qteq hr (qv 2) qstr) (qs_one (qretX (qmethX c_Desk_price (hr.mono (by decide)) (qv 0) (qa_cons (qix (qv 3) qint) (qa_cons (qix (qv 3) qint) qa_nil))))) qs_nil)
  (qs_cons (qif (qteq hr (qv 2) qstr) (qs_one (qret (qjoin qstr (qsplit (qcall c_show_house (hr.mono (by decide)) rfl (qa_cons (qmeth0 c_Desk_house (hr.mono (by decide)) (qv 0)) qa_nil)) qstr)))) qs_nil)
  (qs_cons (qif (qteq hr (qv 2) qstr) (qs_one (qret (qstrI rfl m_str (qa_cons (qlen rfl m_len (qa_cons (qcall c_limits (hr.mono (by decide)) rfl (qa_cons (qix (qmeth0 c_Desk_house (hr.mono (by decide)) (qv 0)) qint) qa_nil)) qa_nil)) qa_nil)))) qs_nil)
  (qs_one (qret (qmeth c_Desk_of_run (hr.mono (by decide)) (qv 0) (qa_cons (qv 2) qa_nil)))))))))
theorem sc_zsaid : FnScope ["_law_desk", "_law_row_here", "_law_e"] ["_law_desk", "_law_row_here"] (defScope sD_zsaid) := by walk_at "s"
theorem ok_zsaid {f : Addr} {fd : FuncData} (F : Fun K "_law_said" "_law_said" sD_zsaid f fd) (seer : base.NoSeer) (tree : P.given.tree = none) (c_Desk_say : CalM P w K mg base (L2N.CX P w) 56 "Desk" "say" sp_Desk_say) (c_zkind : CalE P w K mg base ["NoNumber", "NoLoss", "NoDeed"] 41 "_law_kind" sp_zkind) (gT_MainsError : mg "MainsError" = some (.ref D_MainsError)) (mM_MainsError : ErrM K ["NoNumber", "NoLoss", "NoDeed"] "MainsError" (.ref D_MainsError)) : FnOk P w K mg base CX0 (56 + 1) f fd ["_law_desk", "_law_row_here"] (liftSp K sp_zsaid) := by
 refine okW F sc_zsaid seer tree (by decide) (fun ws G Q E h => ?_) (fun cdv A outer s H E hr hd => ⟨t_zsaid, ?_, rd_zsaid⟩)
 ·exact len_zsaid ws G Q E h
 ·exact (qs_one (qtryAs (i := 2) (ES := ["NoNumber", "NoLoss", "NoDeed"]) rfl rfl sc_zsaid.nd rfl rfl ⟨rfl, by decide, .inl gT_MainsError⟩ mM_MainsError (fun _ _ hp2 => (qs_one (qretX (qmethX c_Desk_say (hr.mono (by decide)) (qv 0) (qa_cons (qv 1) qa_nil))))) (fun a_e oe_e C_e d_e pn_e n_e f_e cA_e hn hz_e hf_e => by have hot := hotE_suite (X := _) (a := a_e) (oe := oe_e) (pn := pn_e) cA_e hz_e hf_e; have hr := roomH_mark hr (a_e := a_e); exact (qs_one (qret (qcallE c_zkind hot hn (hr.mono (by decide)) rfl (qa_cons (qv 2) qa_nil)))))))
theorem sc_law : FnScope ["_law_script", "_law_kept", "_law_desks", "_law_k", "_law_house_here", "_law_bag_here", "_law_deep", "_law_turn", "_law_at", "_law_way", "_law_row_here", "_law_due", "_law_desk", "_law_houses"] ["_law_script"] (defScope sD_law) := by walk_at "s"
theorem ok_law {f : Addr} {fd : FuncData} (F : Fun K "law" "law" sD_law f fd) (seer : base.NoSeer) (tree : P.given.tree = none) (c_zhouse : Cal P w K mg base CX0 43 "_law_house" sp_zhouse) (c_zbag : Cal P w K mg base CX0 41 "_law_bag" sp_zbag) (c_ztext : Cal P w K mg base CX0 41 "_law_text" sp_ztext) (c_Desk___init__ : CalC P w K mg base CX0 48 "Desk" sp_Desk___init__) (c_ztake : Cal P w K mg base CX0 41 "_law_take" sp_ztake) (c_zrow : Cal P w K mg base CX0 49 "_law_row" sp_zrow) (c_zsaid : Cal P w K mg base CX0 57 "_law_said" sp_zsaid) (m_range : mg "range" = none) (m_int : mg "int" = none) (m_zip : mg "zip" = none) : FnOk P w K mg base CX0 (57 + 1) f fd ["_law_script"] (liftSp K sp_law) := by
 refine okW F sc_law seer tree (by decide) (fun ws G Q E h => ?_) (fun cdv A outer s H E hr hd => ⟨t_law, ?_, rd_law⟩)
 ·exact len_law ws G Q E h
 ·exact (qs_cons (qset (i := 1) sc_law.nd rfl (he := (qlstM qa_nil)))
  (qs_cons (qset (i := 2) sc_law.nd rfl (he := (qlstM qa_nil)))
  (qs_cons (qfor (ks := [false, false, false, true, true, true, true, true, true, true, true, true, true, true]) PassesOwn.never rfl (qrange1 rfl m_range (qa_cons qint qa_nil)) (qgN (i := 3) sc_law.nd rfl) (qs_cons (qset (i := 4) sc_law.nd rfl (he := (qcall c_zhouse (hr.mono (by decide)) rfl (qa_cons (qcall c_zbag (hr.mono (by decide)) rfl (qa_cons (qv 0) (qa_cons (qv 3) qa_nil))) qa_nil))))
  (qs_cons (qexpr (qm_append (qv 1) (qa_cons (qlstM (qa_cons (qv 4) qa_nil)) qa_nil)))
  (qs_one (qexpr (qm_append (qv 2) (qa_cons (qmake c_Desk___init__ (hr.mono (by decide)) rfl (qa_cons (qcall c_ztext (hr.mono (by decide)) rfl (qa_cons (qv 4) qa_nil)) qa_nil)) qa_nil)))))))
  (qs_cons (qfz 2 (qfz 1 (qset (i := 5) sc_law.nd rfl (he := (qcall c_zbag (hr.mono (by decide)) rfl (qa_cons (qv 0) (qa_cons qint qa_nil)))))))
  (qs_cons (qset (i := 6) sc_law.nd rfl (he := (qeq hr (qcall c_ztake (hr.mono (by decide)) rfl (qa_cons (qv 5) (qa_cons qint qa_nil))) qint)))
  (qs_cons (qfor (ks := [true, false, false, true, true, false, false, true, true, true, true, true, true, true]) PassesOwn.never rfl (qrange1 rfl m_range (qa_cons (qix (qlst (qa_cons (qadd qint (qcall c_ztake (hr.mono (by decide)) rfl (qa_cons (qv 5) (qa_cons qint qa_nil)))) (qa_cons qint qa_nil))) (qint1 rfl m_int (qa_cons (qv 6) qa_nil))) qa_nil)) (qgN (i := 7) sc_law.nd rfl) (qs_cons (qset (i := 8) sc_law.nd rfl (he := (qcall c_ztake (hr.mono (by decide)) rfl (qa_cons (qv 5) (qa_cons qint qa_nil)))))
  (qs_cons (qset (i := 9) sc_law.nd rfl (he := (qcall c_ztake (hr.mono (by decide)) rfl (qa_cons (qv 5) (qa_cons qint qa_nil)))))
  (qs_cons (qif (qtv (qv 6)) (qs_cons (qset (i := 8) sc_law.nd rfl (he := (qint1 rfl m_int (qa_cons (qeq hr (qmod (qv 7) qint) qint) qa_nil))))
  (qs_one (qset (i := 9) sc_law.nd rfl (he := (qix (qlst (qa_cons qint (qa_cons qint qa_nil))) (qint1 rfl m_int (qa_cons (qgt (qv 7) qint) qa_nil))))))) qs_nil)
  (qs_cons (qasg (qcall c_zrow (hr.mono (by decide)) rfl (qa_cons (qv 5) (qa_cons (qix (qv 1) (qv 8)) (qa_cons (qv 9) qa_nil)))) (qgT rfl (qgs_cons (qgN (i := 10) sc_law.nd rfl) (qgs_cons (qgN (i := 11) sc_law.nd rfl) qgs_nil))))
  (qs_cons (qif (qtne hr (qcall c_zsaid (hr.mono (by decide)) rfl (qa_cons (qix (qv 2) (qv 8)) (qa_cons (qv 10) qa_nil))) (qv 11)) (qs_one (qret qbl)) qs_nil)
  (qs_one (qfor (ks := [true, false, false, true, true, false, false, true, true, true, true, true, true, true]) PassesOwn.never rfl (qizipG2 rfl m_zip (qa_cons (qv 2) (qa_cons (qv 1) qa_nil))) (qgT rfl (qgs_cons (qgN (i := 12) sc_law.nd rfl) (qgs_cons (qgN (i := 13) sc_law.nd rfl) qgs_nil))) (qs_one (qif (qtne hr (qcall c_zsaid (hr.mono (by decide)) rfl (qa_cons (qv 12) (qa_cons qstr qa_nil))) (qjoin qstr (qsplit (qcall c_ztext (hr.mono (by decide)) rfl (qa_cons (qix (qv 13) (qneg qint)) qa_nil)) qstr))) (qs_one (qret qbl)) qs_nil))))))))))
  (qs_one (qret qbl))))))))
end
end
abbrev aN (K : PySem.W.Frag) (x : Str) (f : Addr) : Prop := PySem.W.nsIn K mainGlobals x = some (some (.ref f))
theorem all_mk {l : PySem.W.OpenLaw} {w : World} {K : PySem.W.Frag} {h : Heap} {mg : Str → Option Value} {fa f0 f1 f2 f3 f4 f5 f6 f7 f8 f9 f10 f11 f12 f13 f14 f15 f16 f17 f18 f19 f20 f21 f22 f23 f24 f25 f26 f27 f28 f29 f30 f31 f32 f33 f34 f35 f36 f37 f38 f39 f40 f41 f42 f43 f44 f45 f46 f47 f48 f49 f50 f51 f52 f53 f54 f55 f56 f57 f58 f59 f60 f61 f62 f63 f64 f65 : Addr} (X : K.In h) (G : h.Ns mainGlobals mg) (tree : l.prog.given.tree = none) (hfa : mg "law" = some (.ref fa))
  {C_Desk : Addr}
  {D_MainsError D_NoBalance D_NoDeed D_NoFraction D_NoHouse D_NoLine D_NoLoss D_NoMaking D_NoNumber D_NoPaper D_NoPuts D_NoRow D_NoText : Addr}
  {g0 g1 g2 g3 g4 g5 g6 g7 g8 g9 g10 g11 g12 g13 g14 g15 g16 g17 g18 g19 g20 g21 g22 g23 g24 g25 g26 g27 g28 g29 g30 g31 g32 g33 g34 g35 g36 g37 g38 g39 g40 g41 g42 g43 g44 g45 g46 g47 g48 g49 g50 g51 g52 g53 g54 g55 g56 g57 g58 g59 g60 g61 g62 g63 g64 : FuncData} {od65 an65 : Option Addr} {sl65 : Array (Option Value)} {oc65 kV65 dc65 pm65 cd65 ct65 : Value}
  (a0 : aN K "is_whole" f0) (F0 : Fun K "is_whole" "is_whole" sD_is_whole f0 g0)
  (a1 : aN K "hangs_together" f1) (F1 : Fun K "hangs_together" "hangs_together" sD_hangs_together f1 g1)
  (a2 : aN K "left_lines" f2) (F2 : Fun K "left_lines" "left_lines" sD_left_lines f2 g2)
  (a3 : aN K "is_row_of" f3) (F3 : Fun K "is_row_of" "is_row_of" sD_is_row_of f3 g3)
  (a4 : aN K "number_of" f4) (F4 : Fun K "number_of" "number_of" sD_number_of f4 g4)
  (a5 : aN K "must_be" f5) (F5 : Fun K "must_be" "must_be" sD_must_be f5 g5)
  (a6 : aN K "rows_with" f6) (F6 : Fun K "rows_with" "rows_with" sD_rows_with f6 g6)
  (a7 : aN K "shown_row" f7) (F7 : Fun K "shown_row" "shown_row" sD_shown_row f7 g7)
  (a8 : aN K "colons" f8) (F8 : Fun K "colons" "colons" sD_colons f8 g8)
  (a9 : aN K "must_be_below" f9) (F9 : Fun K "must_be_below" "must_be_below" sD_must_be_below f9 g9)
  (a10 : aN K "with_wants" f10) (F10 : Fun K "with_wants" "with_wants" sD_with_wants f10 g10)
  (a11 : PySem.W.findIn K (.ref C_Desk) "house" = some (some (.ref f11))) (i11 : PySem.W.isFn K (.ref f11) = true) (F11 : Fun K "house" "Desk.house" sD_Desk_house f11 g11)
  (a12 : PySem.W.findIn K (.ref C_Desk) "take_back" = some (some (.ref f12))) (i12 : PySem.W.isFn K (.ref f12) = true) (F12 : Fun K "take_back" "Desk.take_back" sD_Desk_take_back f12 g12)
  (a13 : aN K "_law_bag" f13) (F13 : Fun K "_law_bag" "_law_bag" sD_zbag f13 g13)
  (a14 : aN K "_law_take" f14) (F14 : Fun K "_law_take" "_law_take" sD_ztake f14 g14)
  (a15 : aN K "_law_stiff" f15) (F15 : Fun K "_law_stiff" "_law_stiff" sD_zstiff f15 g15)
  (a16 : aN K "_law_text" f16) (F16 : Fun K "_law_text" "_law_text" sD_ztext f16 g16)
  (a17 : aN K "_law_kind" f17) (F17 : Fun K "_law_kind" "_law_kind" sD_zkind f17 g17)
  (a18 : aN K "is_from" f18) (F18 : Fun K "is_from" "is_from" sD_is_from f18 g18)
  (a19 : aN K "losable" f19) (F19 : Fun K "losable" "losable" sD_losable f19 g19)
  (a20 : aN K "numbers_of" f20) (F20 : Fun K "numbers_of" "numbers_of" sD_numbers_of f20 g20)
  (a21 : aN K "shown_work" f21) (F21 : Fun K "shown_work" "shown_work" sD_shown_work f21 g21)
  (a22 : aN K "words_of" f22) (F22 : Fun K "words_of" "words_of" sD_words_of f22 g22)
  (a23 : aN K "behind_stop" f23) (F23 : Fun K "behind_stop" "behind_stop" sD_behind_stop f23 g23)
  (a24 : aN K "behind_want" f24) (F24 : Fun K "behind_want" "behind_want" sD_behind_want f24 g24)
  (a25 : aN K "_law_net" f25) (F25 : Fun K "_law_net" "_law_net" sD_znet f25 g25)
  (a26 : aN K "_law_work" f26) (F26 : Fun K "_law_work" "_law_work" sD_zwork f26 g26)
  (a27 : aN K "_law_wants" f27) (F27 : Fun K "_law_wants" "_law_wants" sD_zwants f27 g27)
  (a28 : aN K "_law_store" f28) (F28 : Fun K "_law_store" "_law_store" sD_zstore f28 g28)
  (a29 : aN K "_law_deed" f29) (F29 : Fun K "_law_deed" "_law_deed" sD_zdeed f29 g29)
  (a30 : aN K "is_line" f30) (F30 : Fun K "is_line" "is_line" sD_is_line f30 g30)
  (a31 : aN K "without" f31) (F31 : Fun K "without" "without" sD_without f31 g31)
  (a32 : aN K "limits" f32) (F32 : Fun K "limits" "limits" sD_limits f32 g32)
  (a33 : aN K "is_piece" f33) (F33 : Fun K "is_piece" "is_piece" sD_is_piece f33 g33)
  (a34 : aN K "is_store" f34) (F34 : Fun K "is_store" "is_store" sD_is_store f34 g34)
  (a35 : aN K "is_want" f35) (F35 : Fun K "is_want" "is_want" sD_is_want f35 g35)
  (a36 : aN K "parted_numbers" f36) (F36 : Fun K "parted_numbers" "parted_numbers" sD_parted_numbers f36 g36)
  (a37 : aN K "read_net" f37) (F37 : Fun K "read_net" "read_net" sD_read_net f37 g37)
  (a38 : aN K "read_line" f38) (F38 : Fun K "read_line" "read_line" sD_read_line f38 g38)
  (a39 : aN K "read_store" f39) (F39 : Fun K "read_store" "read_store" sD_read_store f39 g39)
  (a40 : aN K "house_rows" f40) (F40 : Fun K "house_rows" "house_rows" sD_house_rows f40 g40)
  (a41 : aN K "_law_house" f41) (F41 : Fun K "_law_house" "_law_house" sD_zhouse f41 g41)
  (a42 : aN K "is_net" f42) (F42 : Fun K "is_net" "is_net" sD_is_net f42 g42)
  (a43 : aN K "are_pieces" f43) (F43 : Fun K "are_pieces" "are_pieces" sD_are_pieces f43 g43)
  (a44 : aN K "are_wants" f44) (F44 : Fun K "are_wants" "are_wants" sD_are_wants f44 g44)
  (a45 : aN K "read_work" f45) (F45 : Fun K "read_work" "read_work" sD_read_work f45 g45)
  (a46 : aN K "read_hour" f46) (F46 : Fun K "read_hour" "read_hour" sD_read_hour f46 g46)
  (a47 : aN K "show_house" f47) (F47 : Fun K "show_house" "show_house" sD_show_house f47 g47)
  (a48 : aN K "behind_loss_of_line" f48) (F48 : Fun K "behind_loss_of_line" "behind_loss_of_line" sD_behind_loss_of_line f48 g48)
  (a49 : aN K "is_work" f49) (F49 : Fun K "is_work" "is_work" sD_is_work f49 g49)
  (a50 : aN K "read_rows" f50) (F50 : Fun K "read_rows" "read_rows" sD_read_rows f50 g50)
  (a51 : aN K "behind_deed" f51) (F51 : Fun K "behind_deed" "behind_deed" sD_behind_deed f51 g51)
  (a52 : aN K "is_house" f52) (F52 : Fun K "is_house" "is_house" sD_is_house f52 g52)
  (a53 : PySem.W.findIn K (.ref C_Desk) "do" = some (some (.ref f53))) (i53 : PySem.W.isFn K (.ref f53) = true) (F53 : Fun K "do" "Desk.do" sD_Desk_do f53 g53)
  (a54 : aN K "_law_size" f54) (F54 : Fun K "_law_size" "_law_size" sD_zsize f54 g54)
  (a55 : aN K "read_house" f55) (F55 : Fun K "read_house" "read_house" sD_read_house f55 g55)
  (a56 : aN K "_law_losable" f56) (F56 : Fun K "_law_losable" "_law_losable" sD_zlosable f56 g56)
  (a57 : PySem.W.findIn K (.ref C_Desk) "__init__" = some (some (.ref f57))) (i57 : PySem.W.isFn K (.ref f57) = true) (F57 : Fun K "__init__" "Desk.__init__" sD_Desk___init__ f57 g57)
  (a58 : aN K "_law_behind" f58) (F58 : Fun K "_law_behind" "_law_behind" sD_zbehind f58 g58)
  (a59 : aN K "_law_limits" f59) (F59 : Fun K "_law_limits" "_law_limits" sD_zlimits f59 g59)
  (a60 : aN K "_law_row" f60) (F60 : Fun K "_law_row" "_law_row" sD_zrow f60 g60)
  (a61 : PySem.W.findIn K (.ref C_Desk) "price" = some (some (.ref f61))) (i61 : PySem.W.isFn K (.ref f61) = true) (F61 : Fun K "price" "Desk.price" sD_Desk_price f61 g61)
  (a62 : PySem.W.findIn K (.ref C_Desk) "of_run" = some (some (.ref f62))) (i62 : PySem.W.isFn K (.ref f62) = true) (F62 : Fun K "of_run" "Desk.of_run" sD_Desk_of_run f62 g62)
  (a63 : PySem.W.findIn K (.ref C_Desk) "say" = some (some (.ref f63))) (i63 : PySem.W.isFn K (.ref f63) = true) (F63 : Fun K "say" "Desk.say" sD_Desk_say f63 g63)
  (a64 : aN K "_law_said" f64) (F64 : Fun K "_law_said" "_law_said" sD_zsaid f64 g64)
  (a65 : aN K "law" f65) (l65 : K.lookup f65 = some ⟨oc65, od65, .func (PySem.W.fnOf "law" "law" (defArgs sD_law) (defBody sD_law) (defScope sD_law) .none kV65 dc65 pm65 an65 cd65 ct65), sl65⟩) (c65 : PySem.W.codeIn K cd65 "law" = true) (k65 : PySem.W.keepIn K (.ref f65) = true)
  (aC_Desk : aN K "Desk" C_Desk) (pg_Desk : PySem.W.plainGet K C_Desk Str.empty = true) (hd_Desk : PySem.W.hasDictIn K C_Desk = true) (po_Desk : PySem.W.plainOver K C_Desk = true) (sa_Desk : PySem.W.findIn K (.ref C_Desk) "__setattr__" = some (some (.builtin "object.__setattr__"))) (mk_Desk : PySem.W.makesIn K C_Desk = true) (kc_Desk : PySem.W.keepIn K (.ref C_Desk) = true)
  (nf_Desk_found : PySem.W.findIn K (.ref C_Desk) "found" = some none)
  (nf_Desk_houses : PySem.W.findIn K (.ref C_Desk) "houses" = some none)
  (aX_MainsError : aN K "MainsError" D_MainsError)
  (aX_NoBalance : aN K "NoBalance" D_NoBalance)
  (aX_NoDeed : aN K "NoDeed" D_NoDeed)
  (aX_NoFraction : aN K "NoFraction" D_NoFraction)
  (aX_NoHouse : aN K "NoHouse" D_NoHouse)
  (aX_NoLine : aN K "NoLine" D_NoLine)
  (aX_NoLoss : aN K "NoLoss" D_NoLoss)
  (aX_NoMaking : aN K "NoMaking" D_NoMaking)
  (aX_NoNumber : aN K "NoNumber" D_NoNumber)
  (aX_NoPaper : aN K "NoPaper" D_NoPaper)
  (aX_NoPuts : aN K "NoPuts" D_NoPuts)
  (aX_NoRow : aN K "NoRow" D_NoRow)
  (aX_NoText : aN K "NoText" D_NoText)
  (kX_NoNumber : PySem.W.keepIn K (.ref D_NoNumber) = true) (bX_NoNumber : PySem.W.subIn K (.ref D_NoNumber) (.type "BaseException") = some true) (tX_NoNumber : PySem.W.typeIn K (.ref D_NoNumber) = some (.type "type"))
  (xX_NoNumber : PySem.W.excIn K D_NoNumber [.type "ValueError", .type "Exception", .type "BaseException", .type "object"] "ValueError.__new__" = true)
  (g1_NoNumber : PySem.W.findIn K (.ref D_NoNumber) "__getattribute__" = some (some (.builtin "BaseException.__getattribute__"))) (g2_NoNumber : PySem.W.findIn K (.ref D_NoNumber) "__getattr__" = some none) (g3_NoNumber : PySem.W.hasDictIn K D_NoNumber = true) (g4_NoNumber : PySem.W.findIn K (.ref D_NoNumber) "__class__" = some (some (.builtin "object.__class__"))) (g5_NoNumber : PySem.W.mroIn K D_NoNumber (.type "object") = some true)
  (i_NoNumber_MainsError : PySem.W.subIn K (.ref D_NoNumber) (.ref D_MainsError) = some true)
  (i_NoNumber_NoBalance : PySem.W.subIn K (.ref D_NoNumber) (.ref D_NoBalance) = some false)
  (i_NoNumber_NoDeed : PySem.W.subIn K (.ref D_NoNumber) (.ref D_NoDeed) = some false)
  (i_NoNumber_NoFraction : PySem.W.subIn K (.ref D_NoNumber) (.ref D_NoFraction) = some false)
  (i_NoNumber_NoHouse : PySem.W.subIn K (.ref D_NoNumber) (.ref D_NoHouse) = some false)
  (i_NoNumber_NoLine : PySem.W.subIn K (.ref D_NoNumber) (.ref D_NoLine) = some false)
  (i_NoNumber_NoLoss : PySem.W.subIn K (.ref D_NoNumber) (.ref D_NoLoss) = some false)
  (i_NoNumber_NoMaking : PySem.W.subIn K (.ref D_NoNumber) (.ref D_NoMaking) = some false)
  (i_NoNumber_NoNumber : PySem.W.subIn K (.ref D_NoNumber) (.ref D_NoNumber) = some true)
  (i_NoNumber_NoPaper : PySem.W.subIn K (.ref D_NoNumber) (.ref D_NoPaper) = some false)
  (i_NoNumber_NoPuts : PySem.W.subIn K (.ref D_NoNumber) (.ref D_NoPuts) = some false)
  (i_NoNumber_NoRow : PySem.W.subIn K (.ref D_NoNumber) (.ref D_NoRow) = some false)
  (i_NoNumber_NoText : PySem.W.subIn K (.ref D_NoNumber) (.ref D_NoText) = some false)
  (i_NoNumber_ValueError : PySem.W.subIn K (.ref D_NoNumber) (.type "ValueError") = some true)
  (j_NoNumber_MainsError : PySem.W.subIn K (.ref D_NoNumber) (.ref D_MainsError) = some true)
  (kX_NoLoss : PySem.W.keepIn K (.ref D_NoLoss) = true) (bX_NoLoss : PySem.W.subIn K (.ref D_NoLoss) (.type "BaseException") = some true) (tX_NoLoss : PySem.W.typeIn K (.ref D_NoLoss) = some (.type "type"))
  (xX_NoLoss : PySem.W.excIn K D_NoLoss [.type "ValueError", .type "Exception", .type "BaseException", .type "object"] "ValueError.__new__" = true)
  (g1_NoLoss : PySem.W.findIn K (.ref D_NoLoss) "__getattribute__" = some (some (.builtin "BaseException.__getattribute__"))) (g2_NoLoss : PySem.W.findIn K (.ref D_NoLoss) "__getattr__" = some none) (g3_NoLoss : PySem.W.hasDictIn K D_NoLoss = true) (g4_NoLoss : PySem.W.findIn K (.ref D_NoLoss) "__class__" = some (some (.builtin "object.__class__"))) (g5_NoLoss : PySem.W.mroIn K D_NoLoss (.type "object") = some true)
  (i_NoLoss_MainsError : PySem.W.subIn K (.ref D_NoLoss) (.ref D_MainsError) = some true)
  (i_NoLoss_NoBalance : PySem.W.subIn K (.ref D_NoLoss) (.ref D_NoBalance) = some false)
  (i_NoLoss_NoDeed : PySem.W.subIn K (.ref D_NoLoss) (.ref D_NoDeed) = some false)
  (i_NoLoss_NoFraction : PySem.W.subIn K (.ref D_NoLoss) (.ref D_NoFraction) = some false)
  (i_NoLoss_NoHouse : PySem.W.subIn K (.ref D_NoLoss) (.ref D_NoHouse) = some false)
  (i_NoLoss_NoLine : PySem.W.subIn K (.ref D_NoLoss) (.ref D_NoLine) = some false)
  (i_NoLoss_NoLoss : PySem.W.subIn K (.ref D_NoLoss) (.ref D_NoLoss) = some true)
  (i_NoLoss_NoMaking : PySem.W.subIn K (.ref D_NoLoss) (.ref D_NoMaking) = some false)
  (i_NoLoss_NoNumber : PySem.W.subIn K (.ref D_NoLoss) (.ref D_NoNumber) = some false)
  (i_NoLoss_NoPaper : PySem.W.subIn K (.ref D_NoLoss) (.ref D_NoPaper) = some false)
  (i_NoLoss_NoPuts : PySem.W.subIn K (.ref D_NoLoss) (.ref D_NoPuts) = some false)
  (i_NoLoss_NoRow : PySem.W.subIn K (.ref D_NoLoss) (.ref D_NoRow) = some false)
  (i_NoLoss_NoText : PySem.W.subIn K (.ref D_NoLoss) (.ref D_NoText) = some false)
  (i_NoLoss_ValueError : PySem.W.subIn K (.ref D_NoLoss) (.type "ValueError") = some true)
  (j_NoLoss_MainsError : PySem.W.subIn K (.ref D_NoLoss) (.ref D_MainsError) = some true)
  (kX_NoDeed : PySem.W.keepIn K (.ref D_NoDeed) = true) (bX_NoDeed : PySem.W.subIn K (.ref D_NoDeed) (.type "BaseException") = some true) (tX_NoDeed : PySem.W.typeIn K (.ref D_NoDeed) = some (.type "type"))
  (xX_NoDeed : PySem.W.excIn K D_NoDeed [.type "ValueError", .type "Exception", .type "BaseException", .type "object"] "ValueError.__new__" = true)
  (g1_NoDeed : PySem.W.findIn K (.ref D_NoDeed) "__getattribute__" = some (some (.builtin "BaseException.__getattribute__"))) (g2_NoDeed : PySem.W.findIn K (.ref D_NoDeed) "__getattr__" = some none) (g3_NoDeed : PySem.W.hasDictIn K D_NoDeed = true) (g4_NoDeed : PySem.W.findIn K (.ref D_NoDeed) "__class__" = some (some (.builtin "object.__class__"))) (g5_NoDeed : PySem.W.mroIn K D_NoDeed (.type "object") = some true)
  (i_NoDeed_MainsError : PySem.W.subIn K (.ref D_NoDeed) (.ref D_MainsError) = some true)
  (i_NoDeed_NoBalance : PySem.W.subIn K (.ref D_NoDeed) (.ref D_NoBalance) = some false)
  (i_NoDeed_NoDeed : PySem.W.subIn K (.ref D_NoDeed) (.ref D_NoDeed) = some true)
  (i_NoDeed_NoFraction : PySem.W.subIn K (.ref D_NoDeed) (.ref D_NoFraction) = some false)
  (i_NoDeed_NoHouse : PySem.W.subIn K (.ref D_NoDeed) (.ref D_NoHouse) = some false)
  (i_NoDeed_NoLine : PySem.W.subIn K (.ref D_NoDeed) (.ref D_NoLine) = some false)
  (i_NoDeed_NoLoss : PySem.W.subIn K (.ref D_NoDeed) (.ref D_NoLoss) = some false)
  (i_NoDeed_NoMaking : PySem.W.subIn K (.ref D_NoDeed) (.ref D_NoMaking) = some false)
  (i_NoDeed_NoNumber : PySem.W.subIn K (.ref D_NoDeed) (.ref D_NoNumber) = some false)
  (i_NoDeed_NoPaper : PySem.W.subIn K (.ref D_NoDeed) (.ref D_NoPaper) = some false)
  (i_NoDeed_NoPuts : PySem.W.subIn K (.ref D_NoDeed) (.ref D_NoPuts) = some false)
  (i_NoDeed_NoRow : PySem.W.subIn K (.ref D_NoDeed) (.ref D_NoRow) = some false)
  (i_NoDeed_NoText : PySem.W.subIn K (.ref D_NoDeed) (.ref D_NoText) = some false)
  (i_NoDeed_ValueError : PySem.W.subIn K (.ref D_NoDeed) (.type "ValueError") = some true)
  (j_NoDeed_MainsError : PySem.W.subIn K (.ref D_NoDeed) (.ref D_MainsError) = some true)
  (ss_NoNumber : PySem.W.subIn K (.ref D_NoNumber) (.ref D_NoNumber) = some true)
  (ss_NoLoss : PySem.W.subIn K (.ref D_NoLoss) (.ref D_NoLoss) = some true)
  (ss_NoDeed : PySem.W.subIn K (.ref D_NoDeed) (.ref D_NoDeed) = some true)
  (u1_MainsError : PySem.W.isClsIn K D_MainsError = true) (u2_MainsError : PySem.W.typeIn K (.ref D_MainsError) = some (.type "type"))
  (u1_NoBalance : PySem.W.isClsIn K D_NoBalance = true) (u2_NoBalance : PySem.W.typeIn K (.ref D_NoBalance) = some (.type "type"))
  (u1_NoDeed : PySem.W.isClsIn K D_NoDeed = true) (u2_NoDeed : PySem.W.typeIn K (.ref D_NoDeed) = some (.type "type"))
  (u1_NoFraction : PySem.W.isClsIn K D_NoFraction = true) (u2_NoFraction : PySem.W.typeIn K (.ref D_NoFraction) = some (.type "type"))
  (u1_NoHouse : PySem.W.isClsIn K D_NoHouse = true) (u2_NoHouse : PySem.W.typeIn K (.ref D_NoHouse) = some (.type "type"))
  (u1_NoLine : PySem.W.isClsIn K D_NoLine = true) (u2_NoLine : PySem.W.typeIn K (.ref D_NoLine) = some (.type "type"))
  (u1_NoLoss : PySem.W.isClsIn K D_NoLoss = true) (u2_NoLoss : PySem.W.typeIn K (.ref D_NoLoss) = some (.type "type"))
  (u1_NoMaking : PySem.W.isClsIn K D_NoMaking = true) (u2_NoMaking : PySem.W.typeIn K (.ref D_NoMaking) = some (.type "type"))
  (u1_NoNumber : PySem.W.isClsIn K D_NoNumber = true) (u2_NoNumber : PySem.W.typeIn K (.ref D_NoNumber) = some (.type "type"))
  (u1_NoPaper : PySem.W.isClsIn K D_NoPaper = true) (u2_NoPaper : PySem.W.typeIn K (.ref D_NoPaper) = some (.type "type"))
  (u1_NoPuts : PySem.W.isClsIn K D_NoPuts = true) (u2_NoPuts : PySem.W.typeIn K (.ref D_NoPuts) = some (.type "type"))
  (u1_NoRow : PySem.W.isClsIn K D_NoRow = true) (u2_NoRow : PySem.W.typeIn K (.ref D_NoRow) = some (.type "type"))
  (u1_NoText : PySem.W.isClsIn K D_NoText = true) (u2_NoText : PySem.W.typeIn K (.ref D_NoText) = some (.type "type"))
  (bX_MainsError : PySem.W.subIn K (.ref D_MainsError) (.type "BaseException") = some true) (g3_MainsError : PySem.W.hasDictIn K D_MainsError = true)
  (s0 : PySem.W.specialIn K (.builtin "object.__class__") "__get__" = some (some (.builtin "getset_descriptor.__get__"))) (s1 : PySem.W.takesIn K (.builtin "object.__class__") = some true)
  (z_ValueError : PySem.W.nsIn K mainGlobals "ValueError" = some none)
  (z_abs : PySem.W.nsIn K mainGlobals "abs" = some none)
  (z_all : PySem.W.nsIn K mainGlobals "all" = some none)
  (z_bool : PySem.W.nsIn K mainGlobals "bool" = some none)
  (z_enumerate : PySem.W.nsIn K mainGlobals "enumerate" = some none)
  (z_int : PySem.W.nsIn K mainGlobals "int" = some none)
  (z_isinstance : PySem.W.nsIn K mainGlobals "isinstance" = some none)
  (z_len : PySem.W.nsIn K mainGlobals "len" = some none)
  (z_min : PySem.W.nsIn K mainGlobals "min" = some none)
  (z_range : PySem.W.nsIn K mainGlobals "range" = some none)
  (z_str : PySem.W.nsIn K mainGlobals "str" = some none)
  (z_tuple : PySem.W.nsIn K mainGlobals "tuple" = some none)
  (z_zip : PySem.W.nsIn K mainGlobals "zip" = some none)
  (g_COUNTS : PySem.W.nsIn K mainGlobals "COUNTS" = some (some (.ref (He.ga K "COUNTS")))) (o_COUNTS : dicB K (He.ga K "COUNTS") [("lose", 1), ("stop", 1), ("want", 4), ("undo", 0), ("house", 0), ("limits", 0), ("cost", 0), ("on", 0), ("price", 2), ("owed", 0)] = true) (kd_COUNTS : ∃ es n, KDict K w (He.ga K "COUNTS") es n)
  (g_FIGURES : (He.Fa.str "FIGURES" "0123456789").ok K = true)
  (g_FIRM : (He.Fa.int "FIRM" (100)).ok K = true)
  (g_LONGEST : (He.Fa.int "LONGEST" (2)).ok K = true)
  (g_MOST_BORNE : (He.Fa.int "MOST_BORNE" (99)).ok K = true)
  (g_MOST_FIGURES : (He.Fa.int "MOST_FIGURES" (40)).ok K = true)
  (g_MOST_HOURS : (He.Fa.int "MOST_HOURS" (3)).ok K = true)
  (g_MOST_LEAST : (He.Fa.int "MOST_LEAST" (20)).ok K = true)
  (g_MOST_LINES : (He.Fa.int "MOST_LINES" (6)).ok K = true)
  (g_MOST_PLACES : (He.Fa.int "MOST_PLACES" (4)).ok K = true)
  (g_MOST_PRICE : (He.Fa.int "MOST_PRICE" (99)).ok K = true)
  (g_MOST_SIZE_desk : (He.Fa.int "MOST_SIZE_desk" (30)).ok K = true)
  (g_MOST_SIZE_houses : (He.Fa.int "MOST_SIZE_houses" (30)).ok K = true)
  (g_MOST_WANTS : (He.Fa.int "MOST_WANTS" (3)).ok K = true)
  (g_MOST_WIDTH : (He.Fa.int "MOST_WIDTH" (20)).ok K = true)
  (g_MOST_WORKS : (He.Fa.int "MOST_WORKS" (3)).ok K = true)
  (g_MOST_WORTH : (He.Fa.int "MOST_WORTH" (100)).ok K = true)
  (g_OFF : (He.Fa.str "OFF" "off").ok K = true)
  (g_ON : (He.Fa.str "ON" "on").ok K = true)
  (g_STIFFEST : (He.Fa.int "STIFFEST" (9)).ok K = true)
  (g_TOPMOST : (He.Fa.int "TOPMOST" (2)).ok K = true)
  : ∃ fd : FuncData, (∀ (s : Shared) (v : Value), BindsTo s fd ⟨[v], []⟩ [("_law_script", v)]) ∧ ∀ base : Heap, K.In base → base.Ns mainGlobals mg → base.NoSeer → FnOk l.prog w K mg base CX0 58 fa fd ["_law_script"] (liftSp K sp_law) := by
 have e := hfa.symm.trans (PySem.W.mg_of X G a65)
 cases e
 have m_ValueError : mg "ValueError" = none := PySem.W.mg_none_of X G z_ValueError
 have m_abs : mg "abs" = none := PySem.W.mg_none_of X G z_abs
 have m_all : mg "all" = none := PySem.W.mg_none_of X G z_all
 have m_bool : mg "bool" = none := PySem.W.mg_none_of X G z_bool
 have m_enumerate : mg "enumerate" = none := PySem.W.mg_none_of X G z_enumerate
 have m_int : mg "int" = none := PySem.W.mg_none_of X G z_int
 have m_isinstance : mg "isinstance" = none := PySem.W.mg_none_of X G z_isinstance
 have m_len : mg "len" = none := PySem.W.mg_none_of X G z_len
 have m_min : mg "min" = none := PySem.W.mg_none_of X G z_min
 have m_range : mg "range" = none := PySem.W.mg_none_of X G z_range
 have m_str : mg "str" = none := PySem.W.mg_none_of X G z_str
 have m_tuple : mg "tuple" = none := PySem.W.mg_none_of X G z_tuple
 have m_zip : mg "zip" = none := PySem.W.mg_none_of X G z_zip
 have c_COUNTS : GDic K mg w "COUNTS" [("lose", 1), ("stop", 1), ("want", 4), ("undo", 0), ("house", 0), ("limits", 0), ("cost", 0), ("on", 0), ("price", 2), ("owed", 0)] := by obtain ⟨_, _, D⟩ := kd_COUNTS; exact GDic.of (PySem.W.mg_of X G g_COUNTS) D o_COUNTS
 have c_FIGURES : GlobW K mg "FIGURES" (.str "0123456789") := by obtain ⟨_, e⟩ := He.str_ok X G g_FIGURES; exact GlobW.str e
 have c_FIRM : GlobW K mg "FIRM" (.int 100) := by obtain ⟨_, e⟩ := He.int_ok X G g_FIRM; exact GlobW.int e
 have c_LONGEST : GlobW K mg "LONGEST" (.int 2) := by obtain ⟨_, e⟩ := He.int_ok X G g_LONGEST; exact GlobW.int e
 have c_MOST_BORNE : GlobW K mg "MOST_BORNE" (.int 99) := by obtain ⟨_, e⟩ := He.int_ok X G g_MOST_BORNE; exact GlobW.int e
 have c_MOST_FIGURES : GlobW K mg "MOST_FIGURES" (.int 40) := by obtain ⟨_, e⟩ := He.int_ok X G g_MOST_FIGURES; exact GlobW.int e
 have c_MOST_HOURS : GlobW K mg "MOST_HOURS" (.int 3) := by obtain ⟨_, e⟩ := He.int_ok X G g_MOST_HOURS; exact GlobW.int e
 have c_MOST_LEAST : GlobW K mg "MOST_LEAST" (.int 20) := by obtain ⟨_, e⟩ := He.int_ok X G g_MOST_LEAST; exact GlobW.int e
 have c_MOST_LINES : GlobW K mg "MOST_LINES" (.int 6) := by obtain ⟨_, e⟩ := He.int_ok X G g_MOST_LINES; exact GlobW.int e
 have c_MOST_PLACES : GlobW K mg "MOST_PLACES" (.int 4) := by obtain ⟨_, e⟩ := He.int_ok X G g_MOST_PLACES; exact GlobW.int e
 have c_MOST_PRICE : GlobW K mg "MOST_PRICE" (.int 99) := by obtain ⟨_, e⟩ := He.int_ok X G g_MOST_PRICE; exact GlobW.int e
 have c_MOST_SIZE_desk : GlobW K mg "MOST_SIZE_desk" (.int 30) := by obtain ⟨_, e⟩ := He.int_ok X G g_MOST_SIZE_desk; exact GlobW.int e
 have c_MOST_SIZE_houses : GlobW K mg "MOST_SIZE_houses" (.int 30) := by obtain ⟨_, e⟩ := He.int_ok X G g_MOST_SIZE_houses; exact GlobW.int e
 have c_MOST_WANTS : GlobW K mg "MOST_WANTS" (.int 3) := by obtain ⟨_, e⟩ := He.int_ok X G g_MOST_WANTS; exact GlobW.int e
 have c_MOST_WIDTH : GlobW K mg "MOST_WIDTH" (.int 20) := by obtain ⟨_, e⟩ := He.int_ok X G g_MOST_WIDTH; exact GlobW.int e
 have c_MOST_WORKS : GlobW K mg "MOST_WORKS" (.int 3) := by obtain ⟨_, e⟩ := He.int_ok X G g_MOST_WORKS; exact GlobW.int e
 have c_MOST_WORTH : GlobW K mg "MOST_WORTH" (.int 100) := by obtain ⟨_, e⟩ := He.int_ok X G g_MOST_WORTH; exact GlobW.int e
 have c_OFF : GlobW K mg "OFF" (.str "off") := by obtain ⟨_, e⟩ := He.str_ok X G g_OFF; exact GlobW.str e
 have c_ON : GlobW K mg "ON" (.str "on") := by obtain ⟨_, e⟩ := He.str_ok X G g_ON; exact GlobW.str e
 have c_STIFFEST : GlobW K mg "STIFFEST" (.int 9) := by obtain ⟨_, e⟩ := He.int_ok X G g_STIFFEST; exact GlobW.int e
 have c_TOPMOST : GlobW K mg "TOPMOST" (.int 2) := by obtain ⟨_, e⟩ := He.int_ok X G g_TOPMOST; exact GlobW.int e
 have gT_MainsError : mg "MainsError" = some (.ref D_MainsError) := PySem.W.mg_of X G aX_MainsError
 have gT_NoBalance : mg "NoBalance" = some (.ref D_NoBalance) := PySem.W.mg_of X G aX_NoBalance
 have gT_NoDeed : mg "NoDeed" = some (.ref D_NoDeed) := PySem.W.mg_of X G aX_NoDeed
 have gT_NoFraction : mg "NoFraction" = some (.ref D_NoFraction) := PySem.W.mg_of X G aX_NoFraction
 have gT_NoHouse : mg "NoHouse" = some (.ref D_NoHouse) := PySem.W.mg_of X G aX_NoHouse
 have gT_NoLine : mg "NoLine" = some (.ref D_NoLine) := PySem.W.mg_of X G aX_NoLine
 have gT_NoLoss : mg "NoLoss" = some (.ref D_NoLoss) := PySem.W.mg_of X G aX_NoLoss
 have gT_NoMaking : mg "NoMaking" = some (.ref D_NoMaking) := PySem.W.mg_of X G aX_NoMaking
 have gT_NoNumber : mg "NoNumber" = some (.ref D_NoNumber) := PySem.W.mg_of X G aX_NoNumber
 have gT_NoPaper : mg "NoPaper" = some (.ref D_NoPaper) := PySem.W.mg_of X G aX_NoPaper
 have gT_NoPuts : mg "NoPuts" = some (.ref D_NoPuts) := PySem.W.mg_of X G aX_NoPuts
 have gT_NoRow : mg "NoRow" = some (.ref D_NoRow) := PySem.W.mg_of X G aX_NoRow
 have gT_NoText : mg "NoText" = some (.ref D_NoText) := PySem.W.mg_of X G aX_NoText
 have e_NoNumber : Err K mg "NoNumber" := ⟨_, gT_NoNumber, aX_NoNumber, kX_NoNumber, xX_NoNumber, bX_NoNumber, tX_NoNumber⟩
 have e_NoLoss : Err K mg "NoLoss" := ⟨_, gT_NoLoss, aX_NoLoss, kX_NoLoss, xX_NoLoss, bX_NoLoss, tX_NoLoss⟩
 have e_NoDeed : Err K mg "NoDeed" := ⟨_, gT_NoDeed, aX_NoDeed, kX_NoDeed, xX_NoDeed, bX_NoDeed, tX_NoDeed⟩
 have kT_MainsError : ErrT K ["NoNumber", "NoLoss", "NoDeed"] "MainsError" (.ref D_MainsError) := fun nm hm C cA => by
  simp only [List.mem_cons, List.not_mem_nil, or_false] at hm
  rcases hm with rfl | rfl | rfl
  ·have e := ClsA.one aX_NoNumber cA; subst e; exact kit_ref u1_MainsError u2_MainsError i_NoNumber_MainsError ss_NoNumber
  ·have e := ClsA.one aX_NoLoss cA; subst e; exact kit_ref u1_MainsError u2_MainsError i_NoLoss_MainsError ss_NoLoss
  ·have e := ClsA.one aX_NoDeed cA; subst e; exact kit_ref u1_MainsError u2_MainsError i_NoDeed_MainsError ss_NoDeed
 have kT_NoBalance : ErrT K ["NoNumber", "NoLoss", "NoDeed"] "NoBalance" (.ref D_NoBalance) := fun nm hm C cA => by
  simp only [List.mem_cons, List.not_mem_nil, or_false] at hm
  rcases hm with rfl | rfl | rfl
  ·have e := ClsA.one aX_NoNumber cA; subst e; exact kit_ref u1_NoBalance u2_NoBalance i_NoNumber_NoBalance ss_NoNumber
  ·have e := ClsA.one aX_NoLoss cA; subst e; exact kit_ref u1_NoBalance u2_NoBalance i_NoLoss_NoBalance ss_NoLoss
  ·have e := ClsA.one aX_NoDeed cA; subst e; exact kit_ref u1_NoBalance u2_NoBalance i_NoDeed_NoBalance ss_NoDeed
 have kT_NoDeed : ErrT K ["NoNumber", "NoLoss", "NoDeed"] "NoDeed" (.ref D_NoDeed) := fun nm hm C cA => by
  simp only [List.mem_cons, List.not_mem_nil, or_false] at hm
  rcases hm with rfl | rfl | rfl
  ·have e := ClsA.one aX_NoNumber cA; subst e; exact kit_ref u1_NoDeed u2_NoDeed i_NoNumber_NoDeed ss_NoNumber
  ·have e := ClsA.one aX_NoLoss cA; subst e; exact kit_ref u1_NoDeed u2_NoDeed i_NoLoss_NoDeed ss_NoLoss
  ·have e := ClsA.one aX_NoDeed cA; subst e; exact kit_ref u1_NoDeed u2_NoDeed i_NoDeed_NoDeed ss_NoDeed
 have kT_NoFraction : ErrT K ["NoNumber", "NoLoss", "NoDeed"] "NoFraction" (.ref D_NoFraction) := fun nm hm C cA => by
  simp only [List.mem_cons, List.not_mem_nil, or_false] at hm
  rcases hm with rfl | rfl | rfl
  ·have e := ClsA.one aX_NoNumber cA; subst e; exact kit_ref u1_NoFraction u2_NoFraction i_NoNumber_NoFraction ss_NoNumber
  ·have e := ClsA.one aX_NoLoss cA; subst e; exact kit_ref u1_NoFraction u2_NoFraction i_NoLoss_NoFraction ss_NoLoss
  ·have e := ClsA.one aX_NoDeed cA; subst e; exact kit_ref u1_NoFraction u2_NoFraction i_NoDeed_NoFraction ss_NoDeed
 have kT_NoHouse : ErrT K ["NoNumber", "NoLoss", "NoDeed"] "NoHouse" (.ref D_NoHouse) := fun nm hm C cA => by
  simp only [List.mem_cons, List.not_mem_nil, or_false] at hm
  rcases hm with rfl | rfl | rfl
  ·have e := ClsA.one aX_NoNumber cA; subst e; exact kit_ref u1_NoHouse u2_NoHouse i_NoNumber_NoHouse ss_NoNumber
  ·have e := ClsA.one aX_NoLoss cA; subst e; exact kit_ref u1_NoHouse u2_NoHouse i_NoLoss_NoHouse ss_NoLoss
  ·have e := ClsA.one aX_NoDeed cA; subst e; exact kit_ref u1_NoHouse u2_NoHouse i_NoDeed_NoHouse ss_NoDeed
 have kT_NoLine : ErrT K ["NoNumber", "NoLoss", "NoDeed"] "NoLine" (.ref D_NoLine) := fun nm hm C cA => by
  simp only [List.mem_cons, List.not_mem_nil, or_false] at hm
  rcases hm with rfl | rfl | rfl
  ·have e := ClsA.one aX_NoNumber cA; subst e; exact kit_ref u1_NoLine u2_NoLine i_NoNumber_NoLine ss_NoNumber
  ·have e := ClsA.one aX_NoLoss cA; subst e; exact kit_ref u1_NoLine u2_NoLine i_NoLoss_NoLine ss_NoLoss
  ·have e := ClsA.one aX_NoDeed cA; subst e; exact kit_ref u1_NoLine u2_NoLine i_NoDeed_NoLine ss_NoDeed
 have kT_NoLoss : ErrT K ["NoNumber", "NoLoss", "NoDeed"] "NoLoss" (.ref D_NoLoss) := fun nm hm C cA => by
  simp only [List.mem_cons, List.not_mem_nil, or_false] at hm
  rcases hm with rfl | rfl | rfl
  ·have e := ClsA.one aX_NoNumber cA; subst e; exact kit_ref u1_NoLoss u2_NoLoss i_NoNumber_NoLoss ss_NoNumber
  ·have e := ClsA.one aX_NoLoss cA; subst e; exact kit_ref u1_NoLoss u2_NoLoss i_NoLoss_NoLoss ss_NoLoss
  ·have e := ClsA.one aX_NoDeed cA; subst e; exact kit_ref u1_NoLoss u2_NoLoss i_NoDeed_NoLoss ss_NoDeed
 have kT_NoMaking : ErrT K ["NoNumber", "NoLoss", "NoDeed"] "NoMaking" (.ref D_NoMaking) := fun nm hm C cA => by
  simp only [List.mem_cons, List.not_mem_nil, or_false] at hm
  rcases hm with rfl | rfl | rfl
  ·have e := ClsA.one aX_NoNumber cA; subst e; exact kit_ref u1_NoMaking u2_NoMaking i_NoNumber_NoMaking ss_NoNumber
  ·have e := ClsA.one aX_NoLoss cA; subst e; exact kit_ref u1_NoMaking u2_NoMaking i_NoLoss_NoMaking ss_NoLoss
  ·have e := ClsA.one aX_NoDeed cA; subst e; exact kit_ref u1_NoMaking u2_NoMaking i_NoDeed_NoMaking ss_NoDeed
 have kT_NoNumber : ErrT K ["NoNumber", "NoLoss", "NoDeed"] "NoNumber" (.ref D_NoNumber) := fun nm hm C cA => by
  simp only [List.mem_cons, List.not_mem_nil, or_false] at hm
  rcases hm with rfl | rfl | rfl
  ·have e := ClsA.one aX_NoNumber cA; subst e; exact kit_ref u1_NoNumber u2_NoNumber i_NoNumber_NoNumber ss_NoNumber
  ·have e := ClsA.one aX_NoLoss cA; subst e; exact kit_ref u1_NoNumber u2_NoNumber i_NoLoss_NoNumber ss_NoLoss
  ·have e := ClsA.one aX_NoDeed cA; subst e; exact kit_ref u1_NoNumber u2_NoNumber i_NoDeed_NoNumber ss_NoDeed
 have kT_NoPaper : ErrT K ["NoNumber", "NoLoss", "NoDeed"] "NoPaper" (.ref D_NoPaper) := fun nm hm C cA => by
  simp only [List.mem_cons, List.not_mem_nil, or_false] at hm
  rcases hm with rfl | rfl | rfl
  ·have e := ClsA.one aX_NoNumber cA; subst e; exact kit_ref u1_NoPaper u2_NoPaper i_NoNumber_NoPaper ss_NoNumber
  ·have e := ClsA.one aX_NoLoss cA; subst e; exact kit_ref u1_NoPaper u2_NoPaper i_NoLoss_NoPaper ss_NoLoss
  ·have e := ClsA.one aX_NoDeed cA; subst e; exact kit_ref u1_NoPaper u2_NoPaper i_NoDeed_NoPaper ss_NoDeed
 have kT_NoPuts : ErrT K ["NoNumber", "NoLoss", "NoDeed"] "NoPuts" (.ref D_NoPuts) := fun nm hm C cA => by
  simp only [List.mem_cons, List.not_mem_nil, or_false] at hm
  rcases hm with rfl | rfl | rfl
  ·have e := ClsA.one aX_NoNumber cA; subst e; exact kit_ref u1_NoPuts u2_NoPuts i_NoNumber_NoPuts ss_NoNumber
  ·have e := ClsA.one aX_NoLoss cA; subst e; exact kit_ref u1_NoPuts u2_NoPuts i_NoLoss_NoPuts ss_NoLoss
  ·have e := ClsA.one aX_NoDeed cA; subst e; exact kit_ref u1_NoPuts u2_NoPuts i_NoDeed_NoPuts ss_NoDeed
 have kT_NoRow : ErrT K ["NoNumber", "NoLoss", "NoDeed"] "NoRow" (.ref D_NoRow) := fun nm hm C cA => by
  simp only [List.mem_cons, List.not_mem_nil, or_false] at hm
  rcases hm with rfl | rfl | rfl
  ·have e := ClsA.one aX_NoNumber cA; subst e; exact kit_ref u1_NoRow u2_NoRow i_NoNumber_NoRow ss_NoNumber
  ·have e := ClsA.one aX_NoLoss cA; subst e; exact kit_ref u1_NoRow u2_NoRow i_NoLoss_NoRow ss_NoLoss
  ·have e := ClsA.one aX_NoDeed cA; subst e; exact kit_ref u1_NoRow u2_NoRow i_NoDeed_NoRow ss_NoDeed
 have kT_NoText : ErrT K ["NoNumber", "NoLoss", "NoDeed"] "NoText" (.ref D_NoText) := fun nm hm C cA => by
  simp only [List.mem_cons, List.not_mem_nil, or_false] at hm
  rcases hm with rfl | rfl | rfl
  ·have e := ClsA.one aX_NoNumber cA; subst e; exact kit_ref u1_NoText u2_NoText i_NoNumber_NoText ss_NoNumber
  ·have e := ClsA.one aX_NoLoss cA; subst e; exact kit_ref u1_NoText u2_NoText i_NoLoss_NoText ss_NoLoss
  ·have e := ClsA.one aX_NoDeed cA; subst e; exact kit_ref u1_NoText u2_NoText i_NoDeed_NoText ss_NoDeed
 have kT_ValueError : ErrT K ["NoNumber", "NoLoss", "NoDeed"] "ValueError" (.type "ValueError") := fun nm hm C cA => by
  simp only [List.mem_cons, List.not_mem_nil, or_false] at hm
  rcases hm with rfl | rfl | rfl
  ·have e := ClsA.one aX_NoNumber cA; subst e; exact kit_typ (by decide +kernel) i_NoNumber_ValueError
  ·have e := ClsA.one aX_NoLoss cA; subst e; exact kit_typ (by decide +kernel) i_NoLoss_ValueError
  ·have e := ClsA.one aX_NoDeed cA; subst e; exact kit_typ (by decide +kernel) i_NoDeed_ValueError
 have mM_MainsError : ErrM K ["NoNumber", "NoLoss", "NoDeed"] "MainsError" (.ref D_MainsError) := fun nm hm C cA => by
  simp only [List.mem_cons, List.not_mem_nil, or_false] at hm
  rcases hm with rfl | rfl | rfl
  ·have e := ClsA.one aX_NoNumber cA; subst e; exact PySem.W.exm_ref bX_MainsError g3_MainsError u2_MainsError j_NoNumber_MainsError
  ·have e := ClsA.one aX_NoLoss cA; subst e; exact PySem.W.exm_ref bX_MainsError g3_MainsError u2_MainsError j_NoLoss_MainsError
  ·have e := ClsA.one aX_NoDeed cA; subst e; exact PySem.W.exm_ref bX_MainsError g3_MainsError u2_MainsError j_NoDeed_MainsError
 have eC : ErrC K ["NoNumber", "NoLoss", "NoDeed"] := fun nm hm C cA => by
  simp only [List.mem_cons, List.not_mem_nil, or_false] at hm
  rcases hm with rfl | rfl | rfl
  ·have e := ClsA.one aX_NoNumber cA; subst e; exact ⟨g1_NoNumber, g2_NoNumber, bX_NoNumber, g3_NoNumber, g4_NoNumber, s0, s1, g5_NoNumber⟩
  ·have e := ClsA.one aX_NoLoss cA; subst e; exact ⟨g1_NoLoss, g2_NoLoss, bX_NoLoss, g3_NoLoss, g4_NoLoss, s0, s1, g5_NoLoss⟩
  ·have e := ClsA.one aX_NoDeed cA; subst e; exact ⟨g1_NoDeed, g2_NoDeed, bX_NoDeed, g3_NoDeed, g4_NoDeed, s0, s1, g5_NoDeed⟩
 have cl_Desk : Cls K C_Desk := ⟨pg_Desk, hd_Desk, po_Desk, sa_Desk⟩
 have f_Desk_found : FldOk K "Desk" "found" := ⟨fun D d => by have e := ClsA.one aC_Desk d; subst e; exact ⟨cl_Desk, nf_Desk_found⟩⟩
 have f_Desk_houses : FldOk K "Desk" "houses" := ⟨fun D d => by have e := ClsA.one aC_Desk d; subst e; exact ⟨cl_Desk, nf_Desk_houses⟩⟩
 have F65 := fun_mk (st := sD_law) l65 c65 k65
 exact ⟨_, fun s v => .of_eq rfl, fun base _ _ seer => by
  have c_is_whole : Cal l.prog w K mg base CX0 41 "is_whole" sp_is_whole := ⟨_, _, _, ok_is_whole F0 seer tree m_isinstance m_int m_bool, PySem.W.mg_of X G a0, F0.kp, F0.binds (ps := ["thing"]) fun _ _ _ _ _ _ us hl => by obtain ⟨_, rfl⟩ := ln1 hl; rfl⟩
  have c_hangs_together : Cal l.prog w K mg base CX0 41 "hangs_together" sp_hangs_together := ⟨_, _, _, ok_hangs_together F1 seer tree m_len, PySem.W.mg_of X G a1, F1.kp, F1.binds (ps := ["many", "lines"]) fun _ _ _ _ _ _ us hl => by obtain ⟨_, _, rfl⟩ := ln2 hl; rfl⟩
  have c_left_lines : Cal l.prog w K mg base CX0 41 "left_lines" sp_left_lines := ⟨_, _, _, ok_left_lines F2 seer tree, PySem.W.mg_of X G a2, F2.kp, F2.binds (ps := ["net", "line"]) fun _ _ _ _ _ _ us hl => by obtain ⟨_, _, rfl⟩ := ln2 hl; rfl⟩
  have c_is_row_of : Cal l.prog w K mg base CX0 41 "is_row_of" sp_is_row_of := ⟨_, _, _, ok_is_row_of F3 seer tree m_isinstance m_tuple m_len, PySem.W.mg_of X G a3, F3.kp, F3.binds (ps := ["thing", "least", "most"]) fun _ _ _ _ _ _ us hl => by obtain ⟨_, _, _, rfl⟩ := ln3 hl; rfl⟩
  have c_number_of : Cal l.prog w K mg base CX0 41 "number_of" sp_number_of := ⟨_, _, _, ok_number_of F4 seer tree m_len m_all m_int c_MOST_FIGURES c_FIGURES, PySem.W.mg_of X G a4, F4.kp, F4.binds (ps := ["word"]) fun _ _ _ _ _ _ us hl => by obtain ⟨_, rfl⟩ := ln1 hl; rfl⟩
  have c_must_be : Cal l.prog w K mg base CX0 41 "must_be" sp_must_be := ⟨_, _, _, ok_must_be F5 seer tree, PySem.W.mg_of X G a5, F5.kp, F5.binds (ps := ["holds"]) fun _ _ _ _ _ _ us hl => by obtain ⟨_, rfl⟩ := ln1 hl; rfl⟩
  have c_rows_with : Cal l.prog w K mg base CX0 41 "rows_with" sp_rows_with := ⟨_, _, _, ok_rows_with F6 seer tree m_len, PySem.W.mg_of X G a6, F6.kp, F6.binds (ps := ["rows", "first"]) fun _ _ _ _ _ _ us hl => by obtain ⟨_, _, rfl⟩ := ln2 hl; rfl⟩
  have c_shown_row : Cal l.prog w K mg base CX0 41 "shown_row" sp_shown_row := ⟨_, _, _, ok_shown_row F7 seer tree m_str, PySem.W.mg_of X G a7, F7.kp, F7.binds (ps := ["first", "numbers"]) fun _ _ _ _ _ _ us hl => by obtain ⟨_, _, rfl⟩ := ln2 hl; rfl⟩
  have c_colons : Cal l.prog w K mg base CX0 41 "colons" sp_colons := ⟨_, _, _, ok_colons F8 seer tree m_str, PySem.W.mg_of X G a8, F8.kp, F8.binds (ps := ["numbers"]) fun _ _ _ _ _ _ us hl => by obtain ⟨_, rfl⟩ := ln1 hl; rfl⟩
  have c_must_be_below : Cal l.prog w K mg base (L2N.CX l.prog w) 41 "must_be_below" sp_must_be_below := ⟨_, _, _, ok_must_be_below F9 seer tree e_NoNumber, PySem.W.mg_of X G a9, F9.kp, F9.binds (ps := ["number", "many"]) fun _ _ _ _ _ _ us hl => by obtain ⟨_, _, rfl⟩ := ln2 hl; rfl⟩
  have c_with_wants : Cal l.prog w K mg base CX0 41 "with_wants" sp_with_wants := ⟨_, _, _, ok_with_wants F10 seer tree, PySem.W.mg_of X G a10, F10.kp, F10.binds (ps := ["house", "hour", "wants"]) fun _ _ _ _ _ _ us hl => by obtain ⟨_, _, _, rfl⟩ := ln3 hl; rfl⟩
  have c_Desk_house : CalM l.prog w K mg base CX0 41 "Desk" "house" sp_Desk_house := ⟨⟨_, _, _, _, aC_Desk, cl_Desk, ⟨a11, i11, F11.kp⟩, ok_Desk_house F11 seer tree f_Desk_houses, F11.binds (ps := ["self"]) fun _ _ _ _ _ _ us hl => by obtain ⟨_, rfl⟩ := ln1 hl; rfl⟩⟩
  have c_Desk_take_back : CalM l.prog w K mg base (L2N.CX l.prog w) 41 "Desk" "take_back" sp_Desk_take_back := ⟨⟨_, _, _, _, aC_Desk, cl_Desk, ⟨a12, i12, F12.kp⟩, ok_Desk_take_back F12 seer tree f_Desk_houses m_len e_NoDeed, F12.binds (ps := ["self"]) fun _ _ _ _ _ _ us hl => by obtain ⟨_, rfl⟩ := ln1 hl; rfl⟩⟩
  have c_zbag : Cal l.prog w K mg base CX0 41 "_law_bag" sp_zbag := ⟨_, _, _, ok_zbag F13 seer tree m_len m_abs m_range m_min, PySem.W.mg_of X G a13, F13.kp, F13.binds (ps := ["_law_script", "_law_at"]) fun _ _ _ _ _ _ us hl => by obtain ⟨_, _, rfl⟩ := ln2 hl; rfl⟩
  have c_ztake : Cal l.prog w K mg base CX0 41 "_law_take" sp_ztake := ⟨_, _, _, ok_ztake F14 seer tree, PySem.W.mg_of X G a14, F14.kp, F14.binds (ps := ["_law_bag_here", "_law_many"]) fun _ _ _ _ _ _ us hl => by obtain ⟨_, _, rfl⟩ := ln2 hl; rfl⟩
  have c_zstiff : Cal l.prog w K mg base CX0 41 "_law_stiff" sp_zstiff := ⟨_, _, _, ok_zstiff F15 seer tree m_range m_enumerate, PySem.W.mg_of X G a15, F15.kp, F15.binds (ps := ["_law_net_here", "_law_lost"]) fun _ _ _ _ _ _ us hl => by obtain ⟨_, _, rfl⟩ := ln2 hl; rfl⟩
  have c_ztext : Cal l.prog w K mg base CX0 41 "_law_text" sp_ztext := ⟨_, _, _, ok_ztext F16 seer tree m_str m_int, PySem.W.mg_of X G a16, F16.kp, F16.binds (ps := ["_law_house_here"]) fun _ _ _ _ _ _ us hl => by obtain ⟨_, rfl⟩ := ln1 hl; rfl⟩
  have c_zkind : CalE l.prog w K mg base ["NoNumber", "NoLoss", "NoDeed"] 41 "_law_kind" sp_zkind := ⟨_, _, _, ok_zkind F17 m_isinstance m_ValueError gT_MainsError gT_NoBalance gT_NoDeed gT_NoFraction gT_NoHouse gT_NoLine gT_NoLoss gT_NoMaking gT_NoNumber gT_NoPaper gT_NoPuts gT_NoRow gT_NoText kT_NoFraction kT_NoPuts kT_NoBalance kT_NoLine kT_NoLoss kT_NoPaper kT_NoMaking kT_NoText kT_NoHouse kT_NoRow kT_NoNumber kT_NoDeed kT_MainsError kT_ValueError eC, PySem.W.mg_of X G a17, F17.kp, F17.binds (ps := ["_law_e"]) fun _ _ _ _ _ _ us hl => by obtain ⟨_, rfl⟩ := ln1 hl; rfl⟩
  have c_is_from : Cal l.prog w K mg base CX0 42 "is_from" sp_is_from := ⟨_, _, _, ok_is_from F18 seer tree c_is_whole, PySem.W.mg_of X G a18, F18.kp, F18.binds (ps := ["thing", "least", "most"]) fun _ _ _ _ _ _ us hl => by obtain ⟨_, _, _, rfl⟩ := ln3 hl; rfl⟩
  have c_losable : Cal l.prog w K mg base CX0 42 "losable" sp_losable := ⟨_, _, _, ok_losable F19 seer tree c_hangs_together c_left_lines m_range m_len, PySem.W.mg_of X G a19, F19.kp, F19.binds (ps := ["net"]) fun _ _ _ _ _ _ us hl => by obtain ⟨_, rfl⟩ := ln1 hl; rfl⟩
  have c_numbers_of : Cal l.prog w K mg base CX0 42 "numbers_of" sp_numbers_of := ⟨_, _, _, ok_numbers_of F20 seer tree c_number_of c_must_be m_all m_tuple, PySem.W.mg_of X G a20, F20.kp, F20.binds (ps := ["words"]) fun _ _ _ _ _ _ us hl => by obtain ⟨_, rfl⟩ := ln1 hl; rfl⟩
  have c_shown_work : Cal l.prog w K mg base CX0 42 "shown_work" sp_shown_work := ⟨_, _, _, ok_shown_work F21 seer tree c_shown_row c_colons c_ON c_OFF, PySem.W.mg_of X G a21, F21.kp, F21.binds (ps := ["work"]) fun _ _ _ _ _ _ us hl => by obtain ⟨_, rfl⟩ := ln1 hl; rfl⟩
  have c_words_of : Cal l.prog w K mg base CX0 42 "words_of" sp_words_of := ⟨_, _, _, ok_words_of F22 seer tree c_number_of m_isinstance m_str m_len c_COUNTS, PySem.W.mg_of X G a22, F22.kp, F22.binds (ps := ["row"]) fun _ _ _ _ _ _ us hl => by obtain ⟨_, rfl⟩ := ln1 hl; rfl⟩
  have c_behind_stop : Cal l.prog w K mg base (L2N.CX l.prog w) 42 "behind_stop" sp_behind_stop := ⟨_, _, _, ok_behind_stop F23 seer tree c_must_be_below m_len, PySem.W.mg_of X G a23, F23.kp, F23.binds (ps := ["house", "work"]) fun _ _ _ _ _ _ us hl => by obtain ⟨_, _, rfl⟩ := ln2 hl; rfl⟩
  have c_behind_want : Cal l.prog w K mg base (L2N.CX l.prog w) 42 "behind_want" sp_behind_want := ⟨_, _, _, ok_behind_want F24 seer tree c_must_be_below c_with_wants m_len c_MOST_SIZE_desk c_MOST_WORTH, PySem.W.mg_of X G a24, F24.kp, F24.binds (ps := ["house", "numbers"]) fun _ _ _ _ _ _ us hl => by obtain ⟨_, _, rfl⟩ := ln2 hl; rfl⟩
  have c_znet : Cal l.prog w K mg base CX0 42 "_law_net" sp_znet := ⟨_, _, _, ok_znet F25 seer tree c_ztake m_range m_int m_tuple, PySem.W.mg_of X G a25, F25.kp, F25.binds (ps := ["_law_bag_here", "_law_many"]) fun _ _ _ _ _ _ us hl => by obtain ⟨_, _, rfl⟩ := ln2 hl; rfl⟩
  have c_zwork : Cal l.prog w K mg base CX0 42 "_law_work" sp_zwork := ⟨_, _, _, ok_zwork F26 seer tree c_ztake m_tuple, PySem.W.mg_of X G a26, F26.kp, F26.binds (ps := ["_law_bag_here", "_law_many"]) fun _ _ _ _ _ _ us hl => by obtain ⟨_, _, rfl⟩ := ln2 hl; rfl⟩
  have c_zwants : Cal l.prog w K mg base CX0 42 "_law_wants" sp_zwants := ⟨_, _, _, ok_zwants F27 seer tree c_ztake m_range m_int m_tuple, PySem.W.mg_of X G a27, F27.kp, F27.binds (ps := ["_law_bag_here", "_law_many"]) fun _ _ _ _ _ _ us hl => by obtain ⟨_, _, rfl⟩ := ln2 hl; rfl⟩
  have c_zstore : Cal l.prog w K mg base CX0 42 "_law_store" sp_zstore := ⟨_, _, _, ok_zstore F28 seer tree c_ztake, PySem.W.mg_of X G a28, F28.kp, F28.binds (ps := ["_law_bag_here", "_law_many"]) fun _ _ _ _ _ _ us hl => by obtain ⟨_, _, rfl⟩ := ln2 hl; rfl⟩
  have c_zdeed : Cal l.prog w K mg base CX0 42 "_law_deed" sp_zdeed := ⟨_, _, _, ok_zdeed F29 seer tree c_ztake m_int m_str m_len, PySem.W.mg_of X G a29, F29.kp, F29.binds (ps := ["_law_bag_here", "_law_house_here"]) fun _ _ _ _ _ _ us hl => by obtain ⟨_, _, rfl⟩ := ln2 hl; rfl⟩
  have c_is_line : Cal l.prog w K mg base CX0 43 "is_line" sp_is_line := ⟨_, _, _, ok_is_line F30 seer tree c_is_from m_isinstance m_tuple m_len c_STIFFEST c_MOST_BORNE, PySem.W.mg_of X G a30, F30.kp, F30.binds (ps := ["many", "thing"]) fun _ _ _ _ _ _ us hl => by obtain ⟨_, _, rfl⟩ := ln2 hl; rfl⟩
  have c_without : Cal l.prog w K mg base CX0 43 "without" sp_without := ⟨_, _, _, ok_without F31 seer tree c_is_from c_hangs_together c_left_lines m_len, PySem.W.mg_of X G a31, F31.kp, F31.binds (ps := ["net", "line"]) fun _ _ _ _ _ _ us hl => by obtain ⟨_, _, rfl⟩ := ln2 hl; rfl⟩
  have c_limits : Cal l.prog w K mg base CX0 43 "limits" sp_limits := ⟨_, _, _, ok_limits F32 seer tree c_losable m_range m_len, PySem.W.mg_of X G a32, F32.kp, F32.binds (ps := ["net"]) fun _ _ _ _ _ _ us hl => by obtain ⟨_, rfl⟩ := ln1 hl; rfl⟩
  have c_is_piece : Cal l.prog w K mg base CX0 43 "is_piece" sp_is_piece := ⟨_, _, _, ok_is_piece F33 seer tree c_is_row_of c_is_from c_MOST_WIDTH c_MOST_PRICE, PySem.W.mg_of X G a33, F33.kp, F33.binds (ps := ["thing"]) fun _ _ _ _ _ _ us hl => by obtain ⟨_, rfl⟩ := ln1 hl; rfl⟩
  have c_is_store : Cal l.prog w K mg base CX0 43 "is_store" sp_is_store := ⟨_, _, _, ok_is_store F34 seer tree c_is_row_of c_is_from c_TOPMOST c_MOST_WIDTH, PySem.W.mg_of X G a34, F34.kp, F34.binds (ps := ["thing", "many"]) fun _ _ _ _ _ _ us hl => by obtain ⟨_, _, rfl⟩ := ln2 hl; rfl⟩
  have c_is_want : Cal l.prog w K mg base CX0 43 "is_want" sp_is_want := ⟨_, _, _, ok_is_want F35 seer tree c_is_row_of c_is_from c_MOST_SIZE_houses c_FIRM, PySem.W.mg_of X G a35, F35.kp, F35.binds (ps := ["thing", "many"]) fun _ _ _ _ _ _ us hl => by obtain ⟨_, _, rfl⟩ := ln2 hl; rfl⟩
  have c_parted_numbers : Cal l.prog w K mg base CX0 43 "parted_numbers" sp_parted_numbers := ⟨_, _, _, ok_parted_numbers F36 seer tree c_must_be c_numbers_of m_len, PySem.W.mg_of X G a36, F36.kp, F36.binds (ps := ["word", "many"]) fun _ _ _ _ _ _ us hl => by obtain ⟨_, _, rfl⟩ := ln2 hl; rfl⟩
  have c_read_net : Cal l.prog w K mg base CX0 43 "read_net" sp_read_net := ⟨_, _, _, ok_read_net F37 seer tree c_must_be c_numbers_of m_len, PySem.W.mg_of X G a37, F37.kp, F37.binds (ps := ["words"]) fun _ _ _ _ _ _ us hl => by obtain ⟨_, rfl⟩ := ln1 hl; rfl⟩
  have c_read_line : Cal l.prog w K mg base CX0 43 "read_line" sp_read_line := ⟨_, _, _, ok_read_line F38 seer tree c_must_be c_numbers_of m_len, PySem.W.mg_of X G a38, F38.kp, F38.binds (ps := ["words"]) fun _ _ _ _ _ _ us hl => by obtain ⟨_, rfl⟩ := ln1 hl; rfl⟩
  have c_read_store : Cal l.prog w K mg base CX0 43 "read_store" sp_read_store := ⟨_, _, _, ok_read_store F39 seer tree c_must_be c_numbers_of m_len, PySem.W.mg_of X G a39, F39.kp, F39.binds (ps := ["words"]) fun _ _ _ _ _ _ us hl => by obtain ⟨_, rfl⟩ := ln1 hl; rfl⟩
  have c_house_rows : Cal l.prog w K mg base CX0 43 "house_rows" sp_house_rows := ⟨_, _, _, ok_house_rows F40 seer tree c_shown_row c_shown_work c_colons, PySem.W.mg_of X G a40, F40.kp, F40.binds (ps := ["house"]) fun _ _ _ _ _ _ us hl => by obtain ⟨_, rfl⟩ := ln1 hl; rfl⟩
  have c_zhouse : Cal l.prog w K mg base CX0 43 "_law_house" sp_zhouse := ⟨_, _, _, ok_zhouse F41 seer tree c_ztake c_znet c_zwork c_zstore c_zwants m_tuple m_range, PySem.W.mg_of X G a41, F41.kp, F41.binds (ps := ["_law_bag_here"]) fun _ _ _ _ _ _ us hl => by obtain ⟨_, rfl⟩ := ln1 hl; rfl⟩
  have c_is_net : Cal l.prog w K mg base CX0 44 "is_net" sp_is_net := ⟨_, _, _, ok_is_net F42 seer tree c_is_from c_is_line c_hangs_together m_isinstance m_tuple m_len m_all c_MOST_PLACES c_MOST_LINES, PySem.W.mg_of X G a42, F42.kp, F42.binds (ps := ["thing"]) fun _ _ _ _ _ _ us hl => by obtain ⟨_, rfl⟩ := ln1 hl; rfl⟩
  have c_are_pieces : Cal l.prog w K mg base CX0 44 "are_pieces" sp_are_pieces := ⟨_, _, _, ok_are_pieces F43 seer tree c_is_row_of c_is_piece m_all, PySem.W.mg_of X G a43, F43.kp, F43.binds (ps := ["thing"]) fun _ _ _ _ _ _ us hl => by obtain ⟨_, rfl⟩ := ln1 hl; rfl⟩
  have c_are_wants : Cal l.prog w K mg base CX0 44 "are_wants" sp_are_wants := ⟨_, _, _, ok_are_wants F44 seer tree c_is_row_of c_is_want m_all c_MOST_WANTS, PySem.W.mg_of X G a44, F44.kp, F44.binds (ps := ["thing", "many"]) fun _ _ _ _ _ _ us hl => by obtain ⟨_, _, rfl⟩ := ln2 hl; rfl⟩
  have c_read_work : Cal l.prog w K mg base CX0 44 "read_work" sp_read_work := ⟨_, _, _, ok_read_work F45 seer tree c_must_be c_numbers_of c_parted_numbers m_len m_tuple c_ON c_OFF, PySem.W.mg_of X G a45, F45.kp, F45.binds (ps := ["words"]) fun _ _ _ _ _ _ us hl => by obtain ⟨_, rfl⟩ := ln1 hl; rfl⟩
  have c_read_hour : Cal l.prog w K mg base CX0 44 "read_hour" sp_read_hour := ⟨_, _, _, ok_read_hour F46 seer tree c_parted_numbers m_tuple, PySem.W.mg_of X G a46, F46.kp, F46.binds (ps := ["words"]) fun _ _ _ _ _ _ us hl => by obtain ⟨_, rfl⟩ := ln1 hl; rfl⟩
  have c_show_house : Cal l.prog w K mg base CX0 44 "show_house" sp_show_house := ⟨_, _, _, ok_show_house F47 seer tree c_house_rows, PySem.W.mg_of X G a47, F47.kp, F47.binds (ps := ["house"]) fun _ _ _ _ _ _ us hl => by obtain ⟨_, rfl⟩ := ln1 hl; rfl⟩
  have c_behind_loss_of_line : Cal l.prog w K mg base (L2N.CX l.prog w) 44 "behind_loss_of_line" sp_behind_loss_of_line := ⟨_, _, _, ok_behind_loss_of_line F48 seer tree c_must_be_below c_losable c_without m_len e_NoLoss, PySem.W.mg_of X G a48, F48.kp, F48.binds (ps := ["house", "line"]) fun _ _ _ _ _ _ us hl => by obtain ⟨_, _, rfl⟩ := ln2 hl; rfl⟩
  have c_is_work : Cal l.prog w K mg base CX0 45 "is_work" sp_is_work := ⟨_, _, _, ok_is_work F49 seer tree c_is_row_of c_is_from c_are_pieces m_isinstance m_bool c_MOST_LEAST c_MOST_PRICE c_LONGEST, PySem.W.mg_of X G a49, F49.kp, F49.binds (ps := ["thing", "many"]) fun _ _ _ _ _ _ us hl => by obtain ⟨_, _, rfl⟩ := ln2 hl; rfl⟩
  have c_read_rows : Cal l.prog w K mg base CX0 45 "read_rows" sp_read_rows := ⟨_, _, _, ok_read_rows F50 seer tree c_read_net c_rows_with c_must_be c_read_line c_read_work c_read_store c_read_hour m_len m_tuple, PySem.W.mg_of X G a50, F50.kp, F50.binds (ps := ["rows"]) fun _ _ _ _ _ _ us hl => by obtain ⟨_, rfl⟩ := ln1 hl; rfl⟩
  have c_behind_deed : Cal l.prog w K mg base (L2N.CX l.prog w) 45 "behind_deed" sp_behind_deed := ⟨_, _, _, ok_behind_deed F51 seer tree c_behind_loss_of_line c_behind_stop c_behind_want, PySem.W.mg_of X G a51, F51.kp, F51.binds (ps := ["house", "word", "numbers"]) fun _ _ _ _ _ _ us hl => by obtain ⟨_, _, _, rfl⟩ := ln3 hl; rfl⟩
  have c_is_house : Cal l.prog w K mg base CX0 46 "is_house" sp_is_house := ⟨_, _, _, ok_is_house F52 seer tree c_is_row_of c_is_net c_is_work c_is_store c_are_wants m_all c_MOST_WORKS c_MOST_HOURS, PySem.W.mg_of X G a52, F52.kp, F52.binds (ps := ["thing"]) fun _ _ _ _ _ _ us hl => by obtain ⟨_, rfl⟩ := ln1 hl; rfl⟩
  have c_Desk_do : CalM l.prog w K mg base (L2N.CX l.prog w) 46 "Desk" "do" sp_Desk_do := ⟨⟨_, _, _, _, aC_Desk, cl_Desk, ⟨a53, i53, F53.kp⟩, ok_Desk_do F53 seer tree c_Desk_take_back c_behind_deed c_Desk_house f_Desk_houses f_Desk_found, F53.binds (ps := ["self", "word", "numbers"]) fun _ _ _ _ _ _ us hl => by obtain ⟨_, _, _, rfl⟩ := ln3 hl; rfl⟩⟩
  have c_zsize_0 : Cal l.prog w K mg base CX0 41 "_law_size" (spr_zsize 0) := ⟨_, _, _, ok0_zsize F54 seer tree, PySem.W.mg_of X G a54, F54.kp, F54.binds (ps := ["_law_table"]) fun _ _ _ _ _ _ us hl => by obtain ⟨_, rfl⟩ := ln1 hl; rfl⟩
  have c_zsize_1 : Cal l.prog w K mg base CX0 42 "_law_size" (spr_zsize 1) := ⟨_, _, _, ok_zsize 0 (by decide) F54 seer tree m_range m_len c_zsize_0, PySem.W.mg_of X G a54, F54.kp, F54.binds (ps := ["_law_table"]) fun _ _ _ _ _ _ us hl => by obtain ⟨_, rfl⟩ := ln1 hl; rfl⟩
  have c_zsize_2 : Cal l.prog w K mg base CX0 43 "_law_size" (spr_zsize 2) := ⟨_, _, _, ok_zsize 1 (by decide) F54 seer tree m_range m_len c_zsize_1, PySem.W.mg_of X G a54, F54.kp, F54.binds (ps := ["_law_table"]) fun _ _ _ _ _ _ us hl => by obtain ⟨_, rfl⟩ := ln1 hl; rfl⟩
  have c_zsize_3 : Cal l.prog w K mg base CX0 44 "_law_size" (spr_zsize 3) := ⟨_, _, _, ok_zsize 2 (by decide) F54 seer tree m_range m_len c_zsize_2, PySem.W.mg_of X G a54, F54.kp, F54.binds (ps := ["_law_table"]) fun _ _ _ _ _ _ us hl => by obtain ⟨_, rfl⟩ := ln1 hl; rfl⟩
  have c_zsize_4 : Cal l.prog w K mg base CX0 45 "_law_size" (spr_zsize 4) := ⟨_, _, _, ok_zsize 3 (by decide) F54 seer tree m_range m_len c_zsize_3, PySem.W.mg_of X G a54, F54.kp, F54.binds (ps := ["_law_table"]) fun _ _ _ _ _ _ us hl => by obtain ⟨_, rfl⟩ := ln1 hl; rfl⟩
  have c_zsize_5 : Cal l.prog w K mg base CX0 46 "_law_size" (spr_zsize 5) := ⟨_, _, _, ok_zsize 4 (by decide) F54 seer tree m_range m_len c_zsize_4, PySem.W.mg_of X G a54, F54.kp, F54.binds (ps := ["_law_table"]) fun _ _ _ _ _ _ us hl => by obtain ⟨_, rfl⟩ := ln1 hl; rfl⟩
  have c_zsize : Cal l.prog w K mg base CX0 46 "_law_size" sp_zsize := c_zsize_5
  have c_read_house : Cal l.prog w K mg base CX0 47 "read_house" sp_read_house := ⟨_, _, _, ok_read_house F55 seer tree c_must_be c_read_rows c_is_house m_isinstance m_str, PySem.W.mg_of X G a55, F55.kp, F55.binds (ps := ["text"]) fun _ _ _ _ _ _ us hl => by obtain ⟨_, rfl⟩ := ln1 hl; rfl⟩
  have c_zlosable : Cal l.prog w K mg base CX0 47 "_law_losable" sp_zlosable := ⟨_, _, _, ok_zlosable F56 seer tree c_zsize c_zstiff m_range m_len, PySem.W.mg_of X G a56, F56.kp, F56.binds (ps := ["_law_net_here"]) fun _ _ _ _ _ _ us hl => by obtain ⟨_, rfl⟩ := ln1 hl; rfl⟩
  have c_Desk___init__ : CalC l.prog w K mg base CX0 48 "Desk" sp_Desk___init__ := ⟨⟨_, _, _, _, aC_Desk, ⟨mk_Desk, a57, i57, kc_Desk⟩, PySem.W.mg_of X G aC_Desk, ok_Desk___init__ F57 seer tree c_read_house f_Desk_houses f_Desk_found, F57.binds (ps := ["self", "text"]) fun _ _ _ _ _ _ us hl => by obtain ⟨_, _, rfl⟩ := ln2 hl; rfl⟩⟩
  have c_zbehind : Cal l.prog w K mg base CX0 48 "_law_behind" sp_zbehind := ⟨_, _, _, ok_zbehind F58 seer tree c_zlosable m_int m_len, PySem.W.mg_of X G a58, F58.kp, F58.binds (ps := ["_law_house_here", "_law_words"]) fun _ _ _ _ _ _ us hl => by obtain ⟨_, _, rfl⟩ := ln2 hl; rfl⟩
  have c_zlimits : Cal l.prog w K mg base CX0 48 "_law_limits" sp_zlimits := ⟨_, _, _, ok_zlimits F59 seer tree c_zlosable m_len, PySem.W.mg_of X G a59, F59.kp, F59.binds (ps := ["_law_net_here"]) fun _ _ _ _ _ _ us hl => by obtain ⟨_, rfl⟩ := ln1 hl; rfl⟩
  have c_zrow : Cal l.prog w K mg base CX0 49 "_law_row" sp_zrow := ⟨_, _, _, ok_zrow F60 seer tree c_zlimits c_zdeed c_zbehind m_str m_len m_isinstance m_int, PySem.W.mg_of X G a60, F60.kp, F60.binds (ps := ["_law_bag_here", "_law_houses", "_law_way"]) fun _ _ _ _ _ _ us hl => by obtain ⟨_, _, _, rfl⟩ := ln3 hl; rfl⟩
  have c_Desk_price : CalM l.prog w K mg base (L2N.CX l.prog w) 55 "Desk" "price" sp_Desk_price := ⟨⟨_, _, _, _, aC_Desk, cl_Desk, ⟨a61, i61, F61.kp⟩, ok_Desk_price F61 seer tree, F61.binds (ps := ["self", "hour", "place"]) fun _ _ _ _ _ _ us hl => by obtain ⟨_, _, _, rfl⟩ := ln3 hl; rfl⟩⟩
  have c_Desk_of_run : CalM l.prog w K mg base CX0 55 "Desk" "of_run" sp_Desk_of_run := ⟨⟨_, _, _, _, aC_Desk, cl_Desk, ⟨a62, i62, F62.kp⟩, ok_Desk_of_run F62 seer tree, F62.binds (ps := ["self", "word"]) fun _ _ _ _ _ _ us hl => by obtain ⟨_, _, rfl⟩ := ln2 hl; rfl⟩⟩
  have c_Desk_say : CalM l.prog w K mg base (L2N.CX l.prog w) 56 "Desk" "say" sp_Desk_say := ⟨⟨_, _, _, _, aC_Desk, cl_Desk, ⟨a63, i63, F63.kp⟩, ok_Desk_say F63 seer tree c_words_of c_Desk_do c_Desk_price c_show_house c_Desk_house c_limits c_Desk_of_run m_str m_len, F63.binds (ps := ["self", "row"]) fun _ _ _ _ _ _ us hl => by obtain ⟨_, _, rfl⟩ := ln2 hl; rfl⟩⟩
  have c_zsaid : Cal l.prog w K mg base CX0 57 "_law_said" sp_zsaid := ⟨_, _, _, ok_zsaid F64 seer tree c_Desk_say c_zkind gT_MainsError mM_MainsError, PySem.W.mg_of X G a64, F64.kp, F64.binds (ps := ["_law_desk", "_law_row_here"]) fun _ _ _ _ _ _ us hl => by obtain ⟨_, _, rfl⟩ := ln2 hl; rfl⟩
  exact ok_law F65 seer tree c_zhouse c_zbag c_ztext c_Desk___init__ c_ztake c_zrow c_zsaid m_range m_int m_zip⟩
theorem factsS {l : PySem.W.OpenLaw} {w : World} {K : PySem.W.Frag} {h : Heap} {mg : Str → Option Value} {fa : Addr} (tree : l.prog.given.tree = none) (X : K.In h) (G : h.Ns mainGlobals mg) (hfa : mg "law" = some (.ref fa)) (cT : SaysFT fsS fnS tsS w K) :
  ∃ fd : FuncData, (∀ (s : Shared) (v : Value), BindsTo s fd ⟨[v], []⟩ [("_law_script", v)]) ∧ ∀ base : Heap, K.In base → base.Ns mainGlobals mg → base.NoSeer → FnOk l.prog w K mg base CX0 58 fa fd ["_law_script"] (liftSp K sp_law) := by
 have c := cT.says
 obtain ⟨_, _, _, _, _, _, _, _, _, l0, c0⟩ := c.def_ 0 (d := dF0) rfl
 obtain ⟨_, _, _, _, _, _, _, _, _, l1, c1⟩ := c.def_ 1 (d := dF1) rfl
 obtain ⟨_, _, _, _, _, _, _, _, _, l2, c2⟩ := c.def_ 2 (d := dF2) rfl
 obtain ⟨_, _, _, _, _, _, _, _, _, l3, c3⟩ := c.def_ 3 (d := dF3) rfl
 obtain ⟨_, _, _, _, _, _, _, _, _, l4, c4⟩ := c.def_ 4 (d := dF4) rfl
 obtain ⟨_, _, _, _, _, _, _, _, _, l5, c5⟩ := c.def_ 5 (d := dF5) rfl
 obtain ⟨_, _, _, _, _, _, _, _, _, l6, c6⟩ := c.def_ 6 (d := dF6) rfl
 obtain ⟨_, _, _, _, _, _, _, _, _, l7, c7⟩ := c.def_ 7 (d := dF7) rfl
 obtain ⟨_, _, _, _, _, _, _, _, _, l8, c8⟩ := c.def_ 8 (d := dF8) rfl
 obtain ⟨_, _, _, _, _, _, _, _, _, l9, c9⟩ := c.def_ 9 (d := dF9) rfl
 obtain ⟨_, _, _, _, _, _, _, _, _, l10, c10⟩ := c.def_ 10 (d := dF10) rfl
 obtain ⟨_, _, _, _, _, _, _, _, _, l11, c11⟩ := c.def_ 11 (d := dF11) rfl
 obtain ⟨_, _, _, _, _, _, _, _, _, l12, c12⟩ := c.def_ 12 (d := dF12) rfl
 obtain ⟨_, _, _, _, _, _, _, _, _, l13, c13⟩ := c.def_ 13 (d := dF13) rfl
 obtain ⟨_, _, _, _, _, _, _, _, _, l14, c14⟩ := c.def_ 14 (d := dF14) rfl
 obtain ⟨_, _, _, _, _, _, _, _, _, l15, c15⟩ := c.def_ 15 (d := dF15) rfl
 obtain ⟨_, _, _, _, _, _, _, _, _, l16, c16⟩ := c.def_ 16 (d := dF16) rfl
 obtain ⟨_, _, _, _, _, _, _, _, _, l17, c17⟩ := c.def_ 17 (d := dF17) rfl
 obtain ⟨_, _, _, _, _, _, _, _, _, l18, c18⟩ := c.def_ 18 (d := dF18) rfl
 obtain ⟨_, _, _, _, _, _, _, _, _, l19, c19⟩ := c.def_ 19 (d := dF19) rfl
 obtain ⟨_, _, _, _, _, _, _, _, _, l20, c20⟩ := c.def_ 20 (d := dF20) rfl
 obtain ⟨_, _, _, _, _, _, _, _, _, l21, c21⟩ := c.def_ 21 (d := dF21) rfl
 obtain ⟨_, _, _, _, _, _, _, _, _, l22, c22⟩ := c.def_ 22 (d := dF22) rfl
 obtain ⟨_, _, _, _, _, _, _, _, _, l23, c23⟩ := c.def_ 23 (d := dF23) rfl
 obtain ⟨_, _, _, _, _, _, _, _, _, l24, c24⟩ := c.def_ 24 (d := dF24) rfl
 obtain ⟨_, _, _, _, _, _, _, _, _, l25, c25⟩ := c.def_ 25 (d := dF25) rfl
 obtain ⟨_, _, _, _, _, _, _, _, _, l26, c26⟩ := c.def_ 26 (d := dF26) rfl
 obtain ⟨_, _, _, _, _, _, _, _, _, l27, c27⟩ := c.def_ 27 (d := dF27) rfl
 obtain ⟨_, _, _, _, _, _, _, _, _, l28, c28⟩ := c.def_ 28 (d := dF28) rfl
 obtain ⟨_, _, _, _, _, _, _, _, _, l29, c29⟩ := c.def_ 29 (d := dF29) rfl
 obtain ⟨_, _, _, _, _, _, _, _, _, l30, c30⟩ := c.def_ 30 (d := dF30) rfl
 obtain ⟨_, _, _, _, _, _, _, _, _, l31, c31⟩ := c.def_ 31 (d := dF31) rfl
 obtain ⟨_, _, _, _, _, _, _, _, _, l32, c32⟩ := c.def_ 32 (d := dF32) rfl
 obtain ⟨_, _, _, _, _, _, _, _, _, l33, c33⟩ := c.def_ 33 (d := dF33) rfl
 obtain ⟨_, _, _, _, _, _, _, _, _, l34, c34⟩ := c.def_ 34 (d := dF34) rfl
 obtain ⟨_, _, _, _, _, _, _, _, _, l35, c35⟩ := c.def_ 35 (d := dF35) rfl
 obtain ⟨_, _, _, _, _, _, _, _, _, l36, c36⟩ := c.def_ 36 (d := dF36) rfl
 obtain ⟨_, _, _, _, _, _, _, _, _, l37, c37⟩ := c.def_ 37 (d := dF37) rfl
 obtain ⟨_, _, _, _, _, _, _, _, _, l38, c38⟩ := c.def_ 38 (d := dF38) rfl
 obtain ⟨_, _, _, _, _, _, _, _, _, l39, c39⟩ := c.def_ 39 (d := dF39) rfl
 obtain ⟨_, _, _, _, _, _, _, _, _, l40, c40⟩ := c.def_ 40 (d := dF40) rfl
 obtain ⟨_, _, _, _, _, _, _, _, _, l41, c41⟩ := c.def_ 41 (d := dF41) rfl
 obtain ⟨_, _, _, _, _, _, _, _, _, l42, c42⟩ := c.def_ 42 (d := dF42) rfl
 obtain ⟨_, _, _, _, _, _, _, _, _, l43, c43⟩ := c.def_ 43 (d := dF43) rfl
 obtain ⟨_, _, _, _, _, _, _, _, _, l44, c44⟩ := c.def_ 44 (d := dF44) rfl
 obtain ⟨_, _, _, _, _, _, _, _, _, l45, c45⟩ := c.def_ 45 (d := dF45) rfl
 obtain ⟨_, _, _, _, _, _, _, _, _, l46, c46⟩ := c.def_ 46 (d := dF46) rfl
 obtain ⟨_, _, _, _, _, _, _, _, _, l47, c47⟩ := c.def_ 47 (d := dF47) rfl
 obtain ⟨_, _, _, _, _, _, _, _, _, l48, c48⟩ := c.def_ 48 (d := dF48) rfl
 obtain ⟨_, _, _, _, _, _, _, _, _, l49, c49⟩ := c.def_ 49 (d := dF49) rfl
 obtain ⟨_, _, _, _, _, _, _, _, _, l50, c50⟩ := c.def_ 50 (d := dF50) rfl
 obtain ⟨_, _, _, _, _, _, _, _, _, l51, c51⟩ := c.def_ 51 (d := dF51) rfl
 obtain ⟨_, _, _, _, _, _, _, _, _, l52, c52⟩ := c.def_ 52 (d := dF52) rfl
 obtain ⟨_, _, _, _, _, _, _, _, _, l53, c53⟩ := c.def_ 53 (d := dF53) rfl
 obtain ⟨_, _, _, _, _, _, _, _, _, l54, c54⟩ := c.def_ 54 (d := dF54) rfl
 obtain ⟨_, _, _, _, _, _, _, _, _, l55, c55⟩ := c.def_ 55 (d := dF55) rfl
 obtain ⟨_, _, _, _, _, _, _, _, _, l56, c56⟩ := c.def_ 56 (d := dF56) rfl
 obtain ⟨_, _, _, _, _, _, _, _, _, l57, c57⟩ := c.def_ 57 (d := dF57) rfl
 obtain ⟨_, _, _, _, _, _, _, _, _, l58, c58⟩ := c.def_ 58 (d := dF58) rfl
 obtain ⟨_, _, _, _, _, _, _, _, _, l59, c59⟩ := c.def_ 59 (d := dF59) rfl
 obtain ⟨_, _, _, _, _, _, _, _, _, l60, c60⟩ := c.def_ 60 (d := dF60) rfl
 obtain ⟨_, _, _, _, _, _, _, _, _, l61, c61⟩ := c.def_ 61 (d := dF61) rfl
 obtain ⟨_, _, _, _, _, _, _, _, _, l62, c62⟩ := c.def_ 62 (d := dF62) rfl
 obtain ⟨_, _, _, _, _, _, _, _, _, l63, c63⟩ := c.def_ 63 (d := dF63) rfl
 obtain ⟨_, _, _, _, _, _, _, _, _, l64, c64⟩ := c.def_ 64 (d := dF64) rfl
 obtain ⟨_, _, _, _, _, _, _, _, _, l65, c65⟩ := c.def_ 65 (d := dF65) rfl
 exact all_mk X G tree hfa (of_decide_eq_true (c.fact 0)) (fun_mk l0 c0 (c.fact 1)) (of_decide_eq_true (c.fact 2)) (fun_mk l1 c1 (c.fact 3)) (of_decide_eq_true (c.fact 4)) (fun_mk l2 c2 (c.fact 5)) (of_decide_eq_true (c.fact 6)) (fun_mk l3 c3 (c.fact 7)) (of_decide_eq_true (c.fact 8)) (fun_mk l4 c4 (c.fact 9)) (of_decide_eq_true (c.fact 10)) (fun_mk l5 c5 (c.fact 11)) (of_decide_eq_true (c.fact 12)) (fun_mk l6 c6 (c.fact 13)) (of_decide_eq_true (c.fact 14)) (fun_mk l7 c7 (c.fact 15)) (of_decide_eq_true (c.fact 16)) (fun_mk l8 c8 (c.fact 17)) (of_decide_eq_true (c.fact 18)) (fun_mk l9 c9 (c.fact 19)) (of_decide_eq_true (c.fact 20)) (fun_mk l10 c10 (c.fact 21)) (of_decide_eq_true (c.fact 22)) (c.fact 23) (fun_mk l11 c11 (c.fact 24)) (of_decide_eq_true (c.fact 25)) (c.fact 26) (fun_mk l12 c12 (c.fact 27)) (of_decide_eq_true (c.fact 28)) (fun_mk l13 c13 (c.fact 29)) (of_decide_eq_true (c.fact 30)) (fun_mk l14 c14 (c.fact 31)) (of_decide_eq_true (c.fact 32)) (fun_mk l15 c15 (c.fact 33)) (of_decide_eq_true (c.fact 34)) (fun_mk l16 c16 (c.fact 35)) (of_decide_eq_true (c.fact 36)) (fun_mk l17 c17 (c.fact 37)) (of_decide_eq_true (c.fact 38)) (fun_mk l18 c18 (c.fact 39)) (of_decide_eq_true (c.fact 40)) (fun_mk l19 c19 (c.fact 41)) (of_decide_eq_true (c.fact 42)) (fun_mk l20 c20 (c.fact 43)) (of_decide_eq_true (c.fact 44)) (fun_mk l21 c21 (c.fact 45)) (of_decide_eq_true (c.fact 46)) (fun_mk l22 c22 (c.fact 47)) (of_decide_eq_true (c.fact 48)) (fun_mk l23 c23 (c.fact 49)) (of_decide_eq_true (c.fact 50)) (fun_mk l24 c24 (c.fact 51)) (of_decide_eq_true (c.fact 52)) (fun_mk l25 c25 (c.fact 53)) (of_decide_eq_true (c.fact 54)) (fun_mk l26 c26 (c.fact 55)) (of_decide_eq_true (c.fact 56)) (fun_mk l27 c27 (c.fact 57)) (of_decide_eq_true (c.fact 58)) (fun_mk l28 c28 (c.fact 59)) (of_decide_eq_true (c.fact 60)) (fun_mk l29 c29 (c.fact 61)) (of_decide_eq_true (c.fact 62)) (fun_mk l30 c30 (c.fact 63)) (of_decide_eq_true (c.fact 64)) (fun_mk l31 c31 (c.fact 65)) (of_decide_eq_true (c.fact 66)) (fun_mk l32 c32 (c.fact 67)) (of_decide_eq_true (c.fact 68)) (fun_mk l33 c33 (c.fact 69)) (of_decide_eq_true (c.fact 70)) (fun_mk l34 c34 (c.fact 71)) (of_decide_eq_true (c.fact 72)) (fun_mk l35 c35 (c.fact 73)) (of_decide_eq_true (c.fact 74)) (fun_mk l36 c36 (c.fact 75)) (of_decide_eq_true (c.fact 76)) (fun_mk l37 c37 (c.fact 77)) (of_decide_eq_true (c.fact 78)) (fun_mk l38 c38 (c.fact 79)) (of_decide_eq_true (c.fact 80)) (fun_mk l39 c39 (c.fact 81)) (of_decide_eq_true (c.fact 82)) (fun_mk l40 c40 (c.fact 83)) (of_decide_eq_true (c.fact 84)) (fun_mk l41 c41 (c.fact 85)) (of_decide_eq_true (c.fact 86)) (fun_mk l42 c42 (c.fact 87)) (of_decide_eq_true (c.fact 88)) (fun_mk l43 c43 (c.fact 89)) (of_decide_eq_true (c.fact 90)) (fun_mk l44 c44 (c.fact 91)) (of_decide_eq_true (c.fact 92)) (fun_mk l45 c45 (c.fact 93)) (of_decide_eq_true (c.fact 94)) (fun_mk l46 c46 (c.fact 95)) (of_decide_eq_true (c.fact 96)) (fun_mk l47 c47 (c.fact 97)) (of_decide_eq_true (c.fact 98)) (fun_mk l48 c48 (c.fact 99)) (of_decide_eq_true (c.fact 100)) (fun_mk l49 c49 (c.fact 101)) (of_decide_eq_true (c.fact 102)) (fun_mk l50 c50 (c.fact 103)) (of_decide_eq_true (c.fact 104)) (fun_mk l51 c51 (c.fact 105)) (of_decide_eq_true (c.fact 106)) (fun_mk l52 c52 (c.fact 107)) (of_decide_eq_true (c.fact 108)) (c.fact 109) (fun_mk l53 c53 (c.fact 110)) (of_decide_eq_true (c.fact 111)) (fun_mk l54 c54 (c.fact 112)) (of_decide_eq_true (c.fact 113)) (fun_mk l55 c55 (c.fact 114)) (of_decide_eq_true (c.fact 115)) (fun_mk l56 c56 (c.fact 116)) (of_decide_eq_true (c.fact 117)) (c.fact 118) (fun_mk l57 c57 (c.fact 119)) (of_decide_eq_true (c.fact 120)) (fun_mk l58 c58 (c.fact 121)) (of_decide_eq_true (c.fact 122)) (fun_mk l59 c59 (c.fact 123)) (of_decide_eq_true (c.fact 124)) (fun_mk l60 c60 (c.fact 125)) (of_decide_eq_true (c.fact 126)) (c.fact 127) (fun_mk l61 c61 (c.fact 128)) (of_decide_eq_true (c.fact 129)) (c.fact 130) (fun_mk l62 c62 (c.fact 131)) (of_decide_eq_true (c.fact 132)) (c.fact 133) (fun_mk l63 c63 (c.fact 134)) (of_decide_eq_true (c.fact 135)) (fun_mk l64 c64 (c.fact 136)) (of_decide_eq_true (c.fact 137)) l65 c65 (c.fact 138) (of_decide_eq_true (c.fact 139)) (c.fact 140) (c.fact 141) (c.fact 142) (of_decide_eq_true (c.fact 143)) (c.fact 144) (c.fact 145) (of_decide_eq_true (c.fact 146)) (of_decide_eq_true (c.fact 147)) (of_decide_eq_true (c.fact 148)) (of_decide_eq_true (c.fact 149)) (of_decide_eq_true (c.fact 150)) (of_decide_eq_true (c.fact 151)) (of_decide_eq_true (c.fact 152)) (of_decide_eq_true (c.fact 153)) (of_decide_eq_true (c.fact 154)) (of_decide_eq_true (c.fact 155)) (of_decide_eq_true (c.fact 156)) (of_decide_eq_true (c.fact 157)) (of_decide_eq_true (c.fact 158)) (of_decide_eq_true (c.fact 159)) (of_decide_eq_true (c.fact 160)) (c.fact 161) (of_decide_eq_true (c.fact 162)) (of_decide_eq_true (c.fact 163)) (c.fact 164) (of_decide_eq_true (c.fact 165)) (of_decide_eq_true (c.fact 166)) (c.fact 167) (of_decide_eq_true (c.fact 168)) (of_decide_eq_true (c.fact 169)) (of_decide_eq_true (c.fact 170)) (of_decide_eq_true (c.fact 171)) (of_decide_eq_true (c.fact 172)) (of_decide_eq_true (c.fact 173)) (of_decide_eq_true (c.fact 174)) (of_decide_eq_true (c.fact 175)) (of_decide_eq_true (c.fact 176)) (of_decide_eq_true (c.fact 177)) (of_decide_eq_true (c.fact 178)) (of_decide_eq_true (c.fact 179)) (of_decide_eq_true (c.fact 180)) (of_decide_eq_true (c.fact 181)) (of_decide_eq_true (c.fact 182)) (of_decide_eq_true (c.fact 183)) (of_decide_eq_true (c.fact 184)) (c.fact 185) (of_decide_eq_true (c.fact 186)) (of_decide_eq_true (c.fact 187)) (c.fact 188) (of_decide_eq_true (c.fact 189)) (of_decide_eq_true (c.fact 190)) (c.fact 191) (of_decide_eq_true (c.fact 192)) (of_decide_eq_true (c.fact 193)) (of_decide_eq_true (c.fact 194)) (of_decide_eq_true (c.fact 195)) (of_decide_eq_true (c.fact 196)) (of_decide_eq_true (c.fact 197)) (of_decide_eq_true (c.fact 198)) (of_decide_eq_true (c.fact 199)) (of_decide_eq_true (c.fact 200)) (of_decide_eq_true (c.fact 201)) (of_decide_eq_true (c.fact 202)) (of_decide_eq_true (c.fact 203)) (of_decide_eq_true (c.fact 204)) (of_decide_eq_true (c.fact 205)) (of_decide_eq_true (c.fact 206)) (of_decide_eq_true (c.fact 207)) (of_decide_eq_true (c.fact 208)) (c.fact 209) (of_decide_eq_true (c.fact 210)) (of_decide_eq_true (c.fact 211)) (c.fact 212) (of_decide_eq_true (c.fact 213)) (of_decide_eq_true (c.fact 214)) (c.fact 215) (of_decide_eq_true (c.fact 216)) (of_decide_eq_true (c.fact 217)) (of_decide_eq_true (c.fact 218)) (of_decide_eq_true (c.fact 219)) (of_decide_eq_true (c.fact 220)) (of_decide_eq_true (c.fact 221)) (of_decide_eq_true (c.fact 222)) (of_decide_eq_true (c.fact 223)) (of_decide_eq_true (c.fact 224)) (of_decide_eq_true (c.fact 225)) (of_decide_eq_true (c.fact 226)) (of_decide_eq_true (c.fact 227)) (of_decide_eq_true (c.fact 228)) (of_decide_eq_true (c.fact 229)) (of_decide_eq_true (c.fact 230)) (of_decide_eq_true (c.fact 231)) (of_decide_eq_true (c.fact 232)) (of_decide_eq_true (c.fact 233)) (of_decide_eq_true (c.fact 234)) (of_decide_eq_true (c.fact 235)) (c.fact 236) (of_decide_eq_true (c.fact 237)) (c.fact 238) (of_decide_eq_true (c.fact 239)) (c.fact 240) (of_decide_eq_true (c.fact 241)) (c.fact 242) (of_decide_eq_true (c.fact 243)) (c.fact 244) (of_decide_eq_true (c.fact 245)) (c.fact 246) (of_decide_eq_true (c.fact 247)) (c.fact 248) (of_decide_eq_true (c.fact 249)) (c.fact 250) (of_decide_eq_true (c.fact 251)) (c.fact 252) (of_decide_eq_true (c.fact 253)) (c.fact 254) (of_decide_eq_true (c.fact 255)) (c.fact 256) (of_decide_eq_true (c.fact 257)) (c.fact 258) (of_decide_eq_true (c.fact 259)) (c.fact 260) (of_decide_eq_true (c.fact 261)) (of_decide_eq_true (c.fact 262)) (c.fact 263) (of_decide_eq_true (c.fact 264)) (of_decide_eq_true (c.fact 265)) (of_decide_eq_true (c.fact 266)) (of_decide_eq_true (c.fact 267)) (of_decide_eq_true (c.fact 268)) (of_decide_eq_true (c.fact 269)) (of_decide_eq_true (c.fact 270)) (of_decide_eq_true (c.fact 271)) (of_decide_eq_true (c.fact 272)) (of_decide_eq_true (c.fact 273)) (of_decide_eq_true (c.fact 274)) (of_decide_eq_true (c.fact 275)) (of_decide_eq_true (c.fact 276)) (of_decide_eq_true (c.fact 277)) (of_decide_eq_true (c.fact 278)) (of_decide_eq_true (c.fact 279)) (of_decide_eq_true (c.fact 280)) (cT.tab 0 rfl) (c.fact 281) (c.fact 282) (c.fact 283) (c.fact 284) (c.fact 285) (c.fact 286) (c.fact 287) (c.fact 288) (c.fact 289) (c.fact 290) (c.fact 291) (c.fact 292) (c.fact 293) (c.fact 294) (c.fact 295) (c.fact 296) (c.fact 297) (c.fact 298) (c.fact 299) (c.fact 300)
end WL
open PySem PySem.W PySem.Calls PyProof.Rows
set_option maxHeartbeats 0 in
theorem PySem.Challenge.cw_mainskeep_k80_desk_deeds_holds : PySem.Challenge.rw_mainskeep_k80_desk_deeds.Holds := by
 w_on
 refine WL.preS fun said => ?_
 refine HandSHeadRun.head_any (r := (OpenLaw.row PySem.Challenge.rw_mainskeep_k80_desk_deeds)) (q := view (OpenLaw.row PySem.Challenge.rw_mainskeep_k80_desk_deeds).prog [166]) (H := WL.hkS) (ob := WL.obS) (M := 15000) (loose := WL.nmS) (d := HandSHeadRun.topDef (OpenLaw.row PySem.Challenge.rw_mainskeep_k80_desk_deeds).prog 166) (kwd := []) WL.obS_eq
  (by kernel_rfl) (fun s => by kernel_rfl) WL.runS (by kernel_rfl) (by kernel_rfl) (by kernel_rfl) (by rfl) (by first | assumption | decide +kernel) (by decide +kernel) ⟨rfl, rfl, rfl, rfl, rfl, WL.tables⟩ ?hw ?hc
 case hw => w_witness2
 case hc =>
  refine WL.walk_hook (l := PySem.Challenge.rw_mainskeep_k80_desk_deeds) (n := 63) (k := 58) (x := "_law_script") rfl (by decide) (by kernel_rfl) ⟨rfl, by decide, by decide⟩ (by decide +kernel) ?F
  intro w mg fa h Y G hmg0
  obtain ⟨K, KX, c⟩ := Y
  have hmg : mg ("law" : PySem.Str) = some (.ref fa) := by
   have e : (HandSHeadRun.topDef (OpenLaw.row PySem.Challenge.rw_mainskeep_k80_desk_deeds).prog 166).name = ("law" : PySem.Str) := by kernel_rfl
   rw [← e]
   exact hmg0
  obtain ⟨fd, hb, hF⟩ := WL.factsS (l := PySem.Challenge.rw_mainskeep_k80_desk_deeds) (w := w) rfl KX G hmg c
  exact ⟨K, fd, WL.liftSp K WL.sp_law, KX, hb, fun H a ns hl hO hS => WL.law_sp hl hO hS, fun base a b s => (hF base a b s).runG⟩