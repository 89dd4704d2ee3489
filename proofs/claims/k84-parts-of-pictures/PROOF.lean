import PyProof.Rows.All
import Wide.All
import OpenK.AllK
import Wide.FinOn
import KE.KStateDown
import Lean
import HandS.Base
import HandS.Call
import HandS.Ends
import HandS.More
import HandS.Words
import HandS.WordsExc
import HandS.Defaults
import HandS.Head0
import HandS.Head1
import HandS.Head2
import HandS.HeadEnd
import HandS.HeadHook1
import HandS.HeadHook2
import KE.DataEq
import HandS.ForMost
import HandS.Exc
import HandS.Walk
import HandS.TupAny
import HandS.TupMul
import HandS.IsInst
import HandS.Wide
import HandS.StrMore
import HandS.TupLe
import HandS.Style
import HandS.Conv
import KE.GoesEnum
import HandS.SortInts
import HandS.Zip
import PyProof.WalksMore
import HandS.DictComp
import KE.KSortTupG
import HandS.Star
import HandS.Text
import KE.KDictSum
import HandS.DictEq
import HandS.Iter
import KE.KDictItemsList
import HandS.ListItems
import KE.DataMinMax
import KE.SortData
import KE.GoesZip
import KE.GoesMore
import HandS.WideMore
import HandS.Remove
import HandS.SetBool
import KE.KIndexOf
import PySem.Challenge.RW_linepainters_k84_parts_of_pictures
set_option Elab.async false
set_option linter.all false
set_option maxRecDepth 100000
set_option maxHeartbeats 1000000
namespace W
open PySem L2
def top (i : Nat) : Stmt := PySem.Challenge.pw_linepainters_k84_parts_of_pictures.main.body.getD i (.Pass ⟨0, 0, 0, 0⟩)
end W
set_option maxHeartbeats 0
namespace Hd
open PySem PySem.Spec PyProof.Rows L2
def d_is_int : He.DefD := ⟨("is_int", none), "is_int", "is_int", defArgs (W.top 11), defBody (W.top 11), defScope (W.top 11), [], []⟩
def d_is_in : He.DefD := ⟨("is_in", none), "is_in", "is_in", defArgs (W.top 12), defBody (W.top 12), defScope (W.top 12), [], []⟩
def d_is_picture : He.DefD := ⟨("is_picture", none), "is_picture", "is_picture", defArgs (W.top 13), defBody (W.top 13), defScope (W.top 13), [], []⟩
def d_need_picture : He.DefD := ⟨("need_picture", none), "need_picture", "need_picture", defArgs (W.top 14), defBody (W.top 14), defScope (W.top 14), [], []⟩
def d_need_two : He.DefD := ⟨("need_two", none), "need_two", "need_two", defArgs (W.top 15), defBody (W.top 15), defScope (W.top 15), [], []⟩
def d_lines_of : He.DefD := ⟨("lines_of", none), "lines_of", "lines_of", defArgs (W.top 16), defBody (W.top 16), defScope (W.top 16), [], []⟩
def d_need_line : He.DefD := ⟨("need_line", none), "need_line", "need_line", defArgs (W.top 17), defBody (W.top 17), defScope (W.top 17), [], []⟩
def d_are_lines : He.DefD := ⟨("are_lines", none), "are_lines", "are_lines", defArgs (W.top 18), defBody (W.top 18), defScope (W.top 18), [], []⟩
def d_need_lines : He.DefD := ⟨("need_lines", none), "need_lines", "need_lines", defArgs (W.top 19), defBody (W.top 19), defScope (W.top 19), [], []⟩
def d_differing : He.DefD := ⟨("differing", none), "differing", "differing", defArgs (W.top 20), defBody (W.top 20), defScope (W.top 20), [], []⟩
def d_differences : He.DefD := ⟨("differences", none), "differences", "differences", defArgs (W.top 21), defBody (W.top 21), defScope (W.top 21), [], []⟩
def d_part_of : He.DefD := ⟨("part_of", none), "part_of", "part_of", defArgs (W.top 22), defBody (W.top 22), defScope (W.top 22), [], []⟩
def d_part : He.DefD := ⟨("part", none), "part", "part", defArgs (W.top 23), defBody (W.top 23), defScope (W.top 23), [], []⟩
def d_leads_to : He.DefD := ⟨("leads_to", none), "leads_to", "leads_to", defArgs (W.top 25), defBody (W.top 25), defScope (W.top 25), [], []⟩
def d_layers_of : He.DefD := ⟨("layers_of", none), "layers_of", "layers_of", defArgs (W.top 26), defBody (W.top 26), defScope (W.top 26), [], []⟩
def d_core_of : He.DefD := ⟨("core_of", none), "core_of", "core_of", defArgs (W.top 27), defBody (W.top 27), defScope (W.top 27), [], []⟩
def d_core : He.DefD := ⟨("core", none), "core", "core", defArgs (W.top 28), defBody (W.top 28), defScope (W.top 28), [], []⟩
def d_is_free_of : He.DefD := ⟨("is_free_of", none), "is_free_of", "is_free_of", defArgs (W.top 29), defBody (W.top 29), defScope (W.top 29), [], []⟩
def d_is_free : He.DefD := ⟨("is_free", none), "is_free", "is_free", defArgs (W.top 30), defBody (W.top 30), defScope (W.top 30), [], []⟩
def d_level : He.DefD := ⟨("level", none), "level", "level", defArgs (W.top 31), defBody (W.top 31), defScope (W.top 31), [], []⟩
def d_round_of_four : He.DefD := ⟨("round_of_four", none), "round_of_four", "round_of_four", defArgs (W.top 32), defBody (W.top 32), defScope (W.top 32), [], []⟩
def d_meets : He.DefD := ⟨("meets", none), "meets", "meets", defArgs (W.top 34), defBody (W.top 34), defScope (W.top 34), [], []⟩
def d_least_of : He.DefD := ⟨("least_of", none), "least_of", "least_of", defArgs (W.top 35), defBody (W.top 35), defScope (W.top 35), [], []⟩
def d_trimmed : He.DefD := ⟨("trimmed", none), "trimmed", "trimmed", defArgs (W.top 36), defBody (W.top 36), defScope (W.top 36), [], []⟩
def d_comes : He.DefD := ⟨("comes", none), "comes", "comes", defArgs (W.top 37), defBody (W.top 37), defScope (W.top 37), [], []⟩
def d_need_way : He.DefD := ⟨("need_way", none), "need_way", "need_way", defArgs (W.top 38), defBody (W.top 38), defScope (W.top 38), [], []⟩
def d_least_lines : He.DefD := ⟨("least_lines", none), "least_lines", "least_lines", defArgs (W.top 39), defBody (W.top 39), defScope (W.top 39), [], []⟩
def d_fewest : He.DefD := ⟨("fewest", none), "fewest", "fewest", defArgs (W.top 40), defBody (W.top 40), defScope (W.top 40), [], []⟩
def d_count_rounds : He.DefD := ⟨("count_rounds", none), "count_rounds", "count_rounds", defArgs (W.top 42), defBody (W.top 42), defScope (W.top 42), [], []⟩
def d_mended_start : He.DefD := ⟨("mended_start", none), "mended_start", "mended_start", defArgs (W.top 43), defBody (W.top 43), defScope (W.top 43), [], []⟩
def d_cells_to_mend : He.DefD := ⟨("cells_to_mend", none), "cells_to_mend", "cells_to_mend", defArgs (W.top 44), defBody (W.top 44), defScope (W.top 44), [], []⟩
def d_law_taken : He.DefD := ⟨("_law_taken", none), "_law_taken", "_law_taken", defArgs (W.top 46), defBody (W.top 46), defScope (W.top 46), [], []⟩
def d_law_pick : He.DefD := ⟨("_law_pick", none), "_law_pick", "_law_pick", defArgs (W.top 47), defBody (W.top 47), defScope (W.top 47), [], []⟩
def d_law_mixed : He.DefD := ⟨("_law_mixed", none), "_law_mixed", "_law_mixed", defArgs (W.top 48), defBody (W.top 48), defScope (W.top 48), [], []⟩
def d_law_any : He.DefD := ⟨("_law_any", none), "_law_any", "_law_any", defArgs (W.top 49), defBody (W.top 49), defScope (W.top 49), [], []⟩
def d_law_paint : He.DefD := ⟨("_law_paint", none), "_law_paint", "_law_paint", defArgs (W.top 50), defBody (W.top 50), defScope (W.top 50), [], []⟩
def d_law_painted : He.DefD := ⟨("_law_painted", none), "_law_painted", "_law_painted", defArgs (W.top 51), defBody (W.top 51), defScope (W.top 51), [], []⟩
def d_law_deeds : He.DefD := ⟨("_law_deeds", none), "_law_deeds", "_law_deeds", defArgs (W.top 52), defBody (W.top 52), defScope (W.top 52), [], []⟩
def d_law_picture : He.DefD := ⟨("_law_picture", none), "_law_picture", "_law_picture", defArgs (W.top 53), defBody (W.top 53), defScope (W.top 53), [], []⟩
def d_law_start : He.DefD := ⟨("_law_start", none), "_law_start", "_law_start", defArgs (W.top 54), defBody (W.top 54), defScope (W.top 54), [], []⟩
def d_law_layers : He.DefD := ⟨("_law_layers", none), "_law_layers", "_law_layers", defArgs (W.top 55), defBody (W.top 55), defScope (W.top 55), [], []⟩
def d_law_core : He.DefD := ⟨("_law_core", none), "_law_core", "_law_core", defArgs (W.top 56), defBody (W.top 56), defScope (W.top 56), [], []⟩
def d_law : He.DefD := ⟨("law", none), "law", "law", defArgs (W.top 57), defBody (W.top 57), defScope (W.top 57), [], []⟩
def fn : List He.DefD := [d_is_int, d_is_in, d_is_picture, d_need_picture, d_need_two, d_lines_of, d_need_line, d_are_lines, d_need_lines, d_differing, d_differences, d_part_of, d_part, d_leads_to, d_layers_of, d_core_of, d_core, d_is_free_of, d_is_free, d_level, d_round_of_four, d_meets, d_least_of, d_trimmed, d_comes, d_need_way, d_least_lines, d_fewest, d_count_rounds, d_mended_start, d_cells_to_mend, d_law_taken, d_law_pick, d_law_mixed, d_law_any, d_law_paint, d_law_painted, d_law_deeds, d_law_picture, d_law_start, d_law_layers, d_law_core, d_law]
def fa0 : List He.Fa := [.glo "is_int", .glo "is_in", .glo "is_picture", .glo "need_picture", .glo "need_two", .glo "lines_of", .glo "need_line", .glo "are_lines", .glo "need_lines", .glo "differing", .glo "differences", .glo "part_of", .glo "part", .glo "leads_to", .glo "layers_of", .glo "core_of", .glo "core", .glo "is_free_of", .glo "is_free", .glo "level", .glo "round_of_four", .glo "meets", .glo "least_of", .glo "trimmed", .glo "comes", .glo "need_way", .glo "least_lines", .glo "fewest", .glo "count_rounds", .glo "mended_start"]
def fa1 : List He.Fa := [.glo "cells_to_mend", .glo "_law_taken", .glo "_law_pick", .glo "_law_mixed", .glo "_law_any", .glo "_law_paint", .glo "_law_painted", .glo "_law_deeds", .glo "_law_picture", .glo "_law_start", .glo "_law_layers", .glo "_law_core", .glo "law", .free "all", .free "any", .free "bool", .free "enumerate", .free "int", .free "isinstance", .free "len", .free "list", .free "range", .free "sorted", .free "str", .free "sum", .free "tuple", .free "zip", .int "MOST_SIDE" 30, .str "BLACK" "#", .str "WHITE" "."]
def fa : List He.Fa := fa0 ++ fa1
def nm0 : List Str := ["__name__", "PaintError", "BadPicture", "BadLine", "BadLines", "OtherBoard", "NoWay", "MOST_SIDE", "BLACK", "WHITE", "is_int", "is_in", "is_picture", "need_picture", "need_two", "lines_of", "need_line", "are_lines", "need_lines", "differing", "differences", "part_of", "part", "leads_to", "layers_of", "core_of", "core", "is_free_of", "is_free", "level"]
def nm1 : List Str := ["round_of_four", "meets", "least_of", "trimmed", "comes", "need_way", "least_lines", "fewest", "count_rounds", "mended_start", "cells_to_mend", "_law_taken", "_law_pick", "_law_mixed", "_law_any", "_law_paint", "_law_painted", "_law_deeds", "_law_picture", "_law_start", "_law_layers", "_law_core"]
abbrev nms : List Str := nm0 ++ nm1
abbrev R : PySem.W.OpenRow := PySem.W.OpenLaw.row PySem.Challenge.rw_linepainters_k84_parts_of_pictures
abbrev hk : PySem.W.Hook := He.hookD 4 fa fn
def ob (s : PySem.W.SharedT) : He.AlD := He.obsDG 4 fa fn (HandSHeadRun.getT s)
theorem ob_eq (s : PySem.W.SharedT) : ob s = hk.obs s.abs := He.obsDG_eq (HandSHeadRun.getT_eq s)
open HandSHeadRun PySem.W PySem.Calls in
theorem runL (w : World) : ∀ os : OsState, (HandSHeadRun.endF (HandSHeadRun.stepQ (HandSHeadRun.denQ HandSHeadRun.tabQ) R.prog w) 8000 R.prog w os).map (fun s => looksF R.prog (boot_heap w.params) s.abs) = some true := by
  intro os
  kernel_rfl
open HandSHeadRun PySem.W PySem.Calls in
theorem runS (w : World) : ∀ os : OsState, (HandSHeadRun.endF (HandSHeadRun.stepQ (HandSHeadRun.denQ HandSHeadRun.tabQ) R.prog w) 8000 R.prog w os).map (fun s => seenQ (PySem.W.view R.prog [57]) nms (importedModules R.prog.main.body) (fun s => xlAt (PySem.W.view R.prog [57]) [] s && recOk R.toRowW.records s) s.abs) = some (openGood (PySem.W.view R.prog [57]) nms) := by
  intro os
  kernel_rfl
open HandSHeadRun PySem.W PySem.Calls in
theorem runO (w : World) : ∀ os : OsState, (HandSHeadRun.endF (HandSHeadRun.stepQ (HandSHeadRun.denQ HandSHeadRun.tabQ) R.prog w) 8000 R.prog w os).map ob = some (hk.val w) := by
  intro os
  kernel_rfl
theorem three {α β γ δ : Type} {x : Option α} {f : α → β} {g : α → γ} {h : α → δ} {b : β} {c : γ} {d : δ} (h1 : x.map f = some b) (h2 : x.map g = some c) (h3 : x.map h = some d) : x.map (fun s => (f s, g s, h s)) = some (b, c, d) := by
  cases x with
  | none => cases h1
  | some s =>
    have h1 := Option.some.inj h1
    have h2 := Option.some.inj h2
    have h3 := Option.some.inj h3
    show some (f s, g s, h s) = _
    rw [h1, h2, h3]
theorem run (w : World) : HandSHeadRun.RunEq R (PySem.W.view R.prog [57]) hk ob 8000 nms w := fun os => three (runL w os) (runS w os) (runO w os)
end Hd
set_option maxHeartbeats 1000000
set_option maxHeartbeats 1000000
namespace G
open PySem PySem.Spec PyProof.Rows L2
/-- pure data -/
inductive D where
  | non
  | bl (b : Bool)
  | int (i : Int)
  | str (s : Str)
  | tup (xs : List D)
  | lst (xs : List D)
  | dic (kvs : List (D × D))
  | dct (kvs : List (D × D))
  | scr (ns : List Int)
  | tape
  | fn (n : Str)
  | ty (n : String)
  | memo (n : Int)
  | tuq (xs : List D)
  deriving Inhabited
mutual
def D.pd : D → PyData
  | .non => .none
  | .bl b => .bool b
  | .int i => .int i
  | .str s => .str s
  | .tup xs => .tuple (pdAll xs)
  | .tuq xs => .tuple (pdAll xs)
  | .lst xs => .list (pdAll xs)
  | .scr ns => .list (ns.map PyData.int)
  | .dic _ => .dict []
  | .dct _ => .dict []
  | .tape => .dict []
  | .fn _ => .dict []
  | .ty _ => .dict []
  | .memo _ => .dict []
def pdAll : List D → List PyData
  | [] => []
  | x :: xs => x.pd :: pdAll xs
end
theorem pdAll_map (xs : List D) : pdAll xs = xs.map D.pd := by
  induction xs with
  | nil => rfl
  | cons x xs ih => simp only [pdAll, List.map_cons, ih]
def keyD : Key → D
  | .inl i => .int i
  | .inr x => .str x
def keyT (ks : List Key) : D := .tup (ks.map keyD)
def isDic : HO → Bool
  | .dK _ => true
  | .dT _ => true
  | _ => false
def isSt : HO → Bool
  | .tup _ => true
  | .frz _ _ => true
  | _ => false
abbrev StU := {u : HO // isSt u = true}
theorem st_no {o : HO} (h : isSt o = false) (xs : StU) : o ≠ xs.1 := fun e => by
  rw [e, xs.2] at h; cases h
def bin : Nat → Nat → Nat
  | _, 0 => 1
  | 0, _ + 1 => 0
  | n + 1, k + 1 => bin n k + bin n (k + 1)
def waysN : Nat → Nat → Nat → Bool → Nat
  | 0, _, _, _ => 1
  | n + 1, r, c, b => if r + c = 0 then 1 else if b then ((List.range r).map fun m => bin r (m + 1) * waysN n (r - (m + 1)) c false).sum else ((List.range c).map fun m => bin c (m + 1) * waysN n r (c - (m + 1)) true).sum
def tellsF : Int → List Int → Option Int
  | 0, [r, c, b] => if 0 ≤ r ∧ r ≤ 30 ∧ 0 ≤ c ∧ c ≤ 30 ∧ 0 ≤ b ∧ b ≤ 1 then some (waysN (r.toNat + c.toNat) r.toNat c.toNat (decide (b = 1)) : Nat) else none
  | _, _ => none
def hI (ks : List Int) : Int := reduceHash (Builtin.Tuple.tupleHashOf (ks.map hashInt))
def memoP (b : Addr) (xs : List (List Int × Addr × Value)) : Heap → Prop := fun h => ∃ o es ep, h.get? b = some o ∧ o.ExactDict ∧ o.data = .dict es ep ∧ es.toList = xs.map (fun x => (⟨hI x.1, .ref x.2.1, x.2.2⟩ : DictEntry)) ∧ (xs.map (·.1)).Nodup
def vInt : V → Option Int
  | .int i => some i
  | .bl b => some (if b = true then 1 else 0)
  | _ => none
def EntOk (n : Int) (H : Hp) (x : List Int × Addr × Value) : Prop := (∃ vs, H x.2.1 = some (.tup vs) ∧ vs.map vInt = x.1.map some) ∧ ∃ d t, tellsF n x.1 = some d ∧ x.2.2 = .int d t
def MemoAt (n : Int) (H : Hp) (b : Addr) : Prop := ∃ xs, H b = some (.ext (memoP b xs)) ∧ (b == sysModules) = false ∧ ∀ x ∈ xs, EntOk n H x
/-- a mark that no object bears -/
abbrev markM (n : Int) : HO := .ins 0 0 (List.replicate 1001 (("" : Str), V.int n))
theorem MemoAt.keep {n : Int} {H H' : Hp} {b : Addr} (h : MemoAt n H b) (k : ∀ u, H b = some u → H' b = some u) (kt : ∀ a (xs : StU), H a = some xs.1 → H' a = some xs.1) : MemoAt n H' b := by
  obtain ⟨xs, h1, h2, h3⟩ := h
  refine ⟨xs, k _ h1, h2, fun x hx => ?_⟩
  obtain ⟨⟨vs, e1, e2⟩, e3⟩ := h3 x hx
  exact ⟨⟨vs, kt _ ⟨.tup vs, rfl⟩ e1, e2⟩, e3⟩
/-- as it stands; a dict perhaps locked; a dict of known answers where it is marked -/
def At (H : Hp) (b : Addr) (o : HO) : Prop := H b = some o ∨ (isDic o = true ∧ ∃ x, H b = some (.frz x o)) ∨ ∃ n, o = markM n ∧ MemoAt n H b
/-- what stands here stands there, a dict perhaps locked -/
def Same (H H' : Hp) : Prop := ∀ b o, H b = some o → At H' b o
section
variable {Hs Hs' H H' H1 H2 : Hp} {b p : Addr} {o u : HO}
theorem At.rd (h : At H b o) (m : ∀ n, o ≠ markM n) : Rd H b o := h.elim .inl fun h => h.elim (fun h => .inr h.2) fun ⟨n, e, _⟩ => (m n e).elim
theorem At.lst {vs : List V} (h : At H b (.lst vs)) : H b = some (.lst vs) := h.elim id fun h => h.elim (fun h => nomatch h.1) fun ⟨_, e, _⟩ => nomatch e
theorem At.tup {vs : List V} (h : At H b (.tup vs)) : H b = some (.tup vs) := h.elim id fun h => h.elim (fun h => nomatch h.1) fun ⟨_, e, _⟩ => nomatch e
theorem At.frz {x : Obj} {v : HO} (h : At H b (.frz x v)) : H b = some (.frz x v) := h.elim id fun h => h.elim (fun h => nomatch h.1) fun ⟨_, e, _⟩ => nomatch e
theorem At.ext {φ : Heap → Prop} (h : At H b (.ext φ)) : H b = some (.ext φ) := h.elim id fun h => h.elim (fun h => nomatch h.1) fun ⟨_, e, _⟩ => nomatch e
/-- a dict -/
theorem At.dic (h : At H b o) (d : isDic o = true) : H b = some o ∨ ∃ x, H b = some (.frz x o) := h.elim .inl fun h => h.elim (fun h => .inr h.2) fun ⟨_, e, _⟩ => by rw [e] at d; cases d
theorem At.st {u : HO} (h : At H b u) (s : isSt u = true) : H b = some u := by
  cases u with
  | tup vs => exact h.tup
  | frz x v => exact h.frz
  | _ => cases s
theorem At.keep (h : At H b o) (k : ∀ u, H b = some u → H' b = some u) (kt : ∀ a (xs : StU), H a = some xs.1 → H' a = some xs.1) : At H' b o := h.imp (k _) fun h => h.imp (fun ⟨a, x, e⟩ => ⟨a, x, k _ e⟩) fun ⟨n, e, m⟩ => ⟨n, e, m.keep k kt⟩
theorem At.there (h : At H b o) : ∃ u, H b = some u := h.elim (fun e => ⟨_, e⟩) fun h => h.elim (fun ⟨_, _, e⟩ => ⟨_, e⟩) fun ⟨_, _, xs, e, _⟩ => ⟨_, e⟩
theorem At.upd (h : At H b o) (n : b ≠ p) (nt : ∀ xs : StU, H p ≠ some xs.1) : At (upd H p u) b o := h.keep (fun v e => by rw [upd_ne n]; exact e) fun a xs e => by
  rw [upd_ne fun z => nt xs (by rw [← z]; exact e)]; exact e
theorem Same.refl (H : Hp) : Same H H := fun _ _ h => .inl h
theorem Same.trans (a : Same H H1) (b : Same H1 H2) : Same H H2 := fun c o h => by
  rcases a c o h with q | ⟨q, x, e⟩ | ⟨n, e, xs, h1, h2, h3⟩
  · exact b c o q
  · exact .inr (.inl ⟨q, x, (b c _ e).frz⟩)
  · refine .inr (.inr ⟨n, e, xs, (b c _ h1).ext, h2, fun x hx => ?_⟩)
    obtain ⟨⟨vs, e1, e2⟩, e3⟩ := h3 x hx
    exact ⟨⟨vs, (b _ _ e1).tup, e2⟩, e3⟩
theorem At.mono {n : Int} (e : Same H H') (h : At H b (markM n)) : At H' b (markM n) := by
  rcases h with q | ⟨q, _⟩ | ⟨m, em, xs, h1, h2, h3⟩
  · exact e b _ q
  · cases q
  · refine .inr (.inr ⟨m, em, xs, (e _ _ h1).ext, h2, fun x hx => ?_⟩)
    obtain ⟨⟨vs, e1, e2⟩, e3⟩ := h3 x hx
    exact ⟨⟨vs, (e _ _ e1).tup, e2⟩, e3⟩
theorem Same.of (a : ∀ b o, H b = some o → H' b = some o) : Same H H' := fun b o h => .inl (a b o h)
theorem Same.free (e : Same Hs H) {l : Addr} (h : H l = none) : Hs l = none := by
  cases z : Hs l with
  | none => rfl
  | some u =>
    obtain ⟨v, q⟩ := (e l u z).there
    rw [h] at q; cases q
theorem Same.rd (e : Same H H') (h : Rd H b o) (d : ∀ x v, o ≠ .frz x v := by intros; nofun) (m : ∀ n, o ≠ markM n := by intros; nofun) : Rd H' b o := by
  rcases h with h | ⟨x, h⟩
  · exact (e _ _ h).rd m
  · exact .inr ⟨x, (e _ _ h).frz⟩
theorem Same.seq {K : PySem.W.Frag} {a : Addr} {xs : List V} (e : Same Hs H) (h : SqL K Hs a xs) : SqL K H a xs := h.imp (fun h => e.rd h) id
theorem Same.sqt {K : PySem.W.Frag} {a : Addr} {xs : List V} (e : Same Hs H) (h : SqT K Hs a xs) : SqT K H a xs := h.imp (fun h => e.rd h) id
theorem upd_free (e : L2.upd H p u b = none) : H b = none := by
  by_cases q : b = p
  · subst q; rw [upd_same] at e; cases e
  · rwa [upd_ne q] at e
end
section
variable (K : PySem.W.Frag) (mg : Str → Option Value) (r : Addr)
mutual
/-- the value v stands for the data d, all its objects in Hs -/
inductive RepD (Hs : Hp) : V → D → Prop
  | non : RepD Hs .non .non
  | bl (b : Bool) : RepD Hs (.bl b) (.bl b)
  | int (i : Int) : RepD Hs (.int i) (.int i)
  | str (s : Str) : RepD Hs (.str s) (.str s)
  | tupR {p : Addr} {vs : List V} {ds : List D} : Rd Hs p (.tup vs) → RepDs Hs vs ds → RepD Hs (.ref p) (.tup ds)
  | tuq {p : Addr} {o : Obj} {vs : List V} {ds : List D} : Hs p = some (.frz o (.tup vs)) → o.dict = none → RepDs Hs vs ds → RepD Hs (.ref p) (.tuq ds)
  | lst {p : Addr} {vs : List V} {ds : List D} : Hs p = some (.lst vs) → RepDs Hs vs ds → RepD Hs (.ref p) (.lst ds)
  | dicK {p : Addr} {kvs : List (Key × V)} {ds : List (D × D)} : Rd Hs p (.dK kvs) → RepP Hs (kvs.map fun q => (keyD q.1, q.2)) ds → RepD Hs (.ref p) (.dic ds)
  | dicT {p : Addr} {kvs : List (List Key × V)} {ds : List (D × D)} : Rd Hs p (.dT kvs) → RepP Hs (kvs.map fun q => (keyT q.1, q.2)) ds → RepD Hs (.ref p) (.dct ds)
  | scr {p : Addr} {ns : List Int} : SqL K Hs p (ns.map V.int) → RepD Hs (.ref p) (.scr ns)
  | tape : RepD Hs (.ref r) .tape
  | fn {f : Addr} {n : Str} : mg n = some (.ref f) → RepD Hs (.ref f) (.fn n)
  | ty (n : String) : RepD Hs (.ty n) (.ty n)
  | memo {p : Addr} {n : Int} : At Hs p (markM n) → RepD Hs (.ref p) (.memo n)
inductive RepDs (Hs : Hp) : List V → List D → Prop
  | nil : RepDs Hs [] []
  | cons {v : V} {vs : List V} {d : D} {ds : List D} : RepD Hs v d → RepDs Hs vs ds → RepDs Hs (v :: vs) (d :: ds)
inductive RepP (Hs : Hp) : List (D × V) → List (D × D) → Prop
  | nil : RepP Hs [] []
  | cons {k : D} {v : V} {vs : List (D × V)} {d : D} {ds : List (D × D)} : RepD Hs v d → RepP Hs vs ds → RepP Hs ((k, v) :: vs) ((k, d) :: ds)
end
end
section
variable {K : PySem.W.Frag} {mg : Str → Option Value} {r : Addr} {Hs Hs' Hs1 Hs2 H H' H1 H2 : Hp}
theorem RepD.tup {p : Addr} {vs : List V} {ds : List D} (h : Hs p = some (.tup vs)) (q : RepDs K mg r Hs vs ds) : RepD K mg r Hs (.ref p) (.tup ds) := .tupR (.inl h) q
mutual
theorem RepD.mono (e : Same Hs Hs') : ∀ {v : V} {d : D}, RepD K mg r Hs v d → RepD K mg r Hs' v d
  | _, _, .non => .non
  | _, _, .bl b => .bl b
  | _, _, .int i => .int i
  | _, _, .str s => .str s
  | _, _, .tupR h q => .tupR (e.rd h) (RepDs.mono e q)
  | _, _, .tuq h n q => .tuq (e _ _ h).frz n (RepDs.mono e q)
  | _, _, .lst h q => .lst (e _ _ h).lst (RepDs.mono e q)
  | _, _, .dicK h q => .dicK (e.rd h) (RepP.mono e q)
  | _, _, .dicT h q => .dicT (e.rd h) (RepP.mono e q)
  | _, _, .scr h => .scr (Same.seq e h)
  | _, _, .tape => .tape
  | _, _, .fn h => .fn h
  | _, _, .ty n => .ty n
  | _, _, .memo h => .memo (At.mono e h)
theorem RepDs.mono (e : Same Hs Hs') : ∀ {vs : List V} {ds : List D}, RepDs K mg r Hs vs ds → RepDs K mg r Hs' vs ds
  | _, _, .nil => .nil
  | _, _, .cons h q => .cons (RepD.mono e h) (RepDs.mono e q)
theorem RepP.mono (e : Same Hs Hs') : ∀ {vs : List (D × V)} {ds : List (D × D)}, RepP K mg r Hs vs ds → RepP K mg r Hs' vs ds
  | _, _, .nil => .nil
  | _, _, .cons h q => .cons (RepD.mono e h) (RepP.mono e q)
end
theorem RepDs.length : ∀ {vs : List V} {ds : List D}, RepDs K mg r Hs vs ds → vs.length = ds.length
  | _, _, .nil => rfl
  | _, _, .cons _ q => by simp only [List.length_cons, RepDs.length q]
theorem RepDs.get : ∀ {vs : List V} {ds : List D} {i : Nat} {v : V}, RepDs K mg r Hs vs ds → vs[i]? = some v → ∃ d, ds[i]? = some d ∧ RepD K mg r Hs v d
  | _, _, _, _, .nil, e => by simp at e
  | _, _, 0, _, .cons h _, e => by simp at e; subst e; exact ⟨_, rfl, h⟩
  | _, _, i + 1, _, .cons _ q, e => by
    obtain ⟨d, h1, h2⟩ := RepDs.get (i := i) q (by simpa using e)
    exact ⟨d, by simpa using h1, h2⟩
theorem RepDs.get' : ∀ {vs : List V} {ds : List D} {i : Nat} {d : D}, RepDs K mg r Hs vs ds → ds[i]? = some d → ∃ v, vs[i]? = some v ∧ RepD K mg r Hs v d
  | _, _, _, _, .nil, e => by simp at e
  | _, _, 0, _, .cons h _, e => by simp at e; subst e; exact ⟨_, rfl, h⟩
  | _, _, i + 1, _, .cons _ q, e => by
    obtain ⟨d, h1, h2⟩ := RepDs.get' (i := i) q (by simpa using e)
    exact ⟨d, by simpa using h1, h2⟩
theorem RepDs.append : ∀ {vs ws : List V} {ds es : List D}, RepDs K mg r Hs vs ds → RepDs K mg r Hs ws es → RepDs K mg r Hs (vs ++ ws) (ds ++ es)
  | _, _, _, _, .nil, q => q
  | _, _, _, _, .cons h p, q => .cons h (RepDs.append p q)
theorem RepDs.drop : ∀ {vs : List V} {ds : List D} (n : Nat), RepDs K mg r Hs vs ds → RepDs K mg r Hs (vs.drop n) (ds.drop n)
  | _, _, 0, q => q
  | _, _, _ + 1, .nil => .nil
  | _, _, n + 1, .cons _ q => RepDs.drop n q
theorem RepDs.take : ∀ {vs : List V} {ds : List D} (n : Nat), RepDs K mg r Hs vs ds → RepDs K mg r Hs (vs.take n) (ds.take n)
  | _, _, 0, _ => .nil
  | _, _, _ + 1, .nil => .nil
  | _, _, n + 1, .cons h q => .cons h (RepDs.take n q)
theorem RepDs.set : ∀ {vs : List V} {ds : List D} {v : V} {d : D} (n : Nat), RepDs K mg r Hs vs ds → RepD K mg r Hs v d → RepDs K mg r Hs (vs.set n v) (ds.set n d)
  | _, _, _, _, _, .nil, _ => .nil
  | _, _, _, _, 0, .cons _ q, h => .cons h q
  | _, _, _, _, n + 1, .cons g q, h => .cons g (RepDs.set n q h)
theorem RepDs.eraseIdx : ∀ {vs : List V} {ds : List D} (n : Nat), RepDs K mg r Hs vs ds → RepDs K mg r Hs (vs.eraseIdx n) (ds.eraseIdx n)
  | _, _, _, .nil => .nil
  | _, _, 0, .cons _ q => q
  | _, _, n + 1, .cons g q => .cons g (RepDs.eraseIdx n q)
theorem RepDs.dropLast : ∀ {vs : List V} {ds : List D}, RepDs K mg r Hs vs ds → RepDs K mg r Hs vs.dropLast ds.dropLast := by
  intro vs ds h
  rw [List.dropLast_eq_take, List.dropLast_eq_take, h.length]
  exact h.take _
theorem RepDs.reverse {vs : List V} {ds : List D} (h : RepDs K mg r Hs vs ds) : RepDs K mg r Hs vs.reverse ds.reverse := by
  induction vs generalizing ds with
  | nil => cases h; exact .nil
  | cons v vs ih =>
    cases h with
    | cons a b => rw [List.reverse_cons, List.reverse_cons]; exact (ih b).append (.cons a .nil)
theorem RepDs.ints : ∀ (ns : List Int), RepDs K mg r Hs (ns.map V.int) (ns.map D.int)
  | [] => .nil
  | n :: ns => .cons (.int n) (RepDs.ints ns)
theorem RepDs.ints_of : ∀ {ns : List Int} {vs : List V}, RepDs K mg r Hs vs (ns.map D.int) → vs = ns.map V.int
  | [], _, .nil => rfl
  | n :: ns, _, .cons h q => by cases h; rw [RepDs.ints_of q]; rfl
theorem RepDs.strs_of : ∀ {ns : List Str} {vs : List V}, RepDs K mg r Hs vs (ns.map D.str) → vs = ns.map V.str
  | [], _, .nil => rfl
  | n :: ns, _, .cons h q => by cases h; rw [RepDs.strs_of q]; rfl
theorem RepDs.bls_of : ∀ {ns : List Bool} {vs : List V}, RepDs K mg r Hs vs (ns.map D.bl) → vs = ns.map V.bl
  | [], _, .nil => rfl
  | n :: ns, _, .cons h q => by cases h; rw [RepDs.bls_of q]; rfl
theorem upd_new {H : Hp} {p : Addr} {o : HO} (h : H p = none) (a : Addr) (u : HO) (e : H a = some u) : upd H p o a = some u := by
  rw [upd_ne (ne_of_none e h)]
  exact e
theorem same_new {H : Hp} {p : Addr} {o : HO} (h : H p = none) : Same H (upd H p o) := .of (upd_new h)
end
section
variable (K : PySem.W.Frag) (mg : Str → Option Value) (r : Addr)
/-- what stands still, the heap, the tape at r -/
structure Wd (Hs H : Hp) (tp : List D) : Prop where
  sub : Same Hs H
  tn : Hs r = none
  tH : ∃ vs, H r = some (.lst vs) ∧ RepDs K mg r Hs vs tp
  nx : ∀ b φ, Hs b ≠ some (.ext φ)
structure Grow (Hs H Hs' H' : Hp) : Prop where
  keep : ∀ b o, H b = some o → b ≠ r → Hs b = none → H' b = some o
  free : ∀ b, H' b = none → H b = none
  ex : Same Hs Hs'
  new : ∀ b o, b ≠ r → Hs' b = some o → (∃ u, Hs b = some u) ∨ H b = none ∨ ∃ xs : StU, H b = some xs.1
  tup : ∀ b (xs : StU), H b = some xs.1 → H' b = some xs.1
end
section
variable {K : PySem.W.Frag} {mg : Str → Option Value} {r : Addr} {Hs Hs' Hs1 Hs2 H H' H1 H2 : Hp} {tp tp' : List D}
theorem Grow.refl (Hs H : Hp) : Grow r Hs H Hs H := ⟨fun _ _ e _ _ => e, fun _ e => e, Same.refl _, fun _ _ _ e => .inl ⟨_, e⟩, fun _ _ e => e⟩
theorem Grow.trans (a : Grow r Hs H Hs1 H1) (b : Grow r Hs1 H1 Hs2 H2) : Grow r Hs H Hs2 H2 where
  keep := fun c o e n hs => by
    cases z : Hs1 c with
    | none => exact b.keep c o (a.keep c o e n hs) n z
    | some u =>
      rcases a.new c u n z with ⟨_, q⟩ | q | ⟨xs, q⟩
      · rw [hs] at q; cases q
      · rw [e] at q; cases q
      · rw [e] at q; cases q
        exact b.tup c xs (a.tup c xs e)
  free := fun c e => a.free c (b.free c e)
  ex := a.ex.trans b.ex
  new := fun c o n e => by
    rcases b.new c o n e with ⟨u, q⟩ | q | ⟨xs, q⟩
    · exact a.new c u n q
    · exact .inr (.inl (a.free c q))
    · cases z : H c with
      | none => exact .inr (.inl rfl)
      | some u =>
        cases y : Hs c with
        | some v => exact .inl ⟨v, rfl⟩
        | none =>
          have := a.keep c u z n y
          rw [q] at this; cases this
          exact .inr (.inr ⟨xs, rfl⟩)
  tup := fun c xs e => b.tup c xs (a.tup c xs e)
theorem Grow.no {c : Addr} {o : HO} (a : Grow r Hs H Hs1 H1) (hs : Hs c = none) (e : H c = some o) (n : c ≠ r) (t : isSt o = false := by rfl) : Hs1 c = none := by
  cases z : Hs1 c with
  | none => rfl
  | some u =>
    rcases a.new c u n z with ⟨_, q⟩ | q | ⟨xs, q⟩
    · rw [hs] at q; cases q
    · rw [e] at q; cases q
    · rw [e] at q; exact (st_no t xs (Option.some.inj q)).elim
theorem Wd.ne {p : Addr} {o : HO} (w : Wd K mg r Hs H tp) (h : Hs p = some o) : p ≠ r := fun e => by
  rw [e, w.tn] at h; cases h
theorem Wd.fresh {p : Addr} (w : Wd K mg r Hs H tp) (h : H p = none) : Hs p = none ∧ p ≠ r := by
  refine ⟨w.sub.free h, fun e => ?_⟩
  obtain ⟨vs, q, _⟩ := w.tH
  rw [e, q] at h; cases h
/-- a new object that stands still -/
theorem Wd.alloc {p : Addr} {o : HO} (w : Wd K mg r Hs H tp) (h : H p = none) (no : ∀ φ, o ≠ .ext φ := by intros; nofun) : Grow r Hs H (upd Hs p o) (upd H p o) ∧ Wd K mg r (upd Hs p o) (upd H p o) tp := by
  obtain ⟨hs, ne⟩ := w.fresh h
  refine ⟨⟨fun b u e _ _ => upd_new h b u e, fun b e => upd_free e, same_new hs, fun b u n e => ?_, fun b xs e => upd_new h b _ e⟩, ⟨fun b u e => ?_, ?_, ?_, fun b φ e => ?_⟩⟩
  · by_cases q : b = p
    · subst q; exact .inr (.inl h)
    · rw [upd_ne q] at e; exact .inl ⟨_, e⟩
  · by_cases q : b = p
    · subst q; rw [upd_same] at e; exact .inl (by rw [upd_same]; exact e)
    · rw [upd_ne q] at e; exact (w.sub b u e).upd q fun xs z => by rw [h] at z; first | exact st_no rfl xs (Option.some.inj z) | cases z
  · rw [upd_ne ne.symm]; exact w.tn
  · obtain ⟨vs, q, z⟩ := w.tH
    exact ⟨vs, by rw [upd_ne ne.symm]; exact q, z.mono (same_new hs)⟩
  · by_cases q : b = p
    · subst q; rw [upd_same] at e; exact no φ (Option.some.inj e)
    · rw [upd_ne q] at e; exact w.nx b φ e
/-- a new object that does not stand still (yet) -/
theorem Wd.lay {p : Addr} {o : HO} (w : Wd K mg r Hs H tp) (h : H p = none) : Grow r Hs H Hs (upd H p o) ∧ Wd K mg r Hs (upd H p o) tp := by
  obtain ⟨hs, ne⟩ := w.fresh h
  refine ⟨⟨fun b u e _ _ => upd_new h b u e, fun b e => upd_free e, Same.refl _, fun b u n e => .inl ⟨_, e⟩, fun b xs e => upd_new h b _ e⟩, ⟨fun b u e => (w.sub b u e).keep (fun v q => upd_new h b v q) fun a xs e => upd_new h a _ e, w.tn, ?_, w.nx⟩⟩
  obtain ⟨vs, q, z⟩ := w.tH
  exact ⟨vs, by rw [upd_ne ne.symm]; exact q, z⟩
/-- an object that is not in Hs is written -/
theorem Wd.write {p : Addr} {o : HO} (w : Wd K mg r Hs H tp) (h : Hs p = none) (ne : p ≠ r) (nt : ∀ xs : StU, H p ≠ some xs.1) : Wd K mg r Hs (upd H p o) tp := by
  refine ⟨fun b u e => ?_, w.tn, ?_, w.nx⟩
  · exact (w.sub b u e).upd (ne_of_none e h) nt
  · obtain ⟨vs, q, z⟩ := w.tH
    exact ⟨vs, by rw [upd_ne ne.symm]; exact q, z⟩
end
inductive RE (α : Type) where
  | ok (a : α) (tp : List D)
  | exn (c : Str) (fs : List (Str × D)) (tp : List D)
  | stuck
def RE.bind {α β : Type} (x : RE α) (k : α → List D → RE β) : RE β := match x with
  | .ok a tp => k a tp
  | .exn c fs tp => .exn c fs tp
  | .stuck => .stuck
@[simp] theorem RE.bind_ok {α β : Type} (a : α) (tp : List D) (k : α → List D → RE β) : (RE.ok a tp).bind k = k a tp := rfl
@[simp] theorem RE.bind_exn {α β : Type} (c : Str) (fs : List (Str × D)) (tp : List D) (k : α → List D → RE β) : (RE.exn c fs tp : RE α).bind k = .exn c fs tp := rfl
@[simp] theorem RE.bind_stuck {α β : Type} (k : α → List D → RE β) : (RE.stuck : RE α).bind k = .stuck := rfl
def RE.of {α : Type} (o : Option α) (tp : List D) : RE α := match o with
  | some a => .ok a tp
  | none => .stuck
@[simp] theorem RE.of_some {α : Type} (a : α) (tp : List D) : RE.of (some a) tp = .ok a tp := rfl
@[simp] theorem RE.of_none {α : Type} (tp : List D) : (RE.of (none : Option α) tp) = .stuck := rfl
section
variable (K : PySem.W.Frag) (mg : Str → Option Value) (r : Addr)
/-- the dict of an exception: its fields -/
def ExD (Hs : Hp) (fs : List (Str × D)) (dx : Option Addr) : Prop :=
  (fs = [] ∧ dx = none) ∨ ∃ a gs, dx = some a ∧ Hs a = some (.xd gs) ∧ ∀ f, match fs.lookup f with
    | some d => ∃ v, gs.lookup f = some v ∧ RepD K mg r Hs v d
    | none => gs.lookup f = none
def Post {β α : Type} (Rp : Hp → Hp → β → α → Prop) (E : XK) (Hs H : Hp) (res : RE α) (Q : β → Hp → Prop) : Prop := match res with
  | .ok d tp' => ∀ v Hs' H', Grow r Hs H Hs' H' → Wd K mg r Hs' H' tp' → Rp Hs' H' v d → Q v H'
  | .exn c fs tp' => ∀ cv dx Hs' H', Grow r Hs H Hs' H' → Wd K mg r Hs' H' tp' → mg c = some cv → ExD K mg r Hs' fs dx → E cv dx H'
  | .stuck => False
end
section
variable {K : PySem.W.Frag} {mg : Str → Option Value} {r : Addr} {Hs Hs' Hs1 Hs2 H H' H1 H2 : Hp} {tp tp' : List D} {α β γ δ : Type} {R1 : Hp → Hp → β → α → Prop} {R2 : Hp → Hp → δ → γ → Prop} {E : XK}
theorem Post.shift {res : RE α} {Q : β → Hp → Prop} (g : Grow r Hs H Hs1 H1) (h : Post K mg r R1 E Hs H res Q) : Post K mg r R1 E Hs1 H1 res Q := by
  cases res with
  | ok d tp' => exact fun v Hs' H' g' w q => h v Hs' H' (g.trans g') w q
  | exn c fs tp' => exact fun cv dx Hs' H' g' w m x => h cv dx Hs' H' (g.trans g') w m x
  | stuck => exact h
theorem Post.imp {res : RE α} {Q Q' : β → Hp → Prop} (h : Post K mg r R1 E Hs H res Q) (k : ∀ v H', Q v H' → Q' v H') : Post K mg r R1 E Hs H res Q' := by
  cases res with
  | ok d tp' => exact fun v Hs' H' g' w q => k _ _ (h v Hs' H' g' w q)
  | exn c fs tp' => exact h
  | stuck => exact h
/-- one thing, then another -/
theorem Post.bind {res : RE α} {k : α → List D → RE γ} {Q : δ → Hp → Prop} {Q1 : β → Hp → Prop} (h : Post K mg r R2 E Hs H (res.bind k) Q)
    (step : ∀ v Hs1 H1 d tp1, res = .ok d tp1 → Grow r Hs H Hs1 H1 → Wd K mg r Hs1 H1 tp1 → R1 Hs1 H1 v d → Post K mg r R2 E Hs1 H1 (k d tp1) Q → Q1 v H1) : Post K mg r R1 E Hs H res Q1 := by
  cases res with
  | ok d tp' => exact fun v Hs' H' g' w q => step v Hs' H' d tp' rfl g' w q (Post.shift g' h)
  | exn c fs tp' => exact h
  | stuck => exact h
theorem Post.ok_of {o : Option α} {Q : β → Hp → Prop} (h : Post K mg r R1 E Hs H (RE.of o tp) Q) : ∃ d, o = some d ∧ ∀ v Hs' H', Grow r Hs H Hs' H' → Wd K mg r Hs' H' tp → R1 Hs' H' v d → Q v H' := by
  cases o with
  | none => exact h.elim
  | some d => exact ⟨d, rfl, h⟩
end
end G
set_option maxHeartbeats 1000000
namespace G
open PySem PySem.Spec PyProof.Rows L2
abbrev DEnv := List (Option D)
abbrev SE (α : Type) := DEnv → List D → RE α
section
variable (K : PySem.W.Frag) (mg : Str → Option Value) (r : Addr)
/-- the object at p (its own slot's alone) holds d, its items stand still -/
def OwnAt (Hs H : Hp) (p : Addr) : D → Prop
  | .lst ds => ∃ vs, H p = some (.lst vs) ∧ RepDs K mg r Hs vs ds
  | .dic ds => ∃ kvs : List (Key × V), H p = some (.dK kvs) ∧ RepP K mg r Hs (kvs.map fun q => (keyD q.1, q.2)) ds
  | .dct ds => ∃ kvs : List (List Key × V), H p = some (.dT kvs) ∧ RepP K mg r Hs (kvs.map fun q => (keyT q.1, q.2)) ds
  | _ => False
/-- as RepD; the topmost object may be one that changes -/
def RepT (Hs H : Hp) (v : V) (d : D) : Prop := RepD K mg r Hs v d ∨ ∃ p, v = .ref p ∧ (p ≠ r ∧ Hs p = none) ∧ OwnAt K mg r Hs H p d
structure Rel (O : List Nat) (Hs0 H0 Hs H : Hp) (σ : L2.St) (env : DEnv) (tp : List D) : Prop where
  wd : Wd K mg r Hs H tp
  gr : Grow r Hs0 H0 Hs H
  len : σ.length = env.length
  vars : ∀ i d, env[i]? = some (some d) → i ∉ O → ∃ v, σ[i]? = some (some v) ∧ RepD K mg r Hs v d
  own : ∀ i, i ∈ O → ∃ d p, env[i]? = some (some d) ∧ σ[i]? = some (some (.ref p)) ∧ Hs p = none ∧ H0 p = none ∧ p ≠ r ∧ OwnAt K mg r Hs H p d
  dis : ∀ i j p, i ∈ O → j ∈ O → σ[i]? = some (some (.ref p)) → σ[j]? = some (some (.ref p)) → i = j
end
section
variable {K : PySem.W.Frag} {mg : Str → Option Value} {r : Addr} {Hs0 H0 Hs Hs' H H' : Hp} {O : List Nat} {σ : L2.St} {env : DEnv} {tp tp' : List D} {p : Addr} {d : D} {v : V}
theorem OwnAt.grow (h : OwnAt K mg r Hs H p d) (e : Same Hs Hs') (k : ∀ o, H p = some o → H' p = some o) : OwnAt K mg r Hs' H' p d := by
  cases d with
  | lst ds => obtain ⟨vs, a, b⟩ := h; exact ⟨vs, k _ a, b.mono e⟩
  | dic ds => obtain ⟨kvs, a, b⟩ := h; exact ⟨kvs, k _ a, RepP.mono e b⟩
  | dct ds => obtain ⟨kvs, a, b⟩ := h; exact ⟨kvs, k _ a, RepP.mono e b⟩
  | _ => exact h.elim
theorem OwnAt.ntup (h : OwnAt K mg r Hs H p d) : ∀ o, H p = some o → isSt o = false := fun o e => by
  cases d with
  | lst ds => obtain ⟨vs, a, b⟩ := h; rw [e] at a; cases a; rfl
  | dic ds => obtain ⟨kvs, a, b⟩ := h; rw [e] at a; cases a; rfl
  | dct ds => obtain ⟨kvs, a, b⟩ := h; rw [e] at a; cases a; rfl
  | _ => exact h.elim
theorem OwnAt.next (h : OwnAt K mg r Hs H p d) : ∀ φ, H p ≠ some (.ext φ) := fun φ e => by
  cases d with
  | lst ds => obtain ⟨vs, a, b⟩ := h; rw [e] at a; cases a
  | dic ds => obtain ⟨kvs, a, b⟩ := h; rw [e] at a; cases a
  | dct ds => obtain ⟨kvs, a, b⟩ := h; rw [e] at a; cases a
  | _ => exact h.elim
theorem OwnAt.there (h : OwnAt K mg r Hs H p d) : ∃ o, H p = some o := by
  cases d with
  | lst ds => obtain ⟨vs, a, b⟩ := h; exact ⟨_, a⟩
  | dic ds => obtain ⟨kvs, a, b⟩ := h; exact ⟨_, a⟩
  | dct ds => obtain ⟨kvs, a, b⟩ := h; exact ⟨_, a⟩
  | _ => exact h.elim
/-- an owned object comes to stand still -/
theorem OwnAt.rep (h : OwnAt K mg r Hs H p d) (e : Same Hs Hs') (k : ∀ o, H p = some o → Hs' p = some o) : RepD K mg r Hs' (.ref p) d := by
  cases d with
  | lst ds => obtain ⟨vs, a, b⟩ := h; exact .lst (k _ a) (b.mono e)
  | dic ds => obtain ⟨kvs, a, b⟩ := h; exact .dicK (.of (k _ a)) (RepP.mono e b)
  | dct ds => obtain ⟨kvs, a, b⟩ := h; exact .dicT (.of (k _ a)) (RepP.mono e b)
  | _ => exact h.elim
theorem RepT.grow (h : RepT K mg r Hs H v d) (g : Grow r Hs H Hs' H') : RepT K mg r Hs' H' v d := by
  rcases h with h | ⟨p, e, ⟨n, hs⟩, h⟩
  · exact .inl (h.mono g.ex)
  · obtain ⟨o, q⟩ := h.there
    exact .inr ⟨p, e, ⟨n, g.no hs q n (h.ntup o q)⟩, h.grow g.ex fun o q => g.keep p o q n hs⟩
theorem RepD.top (h : RepD K mg r Hs v d) : RepT K mg r Hs H v d := .inl h
theorem Rel.grow (R : Rel K mg r O Hs0 H0 Hs H σ env tp) (g : Grow r Hs H Hs' H') (w : Wd K mg r Hs' H' tp') : Rel K mg r O Hs0 H0 Hs' H' σ env tp' where
  wd := w
  gr := R.gr.trans g
  len := R.len
  vars := fun i d e n => by
    obtain ⟨v, a, b⟩ := R.vars i d e n
    exact ⟨v, a, b.mono g.ex⟩
  own := fun i hi => by
    obtain ⟨d, p, a, b, c, c0, n, o⟩ := R.own i hi
    refine ⟨d, p, a, b, ?_, c0, n, o.grow g.ex fun u q => g.keep p u q n c⟩
    obtain ⟨u', q'⟩ := o.there
    exact g.no c q' n (o.ntup u' q')
  dis := R.dis
end
section
variable (K : PySem.W.Frag) (mg : Str → Option Value) (r : Addr) (X : Cx) (O : List Nat) (E : XK)
abbrev PostE : Hp → Hp → RE D → VK → Prop := Post K mg r (fun Hs _ v d => RepD K mg r Hs v d) E
abbrev PostO : Hp → Hp → RE D → VK → Prop := Post K mg r (fun Hs H v d => RepT K mg r Hs H v d) E
abbrev PostB : Hp → Hp → RE Bool → (Bool → Hp → Prop) → Prop := Post K mg r (fun _ _ (a b : Bool) => a = b) E
abbrev PostA : Hp → Hp → RE (List D) → (List V → Hp → Prop) → Prop := Post K mg r (fun Hs _ v d => RepDs K mg r Hs v d) E
abbrev PostAO : Hp → Hp → RE (List D) → (List V → Hp → Prop) → Prop := Post K mg r (fun Hs H v d => Paired (RepT K mg r Hs H) v d) E
/-- the expression e gives what m says -/
structure GE (e : Expr) (t : TE) (m : SE D) : Prop where
  pe : PE X e t
  snd : ∀ Hs0 H0 Hs H σ env tp Q, Rel K mg r O Hs0 H0 Hs H σ env tp → PostE K mg r E Hs H (m env tp) Q → t σ H Q
/-- as GE, the value may be a slot's own object -/
structure GO (e : Expr) (t : TE) (m : SE D) : Prop where
  pe : PE X e t
  snd : ∀ Hs0 H0 Hs H σ env tp Q, Rel K mg r O Hs0 H0 Hs H σ env tp → PostO K mg r E Hs H (m env tp) Q → t σ H Q
structure GT (e : Expr) (t : TT) (m : SE Bool) : Prop where
  pe : PT X e t
  snd : ∀ Hs0 H0 Hs H σ env tp Q, Rel K mg r O Hs0 H0 Hs H σ env tp → PostB K mg r E Hs H (m env tp) Q → t σ H Q
structure GW (e : Expr) (t : TT) (m : SE Bool) : Prop where
  pe : PW X e t
  snd : ∀ Hs0 H0 Hs H σ env tp Q, Rel K mg r O Hs0 H0 Hs H σ env tp → PostB K mg r E Hs H (m env tp) Q → t σ H Q
structure GA (es : List Expr) (t : TA) (m : SE (List D)) : Prop where
  pe : PA X es t
  snd : ∀ Hs0 H0 Hs H σ env tp Q, Rel K mg r O Hs0 H0 Hs H σ env tp → PostA K mg r E Hs H (m env tp) Q → t σ H Q
structure GAO (es : List Expr) (t : TA) (m : SE (List D)) : Prop where
  pe : PA X es t
  snd : ∀ Hs0 H0 Hs H σ env tp Q, Rel K mg r O Hs0 H0 Hs H σ env tp → PostAO K mg r E Hs H (m env tp) Q → t σ H Q
end
section
variable {K : PySem.W.Frag} {mg : Str → Option Value} {r : Addr} {X : Cx} {O : List Nat} {E : XK} {e a b c : Expr} {es : List Expr} {pos : Pos} {t ta tb tc : TE} {tt tu : TT} {ts : TA}
theorem GE.go {m : SE D} (h : GE K mg r X O E e t m) : GO K mg r X O E e t m := by
  obtain ⟨ht, hs⟩ := h
  refine ⟨ht, fun Hs0 H0 Hs H σ env tp Q R P => hs _ _ _ _ _ _ _ _ R ?_⟩
  unfold PostO at P
  cases q : m env tp with
  | ok d tp' =>
    rw [q] at P
    exact fun v Hs' H' g w x => P v Hs' H' g w (.inl x)
  | exn c fs tp' => rw [q] at P; exact P
  | stuck => rw [q] at P; exact P
def vE (i : Nat) : SE D := fun env tp => match env[i]? with
  | some (some d) => .ok d tp
  | _ => .stuck
def cE (d : D) : SE D := fun _ tp => .ok d tp
theorem ge_var (i : Nat) {x : Str} (hO : i ∉ O := by decide) (hN : X.N[i]? = some x := by rfl) (hv : Vis X.env.scope x := by first | exact Or.inl rfl | exact Or.inr (Or.inl rfl) | exact Or.inr (Or.inr rfl)) (hd : (x == ("__debug__" : Str)) = false := by decide)
    (hcd : (x == ("__classdict__" : Str)) = false := by decide) : GE K mg r X O E (.Name x pos) (tVar i) (vE i) := by
  refine ⟨pe_var hN hv hd hcd, fun Hs0 H0 Hs H σ env tp Q R P => ?_⟩
  unfold vE at P
  split at P
  · rename_i d q
    obtain ⟨v, h1, h2⟩ := R.vars i d q hO
    exact ⟨v, h1, P v Hs H (Grow.refl _ _) R.wd h2⟩
  · exact P.elim
theorem go_own (i : Nat) {x : Str} (hO : i ∈ O := by decide) (hN : X.N[i]? = some x := by rfl) (hv : Vis X.env.scope x := by first | exact Or.inl rfl | exact Or.inr (Or.inl rfl) | exact Or.inr (Or.inr rfl)) (hd : (x == ("__debug__" : Str)) = false := by decide)
    (hcd : (x == ("__classdict__" : Str)) = false := by decide) : GO K mg r X O E (.Name x pos) (tVar i) (vE i) := by
  refine ⟨pe_var hN hv hd hcd, fun Hs0 H0 Hs H σ env tp Q R P => ?_⟩
  obtain ⟨d, p, h1, h2, h3, h4, h5, h6⟩ := R.own i hO
  unfold vE at P
  rw [h1] at P
  exact ⟨_, h2, P _ Hs H (Grow.refl _ _) R.wd (.inr ⟨p, rfl, ⟨h5, h3⟩, h6⟩)⟩
theorem ge_c {e : Expr} {v : V} {d : D} (h : PE X e (tC v)) (hr : ∀ Hs, RepD K mg r Hs v d) : GE K mg r X O E e (tC v) (cE d) :=
  ⟨h, fun Hs0 H0 Hs H σ env tp Q R P => P v Hs H (Grow.refl _ _) R.wd (hr Hs)⟩
theorem ge_int {i j pos} : GE K mg r X O E (.Constant (.int i) j pos) (tC (.int i)) (cE (.int i)) := ge_c pe_int fun _ => .int i
theorem ge_bl {i j pos} : GE K mg r X O E (.Constant (.bool i) j pos) (tC (.bl i)) (cE (.bl i)) := ge_c pe_bl fun _ => .bl i
theorem ge_non {j pos} : GE K mg r X O E (.Constant .none j pos) (tC .non) (cE .non) := ge_c pe_non fun _ => .non
theorem ge_str {i j pos} : GE K mg r X O E (.Constant (.str i) j pos) (tC (.str i)) (cE (.str i)) := ge_c pe_str fun _ => .str i
theorem ge_gint {x : Str} {i : Int} (hm : ∃ t, X.mg x = some (.int i t)) (hg : Gl X x := by rfl) (hd : (x == ("__debug__" : Str)) = false := by decide) : GE K mg r X O E (.Name x pos) (tC (.int i)) (cE (.int i)) := by
  obtain ⟨t, hm⟩ := hm
  exact ge_c (v := .int i) (pe_glob hg hm ⟨t, rfl⟩ hd) fun _ => .int i
theorem ge_gstr {x : Str} {i : Str} (hm : ∃ t, X.mg x = some (.str i t)) (hg : Gl X x := by rfl) (hd : (x == ("__debug__" : Str)) = false := by decide) : GE K mg r X O E (.Name x pos) (tC (.str i)) (cE (.str i)) := by
  obtain ⟨t, hm⟩ := hm
  exact ge_c (v := .str i) (pe_glob hg hm ⟨t, rfl⟩ hd) fun _ => .str i
def nilA : SE (List D) := fun _ tp => .ok [] tp
def consA (m : SE D) (ms : SE (List D)) : SE (List D) := fun env tp => (m env tp).bind fun d tp1 => (ms env tp1).bind fun ds tp2 => .ok (d :: ds) tp2
theorem ga_nil : GA K mg r X O E [] tNil nilA := ⟨pa_nil, fun Hs0 H0 Hs H σ env tp Q R P => P [] Hs H (Grow.refl _ _) R.wd .nil⟩
theorem gao_nil : GAO K mg r X O E [] tNil nilA := ⟨pa_nil, fun Hs0 H0 Hs H σ env tp Q R P => P [] Hs H (Grow.refl _ _) R.wd .nil⟩
theorem ga_cons {m : SE D} {ms : SE (List D)} (h : GE K mg r X O E e t m) (hs : GA K mg r X O E es ts ms) (hst : starEach (e :: es) X.env = (false, eval e X.env) :: starEach es X.env := by rfl) : GA K mg r X O E (e :: es) (tCons t ts) (consA m ms) := by
  obtain ⟨ht, h1⟩ := h
  obtain ⟨hts, h2⟩ := hs
  refine ⟨pa_cons ht hts hst, fun Hs0 H0 Hs H σ env tp Q R P => ?_⟩
  refine h1 _ _ _ _ _ _ _ _ R (Post.bind P fun v Hs1 H1 d tp1 _ g w rv P1 => ?_)
  refine h2 _ _ _ _ _ _ _ _ (R.grow g w) (Post.bind P1 fun vs Hs2 H2 ds tp2 _ g2 w2 rs P2 => ?_)
  exact P2 _ Hs2 H2 (Grow.refl _ _) w2 (.cons (rv.mono g2.ex) rs)
theorem gao_cons {m : SE D} {ms : SE (List D)} (h : GO K mg r X O E e t m) (hs : GAO K mg r X O E es ts ms) (hst : starEach (e :: es) X.env = (false, eval e X.env) :: starEach es X.env := by rfl) : GAO K mg r X O E (e :: es) (tCons t ts) (consA m ms) := by
  obtain ⟨ht, h1⟩ := h
  obtain ⟨hts, h2⟩ := hs
  refine ⟨pa_cons ht hts hst, fun Hs0 H0 Hs H σ env tp Q R P => ?_⟩
  refine h1 _ _ _ _ _ _ _ _ R (Post.bind P fun v Hs1 H1 d tp1 _ g w rv P1 => ?_)
  refine h2 _ _ _ _ _ _ _ _ (R.grow g w) (Post.bind P1 fun vs Hs2 H2 ds tp2 _ g2 w2 rs P2 => ?_)
  exact P2 _ Hs2 H2 (Grow.refl _ _) w2 (.cons (rv.grow g2) rs)
def Fresh (K : PySem.W.Frag) (mg : Str → Option Value) (r : Addr) (Hb : Hp) (Hs H : Hp) (v : V) (d : D) : Prop := ∃ p, v = .ref p ∧ Hb p = none ∧ Hs p = none ∧ p ≠ r ∧ OwnAt K mg r Hs H p d
structure GF (K : PySem.W.Frag) (mg : Str → Option Value) (r : Addr) (X : Cx) (O : List Nat) (E : XK) (e : Expr) (t : TE) (m : SE D) : Prop where
  pe : PE X e t
  snd : ∀ Hs0 H0 Hs H σ env tp Q, Rel K mg r O Hs0 H0 Hs H σ env tp → Post K mg r (Fresh K mg r H) E Hs H (m env tp) Q → t σ H Q
/-- it comes to stand still -/
theorem freeze_fresh {Hb Hs H : Hp} {tp : List D} {v : V} {d : D} (w : Wd K mg r Hs H tp) (h : Fresh K mg r Hb Hs H v d) : ∃ Hs', Same Hs Hs' ∧ Wd K mg r Hs' H tp ∧ RepD K mg r Hs' v d ∧ (∀ b o, Hs' b = some o → (∃ u, Hs b = some u) ∨ Hb b = none) := by
  obtain ⟨p, rfl, hb, hs, ne, oa⟩ := h
  obtain ⟨o, ho⟩ := oa.there
  have e : Same Hs (upd Hs p o) := same_new hs
  refine ⟨upd Hs p o, e, ⟨fun b u q => ?_, by rw [upd_ne ne.symm]; exact w.tn, ?_, fun b φ q => ?_⟩, oa.rep e (fun u q => ?_), fun b u q => ?_⟩
  · by_cases z : b = p
    · subst z; rw [upd_same] at q; exact .inl (ho.trans q)
    · rw [upd_ne z] at q; exact w.sub b u q
  · obtain ⟨vs, a, b⟩ := w.tH
    exact ⟨vs, a, b.mono e⟩
  · by_cases z : b = p
    · subst z; rw [upd_same] at q; exact oa.next φ (ho.trans q)
    · rw [upd_ne z] at q; exact w.nx b φ q
  · rw [ho] at q; cases q; exact upd_same
  · by_cases z : b = p
    · subst z; exact .inr hb
    · rw [upd_ne z] at q; exact .inl ⟨_, q⟩
theorem GF.ge {m : SE D} (h : GF K mg r X O E e t m) : GE K mg r X O E e t m := by
  obtain ⟨ht, hs⟩ := h
  refine ⟨ht, fun Hs0 H0 Hs H σ env tp Q R P => hs _ _ _ _ _ _ _ _ R ?_⟩
  unfold PostE at P
  cases q : m env tp with
  | ok d tp' =>
    rw [q] at P
    intro v Hs' H' g w x
    obtain ⟨Hs2, e, w2, rv, nw⟩ := freeze_fresh w x
    refine P v Hs2 H' ⟨g.keep, g.free, g.ex.trans e, fun b o n z => ?_, g.tup⟩ w2 rv
    rcases nw b o z with ⟨u, z⟩ | z
    · exact g.new b u n z
    · exact .inr (.inl z)
  | exn c fs tp' => rw [q] at P; exact P
  | stuck => rw [q] at P; exact P
def tupE (ms : SE (List D)) : SE D := fun env tp => (ms env tp).bind fun ds tp1 => if ds.length ≤ sizeLine then .ok (.tup ds) tp1 else .stuck
def lstE (ms : SE (List D)) : SE D := fun env tp => (ms env tp).bind fun ds tp1 => if ds.length ≤ sizeLine then .ok (.lst ds) tp1 else .stuck
theorem ge_tup {ms : SE (List D)} {x1} (hs : GA K mg r X O E es ts ms) : GE K mg r X O E (.Tuple es x1 pos) (tTup ts) (tupE ms) := by
  obtain ⟨hts, h2⟩ := hs
  refine ⟨pe_tup hts, fun Hs0 H0 Hs H σ env tp Q R P => ?_⟩
  refine h2 _ _ _ _ _ _ _ _ R (Post.bind P fun vs Hs1 H1 ds tp1 _ g w rs P1 => ?_)
  by_cases q : ds.length ≤ sizeLine
  · rw [if_pos q] at P1
    refine ⟨by rw [rs.length]; exact q, fun p hp => ?_⟩
    obtain ⟨g2, w2⟩ := w.alloc (o := .tup vs) hp
    exact P1 _ _ _ g2 w2 (.tup upd_same (rs.mono g2.ex))
  · rw [if_neg q] at P1; exact P1.elim
/-- what a new object at p gives to a wish of a fresh one -/
theorem fresh_new {Hs H Hs1 H1 : Hp} {p : Addr} {o : HO} {tp : List D} {d : D} (g : Grow r Hs H Hs1 H1) (w : Wd K mg r Hs1 H1 tp) (hp : H1 p = none) (ho : OwnAt K mg r Hs1 (upd H1 p o) p d) :
    Grow r Hs H Hs1 (upd H1 p o) ∧ Wd K mg r Hs1 (upd H1 p o) tp ∧ Fresh K mg r H Hs1 (upd H1 p o) (.ref p) d := by
  obtain ⟨g2, w2⟩ := w.lay (o := o) hp
  obtain ⟨f1, f2⟩ := w.fresh hp
  refine ⟨g.trans g2, w2, p, rfl, ?_, f1, f2, ho⟩
  exact g.free p hp
theorem gf_lst {ms : SE (List D)} (hs : GA K mg r X O E es ts ms) : GF K mg r X O E (.List es pos) (tLst ts) (lstE ms) := by
  obtain ⟨hts, h2⟩ := hs
  refine ⟨pe_lst hts, fun Hs0 H0 Hs H σ env tp Q R P => ?_⟩
  unfold lstE at P
  refine h2 _ _ _ _ _ _ _ _ R ?_
  cases q : ms env tp with
  | ok ds tp1 =>
    rw [q] at P
    intro vs Hs1 H1 g w rs
    by_cases q : ds.length ≤ sizeLine
    · simp only [RE.bind_ok, if_pos q] at P
      refine ⟨by rw [rs.length]; exact q, fun p hp => ?_⟩
      obtain ⟨a, b, c⟩ := fresh_new (o := .lst vs) (d := .lst ds) g w hp ⟨vs, upd_same, rs⟩
      exact P _ _ _ a b c
    · simp only [RE.bind_ok, if_neg q] at P; exact P.elim
  | exn c fs tp1 => rw [q] at P; exact P
  | stuck => rw [q] at P; exact P
def OpS (K : PySem.W.Frag) (mg : Str → Option Value) (r : Addr) (R : R2) (f : D → D → Option D) : Prop := ∀ Hs H tp x y d e z Q, Wd K mg r Hs H tp → RepT K mg r Hs H x d → RepT K mg r Hs H y e → f d e = some z →
  (∀ v Hs' H', Grow r Hs H Hs' H' → Wd K mg r Hs' H' tp → RepD K mg r Hs' v z → Q v H') → R x y H Q
def binE (f : D → D → Option D) (ma mb : SE D) : SE D := fun env tp => (ma env tp).bind fun d tp1 => (mb env tp1).bind fun e tp2 => RE.of (f d e) tp2
theorem bin_sound {R : R2} {f : D → D → Option D} {ma mb : SE D} {ta tb : TE} (hf : OpS K mg r R f) (h1 : ∀ Hs0 H0 Hs H σ env tp Q, Rel K mg r O Hs0 H0 Hs H σ env tp → PostO K mg r E Hs H (ma env tp) Q → ta σ H Q)
    (h2 : ∀ Hs0 H0 Hs H σ env tp Q, Rel K mg r O Hs0 H0 Hs H σ env tp → PostO K mg r E Hs H (mb env tp) Q → tb σ H Q) :
    ∀ Hs0 H0 Hs H σ env tp Q, Rel K mg r O Hs0 H0 Hs H σ env tp → PostE K mg r E Hs H (binE f ma mb env tp) Q → tOp R ta tb σ H Q := by
  intro Hs0 H0 Hs H σ env tp Q Rl P
  refine h1 _ _ _ _ _ _ _ _ Rl (Post.bind P fun v Hs1 H1 d tp1 _ g w rv P1 => ?_)
  refine h2 _ _ _ _ _ _ _ _ (Rl.grow g w) (Post.bind P1 fun u Hs2 H2 e tp2 _ g2 w2 ru P2 => ?_)
  obtain ⟨z, hz, k⟩ := Post.ok_of P2
  exact hf _ _ _ _ _ _ _ _ _ w2 (rv.grow g2) ru hz k
theorem ge_op {op : Operator} {R : R2} {f : D → D → Option D} {ma mb : SE D} (ho : OpR X (binaryOp op) R) (hf : OpS K mg r R f) (ha : GO K mg r X O E a ta ma) (hb : GO K mg r X O E b tb mb) : GE K mg r X O E (.BinOp a op b pos) (tOp R ta tb) (binE f ma mb) :=
  ⟨pe_op ho ha.pe hb.pe, bin_sound hf ha.snd hb.snd⟩
theorem ge_cmp {op : CmpOp} {R : R2} {f : D → D → Option D} {ma mb : SE D} (ho : OpR X (compareOp op) R) (hf : OpS K mg r R f) (ha : GO K mg r X O E a ta ma) (hb : GO K mg r X O E b tb mb) (hm : behindInMarks op b = false) : GE K mg r X O E (.Compare a [op] [b] pos) (tOp R ta tb) (binE f ma mb) :=
  ⟨pe_cmpR ho ha.pe hb.pe hm, bin_sound hf ha.snd hb.snd⟩
/-- two rules for one operator: f is told by the one or the other -/
theorem OpS.or {R R' : R2} {f f1 f2 : D → D → Option D} (h : OpS K mg r R f1) (h' : OpS K mg r R' f2) (hf : ∀ d e z, f d e = some z → f1 d e = some z ∨ f2 d e = some z) : OpS K mg r (fun x y H Q => R x y H Q ∨ R' x y H Q) f := by
  intro Hs H tp x y d e z Q w rx ry hz k
  rcases hf d e z hz with q | q
  · exact .inl (h Hs H tp x y d e z Q w rx ry q k)
  · exact .inr (h' Hs H tp x y d e z Q w rx ry q k)
def chainE (f g : D → D → Option D) (ma mb mc : SE D) : SE D := fun env tp => (ma env tp).bind fun d tp1 => (mb env tp1).bind fun e tp2 => match f d e with
  | some (.bl true) => (mc env tp2).bind fun c tp3 => RE.of (g e c) tp3
  | some (.bl false) => .ok (.bl false) tp2
  | _ => .stuck
theorem chain_sound {R R' : R2} {f g : D → D → Option D} {ma mb mc : SE D} (hf : OpS K mg r R f) (hg : OpS K mg r R' g) (ha : GO K mg r X O E a ta ma) (hb : GO K mg r X O E b tb mb) (hc : GO K mg r X O E c tc mc) :
    ∀ Hs0 H0 Hs H σ env tp Q, Rel K mg r O Hs0 H0 Hs H σ env tp → PostE K mg r E Hs H (chainE f g ma mb mc env tp) Q → tChain R R' ta tb tc σ H Q := by
  intro Hs0 H0 Hs H σ env tp Q Rl P
  refine ha.snd _ _ _ _ _ _ _ _ Rl (Post.bind P fun v Hs1 H1 d tp1 _ g1 w rv P1 => ?_)
  refine hb.snd _ _ _ _ _ _ _ _ (Rl.grow g1 w) (Post.bind P1 fun u Hs2 H2 e tp2 _ g2 w2 ru P2 => ?_)
  cases q : f d e with
  | none => rw [q] at P2; exact P2.elim
  | some z =>
    rw [q] at P2
    refine hf _ _ _ _ _ _ _ _ _ w2 (rv.grow g2) ru q fun y Hs3 H3 g3 w3 ry => ?_
    have P3 := Post.shift g3 P2
    cases z with
    | bl k =>
      cases ry
      refine ⟨k, rfl, ?_⟩
      cases k with
      | false => exact iteF (P3 _ Hs3 H3 (Grow.refl _ _) w3 (.bl _))
      | true =>
        refine iteT (hc.snd _ _ _ _ _ _ _ _ (Rl.grow ((g1.trans g2).trans g3) w3) (Post.bind P3 fun x Hs4 H4 c tp4 _ g4 w4 rx P4 => ?_))
        obtain ⟨z, hz, k⟩ := Post.ok_of P4
        exact hg _ _ _ _ _ _ _ _ _ w4 ((ru.grow g3).grow g4) rx hz k
    | _ => exact P3.elim
theorem ge_chain {op op' : CmpOp} {R R' : R2} {f g : D → D → Option D} {ma mb mc : SE D} (ho : OpR X (compareOp op) R) (ho' : OpR X (compareOp op') R') (hf : OpS K mg r R f) (hg : OpS K mg r R' g) (ha : GO K mg r X O E a ta ma) (hb : GO K mg r X O E b tb mb) (hc : GO K mg r X O E c tc mc)
    (hm : lastMarks [op, op'] [b, c] = false := by with_unfolding_all rfl) : GE K mg r X O E (.Compare a [op, op'] [b, c] pos) (tChain R R' ta tb tc) (chainE f g ma mb mc) :=
  ⟨pe_chain ho ho' ha.pe hb.pe hc.pe hm, chain_sound hf hg ha hb hc⟩
theorem ge_ix {R : R2} {f : D → D → Option D} {ma mb : SE D} (ho : IxR X R) (hf : OpS K mg r R f) (ha : GO K mg r X O E a ta ma) (hb : GO K mg r X O E b tb mb) (hs : PlainIx b := by exact fun _ _ => rfl) : GE K mg r X O E (.Subscript a b pos) (tOp R ta tb) (binE f ma mb) :=
  ⟨pe_ix ho ha.pe hb.pe hs, bin_sound hf ha.snd hb.snd⟩
def UnS (K : PySem.W.Frag) (mg : Str → Option Value) (r : Addr) (R : V → Hp → VK → Prop) (f : D → Option D) : Prop := ∀ Hs H tp x d z Q, Wd K mg r Hs H tp → RepT K mg r Hs H x d → f d = some z →
  (∀ v Hs' H', Grow r Hs H Hs' H' → Wd K mg r Hs' H' tp → RepD K mg r Hs' v z → Q v H') → R x H Q
def unE (f : D → Option D) (ma : SE D) : SE D := fun env tp => (ma env tp).bind fun d tp1 => RE.of (f d) tp1
theorem ge_un {op : UnaryOp} {R : V → Hp → VK → Prop} {f : D → Option D} {ma : SE D} (ho : UnR X (unaryOp op) R) (hf : UnS K mg r R f) (ha : GO K mg r X O E a ta ma) : GE K mg r X O E (.UnaryOp op a pos) (tUn R ta) (unE f ma) := by
  refine ⟨pe_un ho ha.pe, fun Hs0 H0 Hs H σ env tp Q Rl P => ?_⟩
  refine ha.snd _ _ _ _ _ _ _ _ Rl (Post.bind P fun v Hs1 H1 d tp1 _ g w rv P1 => ?_)
  obtain ⟨z, hz, k⟩ := Post.ok_of P1
  exact hf _ _ _ _ _ _ _ w rv hz k
def CallS (K : PySem.W.Frag) (mg : Str → Option Value) (r : Addr) (R : List V → Hp → VK → Prop) (f : List D → Option D) : Prop := ∀ Hs H tp xs ds z Q, Wd K mg r Hs H tp → Paired (RepT K mg r Hs H) xs ds → f ds = some z →
  (∀ v Hs' H', Grow r Hs H Hs' H' → Wd K mg r Hs' H' tp → RepD K mg r Hs' v z → Q v H') → R xs H Q
def callB (f : List D → Option D) (ms : SE (List D)) : SE D := fun env tp => (ms env tp).bind fun ds tp1 => RE.of (f ds) tp1
theorem callB_sound {R : List V → Hp → VK → Prop} {f : List D → Option D} {ms : SE (List D)} (hf : CallS K mg r R f) (h2 : ∀ Hs0 H0 Hs H σ env tp Q, Rel K mg r O Hs0 H0 Hs H σ env tp → PostAO K mg r E Hs H (ms env tp) Q → ts σ H Q) :
    ∀ Hs0 H0 Hs H σ env tp Q, Rel K mg r O Hs0 H0 Hs H σ env tp → PostE K mg r E Hs H (callB f ms env tp) Q → tCB R ts σ H Q := by
  intro Hs0 H0 Hs H σ env tp Q Rl P
  refine h2 _ _ _ _ _ _ _ _ Rl (Post.bind P fun v Hs1 H1 d tp1 _ g w rv P1 => ?_)
  obtain ⟨z, hz, k⟩ := Post.ok_of P1
  exact hf _ _ _ _ _ _ _ w rv hz k
theorem ge_callB {x : Str} {id : String} {p : Pos} {R : List V → Hp → VK → Prop} {f : List D → Option D} {ms : SE (List D)} (hc : CallR X (.builtin id) R) (hf : CallS K mg r R f) (hm : X.mg x = none) (ha : GAO K mg r X O E (e :: es) ts ms) (hg : Gl X x := by rfl)
    (hv : bootBuiltins x = some (.builtin id) := by decide +kernel) (hn : x ≠ "__name__" := by decide) (hdb : (x == ("__debug__" : Str)) = false := by decide)
    (he : starEach (e :: es) X.env = (false, eval e X.env) :: starEach es X.env := by rfl) (hpl : (backTo pos (starEach es X.env)).any (·.1) = false := by rfl) : GE K mg r X O E (.Call (.Name x p) (e :: es) [] pos) (tCB R ts) (callB f ms) :=
  ⟨pe_callB hc hg hm hv ha.pe hn hdb he hpl, callB_sound hf ha.snd⟩
theorem ge_callTy {x : Str} {T : String} {p : Pos} {R : List V → Hp → VK → Prop} {f : List D → Option D} {ms : SE (List D)} (hc : CallR X (.type T) R) (hf : CallS K mg r R f) (hm : X.mg x = none) (ha : GAO K mg r X O E (e :: es) ts ms) (hg : Gl X x := by rfl)
    (hv : bootBuiltins x = some (.type T) := by decide +kernel) (hn : x ≠ "__name__" := by decide) (hdb : (x == ("__debug__" : Str)) = false := by decide)
    (he : starEach (e :: es) X.env = (false, eval e X.env) :: starEach es X.env := by rfl) (hpl : (backTo pos (starEach es X.env)).any (·.1) = false := by rfl) : GE K mg r X O E (.Call (.Name x p) (e :: es) [] pos) (tCB R ts) (callB f ms) :=
  ⟨pe_callTy hc hg hm hv ha.pe hn hdb he hpl, callB_sound hf ha.snd⟩
theorem CallS.or {R R' : List V → Hp → VK → Prop} {f f1 f2 : List D → Option D} (h : CallS K mg r R f1) (h' : CallS K mg r R' f2) (hf : ∀ d z, f d = some z → f1 d = some z ∨ f2 d = some z) : CallS K mg r (fun x H Q => R x H Q ∨ R' x H Q) f := by
  intro Hs H tp xs ds z Q w rx hz k
  rcases hf ds z hz with q | q
  · exact .inl (h Hs H tp xs ds z Q w rx q k)
  · exact .inr (h' Hs H tp xs ds z Q w rx q k)
def isB : D → Option Bool
  | .bl b => some b
  | _ => none
def boolE (m : SE D) : SE Bool := fun env tp => (m env tp).bind fun d tp1 => RE.of (isB d) tp1
theorem repT_bl {Hs H : Hp} {v : V} {b : Bool} (h : RepT K mg r Hs H v (.bl b)) : v = .bl b := by
  rcases h with h | ⟨p, _, _, h⟩
  · cases h; rfl
  · exact h.elim
theorem repT_int {Hs H : Hp} {v : V} {b : Int} (h : RepT K mg r Hs H v (.int b)) : v = .int b := by
  rcases h with h | ⟨p, _, _, h⟩
  · cases h; rfl
  · exact h.elim
theorem repT_str {Hs H : Hp} {v : V} {b : Str} (h : RepT K mg r Hs H v (.str b)) : v = .str b := by
  rcases h with h | ⟨p, _, _, h⟩
  · cases h; rfl
  · exact h.elim
theorem repT_non {Hs H : Hp} {v : V} (h : RepT K mg r Hs H v .non) : v = .non := by
  rcases h with h | ⟨p, _, _, h⟩
  · cases h; rfl
  · exact h.elim
theorem repT_lst {Hs H : Hp} {tp : List D} {v : V} {ds : List D} (w : Wd K mg r Hs H tp) (h : RepT K mg r Hs H v (.lst ds)) : ∃ p vs, v = .ref p ∧ H p = some (.lst vs) ∧ RepDs K mg r Hs vs ds := by
  rcases h with h | ⟨p, e, _, vs, a, b⟩
  · cases h with
    | lst a b => exact ⟨_, _, rfl, (w.sub _ _ a).lst, b⟩
  · exact ⟨p, vs, e, a, b⟩
theorem repT_tup {Hs H : Hp} {tp : List D} {v : V} {ds : List D} (w : Wd K mg r Hs H tp) (h : RepT K mg r Hs H v (.tup ds)) : ∃ p vs, v = .ref p ∧ Rd Hs p (.tup vs) ∧ Rd H p (.tup vs) ∧ RepDs K mg r Hs vs ds := by
  rcases h with h | ⟨p, e, _, a⟩
  · cases h with
    | tupR a b => exact ⟨_, _, rfl, a, Same.rd w.sub a, b⟩
  · exact a.elim
theorem repT_scr {Hs H : Hp} {tp : List D} {v : V} {ns : List Int} (w : Wd K mg r Hs H tp) (h : RepT K mg r Hs H v (.scr ns)) : ∃ p, v = .ref p ∧ SqL K H p (ns.map V.int) := by
  rcases h with h | ⟨p, e, _, a⟩
  · cases h with
    | scr a => exact ⟨_, rfl, Same.seq w.sub a⟩
  · exact a.elim
theorem repT_tape {Hs H : Hp} {v : V} (h : RepT K mg r Hs H v .tape) : v = .ref r := by
  rcases h with h | ⟨p, e, _, a⟩
  · cases h; rfl
  · exact a.elim
theorem boolE_sound {t : TE} {m : SE D} (h1 : ∀ Hs0 H0 Hs H σ env tp Q, Rel K mg r O Hs0 H0 Hs H σ env tp → PostE K mg r E Hs H (m env tp) Q → t σ H Q) :
    ∀ Hs0 H0 Hs H σ env tp Q, Rel K mg r O Hs0 H0 Hs H σ env tp → PostB K mg r E Hs H (boolE m env tp) Q → t σ H (fun x H1 => ∃ c, x = .bl c ∧ Q c H1) := by
  intro Hs0 H0 Hs H σ env tp Q Rl P
  refine h1 _ _ _ _ _ _ _ _ Rl (Post.bind P fun v Hs1 H1 d tp1 _ g w rv P1 => ?_)
  obtain ⟨z, hz, k⟩ := Post.ok_of P1
  cases d with
  | bl b =>
    cases hz; cases rv
    exact ⟨_, rfl, k _ Hs1 H1 (Grow.refl _ _) w rfl⟩
  | _ => cases hz
theorem gt_val {m : SE D} (h : GE K mg r X O E e t m) (he : ∀ whole, isTrue e X.env whole = (do let v ← whole; standAt e.pos; holding [v] (truthy v)) := by intro _; rfl) : GT K mg r X O E e (tB t) (boolE m) :=
  ⟨pt_val h.pe he, boolE_sound h.snd⟩
theorem gt_cmp {op : CmpOp} {R : R2} {f : D → D → Option D} {ma mb : SE D} (ho : OpR X (compareOp op) R) (hf : OpS K mg r R f) (ha : GO K mg r X O E a ta ma) (hb : GO K mg r X O E b tb mb) (hm : behindInMarks op b = false) : GT K mg r X O E (.Compare a [op] [b] pos) (tTest (tOp R ta tb)) (boolE (binE f ma mb)) :=
  ⟨pt_cmpR ho ha.pe hb.pe hm, boolE_sound (bin_sound hf ha.snd hb.snd)⟩
theorem gt_chain {op op' : CmpOp} {R R' : R2} {f g : D → D → Option D} {ma mb mc : SE D} (ho : OpR X (compareOp op) R) (ho' : OpR X (compareOp op') R') (hf : OpS K mg r R f) (hg : OpS K mg r R' g) (ha : GO K mg r X O E a ta ma) (hb : GO K mg r X O E b tb mb) (hc : GO K mg r X O E c tc mc)
    (hm : lastMarks [op, op'] [b, c] = false := by with_unfolding_all rfl) : GT K mg r X O E (.Compare a [op, op'] [b, c] pos) (tTest (tChain R R' ta tb tc)) (boolE (chainE f g ma mb mc)) :=
  ⟨pt_chain ho ho' ha.pe hb.pe hc.pe hm, boolE_sound (chain_sound hf hg ha hb hc)⟩
def notT (m : SE Bool) : SE Bool := fun env tp => (m env tp).bind fun b tp1 => .ok (!b) tp1
def andT (m n : SE Bool) : SE Bool := fun env tp => (m env tp).bind fun b tp1 => if b = true then n env tp1 else .ok false tp1
def orT (m n : SE Bool) : SE Bool := fun env tp => (m env tp).bind fun b tp1 => if b = true then .ok true tp1 else n env tp1
theorem gt_not {m : SE Bool} (h : GT K mg r X O E e tt m) : GT K mg r X O E (.UnaryOp .Not e pos) (tNot tt) (notT m) := by
  refine ⟨pt_not h.pe, fun Hs0 H0 Hs H σ env tp Q Rl P => ?_⟩
  refine h.snd _ _ _ _ _ _ _ _ Rl (Post.bind P fun v Hs1 H1 d tp1 _ g w rv P1 => ?_)
  exact P1 _ Hs1 H1 (Grow.refl _ _) w (by rw [rv])
theorem GW.gt {m : SE Bool} (h : GW K mg r X O E e tt m) : GT K mg r X O E e tt m := ⟨h.pe.pt, h.snd⟩
theorem gw_and1 {m : SE Bool} (h : GT K mg r X O E e tt m) : GW K mg r X O E (.BoolOp .And [e] pos) tt m := ⟨pw_and1 h.pe, h.snd⟩
theorem gw_or1 {m : SE Bool} (h : GT K mg r X O E e tt m) : GW K mg r X O E (.BoolOp .Or [e] pos) tt m := ⟨pw_or1 h.pe, h.snd⟩
theorem gw_and {m n : SE Bool} (h : GT K mg r X O E e tt m) (hb : GW K mg r X O E (.BoolOp .And (b :: es) pos) tu n) : GW K mg r X O E (.BoolOp .And (e :: b :: es) pos) (tAnd tt tu) (andT m n) := by
  refine ⟨pw_and h.pe hb.pe, fun Hs0 H0 Hs H σ env tp Q Rl P => ?_⟩
  refine h.snd _ _ _ _ _ _ _ _ Rl (Post.bind P fun v Hs1 H1 d tp1 _ g w rv P1 => ?_)
  subst rv
  cases v with
  | true => exact iteT (hb.snd _ _ _ _ _ _ _ _ (Rl.grow g w) P1)
  | false => exact iteF (P1 _ Hs1 H1 (Grow.refl _ _) w rfl)
theorem gw_or {m n : SE Bool} (h : GT K mg r X O E e tt m) (hb : GW K mg r X O E (.BoolOp .Or (b :: es) pos) tu n) : GW K mg r X O E (.BoolOp .Or (e :: b :: es) pos) (tOr tt tu) (orT m n) := by
  refine ⟨pw_or h.pe hb.pe, fun Hs0 H0 Hs H σ env tp Q Rl P => ?_⟩
  refine h.snd _ _ _ _ _ _ _ _ Rl (Post.bind P fun v Hs1 H1 d tp1 _ g w rv P1 => ?_)
  subst rv
  cases v with
  | false => exact iteF (hb.snd _ _ _ _ _ _ _ _ (Rl.grow g w) P1)
  | true => exact iteT (P1 _ Hs1 H1 (Grow.refl _ _) w rfl)
def notE (m : SE D) : SE D := fun env tp => (m env tp).bind fun d tp1 => RE.of ((isB d).map fun b => .bl (!b)) tp1
def andE (m n : SE D) : SE D := fun env tp => (m env tp).bind fun d tp1 => match d with
  | .bl true => n env tp1
  | .bl false => .ok (.bl false) tp1
  | _ => .stuck
def orE (m n : SE D) : SE D := fun env tp => (m env tp).bind fun d tp1 => match d with
  | .bl false => n env tp1
  | .bl true => .ok (.bl true) tp1
  | _ => .stuck
theorem ge_one {op} {m : SE D} (h : GE K mg r X O E e t m) : GE K mg r X O E (.BoolOp op [e] pos) t m := ⟨pe_one h.pe, h.snd⟩
theorem ge_not {m : SE D} (h : GE K mg r X O E e t m) : GE K mg r X O E (.UnaryOp .Not e pos) (tNotV t) (notE m) := by
  refine ⟨pe_not h.pe, fun Hs0 H0 Hs H σ env tp Q Rl P => ?_⟩
  refine h.snd _ _ _ _ _ _ _ _ Rl (Post.bind P fun v Hs1 H1 d tp1 _ g w rv P1 => ?_)
  obtain ⟨z, hz, k⟩ := Post.ok_of P1
  cases d with
  | bl b =>
    cases hz; cases rv
    exact ⟨_, rfl, k _ Hs1 H1 (Grow.refl _ _) w (.bl _)⟩
  | _ => cases hz
theorem ge_and {m n : SE D} (h : GE K mg r X O E e ta m) (hb : GE K mg r X O E (.BoolOp .And (b :: es) pos) tb n) : GE K mg r X O E (.BoolOp .And (e :: b :: es) pos) (tAndV ta tb) (andE m n) := by
  refine ⟨pe_and h.pe hb.pe, fun Hs0 H0 Hs H σ env tp Q Rl P => ?_⟩
  refine h.snd _ _ _ _ _ _ _ _ Rl (Post.bind P fun v Hs1 H1 d tp1 _ g w rv P1 => ?_)
  cases d with
  | bl c =>
    cases rv
    refine ⟨c, rfl, ?_⟩
    cases c with
    | true => exact iteT (hb.snd _ _ _ _ _ _ _ _ (Rl.grow g w) P1)
    | false => exact iteF (P1 _ Hs1 H1 (Grow.refl _ _) w (.bl _))
  | _ => exact P1.elim
theorem ge_or {m n : SE D} (h : GE K mg r X O E e ta m) (hb : GE K mg r X O E (.BoolOp .Or (b :: es) pos) tb n) : GE K mg r X O E (.BoolOp .Or (e :: b :: es) pos) (tOrV ta tb) (orE m n) := by
  refine ⟨pe_or h.pe hb.pe, fun Hs0 H0 Hs H σ env tp Q Rl P => ?_⟩
  refine h.snd _ _ _ _ _ _ _ _ Rl (Post.bind P fun v Hs1 H1 d tp1 _ g w rv P1 => ?_)
  cases d with
  | bl c =>
    cases rv
    refine ⟨c, rfl, ?_⟩
    cases c with
    | false => exact iteF (hb.snd _ _ _ _ _ _ _ _ (Rl.grow g w) P1)
    | true => exact iteT (P1 _ Hs1 H1 (Grow.refl _ _) w (.bl _))
  | _ => exact P1.elim
def ifE (c : SE Bool) (m n : SE D) : SE D := fun env tp => (c env tp).bind fun b tp1 => if b = true then m env tp1 else n env tp1
theorem ge_ifExp {mc : SE Bool} {m n : SE D} (hc : GT K mg r X O E c tt mc) (ha : GE K mg r X O E a ta m) (hb : GE K mg r X O E b tb n) : GE K mg r X O E (.IfExp c a b pos) (tIf tt ta tb) (ifE mc m n) := by
  refine ⟨pe_ifExp hc.pe ha.pe hb.pe, fun Hs0 H0 Hs H σ env tp Q Rl P => ?_⟩
  refine hc.snd _ _ _ _ _ _ _ _ Rl (Post.bind P fun v Hs1 H1 d tp1 _ g w rv P1 => ?_)
  subst rv
  cases v with
  | true => exact iteT (ha.snd _ _ _ _ _ _ _ _ (Rl.grow g w) P1)
  | false => exact iteF (hb.snd _ _ _ _ _ _ _ _ (Rl.grow g w) P1)
end
end G
set_option maxHeartbeats 1000000
namespace G
open PySem PySem.Spec PyProof.Rows L2
section
variable {r : Addr} {X : Cx} {K : PySem.W.Frag} {mg : Str → Option Value} {Hs H : Hp} {tp : List D}
def addD : D → D → Option D
  | .int i, .int j => some (.int (i + j))
  | .str a, .str b => if a.length + b.length ≤ sizeLine then some (.str (a ++ b)) else none
  | .tup a, .tup b => if a.length + b.length ≤ sizeLine then some (.tup (a ++ b)) else none
  | .lst a, .lst b => if a.length + b.length ≤ sizeLine then some (.lst (a ++ b)) else none
  | _, _ => none
abbrev rAddD (K : PySem.W.Frag) : R2 := fun x y H Q => (∃ i j, x = .int i ∧ y = .int j ∧ Q (.int (i + j)) H) ∨ (∃ i j, x = .str i ∧ y = .str j ∧ i.length + j.length ≤ sizeLine ∧ Q (.str (i ++ j)) H) ∨ rCatA K x y H Q ∨ rCat x y H Q
theorem opr_add : OpR X (binaryOp .Add) (rAddD X.K) := op_add.or (op_add_str.or (op_catA.or op_cat))
theorem ops_add : OpS K mg r (rAddD K) addD := by
  intro Hs H tp x y d e z Q w rx ry hz k
  unfold addD at hz
  split at hz
  · cases hz
    exact .inl ⟨_, _, repT_int rx, repT_int ry, k _ _ _ (Grow.refl _ _) w (.int _)⟩
  · split at hz
    · rename_i c
      cases hz
      exact .inr (.inl ⟨_, _, repT_str rx, repT_str ry, c, k _ _ _ (Grow.refl _ _) w (.str _)⟩)
    · cases hz
  · split at hz
    · rename_i c
      cases hz
      obtain ⟨p, vs, rfl, h1, h1', h2⟩ := repT_tup w rx
      obtain ⟨q, us, rfl, g1, g1', g2⟩ := repT_tup w ry
      refine .inr (.inr (.inl ⟨p, q, vs, us, rfl, rfl, .inl h1', .inl g1', by rw [h2.length, g2.length]; exact c, fun e => ?_, fun _ e => ?_, fun _ _ a ha => ?_⟩))
      · subst e; cases h2
        exact k _ _ _ (Grow.refl _ _) w (.tupR g1 g2)
      · subst e; cases g2
        rw [List.append_nil] at k
        exact k _ _ _ (Grow.refl _ _) w (.tupR h1 h2)
      · obtain ⟨g, w'⟩ := w.alloc (o := .tup (vs ++ us)) ha
        exact k _ _ _ g w' (.tup upd_same ((h2.append g2).mono g.ex))
    · cases hz
  · split at hz
    · rename_i c
      cases hz
      obtain ⟨p, vs, rfl, h1, h2⟩ := repT_lst w rx
      obtain ⟨q, us, rfl, g1, g2⟩ := repT_lst w ry
      refine .inr (.inr (.inr ⟨p, q, vs, us, rfl, rfl, h1, g1, by rw [h2.length, g2.length]; exact c, fun a ha => ?_⟩))
      obtain ⟨g, w'⟩ := w.alloc (o := .lst (vs ++ us)) ha
      exact k _ _ _ g w' (.lst upd_same ((h2.append g2).mono g.ex))
    · cases hz
  · cases hz
def subD : D → D → Option D
  | .int i, .int j => some (.int (i - j))
  | _, _ => none
theorem ops_sub : OpS K mg r (rI0 fun i j => .int (i - j)) subD := by
  intro Hs H tp x y d e z Q w rx ry hz k
  unfold subD at hz
  split at hz
  · cases hz
    exact ⟨_, _, repT_int rx, repT_int ry, k _ _ _ (Grow.refl _ _) w (.int _)⟩
  · cases hz
def cDiv (j : Int) : Bool := decide (0 < j) && decide (j.natAbs.log2 < 9000)
def fdivD : D → D → Option D
  | .int i, .int j => if cDiv j then some (.int (i / j)) else none
  | _, _ => none
theorem ops_fdiv : OpS K mg r (rI CDivW fun i j => .int (i / j)) fdivD := by
  intro Hs H tp x y d e z Q w rx ry hz k
  unfold fdivD at hz
  split at hz
  · split at hz
    · rename_i c
      cases hz
      have c := Bool.and_eq_true_iff.mp c
      exact ⟨_, _, repT_int rx, repT_int ry, ⟨of_decide_eq_true c.1, of_decide_eq_true c.2⟩, k _ _ _ (Grow.refl _ _) w (.int _)⟩
    · cases hz
  · cases hz
def modD : D → D → Option D
  | .int i, .int j => if 0 < j then some (.int (i % j)) else none
  | _, _ => none
theorem ops_mod : OpS K mg r (rI (fun _ j => 0 < j) fun i j => .int (i % j)) modD := by
  intro Hs H tp x y d e z Q w rx ry hz k
  unfold modD at hz
  split at hz
  · split at hz
    · rename_i c
      cases hz
      exact ⟨_, _, repT_int rx, repT_int ry, c, k _ _ _ (Grow.refl _ _) w (.int _)⟩
    · cases hz
  · cases hz
def cPow (i j : Int) : Bool := decide (0 ≤ j) && (decide (j ≤ 1000000) && decide (i.natAbs < 2 ^ 64))
theorem cPow_ok {i j : Int} (h : cPow i j = true) : CPow i j := by
  have h := Bool.and_eq_true_iff.mp h
  have h2 := Bool.and_eq_true_iff.mp h.2
  exact ⟨of_decide_eq_true h.1, of_decide_eq_true h2.1, of_decide_eq_true h2.2⟩
def powD : D → D → Option D
  | .int i, .int j => if cPow i j then some (.int (i ^ j.toNat)) else none
  | _, _ => none
theorem ops_pow : OpS K mg r (rI CPow fun i j => .int (i ^ j.toNat)) powD := by
  intro Hs H tp x y d e z Q w rx ry hz k
  unfold powD at hz
  split at hz
  · split at hz
    · rename_i c
      cases hz
      exact ⟨_, _, repT_int rx, repT_int ry, cPow_ok c, k _ _ _ (Grow.refl _ _) w (.int _)⟩
    · cases hz
  · cases hz
def negD : D → Option D
  | .int i => some (.int (-i))
  | _ => none
theorem uns_neg : UnS K mg r (rU fun i => .int (-i)) negD := by
  intro Hs H tp x d z Q w rx hz k
  unfold negD at hz
  split at hz
  · cases hz
    exact ⟨_, repT_int rx, k _ _ _ (Grow.refl _ _) w (.int _)⟩
  · cases hz
theorem mulOk_small {x : Str} {n : Int} (h0 : 0 ≤ n) (h : (x.length : Int) * n ≤ 16777216) (h1 : n ≤ 16777216) : MulOk x n := by
  have hm : x.length * n.toNat ≤ 16777216 := by
    obtain ⟨k, rfl⟩ := Int.eq_ofNat_of_zero_le h0
    have : ((x.length * k : Nat) : Int) ≤ 16777216 := by rw [Int.natCast_mul]; exact h
    rw [Int.toNat_natCast]; omega
  refine ⟨by simp only [Bool.or_eq_false_iff, decide_eq_false_iff_not]; omega, fun a b => ?_, fun a b => ?_⟩
  · have h2 : (x.length : Int) ≤ (2 ^ 63 - 1) / n := (Int.le_ediv_iff_mul_le (by omega)).mpr (by omega)
    omega
  · unfold Builtin.Str.tooLong; simp only [decide_eq_false_iff_not]; rw [sizeLine_eq]; omega
theorem op_mul_str : OpR X (binaryOp .Mult) (fun x y H Q => ∃ (a : Str) (n : Int), x = .str a ∧ y = .int n ∧ 0 ≤ n ∧ (a.length : Int) * n ≤ 16777216 ∧ n ≤ 16777216 ∧ Q (.str (Txt.mul a n)) H) := by
  intro pins s σ H x y v u Q I rx ry h
  obtain ⟨a, n, rfl, rfl, h0, h1, h2, q⟩ := h
  obtain ⟨t, rfl⟩ := rx
  obtain ⟨t', rfl⟩ := ry
  exact SB.mul (mulOk_small h0 h1 h2) fun t2 k => ⟨.str _, H, I.tok _, ⟨_, rfl⟩, q⟩
def cMul (i j : Int) : Bool := decide (i.natAbs.log2 + j.natAbs.log2 < 1000000)
def cRep (n : Nat) (k : Int) : Bool := decide (0 ≤ k) && (decide ((n : Int) * k ≤ 16777216) && decide (k ≤ 16777216))
theorem cRep_ok {n : Nat} {k : Int} (h : cRep n k = true) : 0 ≤ k ∧ (n : Int) * k ≤ 16777216 ∧ k ≤ 16777216 := by
  have h := Bool.and_eq_true_iff.mp h
  have h2 := Bool.and_eq_true_iff.mp h.2
  exact ⟨of_decide_eq_true h.1, of_decide_eq_true h2.1, of_decide_eq_true h2.2⟩
theorem tuple_mul1 (l : Addr) (items : Array Value) (n : Nat) (dd : Option Addr) (sl : Array (Option Value)) (u : Tok) :
    Meets (Builtin.«tuple.__mul__» ⟨[.ref l, .int 1 u], []⟩) (fun _ R s => s.heap.get? l = some { cls := .type "tuple", dict := dd, data := .seq items n, slots := sl } ∧
      R (.ok (.ret (Value.ref l))) s) :=
  .of_wp fun prog w A R s h => by
    obtain ⟨hp, g, d, tk, os⟩ := s
    obtain ⟨hl, h⟩ := h
    have f1 := AutoSeq1.idx_int
    have c1 : (items.isEmpty || (1 : Int) == 1) = true := by simp
    have c0 : (decide ((1 : Int) < -(2 ^ 63)) || decide ((1 : Int) ≥ 2 ^ 63)) = false := by decide
    wp_walk using wpAny_loadPart' hl
    exact ⟨_, rfl, h⟩
def rRepT1 (K : PySem.W.Frag) : R2 := fun x y H Q => ∃ l xs, x = .ref l ∧ y = .int 1 ∧ SqT K H l xs ∧ Q (.ref l) H
theorem op_repT1 {X : Cx} : OpR X (binaryOp .Mult) (rRepT1 X.K) := by
  intro pins s σ H x y v u Q I rx ry h
  obtain ⟨l, xs, rfl, rfl, hT, q⟩ := h
  cases rx
  obtain ⟨t, rfl⟩ := ry
  obtain ⟨its, r, ⟨⟨cls, dd, data, sl⟩, ho, hc, n, hd⟩, hs⟩ := I.tuple hT
  simp only at hc hd
  subst hc hd
  refine wpAny_binaryOp_repeat_ref (T := "tuple") (U := "int") (by decide) ⟨_, ho, rfl⟩ (fun s' => typeIs_int s' 1 t) noFill_tuple_mul F.fills_int_mul F.slot_int_rmul repeat_tuple F.slot_int_index.lookup
    (call_meets F.slot_int_rmul (typeIs_int s 1 t) F.entry_int_rmul (F.args_int_rmul_2 _ _) (int_rmul_tuple 1 t l its.toArray n dd sl)
      ⟨ho, rfl, ⟨_, ho, rfl⟩, call_meets F.slot_tuple_mul ⟨_, ho, rfl⟩ F.entry_tuple_mul (F.args_tuple_mul_2 _ _) (tuple_mul1 l its.toArray n dd sl t) ⟨ho, ?_⟩⟩)
  exact ⟨.ref l, H, I, rfl, q⟩
theorem tuple_mul0 (l : Addr) (items : Array Value) (n : Nat) (dd : Option Addr) (sl : Array (Option Value)) (u : Tok) (c1 : (items.isEmpty || (0 : Int) == 1) = false) :
    Meets (Builtin.«tuple.__mul__» ⟨[.ref l, .int 0 u], []⟩) (fun _ R s => s.heap.get? l = some { cls := .type "tuple", dict := dd, data := .seq items n, slots := sl } ∧
      R (.ok (.ret (Value.ref s.heap.objs.size))) { s with heap := s.heap.push { cls := Value.type "tuple", data := Data.seq #[] }, toks := s.toks }) :=
  .of_wp fun prog w A R s h => by
    obtain ⟨hp, g, d, tk, os⟩ := s
    obtain ⟨hl, h⟩ := h
    have f1 := AutoSeq1.idx_int
    have c0 : (decide ((0 : Int) < -(2 ^ 63)) || decide ((0 : Int) ≥ 2 ^ 63)) = false := by decide
    have c2 : (decide ((0 : Int) ≤ 0) || items.isEmpty) = true := by simp
    wp_walk using wpAny_loadPart' hl
    repeat (first
      | (refine wpAny_ite_false (decide_eq_false (by rw [c0]; exact Bool.false_ne_true)) ?_; wp_walk using wpAny_loadPart' hl)
      | (refine wpAny_ite_false (decide_eq_false (by rw [c1]; exact Bool.false_ne_true)) ?_; wp_walk using wpAny_loadPart' hl)
      | (refine wpAny_ite_true (decide_eq_true c2) ?_; wp_walk using wpAny_loadPart' hl))
    exact ⟨_, rfl, h⟩
def rRepT0 (K : PySem.W.Frag) : R2 := fun x y H Q => ∃ l xs, x = .ref l ∧ y = .int 0 ∧ SqT K H l xs ∧ xs ≠ [] ∧ ∀ p, H p = none → Q (.ref p) (upd H p (.tup []))
theorem op_repT0 {X : Cx} : OpR X (binaryOp .Mult) (rRepT0 X.K) := by
  intro pins s σ H x y v u Q I rx ry h
  obtain ⟨l, xs, rfl, rfl, hT, hne, q⟩ := h
  cases rx
  obtain ⟨t, rfl⟩ := ry
  obtain ⟨its, r, ⟨⟨cls, dd, data, sl⟩, ho, hc, n, hd⟩, hs⟩ := I.tuple hT
  simp only at hc hd
  subst hc hd
  have hi : its.toArray.isEmpty = false := by
    cases its with
    | nil => exact absurd (List.eq_nil_of_length_eq_zero r.length) hne
    | cons a b => rfl
  have c1 : (its.toArray.isEmpty || (0 : Int) == 1) = false := by rw [hi]; rfl
  refine wpAny_binaryOp_repeat_ref (T := "tuple") (U := "int") (by decide) ⟨_, ho, rfl⟩ (fun s' => typeIs_int s' 0 t) noFill_tuple_mul F.fills_int_mul F.slot_int_rmul repeat_tuple F.slot_int_index.lookup
    (call_meets F.slot_int_rmul (typeIs_int s 0 t) F.entry_int_rmul (F.args_int_rmul_2 _ _) (int_rmul_tuple 0 t l its.toArray n dd sl)
      ⟨ho, rfl, ⟨_, ho, rfl⟩, call_meets F.slot_tuple_mul ⟨_, ho, rfl⟩ F.entry_tuple_mul (F.args_tuple_mul_2 _ _) (tuple_mul0 l its.toArray n dd sl t c1) ⟨ho, ?_⟩⟩)
  refine ⟨.ref s.heap.objs.size, _, I.laid (t' := s.toks) (o := .tup []) (fun b ob q => Heap.get?_push_of_some _ q) (Nat.le_refl _) ?_, rfl, q _ (I.hok.fresh (Nat.le_refl _))⟩
  exact ⟨Nat.zero_le _, [], .nil, IsTup.new _ _⟩
def cRepT (n : Nat) (k : Int) : Bool := decide (0 < n) && (decide (n ≤ 1000) && (decide (0 ≤ k) && decide (k ≤ 1000)))
theorem cRepT_ok {n : Nat} {k : Int} (h : cRepT n k = true) : 0 < n ∧ n ≤ 1000 ∧ 0 ≤ k ∧ k ≤ 1000 := by
  have h := Bool.and_eq_true_iff.mp h
  have h2 := Bool.and_eq_true_iff.mp h.2
  have h3 := Bool.and_eq_true_iff.mp h2.2
  exact ⟨of_decide_eq_true h.1, of_decide_eq_true h2.1, of_decide_eq_true h3.1, of_decide_eq_true h3.2⟩
def mulD : D → D → Option D
  | .int i, .int j => if cMul i j then some (.int (i * j)) else none
  | .str a, .int n => if cRep a.length n then some (.str (Txt.mul a n)) else none
  | .lst a, .int n => if cRep a.length n then some (.lst (List.replicate n.toNat a).flatten) else none
  | .tup a, .int n => if cRepT a.length n then some (.tup (List.replicate n.toNat a).flatten) else none
  | _, _ => none
abbrev rMulD (K : PySem.W.Frag) : R2 := fun x y H Q => (∃ i j, x = .int i ∧ y = .int j ∧ CMulW i j ∧ Q (.int (i * j)) H) ∨ (∃ (a : Str) (n : Int), x = .str a ∧ y = .int n ∧ 0 ≤ n ∧ (a.length : Int) * n ≤ 16777216 ∧ n ≤ 16777216 ∧ Q (.str (Txt.mul a n)) H) ∨ rRep x y H Q ∨ rRepT K x y H Q ∨ rRepT1 K x y H Q ∨ rRepT0 K x y H Q
theorem opr_mul : OpR X (binaryOp .Mult) (rMulD X.K) := op_mulW.or (op_mul_str.or (op_rep.or (op_repT.or (op_repT1.or op_repT0))))
theorem RepDs.rep {vs : List V} {ds : List D} (h : RepDs K mg r Hs vs ds) : ∀ n : Nat, RepDs K mg r Hs (List.replicate n vs).flatten (List.replicate n ds).flatten
  | 0 => .nil
  | n + 1 => by
    rw [List.replicate_succ, List.replicate_succ, List.flatten_cons, List.flatten_cons]
    exact h.append (RepDs.rep h n)
theorem ops_mul : OpS K mg r (rMulD K) mulD := by
  intro Hs H tp x y d e z Q w rx ry hz k
  unfold mulD at hz
  split at hz
  · split at hz
    · rename_i c
      cases hz
      exact .inl ⟨_, _, repT_int rx, repT_int ry, (show _ < _ from of_decide_eq_true c), k _ _ _ (Grow.refl _ _) w (.int _)⟩
    · cases hz
  · split at hz
    · rename_i c
      cases hz
      have c := cRep_ok c
      exact .inr (.inl ⟨_, _, repT_str rx, repT_int ry, c.1, c.2.1, c.2.2, k _ _ _ (Grow.refl _ _) w (.str _)⟩)
    · cases hz
  · split at hz
    · rename_i a n c
      cases hz
      have c := cRep_ok c
      obtain ⟨p, vs, rfl, h1, h2⟩ := repT_lst w rx
      rw [repT_int ry]
      refine .inr (.inr (.inl ⟨p, n, vs, rfl, rfl, h1, by omega, by omega, ?_, fun q hq => ?_⟩))
      · rw [h2.length, sizeLine_eq]
        have : ((a.length * n.toNat : Nat) : Int) ≤ 16777216 := by
          rw [Int.natCast_mul, Int.toNat_of_nonneg c.1]; exact c.2.1
        omega
      · obtain ⟨g, w'⟩ := w.alloc (o := .lst (List.replicate n.toNat vs).flatten) hq
        exact k _ _ _ g w' (.lst upd_same ((h2.rep _).mono g.ex))
    · cases hz
  · split at hz
    · rename_i a n c
      cases hz
      have c := cRepT_ok c
      obtain ⟨p, vs, rfl, h0, h1, h2⟩ := repT_tup w rx
      rw [repT_int ry]
      have lv : vs.length = a.length := h2.length
      by_cases n1 : n = 1
      · subst n1
        refine .inr (.inr (.inr (.inr (.inl ⟨p, vs, rfl, rfl, .inl h1, k _ _ _ (Grow.refl _ _) w (.tupR h0 ?_)⟩))))
        have e : (List.replicate (Int.toNat 1) a).flatten = a := by show (List.replicate 1 a).flatten = a; simp
        rw [e]; exact h2
      · by_cases n0 : n = 0
        · subst n0
          refine .inr (.inr (.inr (.inr (.inr ⟨p, vs, rfl, rfl, .inl h1, ?_, fun q hq => ?_⟩))))
          · intro e; subst e; simp at lv; omega
          · obtain ⟨g, w'⟩ := w.alloc (o := .tup []) hq
            exact k _ _ _ g w' (.tup upd_same .nil)
        refine .inr (.inr (.inr (.inl ⟨p, n, vs, rfl, rfl, .inl h1, ?_, by omega, by omega, by omega, fun q hq => ?_⟩)))
        · intro e; subst e; simp at lv; omega
        · obtain ⟨g, w'⟩ := w.alloc (o := .tup (List.replicate n.toNat vs).flatten) hq
          exact k _ _ _ g w' (.tup upd_same ((h2.rep _).mono g.ex))
    · cases hz
  · cases hz
def ltD : D → D → Option D
  | .int i, .int j => some (.bl (decide (i < j)))
  | .str i, .str j => some (.bl (decide (i.cps.toList < j.cps.toList)))
  | _, _ => none
theorem ops_lt : OpS K mg r (fun x y H Q => (∃ i j, x = .int i ∧ y = .int j ∧ Q (.bl (decide (i < j))) H) ∨ (∃ i j, x = .str i ∧ y = .str j ∧ Q (.bl (decide (i.cps.toList < j.cps.toList))) H)) ltD := by
  intro Hs H tp x y d e z Q w rx ry hz k
  unfold ltD at hz
  split at hz
  · cases hz
    exact .inl ⟨_, _, repT_int rx, repT_int ry, k _ _ _ (Grow.refl _ _) w (.bl _)⟩
  · cases hz
    exact .inr ⟨_, _, repT_str rx, repT_str ry, k _ _ _ (Grow.refl _ _) w (.bl _)⟩
  · cases hz
theorem opr_lt : OpR X (compareOp .Lt) (fun x y H Q => (∃ i j, x = .int i ∧ y = .int j ∧ Q (.bl (decide (i < j))) H) ∨ (∃ i j, x = .str i ∧ y = .str j ∧ Q (.bl (decide (i.cps.toList < j.cps.toList))) H)) := op_lt.or op_lt_str
def leD : D → D → Option D
  | .int i, .int j => some (.bl (decide (i ≤ j)))
  | _, _ => none
def gtD : D → D → Option D
  | .int i, .int j => some (.bl (decide (j < i)))
  | _, _ => none
def geD : D → D → Option D
  | .int i, .int j => some (.bl (decide (j ≤ i)))
  | _, _ => none
theorem ops_le : OpS K mg r (rI0 fun i j => .bl (decide (i ≤ j))) leD := by
  intro Hs H tp x y d e z Q w rx ry hz k
  unfold leD at hz
  split at hz
  · cases hz
    exact ⟨_, _, repT_int rx, repT_int ry, k _ _ _ (Grow.refl _ _) w (.bl _)⟩
  · cases hz
theorem ops_gt : OpS K mg r (rI0 fun i j => .bl (decide (j < i))) gtD := by
  intro Hs H tp x y d e z Q w rx ry hz k
  unfold gtD at hz
  split at hz
  · cases hz
    exact ⟨_, _, repT_int rx, repT_int ry, k _ _ _ (Grow.refl _ _) w (.bl _)⟩
  · cases hz
theorem ops_ge : OpS K mg r (rI0 fun i j => .bl (decide (j ≤ i))) geD := by
  intro Hs H tp x y d e z Q w rx ry hz k
  unfold geD at hz
  split at hz
  · cases hz
    exact ⟨_, _, repT_int rx, repT_int ry, k _ _ _ (Grow.refl _ _) w (.bl _)⟩
  · cases hz
theorem dpAll_ints {H : Hp} : ∀ ns : List Int, DpAll K H (ns.map V.int) (ns.map PyData.int)
  | [] => .nil
  | n :: ns => .cons (.int n) (dpAll_ints ns)
mutual
theorem RepD.dp (w : Same Hs H) : ∀ {v : V} {d : D}, RepD K mg r Hs v d → d.pd.plain = true → Dp K H v d.pd
  | _, _, .non, _ => .non
  | _, _, .bl b, _ => .bl b
  | _, _, .int i, _ => .int i
  | _, _, .str s, _ => .str s
  | _, _, .tupR (ds := ds) h q, p => .tup (.inl (Same.rd w h)) (RepDs.dp w q (by simpa only [D.pd, PyData.plain] using p))
  | _, _, .tuq (ds := ds) h _ q, p => .tup (.inl (.inr ⟨_, (w _ _ h).frz⟩)) (RepDs.dp w q (by simpa only [D.pd, PyData.plain] using p))
  | _, _, .lst (ds := ds) h q, p => .lst (.of (w _ _ h).lst) (RepDs.dp w q (by simpa only [D.pd, PyData.plain] using p))
  | _, _, .scr (ns := ns) h, _ => .lst (Same.seq w h) (dpAll_ints ns)
  | _, _, .dicK _ _, p => by simp only [D.pd, PyData.plain] at p; cases p
  | _, _, .dicT _ _, p => by simp only [D.pd, PyData.plain] at p; cases p
  | _, _, .tape, p => by simp only [D.pd, PyData.plain] at p; cases p
  | _, _, .fn _, p => by simp only [D.pd, PyData.plain] at p; cases p
  | _, _, .ty _, p => by simp only [D.pd, PyData.plain] at p; cases p
theorem RepDs.dp (w : Same Hs H) : ∀ {vs : List V} {ds : List D}, RepDs K mg r Hs vs ds → PyData.plainAll (pdAll ds) = true → DpAll K H vs (pdAll ds)
  | _, _, .nil, _ => .nil
  | _, _, .cons h q, p => by
    simp only [pdAll, PyData.plainAll, Bool.and_eq_true] at p
    exact .cons (RepD.dp w h p.1) (RepDs.dp w q p.2)
end
theorem RepT.dp {v : V} {d : D} (w : Wd K mg r Hs H tp) (h : RepT K mg r Hs H v d) (p : d.pd.plain = true) : Dp K H v d.pd := by
  rcases h with h | ⟨a, rfl, _, h⟩
  · exact RepD.dp w.sub h p
  · cases d with
    | lst ds =>
      obtain ⟨vs, h1, h2⟩ := h
      exact .lst (.of h1) (RepDs.dp w.sub h2 (by simpa only [D.pd, PyData.plain] using p))
    | dic ds => simp only [D.pd, PyData.plain] at p; cases p
    | dct ds => simp only [D.pd, PyData.plain] at p; cases p
    | _ => exact h.elim
/-- may be compared -/
def D.okq (d : D) : Bool := d.pd.plain && decide (d.pd.depth ≤ 60)
theorem okq_ok {d : D} (h : d.okq = true) : d.pd.plain = true ∧ d.pd.depth ≤ 60 := by
  have h := Bool.and_eq_true_iff.mp h
  exact ⟨h.1, of_decide_eq_true h.2⟩
def eqD (d e : D) : Option D := if d.okq && e.okq then some (.bl (PyData.eqv d.pd e.pd)) else none
def neD (d e : D) : Option D := if d.okq && e.okq then some (.bl (!PyData.eqv d.pd e.pd)) else none
def rEqP (K : PySem.W.Frag) : R2 := fun x y H Q => ∃ d e, Dp K H x d ∧ Dp K H y e ∧ d.plain = true ∧ e.plain = true ∧ d.depth ≤ 60 ∧ Q (.bl (PyData.eqv d e)) H
def rNeP (K : PySem.W.Frag) : R2 := fun x y H Q => ∃ d e, Dp K H x d ∧ Dp K H y e ∧ d.plain = true ∧ e.plain = true ∧ d.depth ≤ 60 ∧ Q (.bl (!PyData.eqv d e)) H
theorem op_eqP (hu : X.A.units + 64 < cLine) : OpR X (compareOp .Eq) (rEqP X.K) := by
  intro pins s σ H x y v u Q I rx ry h
  obtain ⟨d, e, hd, he, sd, se, dd, q⟩ := h
  obtain ⟨as, r1⟩ := Dp.reads I d x v hd rx
  obtain ⟨bs, r2⟩ := Dp.reads I e y u he ry
  have : min d.depth e.depth ≤ d.depth := Nat.min_le_left _ _
  exact SeqAt.eq_plain r1 r2 sd se (by omega) ⟨.bl _, H, I, rfl, q⟩
theorem op_neP (hu : X.A.units + 64 < cLine) : OpR X (compareOp .NotEq) (rNeP X.K) := by
  intro pins s σ H x y v u Q I rx ry h
  obtain ⟨d, e, hd, he, sd, se, dd, q⟩ := h
  obtain ⟨as, r1⟩ := Dp.reads I d x v hd rx
  obtain ⟨bs, r2⟩ := Dp.reads I e y u he ry
  have : min d.depth e.depth ≤ d.depth := Nat.min_le_left _ _
  exact SeqAt.ne_plain r1 r2 sd se (by omega) ⟨.bl _, H, I, rfl, q⟩
theorem ops_eq : OpS K mg r (rEqP K) eqD := by
  intro Hs H tp x y d e z Q w rx ry hz k
  unfold eqD at hz
  split at hz
  · rename_i c
    cases hz
    have c := Bool.and_eq_true_iff.mp c
    have c1 := okq_ok c.1
    have c2 := okq_ok c.2
    exact ⟨d.pd, e.pd, rx.dp w c1.1, ry.dp w c2.1, c1.1, c2.1, c1.2, k _ _ _ (Grow.refl _ _) w (.bl _)⟩
  · cases hz
theorem ops_ne : OpS K mg r (rNeP K) neD := by
  intro Hs H tp x y d e z Q w rx ry hz k
  unfold neD at hz
  split at hz
  · rename_i c
    cases hz
    have c := Bool.and_eq_true_iff.mp c
    have c1 := okq_ok c.1
    have c2 := okq_ok c.2
    exact ⟨d.pd, e.pd, rx.dp w c1.1, ry.dp w c2.1, c1.1, c2.1, c1.2, k _ _ _ (Grow.refl _ _) w (.bl _)⟩
  · cases hz
/-- x in a list | tuple -/
def itemsD : D → Option (List D)
  | .lst xs => some xs
  | .tup xs => some xs
  | _ => none
def memD (d : D) (xs : List D) : Bool := xs.any fun z => PyData.eqv z.pd d.pd
def inD (d e : D) : Option D := (itemsD e).bind fun xs => if d.okq && e.okq then some (.bl (memD d xs)) else none
def notInD (d e : D) : Option D := (itemsD e).bind fun xs => if d.okq && e.okq then some (.bl (!memD d xs)) else none
def rInP (K : PySem.W.Frag) (neg : Bool) : R2 := fun x y H Q => ∃ d ds, Dp K H x d ∧ (Dp K H y (.list ds) ∨ Dp K H y (.tuple ds)) ∧ d.plain = true ∧ PyData.plainAll ds = true ∧ d.depth ≤ 60 ∧ Q (.bl (if neg then !(ds.any fun z => PyData.eqv z d) else ds.any fun z => PyData.eqv z d)) H
theorem op_inP (hu : X.A.units + 64 < cLine) : OpR X (compareOp .In) (rInP X.K false) := by
  intro pins s σ H x y v u Q I rx ry h
  obtain ⟨d, ds, hd, he, sd, se, dd, q⟩ := h
  obtain ⟨as, r1⟩ := Dp.reads I d x v hd rx
  have hm : min (PyData.depthAll ds) d.depth ≤ d.depth := Nat.min_le_right _ _
  rcases he with he | he
  · obtain ⟨bs, r2⟩ := Dp.reads I _ y u he ry
    exact SeqAt.in_list_data r2 r1 se sd (by omega) ⟨.bl _, H, I, rfl, q⟩
  · obtain ⟨bs, r2⟩ := Dp.reads I _ y u he ry
    exact SeqAt.in_tuple_data r2 r1 se sd (by omega) ⟨.bl _, H, I, rfl, q⟩
theorem op_notInP (hu : X.A.units + 64 < cLine) : OpR X (compareOp .NotIn) (rInP X.K true) := by
  intro pins s σ H x y v u Q I rx ry h
  obtain ⟨d, ds, hd, he, sd, se, dd, q⟩ := h
  obtain ⟨as, r1⟩ := Dp.reads I d x v hd rx
  have hm : min (PyData.depthAll ds) d.depth ≤ d.depth := Nat.min_le_right _ _
  rcases he with he | he
  · obtain ⟨bs, r2⟩ := Dp.reads I _ y u he ry
    exact SeqAt.notIn_list_data r2 r1 se sd (by omega) ⟨.bl _, H, I, rfl, q⟩
  · obtain ⟨bs, r2⟩ := Dp.reads I _ y u he ry
    exact SeqAt.notIn_tuple_data r2 r1 se sd (by omega) ⟨.bl _, H, I, rfl, q⟩
theorem any_pd (d : D) (xs : List D) : ((pdAll xs).any fun z => PyData.eqv z d.pd) = memD d xs := by
  unfold memD
  rw [pdAll_map, List.any_map]
  rfl
theorem in_core {neg : Bool} {Hs H tp x y d e} {Q : VK} {xs : List D} (w : Wd K mg r Hs H tp) (rx : RepT K mg r Hs H x d) (ry : RepT K mg r Hs H y e) (hi : itemsD e = some xs) (hc : (d.okq && e.okq) = true)
    (k : Q (V.bl (if neg then !memD d xs else memD d xs)) H) : rInP K neg x y H Q := by
  have c := Bool.and_eq_true_iff.mp hc
  have c1 := okq_ok c.1
  have c2 := okq_ok c.2
  have hy := ry.dp w c2.1
  refine ⟨d.pd, pdAll xs, rx.dp w c1.1, ?_, c1.1, ?_, c1.2, by rw [any_pd]; exact k⟩
  · cases e with
    | lst es => cases hi; exact .inl hy
    | tup es => cases hi; exact .inr hy
    | _ => cases hi
  · cases e with
    | lst es => cases hi; simpa only [D.pd, PyData.plain] using c2.1
    | tup es => cases hi; simpa only [D.pd, PyData.plain] using c2.1
    | _ => cases hi
theorem ops_in : OpS K mg r (rInP K false) inD := by
  intro Hs H tp x y d e z Q w rx ry hz k
  unfold inD at hz
  obtain ⟨xs, h1, h2⟩ := Option.bind_eq_some_iff.mp hz
  split at h2
  · rename_i c
    cases h2
    exact in_core w rx ry h1 c (k _ _ _ (Grow.refl _ _) w (.bl _))
  · cases h2
theorem ops_notIn : OpS K mg r (rInP K true) notInD := by
  intro Hs H tp x y d e z Q w rx ry hz k
  unfold notInD at hz
  obtain ⟨xs, h1, h2⟩ := Option.bind_eq_some_iff.mp hz
  split at h2
  · rename_i c
    cases h2
    exact in_core w rx ry h1 c (k _ _ _ (Grow.refl _ _) w (.bl _))
  · cases h2
def isNoneD (d e : D) : Option D := match d, e with
  | .non, .non => some (.bl true)
  | .bl a, .bl b => some (.bl (decide (a = b)))
  | _, .non => some (.bl false)
  | _, _ => none
def isNotNoneD (d e : D) : Option D := match d, e with
  | .non, .non => some (.bl false)
  | .bl a, .bl b => some (.bl (!decide (a = b)))
  | _, .non => some (.bl true)
  | _, _ => none
theorem repT_ne_non {v : V} {d : D} (h : RepT K mg r Hs H v d) (n : d ≠ .non) : decide (v = .non) = false := by
  refine decide_eq_false fun e => ?_
  subst e
  rcases h with h | ⟨p, e, _⟩
  · cases h; exact n rfl
  · cases e
theorem ops_is : OpS K mg r (fun x y H Q => (y = .non ∧ Q (.bl (decide (x = .non))) H) ∨ ∃ a b, x = .bl a ∧ y = .bl b ∧ Q (.bl (decide (a = b))) H) isNoneD := by
  intro Hs H tp x y d e z Q w rx ry hz k
  unfold isNoneD at hz
  split at hz
  · cases hz
    rw [repT_non rx, repT_non ry]
    exact .inl ⟨rfl, k _ _ _ (Grow.refl _ _) w (.bl _)⟩
  · cases hz
    rw [repT_bl rx, repT_bl ry]
    exact .inr ⟨_, _, rfl, rfl, k _ _ _ (Grow.refl _ _) w (.bl _)⟩
  · cases hz
    refine .inl ⟨repT_non ry, ?_⟩
    rw [repT_ne_non rx (by intro e; subst e; simp_all)]
    exact k _ _ _ (Grow.refl _ _) w (.bl _)
  · cases hz
theorem ops_isNot : OpS K mg r (fun x y H Q => (y = .non ∧ Q (.bl (!decide (x = .non))) H) ∨ ∃ a b, x = .bl a ∧ y = .bl b ∧ Q (.bl (!decide (a = b))) H) isNotNoneD := by
  intro Hs H tp x y d e z Q w rx ry hz k
  unfold isNotNoneD at hz
  split at hz
  · cases hz
    rw [repT_non rx, repT_non ry]
    exact .inl ⟨rfl, k _ _ _ (Grow.refl _ _) w (.bl _)⟩
  · cases hz
    rw [repT_bl rx, repT_bl ry]
    exact .inr ⟨_, _, rfl, rfl, k _ _ _ (Grow.refl _ _) w (.bl _)⟩
  · cases hz
    refine .inl ⟨repT_non ry, ?_⟩
    rw [repT_ne_non rx (by intro e; subst e; simp_all)]
    exact k _ _ _ (Grow.refl _ _) w (.bl _)
  · cases hz
theorem opr_is : OpR X (compareOp .Is) (fun x y H Q => (y = .non ∧ Q (.bl (decide (x = .non))) H) ∨ ∃ a b, x = .bl a ∧ y = .bl b ∧ Q (.bl (decide (a = b))) H) := op_isN.or op_is_bl
theorem opr_isNot : OpR X (compareOp .IsNot) (fun x y H Q => (y = .non ∧ Q (.bl (!decide (x = .non))) H) ∨ ∃ a b, x = .bl a ∧ y = .bl b ∧ Q (.bl (!decide (a = b))) H) := op_notN.or op_isnot_bl
def ixD : D → D → Option D
  | .lst xs, .int i => atI xs i
  | .tup xs, .int i => atI xs i
  | .scr ns, .int i => (atI ns i).map .int
  | .str s, .int i => if s.length ≤ sizeLine then (atI s.cps.toList i).map fun c => .str ⟨#[c]⟩ else none
  | _, _ => none
theorem atI_rep {vs : List V} {ds : List D} {i : Int} {d : D} (h : RepDs K mg r Hs vs ds) (e : atI ds i = some d) : ∃ v, atI vs i = some v ∧ RepD K mg r Hs v d := by
  unfold atI at e ⊢
  rw [h.length]
  obtain ⟨j, h1, h2⟩ := Option.bind_eq_some_iff.mp e
  obtain ⟨v, h3, h4⟩ := h.get' h2
  exact ⟨v, by rw [h1]; exact h3, h4⟩
theorem atI_map {α β : Type} (f : α → β) (xs : List α) (i : Int) : atI (xs.map f) i = (atI xs i).map f := by
  unfold atI
  rw [List.length_map]
  cases ixN xs.length i with
  | none => rfl
  | some j => simp
theorem ops_ix : OpS K mg r (rIx K) ixD := by
  intro Hs H tp x y d e z Q w rx ry hz k
  unfold ixD at hz
  split at hz
  · obtain ⟨p, vs, rfl, h1, h2⟩ := repT_lst w rx
    obtain ⟨v, h3, h4⟩ := atI_rep h2 hz
    exact .inl ⟨p, vs, _, v, rfl, repT_int ry, .of h1, h3, k _ _ _ (Grow.refl _ _) w h4⟩
  · obtain ⟨p, vs, rfl, _, h1, h2⟩ := repT_tup w rx
    obtain ⟨v, h3, h4⟩ := atI_rep h2 hz
    exact .inr (.inl ⟨p, vs, _, v, rfl, repT_int ry, .inl h1, h3, k _ _ _ (Grow.refl _ _) w h4⟩)
  · obtain ⟨p, rfl, h1⟩ := repT_scr w rx
    obtain ⟨n, h2, h3⟩ := Option.map_eq_some_iff.mp hz
    subst h3
    exact .inl ⟨p, _, _, _, rfl, repT_int ry, h1, by rw [atI_map, h2]; rfl, k _ _ _ (Grow.refl _ _) w (.int _)⟩
  · split at hz
    · rename_i c
      obtain ⟨n, h2, h3⟩ := Option.map_eq_some_iff.mp hz
      subst h3
      exact .inr (.inr ⟨_, _, _, repT_str rx, repT_int ry, c, h2, k _ _ _ (Grow.refl _ _) w (.str _)⟩)
    · cases hz
  · cases hz
/-- a slice's part -/
def optI (m : Option (SE D)) : SE (Option Int) := fun env tp => match m with
  | none => .ok none tp
  | some m => (m env tp).bind fun d tp1 => match d with
    | .int i => .ok (some i) tp1
    | _ => .stuck
structure GP (K : PySem.W.Frag) (mg : Str → Option Value) (r : Addr) (X : Cx) (O : List Nat) (E : XK) (e : Option Expr) (t : TO) (m : SE (Option Int)) : Prop where
  pe : PO X e t
  snd : ∀ Hs0 H0 Hs H σ env tp Q, Rel K mg r O Hs0 H0 Hs H σ env tp → Post K mg r (fun _ _ (a b : Option Int) => a = b) E Hs H (m env tp) Q → t σ H Q
variable {O : List Nat} {E : XK}
theorem gp_none : GP K mg r X O E none tNoPart (optI none) := ⟨po_none, fun Hs0 H0 Hs H σ env tp Q R P => P _ Hs H (Grow.refl _ _) R.wd rfl⟩
theorem gp_some {e : Expr} {t : TE} {m : SE D} (h : GE K mg r X O E e t m) : GP K mg r X O E (some e) (tPart t) (optI (some m)) := by
  refine ⟨po_some h.pe, fun Hs0 H0 Hs H σ env tp Q Rl P => ?_⟩
  refine h.snd _ _ _ _ _ _ _ _ Rl (Post.bind P fun v Hs1 H1 d tp1 _ g w rv P1 => ?_)
  cases d with
  | int i => cases rv; exact ⟨i, rfl, P1 _ Hs1 H1 (Grow.refl _ _) w rfl⟩
  | _ => exact P1.elim
def cutD {α : Type} (xs : List α) (lo hi : Option Int) : List α := (xs.drop (HT.sIx xs.length 0 lo)).take (HT.sIx xs.length xs.length hi - HT.sIx xs.length 0 lo)
def sliceD (d : D) (lo hi : Option Int) : Option D := match d with
  | .lst xs => some (.lst (cutD xs lo hi))
  | .tup xs => some (.tup (cutD xs lo hi))
  | .str s => if s.length ≤ sizeLine then some (.str (cutS s lo hi)) else none
  | _ => none
def sliceE (m : SE D) (ml mh : SE (Option Int)) : SE D := fun env tp => (m env tp).bind fun d tp1 => (ml env tp1).bind fun lo tp2 => (mh env tp2).bind fun hi tp3 => RE.of (sliceD d lo hi) tp3
theorem cut_rep {vs : List V} {ds : List D} (h : RepDs K mg r Hs vs ds) (lo hi : Option Int) : RepDs K mg r Hs (cutV vs lo hi) (cutD ds lo hi) := by
  unfold cutV cutD
  rw [h.length]
  exact (h.drop _).take _
theorem cut_whole {vs : List V} {lo hi : Option Int} (h : HT.sIx vs.length 0 lo = 0 ∧ HT.sIx vs.length vs.length hi = vs.length) : cutV vs lo hi = vs := by
  unfold cutV
  rw [h.1, h.2]
  simp
abbrev rSlD (K : PySem.W.Frag) : V → Option Int → Option Int → Hp → VK → Prop := fun x lo hi H Q => rSlL K x lo hi H Q ∨ rSlA K x lo hi H Q ∨ rSlS x lo hi H Q
theorem ge_slice {e : Expr} {lo hi : Option Expr} {p2 pos : Pos} {t : TE} {tl th : TO} {m : SE D} {ml mh : SE (Option Int)} (h : GO K mg r X O E e t m) (hl : GP K mg r X O E lo tl ml) (hh : GP K mg r X O E hi th mh) (hK : X.K = K := by rfl) : GE K mg r X O E (.Subscript e (.Slice lo hi none p2) pos) (tSl (rSlD K) t tl th) (sliceE m ml mh) := by
  subst hK
  refine ⟨pe_slice (sl_list.or (sl_tupA.or sl_str)) h.pe hl.pe hh.pe, fun Hs0 H0 Hs H σ env tp Q Rl P => ?_⟩
  refine h.snd _ _ _ _ _ _ _ _ Rl (Post.bind P fun v Hs1 H1 d tp1 _ g w rv P1 => ?_)
  refine hl.snd _ _ _ _ _ _ _ _ (Rl.grow g w) (Post.bind P1 fun l Hs2 H2 l' tp2 _ g2 w2 el P2 => ?_)
  refine hh.snd _ _ _ _ _ _ _ _ (Rl.grow (g.trans g2) w2) (Post.bind P2 fun u Hs3 H3 u' tp3 _ g3 w3 eu P3 => ?_)
  subst el eu
  obtain ⟨z, hz, k⟩ := Post.ok_of P3
  have rv := rv.grow (g2.trans g3)
  unfold sliceD at hz
  split at hz
  · cases hz
    obtain ⟨p, vs, rfl, h1, h2⟩ := repT_lst w3 rv
    refine .inl ⟨p, vs, rfl, .of h1, fun q hq => ?_⟩
    obtain ⟨g', w'⟩ := w3.alloc (o := .lst (cutV vs l u)) hq
    exact k _ _ _ g' w' (.lst upd_same ((cut_rep h2 l u).mono g'.ex))
  · cases hz
    obtain ⟨p, vs, rfl, h0, h1, h2⟩ := repT_tup w3 rv
    refine .inr (.inl ⟨p, vs, rfl, .inl h1, fun e => ?_, fun _ q hq => ?_⟩)
    · have h4 := cut_rep h2 l u
      rw [cut_whole e] at h4
      exact k _ _ _ (Grow.refl _ _) w3 (.tupR h0 h4)
    · obtain ⟨g', w'⟩ := w3.alloc (o := .tup (cutV vs l u)) hq
      exact k _ _ _ g' w' (.tup upd_same ((cut_rep h2 l u).mono g'.ex))
  · split at hz
    · rename_i c
      cases hz
      exact .inr (.inr ⟨_, repT_str rv, c, k _ _ _ (Grow.refl _ _) w3 (.str _)⟩)
    · cases hz
  · cases hz
theorem paired1 {α β : Type} {F : α → β → Prop} {xs : List α} {y : β} (h : Paired F xs [y]) : ∃ x, xs = [x] ∧ F x y := by
  cases h with
  | cons a b => cases b; exact ⟨_, rfl, a⟩
theorem paired2 {α β : Type} {F : α → β → Prop} {xs : List α} {y y' : β} (h : Paired F xs [y, y']) : ∃ x x', xs = [x, x'] ∧ F x y ∧ F x' y' := by
  cases h with
  | cons a b =>
    obtain ⟨x', rfl, h⟩ := paired1 b
    exact ⟨_, _, rfl, a, h⟩
theorem RepP.length : ∀ {vs : List (D × V)} {ds : List (D × D)}, RepP K mg r Hs vs ds → vs.length = ds.length
  | _, _, .nil => rfl
  | _, _, .cons _ q => by simp only [List.length_cons, RepP.length q]
def lenD : List D → Option D
  | [.lst xs] => some (.int xs.length)
  | [.tup xs] => some (.int xs.length)
  | [.scr xs] => some (.int xs.length)
  | [.str s] => if s.length ≤ sizeLine then some (.int s.length) else none
  | _ => none
theorem cs_len : CallS K mg r (fun xs H Q => (∃ p ys, xs = [.ref p] ∧ (SqL K H p ys ∨ SqT K H p ys) ∧ Q (.int ys.length) H) ∨ ∃ z, xs = [.str z] ∧ z.length ≤ sizeLine ∧ Q (.int z.length) H) lenD := by
  intro Hs H tp xs ds z Q w rx hz k
  unfold lenD at hz
  split at hz
  · cases hz
    obtain ⟨x, rfl, h⟩ := paired1 rx
    obtain ⟨p, vs, rfl, h1, h2⟩ := repT_lst w h
    refine .inl ⟨p, vs, rfl, .inl (.of h1), ?_⟩
    rw [h2.length]
    exact k _ _ _ (Grow.refl _ _) w (.int _)
  · cases hz
    obtain ⟨x, rfl, h⟩ := paired1 rx
    obtain ⟨p, vs, rfl, _, h1, h2⟩ := repT_tup w h
    refine .inl ⟨p, vs, rfl, .inr (.inl h1), ?_⟩
    rw [h2.length]
    exact k _ _ _ (Grow.refl _ _) w (.int _)
  · cases hz
    obtain ⟨x, rfl, h⟩ := paired1 rx
    obtain ⟨p, rfl, h1⟩ := repT_scr w h
    refine .inl ⟨p, _, rfl, .inl h1, ?_⟩
    rw [List.length_map]
    exact k _ _ _ (Grow.refl _ _) w (.int _)
  · split at hz
    · rename_i c
      cases hz
      obtain ⟨x, rfl, h⟩ := paired1 rx
      exact .inr ⟨_, by rw [repT_str h], c, k _ _ _ (Grow.refl _ _) w (.int _)⟩
    · cases hz
  · cases hz
theorem cr_len : CallR X (.builtin "len") (fun xs H Q => (∃ p ys, xs = [.ref p] ∧ (SqL X.K H p ys ∨ SqT X.K H p ys) ∧ Q (.int ys.length) H) ∨ ∃ z, xs = [.str z] ∧ z.length ≤ sizeLine ∧ Q (.int z.length) H) := call_len_seq.or call_len_str
def intD : List D → Option D
  | [.int i] => some (.int i)
  | [.bl b] => some (.int (if b then 1 else 0))
  | _ => none
theorem cs_int : CallS K mg r (fun xs H Q => (∃ i, xs = [.int i] ∧ Q (.int i) H) ∨ ∃ k, xs = [.bl k] ∧ Q (.int (if k then 1 else 0)) H) intD := by
  intro Hs H tp xs ds z Q w rx hz k
  unfold intD at hz
  split at hz
  · cases hz
    obtain ⟨x, rfl, h⟩ := paired1 rx
    exact .inl ⟨_, by rw [repT_int h], k _ _ _ (Grow.refl _ _) w (.int _)⟩
  · cases hz
    obtain ⟨x, rfl, h⟩ := paired1 rx
    exact .inr ⟨_, by rw [repT_bl h], k _ _ _ (Grow.refl _ _) w (.int _)⟩
  · cases hz
def tupleD : List D → Option D
  | [.lst xs] => some (.tup xs)
  | [.tup xs] => some (.tup xs)
  | _ => none
theorem cs_tuple : CallS K mg r (fun xs H Q => ∃ p ys, xs = [.ref p] ∧ ((SqL K H p ys ∧ ∀ l, H l = none → Q (.ref l) (upd H l (.tup ys))) ∨ (SqT K H p ys ∧ Q (.ref p) H))) tupleD := by
  intro Hs H tp xs ds z Q w rx hz k
  unfold tupleD at hz
  split at hz
  · cases hz
    obtain ⟨x, rfl, h⟩ := paired1 rx
    obtain ⟨p, vs, rfl, h1, h2⟩ := repT_lst w h
    refine ⟨p, vs, rfl, .inl ⟨.of h1, fun q hq => ?_⟩⟩
    obtain ⟨g', w'⟩ := w.alloc (o := .tup vs) hq
    exact k _ _ _ g' w' (.tup upd_same (h2.mono g'.ex))
  · cases hz
    obtain ⟨x, rfl, h⟩ := paired1 rx
    obtain ⟨p, vs, rfl, h0, h1, h2⟩ := repT_tup w h
    exact ⟨p, vs, rfl, .inr ⟨.inl h1, k _ _ _ (Grow.refl _ _) w (.tupR h0 h2)⟩⟩
  · cases hz
def listD : List D → Option D
  | [.lst xs] => some (.lst xs)
  | [.tup xs] => some (.lst xs)
  | [.scr ns] => some (.lst (ns.map .int))
  | _ => none
def unB : List D → Option (List Bool)
  | [] => some []
  | .bl b :: r => (unB r).map (b :: ·)
  | _ => none
def unI : List D → Option (List Int)
  | [] => some []
  | .int b :: r => (unI r).map (b :: ·)
  | _ => none
def unS : List D → Option (List Str)
  | [] => some []
  | .str b :: r => (unS r).map (b :: ·)
  | _ => none
theorem unB_ok : ∀ {ds : List D} {bs : List Bool}, unB ds = some bs → ds = bs.map .bl
  | [], _, h => by cases h; rfl
  | d :: ds, bs, h => by
    cases d with
    | bl b =>
      obtain ⟨cs, h1, h2⟩ := Option.map_eq_some_iff.mp (show (unB ds).map (b :: ·) = some bs from h)
      subst h2
      rw [unB_ok h1]; rfl
    | _ => cases h
theorem unI_ok : ∀ {ds : List D} {bs : List Int}, unI ds = some bs → ds = bs.map .int
  | [], _, h => by cases h; rfl
  | d :: ds, bs, h => by
    cases d with
    | int b =>
      obtain ⟨cs, h1, h2⟩ := Option.map_eq_some_iff.mp (show (unI ds).map (b :: ·) = some bs from h)
      subst h2
      rw [unI_ok h1]; rfl
    | _ => cases h
theorem unS_ok : ∀ {ds : List D} {bs : List Str}, unS ds = some bs → ds = bs.map .str
  | [], _, h => by cases h; rfl
  | d :: ds, bs, h => by
    cases d with
    | str b =>
      obtain ⟨cs, h1, h2⟩ := Option.map_eq_some_iff.mp (show (unS ds).map (b :: ·) = some bs from h)
      subst h2
      rw [unS_ok h1]; rfl
    | _ => cases h
@[simp] theorem unB_map : ∀ bs : List Bool, unB (bs.map .bl) = some bs
  | [] => rfl
  | b :: bs => by show (unB (bs.map .bl)).map (b :: ·) = _; rw [unB_map bs]; rfl
@[simp] theorem unI_map : ∀ bs : List Int, unI (bs.map .int) = some bs
  | [] => rfl
  | b :: bs => by show (unI (bs.map .int)).map (b :: ·) = _; rw [unI_map bs]; rfl
@[simp] theorem unS_map : ∀ bs : List Str, unS (bs.map .str) = some bs
  | [] => rfl
  | b :: bs => by show (unS (bs.map .str)).map (b :: ·) = _; rw [unS_map bs]; rfl
def allD : List D → Option D
  | [.lst xs] => (unB xs).map fun bs => .bl (bs.all id)
  | _ => none
def anyD : List D → Option D
  | [.lst xs] => (unB xs).map fun bs => .bl (bs.any id)
  | _ => none
def sumD : List D → Option D
  | [.lst xs] => (unI xs).map fun bs => .int bs.sum
  | _ => none
theorem lst_typed {α : Type} {f : α → D} {g : α → V} (hfg : ∀ {Hs : Hp} {ns : List α} {vs : List V}, RepDs K mg r Hs vs (ns.map f) → vs = ns.map g) {v : V} {ns : List α} (w : Wd K mg r Hs H tp) (h : RepT K mg r Hs H v (.lst (ns.map f))) : ∃ p, v = .ref p ∧ H p = some (.lst (ns.map g)) := by
  obtain ⟨p, vs, rfl, h1, h2⟩ := repT_lst w h
  rw [hfg h2] at h1
  exact ⟨p, rfl, h1⟩
theorem cs_all : CallS K mg r (rAll K) allD := by
  intro Hs H tp xs ds z Q w rx hz k
  unfold allD at hz
  split at hz
  · obtain ⟨bs, h1, h2⟩ := Option.map_eq_some_iff.mp hz
    subst h2
    obtain ⟨x, rfl, h⟩ := paired1 rx
    rw [unB_ok h1] at h
    obtain ⟨p, rfl, h3⟩ := lst_typed RepDs.bls_of w h
    exact ⟨p, bs, rfl, .of h3, k _ _ _ (Grow.refl _ _) w (.bl _)⟩
  · cases hz
theorem cs_any : CallS K mg r (rAny K) anyD := by
  intro Hs H tp xs ds z Q w rx hz k
  unfold anyD at hz
  split at hz
  · obtain ⟨bs, h1, h2⟩ := Option.map_eq_some_iff.mp hz
    subst h2
    obtain ⟨x, rfl, h⟩ := paired1 rx
    rw [unB_ok h1] at h
    obtain ⟨p, rfl, h3⟩ := lst_typed RepDs.bls_of w h
    exact ⟨p, bs, rfl, .of h3, k _ _ _ (Grow.refl _ _) w (.bl _)⟩
  · cases hz
theorem cs_sum : CallS K mg r (rSum K) sumD := by
  intro Hs H tp xs ds z Q w rx hz k
  unfold sumD at hz
  split at hz
  · obtain ⟨bs, h1, h2⟩ := Option.map_eq_some_iff.mp hz
    subst h2
    obtain ⟨x, rfl, h⟩ := paired1 rx
    rw [unI_ok h1] at h
    obtain ⟨p, rfl, h3⟩ := lst_typed RepDs.ints_of w h
    exact ⟨p, bs, rfl, .of h3, k _ _ _ (Grow.refl _ _) w (.int _)⟩
  · cases hz
def tyN : D → Option String
  | .non => some "NoneType"
  | .bl _ => some "bool"
  | .int _ => some "int"
  | .str _ => some "str"
  | .tup _ => some "tuple"
  | .lst _ => some "list"
  | _ => none
def unT : List D → Option (List String)
  | [] => some []
  | .ty n :: r => (unT r).map (n :: ·)
  | _ => none
theorem unT_ok : ∀ {ds : List D} {bs : List String}, unT ds = some bs → ds = bs.map .ty
  | [], _, h => by cases h; rfl
  | d :: ds, bs, h => by
    cases d with
    | ty b =>
      obtain ⟨cs, h1, h2⟩ := Option.map_eq_some_iff.mp (show (unT ds).map (b :: ·) = some bs from h)
      subst h2
      rw [unT_ok h1]; rfl
    | _ => cases h
theorem RepDs.tys_of : ∀ {ns : List String} {vs : List V}, RepDs K mg r Hs vs (ns.map D.ty) → vs = ns.map V.ty
  | [], _, .nil => rfl
  | n :: ns, _, .cons h q => by cases h; rw [RepDs.tys_of q]; rfl
def kitBs (a : String) : List String → Option Bool
  | [] => some false
  | b :: bs => match kitB a b, kitBs a bs with
    | some true, some _ => some true
    | some false, some c => some c
    | _, _ => none
theorem kitBs_ok {a : String} : ∀ {bs : List String} {c : Bool}, kitBs a bs = some c → PySem.W.kitAny K (.type a) (bs.map Value.type) = some c
  | [], c, h => by cases h; exact kitAny_nil
  | b :: bs, c, h => by
    have h : (match kitB a b, kitBs a bs with
      | some true, some _ => some true
      | some false, some c => some c
      | _, _ => none) = some c := h
    cases e1 : kitB a b with
    | none => rw [e1] at h; cases h
    | some x =>
      cases e2 : kitBs a bs with
      | none => rw [e1, e2] at h; cases x <;> cases h
      | some y =>
        rw [e1, e2] at h
        refine kitAny_cons (b := x) (kit_ty e1) (fun hb => ?_) (fun hb => ?_)
        · subst hb; cases h; exact kitBs_ok e2
        · subst hb; cases h; rfl
def isiD : List D → Option D
  | [d, .ty n] => (tyN d).bind fun t => (kitB t n).map .bl
  | [d, .tup ds] => (tyN d).bind fun t => (unT ds).bind fun ns => (kitBs t ns).map .bl
  | _ => none
theorem tyx_of {v : V} {d : D} {t : String} (w : Wd K mg r Hs H tp) (h : RepT K mg r Hs H v d) (e : tyN d = some t) : TyX K H v (.type t) := by
  cases d with
  | non => cases e; rw [repT_non h]; exact .base .non
  | bl b => cases e; rw [repT_bl h]; exact .base (.bl _)
  | int b => cases e; rw [repT_int h]; exact .base (.int _)
  | str b => cases e; rw [repT_str h]; exact .base (.str _)
  | tup ds => cases e; obtain ⟨p, vs, rfl, _, h1, h2⟩ := repT_tup w h; exact h1.elim (fun h1 => .base (.tup h1)) fun ⟨_, h1⟩ => .fTuple h1
  | lst ds => cases e; obtain ⟨p, vs, rfl, h1, h2⟩ := repT_lst w h; exact .base (.lst h1)
  | _ => cases e
theorem cls_all : ∀ ns : List String, Paired ClsV (ns.map V.ty) (ns.map Value.type)
  | [] => .nil
  | n :: ns => .cons (.ty n) (cls_all ns)
/-- isinstance(x, t), t a tuple of classes, standing still or not -/
def rIsiQ (K : PySem.W.Frag) : List V → Hp → VK → Prop := fun xs H Q => ∃ (x : V) (tp : Addr) (cs : List V) (t : Value) (us : List Value) (b : Bool), xs = [x, .ref tp] ∧ Rd H tp (.tup cs) ∧ Paired ClsV cs us ∧ TyX K H x t ∧ PySem.W.kitAny K t us = some b ∧ Q (.bl b) H
theorem call_isiQ {X : Cx} : CallR X (.builtin "isinstance") (rIsiQ X.K) := by
  intro pins s σ H xs us Q I r h
  obtain ⟨x, tp, cs, t, ws, b, rfl, hT, k, ty, e, q⟩ := h
  obtain ⟨u1, u2, rfl, r1, r2⟩ := vals2 r
  cases (show u2 = Value.ref tp from r2)
  obtain ⟨P, Z, p, hx⟩ := kit_of I r1 ty
  obtain ⟨_, its, rv, o, h1, h2, n, h3⟩ := (show ObjOk X.prog X.w H s.heap tp (.tup cs) from hT.ok I.hok)
  have e3 := ClsV.all k rv
  subst e3
  obtain ⟨oc, od, dt, sl⟩ := o
  simp only at h2 h3
  subst h2 h3
  exact PySem.W.kia_tup Z I.kIn p h1 e hx fun tk => ⟨.bl b, H, I.tok tk, rfl, q⟩
theorem cs_isi : CallS K mg r (fun x H Q => rIsi K x H Q ∨ rIsiQ K x H Q) isiD := by
  intro Hs H tp xs ds z Q w rx hz k
  unfold isiD at hz
  split at hz
  · obtain ⟨t, h1, h2⟩ := Option.bind_eq_some_iff.mp hz
    obtain ⟨b, h3, h4⟩ := Option.map_eq_some_iff.mp h2
    subst h4
    obtain ⟨x, x', rfl, r1, r2⟩ := paired2 rx
    rcases r2 with r2 | ⟨_, _, _, r2⟩
    · cases r2
      exact .inl ⟨x, _, _, _, b, rfl, .ty _, tyx_of w r1 h1, kit_ty h3, k _ _ _ (Grow.refl _ _) w (.bl _)⟩
    · exact r2.elim
  · obtain ⟨t, h1, h2⟩ := Option.bind_eq_some_iff.mp hz
    obtain ⟨ns, h3, h4⟩ := Option.bind_eq_some_iff.mp h2
    obtain ⟨b, h5, h6⟩ := Option.map_eq_some_iff.mp h4
    subst h6
    obtain ⟨x, x', rfl, r1, r2⟩ := paired2 rx
    obtain ⟨p, vs, rfl, _, g1, g2⟩ := repT_tup w r2
    rw [unT_ok h3] at g2
    rw [RepDs.tys_of g2] at g1
    exact .inr ⟨x, p, _, _, _, b, rfl, g1, cls_all ns, tyx_of w r1 h1, kitBs_ok h5, k _ _ _ (Grow.refl _ _) w (.bl _)⟩
  · cases hz
theorem cr_isi : CallR X (.builtin "isinstance") (fun x H Q => rIsi X.K x H Q ∨ rIsiQ X.K x H Q) := call_isi.or call_isiQ
theorem ge_ty {x : Str} {T : String} {pos : Pos} (hm : X.mg x = none) (hv : bootBuiltins x = some (.type T) := by decide +kernel) (hg : Gl X x := by rfl) (hn : x ≠ "__name__" := by decide) (hd : (x == ("__debug__" : Str)) = false := by decide) : GE K mg r X O E (.Name x pos) (tC (.ty T)) (cE (.ty T)) :=
  ge_c (v := .ty T) (pe_bltn hg hm hv rfl hn hd) fun _ => .ty T
variable {a b c : Expr} {pos : Pos} {ta tb tc : TE} {ma mb mc : SE D}
theorem ge_add (ha : GO K mg r X O E a ta ma) (hb : GO K mg r X O E b tb mb) (hK : X.K = K := by rfl) : GE K mg r X O E (.BinOp a .Add b pos) (tOp (rAddD K) ta tb) (binE addD ma mb) := by subst hK; exact ge_op opr_add ops_add ha hb
theorem ge_sub (ha : GO K mg r X O E a ta ma) (hb : GO K mg r X O E b tb mb) : GE K mg r X O E (.BinOp a .Sub b pos) (tOp (rI0 fun i j => .int (i - j)) ta tb) (binE subD ma mb) := ge_op op_sub ops_sub ha hb
theorem ge_mul (ha : GO K mg r X O E a ta ma) (hb : GO K mg r X O E b tb mb) (hK : X.K = K := by rfl) : GE K mg r X O E (.BinOp a .Mult b pos) (tOp (rMulD K) ta tb) (binE mulD ma mb) := by subst hK; exact ge_op opr_mul ops_mul ha hb
theorem ge_fdiv (ha : GO K mg r X O E a ta ma) (hb : GO K mg r X O E b tb mb) : GE K mg r X O E (.BinOp a .FloorDiv b pos) (tOp (rI CDivW fun i j => .int (i / j)) ta tb) (binE fdivD ma mb) := ge_op op_fdivW ops_fdiv ha hb
theorem ge_mod (ha : GO K mg r X O E a ta ma) (hb : GO K mg r X O E b tb mb) : GE K mg r X O E (.BinOp a .Mod b pos) (tOp (rI (fun _ j => 0 < j) fun i j => .int (i % j)) ta tb) (binE modD ma mb) := ge_op op_mod ops_mod ha hb
theorem ge_pow (ha : GO K mg r X O E a ta ma) (hb : GO K mg r X O E b tb mb) : GE K mg r X O E (.BinOp a .Pow b pos) (tOp (rI CPow fun i j => .int (i ^ j.toNat)) ta tb) (binE powD ma mb) := ge_op op_pow ops_pow ha hb
theorem ge_neg (ha : GO K mg r X O E a ta ma) : GE K mg r X O E (.UnaryOp .USub a pos) (tUn (rU fun i => .int (-i)) ta) (unE negD ma) := ge_un un_neg uns_neg ha
abbrev rLtD : R2 := fun x y H Q => (∃ i j, x = .int i ∧ y = .int j ∧ Q (.bl (decide (i < j))) H) ∨ (∃ i j, x = .str i ∧ y = .str j ∧ Q (.bl (decide (i.cps.toList < j.cps.toList))) H)
abbrev rLeD : R2 := rI0 fun i j => .bl (decide (i ≤ j))
abbrev rGtD : R2 := rI0 fun i j => .bl (decide (j < i))
abbrev rGeD : R2 := rI0 fun i j => .bl (decide (j ≤ i))
theorem ge_lt (ha : GO K mg r X O E a ta ma) (hb : GO K mg r X O E b tb mb) : GE K mg r X O E (.Compare a [.Lt] [b] pos) (tOp rLtD ta tb) (binE ltD ma mb) := ge_cmp opr_lt ops_lt ha hb (nomark _)
theorem ge_gt (ha : GO K mg r X O E a ta ma) (hb : GO K mg r X O E b tb mb) : GE K mg r X O E (.Compare a [.Gt] [b] pos) (tOp rGtD ta tb) (binE gtD ma mb) := ge_cmp op_gt ops_gt ha hb (nomark _)
theorem ge_eq (hu : X.A.units + 64 < cLine) (ha : GO K mg r X O E a ta ma) (hb : GO K mg r X O E b tb mb) (hK : X.K = K := by rfl) : GE K mg r X O E (.Compare a [.Eq] [b] pos) (tOp (rEqP K) ta tb) (binE eqD ma mb) := by subst hK; exact ge_cmp (op_eqP hu) ops_eq ha hb (nomark _)
theorem ge_in (hu : X.A.units + 64 < cLine) (ha : GO K mg r X O E a ta ma) (hb : GO K mg r X O E b tb mb) (hm : behindInMarks .In b = false := by rfl) (hK : X.K = K := by rfl) : GE K mg r X O E (.Compare a [.In] [b] pos) (tOp (rInP K false) ta tb) (binE inD ma mb) := by subst hK; exact ge_cmp (op_inP hu) ops_in ha hb hm
abbrev rIsD : R2 := fun x y H Q => (y = .non ∧ Q (.bl (decide (x = .non))) H) ∨ ∃ a b, x = .bl a ∧ y = .bl b ∧ Q (.bl (decide (a = b))) H
abbrev rIsNotD : R2 := fun x y H Q => (y = .non ∧ Q (.bl (!decide (x = .non))) H) ∨ ∃ a b, x = .bl a ∧ y = .bl b ∧ Q (.bl (!decide (a = b))) H
theorem ge_is (ha : GO K mg r X O E a ta ma) (hb : GO K mg r X O E b tb mb) : GE K mg r X O E (.Compare a [.Is] [b] pos) (tOp rIsD ta tb) (binE isNoneD ma mb) := ge_cmp opr_is ops_is ha hb (nomark _)
theorem ge_isNot (ha : GO K mg r X O E a ta ma) (hb : GO K mg r X O E b tb mb) : GE K mg r X O E (.Compare a [.IsNot] [b] pos) (tOp rIsNotD ta tb) (binE isNotNoneD ma mb) := ge_cmp opr_isNot ops_isNot ha hb (nomark _)
theorem ge_sub1 (ha : GO K mg r X O E a ta ma) (hb : GO K mg r X O E b tb mb) (hs : PlainIx b := by exact fun _ _ => rfl) (hK : X.K = K := by rfl) : GE K mg r X O E (.Subscript a b pos) (tOp (rIx K) ta tb) (binE ixD ma mb) := by subst hK; exact ge_ix ix_seq ops_ix ha hb hs
variable {ts : TA} {ms : SE (List D)} {p : Pos} {es : List Expr} {e : Expr}
abbrev rLenD (K : PySem.W.Frag) : List V → Hp → VK → Prop := fun xs H Q => (∃ p ys, xs = [.ref p] ∧ (SqL K H p ys ∨ SqT K H p ys) ∧ Q (.int ys.length) H) ∨ ∃ z, xs = [.str z] ∧ z.length ≤ sizeLine ∧ Q (.int z.length) H
theorem ge_len (hm : X.mg "len" = none) (ha : GAO K mg r X O E [e] ts ms) (hg : Gl X "len" := by rfl) (he : starEach [e] X.env = (false, eval e X.env) :: starEach [] X.env := by rfl) (hpl : (backTo pos (starEach [] X.env)).any (·.1) = false := by rfl) (hK : X.K = K := by rfl) : GE K mg r X O E (.Call (.Name "len" p) [e] [] pos) (tCB (rLenD K) ts) (callB lenD ms) := by
  subst hK; exact ge_callB (R := rLenD X.K) cr_len cs_len hm ha hg PySem.boot_len (by decide) (by decide) he hpl
abbrev rIntD : List V → Hp → VK → Prop := fun xs H Q => (∃ i, xs = [.int i] ∧ Q (.int i) H) ∨ ∃ k, xs = [.bl k] ∧ Q (.int (if k then 1 else 0)) H
theorem ge_int1 (hm : X.mg "int" = none) (ha : GAO K mg r X O E [e] ts ms) (hg : Gl X "int" := by rfl) (he : starEach [e] X.env = (false, eval e X.env) :: starEach [] X.env := by rfl) (hpl : (backTo pos (starEach [] X.env)).any (·.1) = false := by rfl) : GE K mg r X O E (.Call (.Name "int" p) [e] [] pos) (tCB rIntD ts) (callB intD ms) :=
  ge_callTy (R := rIntD) call_int1 cs_int hm ha hg (by decide +kernel) (by decide) (by decide) he hpl
abbrev rTupleD (K : PySem.W.Frag) : List V → Hp → VK → Prop := fun xs H Q => ∃ p ys, xs = [.ref p] ∧ ((SqL K H p ys ∧ ∀ l, H l = none → Q (.ref l) (upd H l (.tup ys))) ∨ (SqT K H p ys ∧ Q (.ref p) H))
theorem ge_tuple (hm : X.mg "tuple" = none) (ha : GAO K mg r X O E [e] ts ms) (hg : Gl X "tuple" := by rfl) (he : starEach [e] X.env = (false, eval e X.env) :: starEach [] X.env := by rfl) (hpl : (backTo pos (starEach [] X.env)).any (·.1) = false := by rfl) (hK : X.K = K := by rfl) : GE K mg r X O E (.Call (.Name "tuple" p) [e] [] pos) (tCB (rTupleD K) ts) (callB tupleD ms) := by
  subst hK; exact ge_callTy (R := rTupleD X.K) call_tuple_of cs_tuple hm ha hg (by decide +kernel) (by decide) (by decide) he hpl
abbrev rListD1 (K : PySem.W.Frag) : List V → Hp → VK → Prop := fun xs H Q => ∃ p ys, xs = [.ref p] ∧ (SqL K H p ys ∨ SqT K H p ys) ∧ ∀ l, H l = none → Q (.ref l) (upd H l (.lst ys))
theorem ge_all (hc : X.calm = true) (hm : X.mg "all" = none) (ha : GAO K mg r X O E [e] ts ms) (hg : Gl X "all" := by rfl) (he : starEach [e] X.env = (false, eval e X.env) :: starEach [] X.env := by rfl) (hpl : (backTo pos (starEach [] X.env)).any (·.1) = false := by rfl) (hK : X.K = K := by rfl) : GE K mg r X O E (.Call (.Name "all" p) [e] [] pos) (tCB (rAll K) ts) (callB allD ms) := by
  subst hK; exact ge_callB (cr_all hc) cs_all hm ha hg (by decide +kernel) (by decide) (by decide) he hpl
theorem ge_any (hc : X.calm = true) (hm : X.mg "any" = none) (ha : GAO K mg r X O E [e] ts ms) (hg : Gl X "any" := by rfl) (he : starEach [e] X.env = (false, eval e X.env) :: starEach [] X.env := by rfl) (hpl : (backTo pos (starEach [] X.env)).any (·.1) = false := by rfl) (hK : X.K = K := by rfl) : GE K mg r X O E (.Call (.Name "any" p) [e] [] pos) (tCB (rAny K) ts) (callB anyD ms) := by
  subst hK; exact ge_callB (cr_any hc) cs_any hm ha hg (by decide +kernel) (by decide) (by decide) he hpl
abbrev rIsiD (K : PySem.W.Frag) : List V → Hp → VK → Prop := fun x H Q => rIsi K x H Q ∨ rIsiQ K x H Q
theorem ge_isi {e2 : Expr} (hm : X.mg "isinstance" = none) (ha : GAO K mg r X O E [e, e2] ts ms) (hg : Gl X "isinstance" := by rfl) (he : starEach [e, e2] X.env = (false, eval e X.env) :: starEach [e2] X.env := by rfl) (hpl : (backTo pos (starEach [e2] X.env)).any (·.1) = false := by rfl) (hK : X.K = K := by rfl) : GE K mg r X O E (.Call (.Name "isinstance" p) [e, e2] [] pos) (tCB (rIsiD K) ts) (callB isiD ms) := by
  subst hK; exact ge_callB (R := rIsiD X.K) cr_isi cs_isi hm ha hg (by decide +kernel) (by decide) (by decide) he hpl
end
end G
set_option maxHeartbeats 1000000
namespace G
open PySem PySem.Spec PyProof.Rows L2
inductive RS where
  | nx (env : DEnv) (tp : List D)
  | rt (d : D) (tp : List D)
  | bk (env : DEnv) (tp : List D)
  | ct (env : DEnv) (tp : List D)
  | exn (c : Str) (fs : List (Str × D)) (tp : List D)
  | stuck
abbrev SS := DEnv → List D → RS
def RE.bindS {α : Type} (x : RE α) (k : α → List D → RS) : RS := match x with
  | .ok a tp => k a tp
  | .exn c fs tp => .exn c fs tp
  | .stuck => .stuck
@[simp] theorem RE.bindS_ok {α : Type} (a : α) (tp : List D) (k : α → List D → RS) : (RE.ok a tp).bindS k = k a tp := rfl
@[simp] theorem RE.bindS_exn {α : Type} (c : Str) (fs : List (Str × D)) (tp : List D) (k : α → List D → RS) : (RE.exn c fs tp : RE α).bindS k = .exn c fs tp := rfl
@[simp] theorem RE.bindS_stuck {α : Type} (k : α → List D → RS) : (RE.stuck : RE α).bindS k = .stuck := rfl
section
variable {K : PySem.W.Frag} {mg : Str → Option Value} {r : Addr} {Hs0 H0 Hs Hs' H H' : Hp} {O O' : List Nat} {σ : L2.St} {env : DEnv} {tp tp' : List D} {p : Addr} {d : D} {v : V}
theorem get_set {α : Type} {xs : List (Option α)} {i j : Nat} {v : α} {w : α} (h : (xs.set i (some v))[j]? = some (some w)) : (j = i ∧ v = w ∧ i < xs.length) ∨ (j ≠ i ∧ xs[j]? = some (some w)) := by
  by_cases q : j = i
  · subst q
    rw [List.getElem?_set] at h
    simp only [if_true] at h
    split at h
    · cases h; exact .inl ⟨rfl, rfl, by assumption⟩
    · cases h
  · rw [List.getElem?_set_ne (Ne.symm q)] at h
    exact .inr ⟨q, h⟩
theorem set_get {α : Type} {xs : List (Option α)} {i : Nat} {v : α} (h : i < xs.length) : (xs.set i (some v))[i]? = some (some v) := by
  rw [List.getElem?_set_self h]
theorem set_gne {α : Type} {xs : List (Option α)} {i j : Nat} {v : Option α} (h : j ≠ i) : (xs.set i v)[j]? = xs[j]? := List.getElem?_set_ne (Ne.symm h)
/-- some owned objects come to stand still -/
theorem Rel.freeze (R : Rel K mg r O Hs0 H0 Hs H σ env tp) (h : ∀ i ∈ O', i ∈ O) : ∃ Hs', Same Hs Hs' ∧ Rel K mg r O' Hs0 H0 Hs' H σ env tp := by
  classical
  let fz : Addr → Prop := fun b => ∃ i, i ∈ O ∧ i ∉ O' ∧ σ[i]? = some (some (.ref b))
  let Hs' : Hp := fun b => if fz b then H b else Hs b
  have fzn : ∀ b, fz b → Hs b = none ∧ H0 b = none ∧ b ≠ r := fun b ⟨i, h1, _, h3⟩ => by
    obtain ⟨d, p, _, b2, c, c0, n, _⟩ := R.own i h1
    rw [h3] at b2; cases b2
    exact ⟨c, c0, n⟩
  have e : Same Hs Hs' := .of fun b o q => by
    show (if fz b then H b else Hs b) = some o
    by_cases z : fz b
    · rw [(fzn b z).1] at q; cases q
    · rw [if_neg z]; exact q
  have sub : Same Hs' H := fun b o q => by
    have q : (if fz b then H b else Hs b) = some o := q
    by_cases z : fz b
    · rw [if_pos z] at q; exact .inl q
    · rw [if_neg z] at q; exact R.wd.sub b o q
  have tn : Hs' r = none := by
    show (if fz r then H r else Hs r) = none
    rw [if_neg fun z => (fzn r z).2.2 rfl]; exact R.wd.tn
  refine ⟨Hs', e, ⟨⟨sub, tn, ?_, fun b φ q => ?_⟩, ⟨R.gr.keep, R.gr.free, R.gr.ex.trans e, fun b o n q => ?_, R.gr.tup⟩, R.len, fun i d a n => ?_, fun i hi => ?_, fun i j p hi hj a b => R.dis i j p (h i hi) (h j hj) a b⟩⟩
  · obtain ⟨vs, a, b⟩ := R.wd.tH
    exact ⟨vs, a, b.mono e⟩
  · have q : (if fz b then H b else Hs b) = some (.ext φ) := q
    by_cases z : fz b
    · rw [if_pos z] at q
      obtain ⟨i, h1, _, h3⟩ := z
      obtain ⟨d, p, _, b2, _, _, _, oa⟩ := R.own i h1
      rw [h3] at b2; cases b2
      exact oa.next φ q
    · rw [if_neg z] at q; exact R.wd.nx b φ q
  · have q : (if fz b then H b else Hs b) = some o := q
    by_cases z : fz b
    · exact .inr (.inl (fzn b z).2.1)
    · rw [if_neg z] at q; exact R.gr.new b o n q
  · by_cases m : i ∈ O
    · obtain ⟨d', p, b1, b2, c, c0, ne, oa⟩ := R.own i m
      rw [a] at b1; cases b1
      refine ⟨_, b2, oa.rep e fun o q => ?_⟩
      show (if fz p then H p else Hs p) = some o
      rw [if_pos ⟨i, m, n, b2⟩]; exact q
    · obtain ⟨v, b1, b2⟩ := R.vars i d a m
      exact ⟨v, b1, b2.mono e⟩
  · obtain ⟨d', p, b1, b2, c, c0, ne, oa⟩ := R.own i (h i hi)
    refine ⟨d', p, b1, b2, ?_, c0, ne, oa.grow e fun o q => q⟩
    show (if fz p then H p else Hs p) = none
    rw [if_neg]
    · exact c
    · rintro ⟨j, hj, hj', q⟩
      have := R.dis i j p (h i hi) hj b2 q
      subst this
      exact hj' hi
/-- a name gets a value that stands still -/
theorem Rel.set (R : Rel K mg r O Hs0 H0 Hs H σ env tp) (i : Nat) (hr : RepD K mg r Hs v d) : Rel K mg r (O.filter (· != i)) Hs0 H0 Hs H (σ.set i (some v)) (env.set i (some d)) tp where
  wd := R.wd
  gr := R.gr
  len := by rw [List.length_set, List.length_set]; exact R.len
  vars := fun j e a n => by
    rcases get_set a with ⟨rfl, rfl, hl⟩ | ⟨ne, a⟩
    · exact ⟨v, set_get (by rw [R.len]; exact hl), hr⟩
    · have n' : j ∉ O := fun m => n (List.mem_filter.mpr ⟨m, by simpa using ne⟩)
      obtain ⟨w, b1, b2⟩ := R.vars j e a n'
      exact ⟨w, by rw [set_gne ne]; exact b1, b2⟩
  own := fun j hj => by
    obtain ⟨m, ne⟩ := List.mem_filter.mp hj
    have ne : j ≠ i := by simpa using ne
    obtain ⟨d', p, b1, b2, c⟩ := R.own j m
    exact ⟨d', p, by rw [set_gne ne]; exact b1, by rw [set_gne ne]; exact b2, c⟩
  dis := fun j l p hj hl a b => by
    obtain ⟨m, ne⟩ := List.mem_filter.mp hj
    obtain ⟨m', ne'⟩ := List.mem_filter.mp hl
    rw [set_gne (by simpa using ne)] at a
    rw [set_gne (by simpa using ne')] at b
    exact R.dis j l p m m' a b
/-- a name gets a fresh object -/
theorem Rel.setF (R : Rel K mg r O Hs0 H0 Hs H σ env tp) (i : Nat) (hi : i < env.length) (h0 : H0 p = none) (hs : Hs p = none) (ne : p ≠ r) (ho : OwnAt K mg r Hs H p d) (hd : ∀ j ∈ O, σ[j]? ≠ some (some (.ref p))) :
    Rel K mg r (i :: O.filter (· != i)) Hs0 H0 Hs H (σ.set i (some (.ref p))) (env.set i (some d)) tp where
  wd := R.wd
  gr := R.gr
  len := by rw [List.length_set, List.length_set]; exact R.len
  vars := fun j e a n => by
    rcases get_set a with ⟨rfl, rfl, hl⟩ | ⟨ne, a⟩
    · exact absurd List.mem_cons_self n
    · have n' : j ∉ O := fun m => n (List.mem_cons_of_mem _ (List.mem_filter.mpr ⟨m, by simpa using ne⟩))
      obtain ⟨w, b1, b2⟩ := R.vars j e a n'
      exact ⟨w, by rw [set_gne ne]; exact b1, b2⟩
  own := fun j hj => by
    rcases List.mem_cons.mp hj with rfl | hj
    · exact ⟨d, p, set_get hi, set_get (by rw [R.len]; exact hi), hs, h0, ne, ho⟩
    · obtain ⟨m, ne⟩ := List.mem_filter.mp hj
      have ne : j ≠ i := by simpa using ne
      obtain ⟨d', p, b1, b2, c⟩ := R.own j m
      exact ⟨d', p, by rw [set_gne ne]; exact b1, by rw [set_gne ne]; exact b2, c⟩
  dis := fun j l q hj hl a b => by
    rcases List.mem_cons.mp hj with rfl | hj
    · rcases List.mem_cons.mp hl with rfl | hl
      · rfl
      · obtain ⟨m', ne'⟩ := List.mem_filter.mp hl
        rw [set_gne (by simpa using ne')] at b
        rw [set_get (by rw [R.len]; exact hi)] at a
        cases a
        exact absurd b (hd l m')
    · obtain ⟨m, ne⟩ := List.mem_filter.mp hj
      rw [set_gne (by simpa using ne)] at a
      rcases List.mem_cons.mp hl with rfl | hl
      · rw [set_get (by rw [R.len]; exact hi)] at b
        cases b
        exact absurd a (hd j m)
      · obtain ⟨m', ne'⟩ := List.mem_filter.mp hl
        rw [set_gne (by simpa using ne')] at b
        exact R.dis j l q m m' a b
/-- an owned object is changed -/
theorem Rel.write {o : HO} {i : Nat} (R : Rel K mg r O Hs0 H0 Hs H σ env tp) (hi : i ∈ O) (hp : σ[i]? = some (some (.ref p))) (ho : OwnAt K mg r Hs (upd H p o) p d) : Rel K mg r O Hs0 H0 Hs (upd H p o) σ (env.set i (some d)) tp := by
  obtain ⟨d0, p0, b1, b2, c, c0, ne, oa⟩ := R.own i hi
  rw [hp] at b2; cases b2
  have hl : i < env.length := by
    rcases Nat.lt_or_ge i env.length with q | q
    · exact q
    · rw [List.getElem?_eq_none q] at b1; cases b1
  refine ⟨R.wd.write c ne (fun xs z => st_no (oa.ntup _ z) xs rfl), ⟨fun b u q n hs => ?_, fun b e => R.gr.free b (upd_free e), R.gr.ex, R.gr.new, fun b xs e => by rw [upd_ne (ne_of_none e c0)]; exact R.gr.tup b xs e⟩, by rw [List.length_set]; exact R.len, fun j e a n => ?_, fun j hj => ?_, R.dis⟩
  · rw [upd_ne (ne_of_none q c0)]; exact R.gr.keep b u q n hs
  · rcases get_set a with ⟨rfl, rfl, _⟩ | ⟨_, a⟩
    · exact absurd hi n
    · exact R.vars j e a n
  · by_cases q : j = i
    · subst q
      exact ⟨d, p, set_get hl, hp, c, c0, ne, ho⟩
    · obtain ⟨d', p', e1, e2, f, f0, fn, fo⟩ := R.own j hj
      have np : p' ≠ p := fun z => q (by subst z; exact R.dis j i p' hj hi e2 hp)
      exact ⟨d', p', by rw [set_gne q]; exact e1, e2, f, f0, fn, fo.grow (Same.refl _) fun u z => by rw [upd_ne np]; exact z⟩
/-- the tape is written -/
theorem Rel.tape {vs : List V} {j : Nat} (R : Rel K mg r O Hs0 H0 Hs H σ env tp) (h : H r = some (.lst vs)) (hv : RepDs K mg r Hs vs tp) (hr : RepD K mg r Hs v d) : Rel K mg r O Hs0 H0 Hs (upd H r (.lst (vs.set j v))) σ env (tp.set j d) := by
  refine ⟨⟨fun b u q => ?_, R.wd.tn, ⟨_, upd_same, hv.set j hr⟩, R.wd.nx⟩, ⟨fun b u q n hs => ?_, fun b e => R.gr.free b (upd_free e), R.gr.ex, R.gr.new, fun b xs e => by have q := R.gr.tup b xs e; rw [upd_ne (ne_of q h (fun z => st_no (o := .lst vs) rfl xs z.symm))]; exact q⟩, R.len, R.vars, fun i hi => ?_, R.dis⟩
  · exact (R.wd.sub b u q).upd (ne_of_none q R.wd.tn) fun xs z => by rw [h] at z; first | exact st_no rfl xs (Option.some.inj z) | cases z
  · rw [upd_ne n]; exact R.gr.keep b u q n hs
  · obtain ⟨d', p, b1, b2, c, c0, ne, oa⟩ := R.own i hi
    exact ⟨d', p, b1, b2, c, c0, ne, oa.grow (Same.refl _) fun u z => by rw [upd_ne ne]; exact z⟩
end
section
variable (K : PySem.W.Frag) (mg : Str → Option Value) (r : Addr) (X : Cx) (E : XK) (O On Ol : List Nat)
def PostS (Hs0 H0 Hs : Hp) (res : RS) (D : Ends) : Prop := match res with
  | .nx env' tp' => ∀ σ' Hs' H', Same Hs Hs' → Rel K mg r On Hs0 H0 Hs' H' σ' env' tp' → D.nx σ' H'
  | .rt d tp' => ∀ v Hs' H', Grow r Hs0 H0 Hs' H' → Wd K mg r Hs' H' tp' → RepD K mg r Hs' v d → D.rt v H'
  | .bk env' tp' => ∀ σ' Hs' H', Same Hs Hs' → Rel K mg r Ol Hs0 H0 Hs' H' σ' env' tp' → D.bk σ' H'
  | .ct env' tp' => ∀ σ' Hs' H', Same Hs Hs' → Rel K mg r Ol Hs0 H0 Hs' H' σ' env' tp' → D.ct σ' H'
  | .exn c fs tp' => ∀ cv dx Hs' H', Grow r Hs0 H0 Hs' H' → Wd K mg r Hs' H' tp' → mg c = some cv → ExD K mg r Hs' fs dx → E cv dx H'
  | .stuck => False
structure GS (st : Stmt) (t : TS) (m : SS) : Prop where
  pe : PS X st t
  snd : ∀ Hs0 H0 Hs H σ env tp D, Rel K mg r O Hs0 H0 Hs H σ env tp → PostS K mg r E On Ol Hs0 H0 Hs (m env tp) D → t D σ H
structure GSs (st : List Stmt) (t : TS) (m : SS) : Prop where
  pe : PSs X st t
  snd : ∀ Hs0 H0 Hs H σ env tp D, Rel K mg r O Hs0 H0 Hs H σ env tp → PostS K mg r E On Ol Hs0 H0 Hs (m env tp) D → t D σ H
end
section
variable {K : PySem.W.Frag} {mg : Str → Option Value} {r : Addr} {X : Cx} {E : XK} {O O1 On Ol : List Nat} {e a b : Expr} {es : List Expr} {pos : Pos} {t ta tb : TE} {tt : TT} {ts : TA} {s1 : Stmt} {ss : List Stmt} {u u1 u2 : TS}
theorem PostS.shift {Hs0 H0 Hs Hs1 : Hp} {res : RS} {D : Ends} (e : Same Hs Hs1) (h : PostS K mg r E On Ol Hs0 H0 Hs res D) : PostS K mg r E On Ol Hs0 H0 Hs1 res D := by
  cases res with
  | nx env tp => exact fun σ Hs' H' e' R => h σ Hs' H' (e.trans e') R
  | bk env tp => exact fun σ Hs' H' e' R => h σ Hs' H' (e.trans e') R
  | ct env tp => exact fun σ Hs' H' e' R => h σ Hs' H' (e.trans e') R
  | _ => exact h
/-- an expression's value, then the rest of a statement -/
theorem PostS.bind {β α : Type} {R1 : Hp → Hp → β → α → Prop} {Hs0 H0 Hs H : Hp} {σ : L2.St} {env : DEnv} {tp : List D} {res : RE α} {k : α → List D → RS} {D : Ends} {Q1 : β → Hp → Prop} (R : Rel K mg r O Hs0 H0 Hs H σ env tp) (h : PostS K mg r E On Ol Hs0 H0 Hs (res.bindS k) D)
    (step : ∀ v Hs1 H1 d tp1, res = .ok d tp1 → Grow r Hs H Hs1 H1 → Wd K mg r Hs1 H1 tp1 → Rel K mg r O Hs0 H0 Hs1 H1 σ env tp1 → R1 Hs1 H1 v d → PostS K mg r E On Ol Hs0 H0 Hs1 (k d tp1) D → Q1 v H1) : Post K mg r R1 E Hs H res Q1 := by
  cases res with
  | ok d tp1 => exact fun v Hs1 H1 g w q => step v Hs1 H1 d tp1 rfl g w (R.grow g w) q (PostS.shift g.ex h)
  | exn c fs tp1 => exact fun cv dx Hs1 H1 g w m x => h cv dx Hs1 H1 (R.gr.trans g) w m x
  | stuck => exact h
theorem PostS.weak {On' : List Nat} {Hs0 H0 Hs : Hp} {res : RS} {D : Ends} (h : PostS K mg r E On' Ol Hs0 H0 Hs res D) (hO : ∀ i ∈ On', i ∈ On) : PostS K mg r E On Ol Hs0 H0 Hs res D := by
  cases res with
  | nx env tp =>
    intro σ Hs1 H e1 R
    obtain ⟨Hs', e, R'⟩ := R.freeze hO
    exact h σ Hs' H (e1.trans e) R'
  | _ => exact h
/-- ahead of it some owned objects come to stand still -/
theorem GS.pre {O' : List Nat} {m : SS} (hO : ∀ i ∈ O', i ∈ O) (h : GS K mg r X E O' On Ol s1 u m) : GS K mg r X E O On Ol s1 u m :=
  ⟨h.pe, fun Hs0 H0 Hs H σ env tp D R P => by
    obtain ⟨Hs', e, R'⟩ := R.freeze hO
    exact h.snd _ _ _ _ _ _ _ _ R' (P.shift e)⟩
/-- behind it -/
theorem GS.post {On' : List Nat} {m : SS} (hO : ∀ i ∈ On', i ∈ On) (h : GS K mg r X E O On Ol s1 u m) : GS K mg r X E O On' Ol s1 u m :=
  ⟨h.pe, fun Hs0 H0 Hs H σ env tp D R P => h.snd _ _ _ _ _ _ _ _ R (P.weak hO)⟩
theorem GSs.post {On' : List Nat} {m : SS} (hO : ∀ i ∈ On', i ∈ On) (h : GSs K mg r X E O On Ol ss u m) : GSs K mg r X E O On' Ol ss u m :=
  ⟨h.pe, fun Hs0 H0 Hs H σ env tp D R P => h.snd _ _ _ _ _ _ _ _ R (P.weak hO)⟩
def skipS : SS := fun env tp => .nx env tp
def seqS (m n : SS) : SS := fun env tp => match m env tp with
  | .nx e tp1 => n e tp1
  | x => x
theorem gss_nil : GSs K mg r X E O O Ol [] tNext skipS := ⟨pss_nil, fun Hs0 H0 Hs H σ env tp D R P => P _ _ _ (Same.refl _) R⟩
theorem gss_cons {m n : SS} (h1 : GS K mg r X E O O1 Ol s1 u1 m) (h2 : GSs K mg r X E O1 On Ol ss u2 n) : GSs K mg r X E O On Ol (s1 :: ss) (tSeq u1 u2) (seqS m n) := by
  refine ⟨pss_cons h1.pe h2.pe, fun Hs0 H0 Hs H σ env tp D R P => ?_⟩
  refine h1.snd _ _ _ _ _ _ _ _ R ?_
  unfold seqS at P
  cases q : m env tp with
  | nx e tp1 => rw [q] at P; exact fun σ' Hs' H' e' R' => h2.snd _ _ _ _ _ _ _ _ R' (P.shift e')
  | rt d tp1 => rw [q] at P; exact P
  | bk e tp1 => rw [q] at P; exact P
  | ct e tp1 => rw [q] at P; exact P
  | exn c fs tp1 => rw [q] at P; exact P
  | stuck => rw [q] at P; exact P
theorem gss_one {m : SS} (h1 : GS K mg r X E O On Ol s1 u1 m) : GSs K mg r X E O On Ol [s1] u1 m := ⟨pss_one h1.pe, h1.snd⟩
def setS (i : Nat) (m : SE D) : SS := fun env tp => (m env tp).bindS fun d tp1 => .nx (env.set i (some d)) tp1
def retS (m : SE D) : SS := fun env tp => (m env tp).bindS fun d tp1 => .rt d tp1
def dropS (m : SE D) : SS := fun env tp => (m env tp).bindS fun _ tp1 => .nx env tp1
def ifS (c : SE Bool) (m n : SS) : SS := fun env tp => (c env tp).bindS fun b tp1 => if b = true then m env tp1 else n env tp1
theorem setS_sound {m : SE D} (i : Nat) (h : ∀ Hs0 H0 Hs H σ env tp Q, Rel K mg r O Hs0 H0 Hs H σ env tp → PostE K mg r E Hs H (m env tp) Q → t σ H Q) :
    ∀ Hs0 H0 Hs H σ env tp D, Rel K mg r O Hs0 H0 Hs H σ env tp → PostS K mg r E (O.filter (· != i)) Ol Hs0 H0 Hs (setS i m env tp) D → tAsg t (gName i) D σ H := by
  intro Hs0 H0 Hs H σ env tp D R P
  exact h _ _ _ _ _ _ _ _ R (PostS.bind R P fun v Hs1 H1 d tp1 _ g w R1 rv P1 => P1 _ _ _ (Same.refl _) (R1.set i rv))
def setFS (i : Nat) (m : SE D) : SS := fun env tp => (m env tp).bindS fun d tp1 => if i < env.length then .nx (env.set i (some d)) tp1 else .stuck
theorem Rel.new_ne {Hs0 H0 Hs H : Hp} {σ : L2.St} {env : DEnv} {tp : List D} {p : Addr} (R : Rel K mg r O Hs0 H0 Hs H σ env tp) (h1 : H p = none) (h3 : p ≠ r) : H0 p = none ∧ ∀ j ∈ O, σ[j]? ≠ some (some (.ref p)) := by
  refine ⟨?_, fun j hj q => ?_⟩
  · exact R.gr.free p h1
  · obtain ⟨d', p', b1, b2, c, c0, ne, oa⟩ := R.own j hj
    rw [q] at b2; cases b2
    obtain ⟨o, ho⟩ := oa.there
    rw [ho] at h1; cases h1
theorem setF_sound {m : SE D} (i : Nat) (h : ∀ Hs0 H0 Hs H σ env tp Q, Rel K mg r O Hs0 H0 Hs H σ env tp → Post K mg r (Fresh K mg r H) E Hs H (m env tp) Q → t σ H Q) :
    ∀ Hs0 H0 Hs H σ env tp D, Rel K mg r O Hs0 H0 Hs H σ env tp → PostS K mg r E (i :: O.filter (· != i)) Ol Hs0 H0 Hs (setFS i m env tp) D → tAsg t (gName i) D σ H := by
  intro Hs0 H0 Hs H σ env tp D R P
  refine h _ _ _ _ _ _ _ _ R (PostS.bind R P fun v Hs1 H1 d tp1 _ g w R1 rv P1 => ?_)
  obtain ⟨p, rfl, h1, h2, h3, h4⟩ := rv
  split at P1
  · rename_i hl
    obtain ⟨n1, n2⟩ := R.new_ne h1 h3
    exact P1 _ _ _ (Same.refl _) (R1.setF i hl n1 h2 h3 h4 n2)
  · exact P1.elim
theorem gs_set {m : SE D} (i : Nat) {x : Str} {pos' : Pos} (hN : X.N.Nodup) (h : GE K mg r X O E e t m) (hi : X.N[i]? = some x := by rfl) (hx : Loc X.env.scope x := by first | exact Or.inl rfl | exact Or.inr rfl) (hs : swapsWith e (some (.Name x pos')) pos.line X.env = pure false := by rfl)
    (hf : X.fn x = true ∨ X.env.scope.names.lookup x = some .local := by first | exact .inl rfl | exact .inr rfl) : GS K mg r X E O (O.filter (· != i)) Ol (.Assign [.Name x pos'] e pos) (tAsg t (gName i)) (setS i m) :=
  ⟨ps_set hN hi hx h.pe hs hf, setS_sound i h.snd⟩
theorem gs_setF {m : SE D} (i : Nat) {x : Str} {pos' : Pos} (hN : X.N.Nodup) (h : GF K mg r X O E e t m) (hi : X.N[i]? = some x := by rfl) (hx : Loc X.env.scope x := by first | exact Or.inl rfl | exact Or.inr rfl) (hs : swapsWith e (some (.Name x pos')) pos.line X.env = pure false := by rfl)
    (hf : X.fn x = true ∨ X.env.scope.names.lookup x = some .local := by first | exact .inl rfl | exact .inr rfl) : GS K mg r X E O (i :: O.filter (· != i)) Ol (.Assign [.Name x pos'] e pos) (tAsg t (gName i)) (setFS i m) :=
  ⟨ps_set hN hi hx h.pe hs hf, setF_sound i h.snd⟩
theorem gs_ret {m : SE D} (h : GE K mg r X O E e t m) : GS K mg r X E O On Ol (.Return (some e) pos) (tRet t) (retS m) :=
  ⟨ps_ret h.pe, fun Hs0 H0 Hs H σ env tp D R P => h.snd _ _ _ _ _ _ _ _ R (PostS.bind R P fun v Hs1 H1 d tp1 _ g w R1 rv P1 => P1 v Hs1 H1 R1.gr w rv)⟩
/-- a slot's own object is handed back -/
theorem gs_retO (i : Nat) {x : Str} (hO : i ∈ O) (hN : X.N[i]? = some x := by rfl) {p2 : Pos} (hv : Vis X.env.scope x := by first | exact Or.inl rfl | exact Or.inr (Or.inl rfl) | exact Or.inr (Or.inr rfl)) (hd : (x == ("__debug__" : Str)) = false := by decide)
    (hcd : (x == ("__classdict__" : Str)) = false := by decide) : GS K mg r X E O On Ol (.Return (some (.Name x p2)) pos) (tRet (tVar i)) (retS (vE i)) :=
  GS.pre (O' := []) (fun _ h => nomatch h) (gs_ret (ge_var i (by simp) hN hv hd hcd))
theorem gs_drop {m : SE D} (h : GE K mg r X O E e t m) (hs : swapsWith e none pos.line X.env = pure false := by rfl) : GS K mg r X E O O Ol (.Expr e pos) (tDrop t) (dropS m) :=
  ⟨ps_expr h.pe hs, fun Hs0 H0 Hs H σ env tp D R P => h.snd _ _ _ _ _ _ _ _ R (PostS.bind R P fun v Hs1 H1 d tp1 _ g w R1 rv P1 => P1 _ _ _ (Same.refl _) R1)⟩
theorem gs_never : GS K mg r X E O On Ol s1 tNever (fun _ _ => .stuck) := ⟨ps_never, fun Hs0 H0 Hs H σ env tp D R P => P⟩
theorem gs_if {mc : SE Bool} {m n : SS} {bs : List Stmt} (hc : GT K mg r X O E e tt mc) (h1 : GSs K mg r X E O On Ol ss u1 m) (h2 : GSs K mg r X E O On Ol bs u2 n) : GS K mg r X E O On Ol (.If e ss bs pos) (tIfS tt u1 u2) (ifS mc m n) := by
  refine ⟨ps_if hc.pe h1.pe h2.pe, fun Hs0 H0 Hs H σ env tp D R P => ?_⟩
  refine hc.snd _ _ _ _ _ _ _ _ R (PostS.bind R P fun v Hs1 H1 d tp1 _ g w R1 rv P1 => ?_)
  subst rv
  cases v with
  | true => exact iteT (h1.snd _ _ _ _ _ _ _ _ R1 P1)
  | false => exact iteF (h2.snd _ _ _ _ _ _ _ _ R1 P1)
def appS (i : Nat) (m : SE D) : SS := fun env tp => match env[i]? with
  | some (some (.lst ds)) => (m env tp).bindS fun d tp1 => if ds.length < sizeLine then .nx (env.set i (some (.lst (ds ++ [d])))) tp1 else .stuck
  | _ => .stuck
theorem gs_append {m : SE D} (i : Nat) {x : Str} {p1 p2 p3 : Pos} (hO : i ∈ O) (h : GE K mg r X O E e t m) (hK : X.K = K := by rfl) (hN : X.N[i]? = some x := by rfl) (hv : Vis X.env.scope x := by first | exact Or.inl rfl | exact Or.inr (Or.inl rfl) | exact Or.inr (Or.inr rfl)) (hd : (x == ("__debug__" : Str)) = false := by decide)
    (hcd : (x == ("__classdict__" : Str)) = false := by decide)
    (hbase : attributeBase (.Name x p1) "append" X.env (eval (.Name x p1) X.env) = eval (.Name x p1) X.env := by rfl)
    (hfew : ((backTo p3 (starEach [e] X.env)).all (fun x => !x.1) && (backToKw p3 (keywordEach [] X.env)).all (fun x => x.1.isSome) && decide ([e].length + ([] : List Keyword).length + (if ([] : List Keyword).isEmpty then 0 else 1) < 30)) = true := by rfl)
    (hline : (p2.endLine == p3.line) = true := by rfl) (hs : starEach [e] X.env = (false, eval e X.env) :: starEach [] X.env := by rfl) (hplain : (backTo p3 (starEach [] X.env)).any (·.1) = false := by rfl)
    (hsw : swapsWith (.Call (.Attribute (.Name x p1) "append" p2) [e] [] p3) none pos.line X.env = pure false := by rfl) :
    GS K mg r X E O O Ol (.Expr (.Call (.Attribute (.Name x p1) "append" p2) [e] [] p3) pos) (tDrop (tBM K "list" rAppend (tVar i) (tCons t tNil))) (appS i m) := by
  subst hK
  refine ⟨ps_expr (pe_bm PySem.F.plainAttrs_list PySem.F.slot_list_append PySem.F.type_list_append mt_append (pe_var hN hv hd hcd) (pa_cons h.pe pa_nil hs) hbase hfew hline hs hplain) hsw, fun Hs0 H0 Hs H σ env tp D R P => ?_⟩
  obtain ⟨d0, p, b1, b2, c, c0, ne, oa⟩ := R.own i hO
  unfold appS at P
  rw [b1] at P
  cases d0 with
  | lst ds =>
    obtain ⟨vs0, k1, _⟩ := oa
    refine ⟨_, b2, .inl ⟨rfl, vs0, .of k1⟩, ?_⟩
    refine h.snd _ _ _ _ _ _ _ _ R (PostS.bind R P fun v Hs1 H1 d tp1 _ g w R1 rv P1 => ?_)
    obtain ⟨d1, p1, e1, e2, f, f0, fn, fo⟩ := R1.own i hO
    rw [b2] at e2; cases e2
    rw [b1] at e1; cases e1
    obtain ⟨vs, h1, h2⟩ := fo
    split at P1
    · rename_i hz
      refine ⟨p, vs, v, rfl, rfl, h1, by rw [h2.length]; exact hz, ?_⟩
      exact P1 _ _ _ (Same.refl _) (R1.write hO b2 ⟨_, upd_same, h2.append (.cons rv .nil)⟩)
    · exact P1.elim
  | _ => exact P.elim
def tixE (ma mb : SE D) : SE D := fun env tp => (ma env tp).bind fun d tp1 => match d with
  | .tape => (mb env tp1).bind fun e tp2 => match e with
    | .int i => RE.of (atI tp2 i) tp2
    | _ => .stuck
  | _ => .stuck
theorem ge_tix {ma mb : SE D} (ha : GO K mg r X O E a ta ma) (hb : GO K mg r X O E b tb mb) (hs : PlainIx b := by exact fun _ _ => rfl) (hK : X.K = K := by rfl) : GE K mg r X O E (.Subscript a b pos) (tOp (rIx K) ta tb) (tixE ma mb) := by
  subst hK
  refine ⟨pe_ix ix_seq ha.pe hb.pe hs, fun Hs0 H0 Hs H σ env tp Q R P => ?_⟩
  refine ha.snd _ _ _ _ _ _ _ _ R (Post.bind P fun v Hs1 H1 d tp1 _ g w rv P1 => ?_)
  cases d with
  | tape =>
    refine hb.snd _ _ _ _ _ _ _ _ (R.grow g w) (Post.bind P1 fun u Hs2 H2 e tp2 _ g2 w2 ru P2 => ?_)
    cases e with
    | int i =>
      obtain ⟨z, hz, k⟩ := Post.ok_of P2
      obtain ⟨vs, h1, h2⟩ := w2.tH
      obtain ⟨y, h3, h4⟩ := atI_rep h2 hz
      exact .inl ⟨r, vs, i, y, repT_tape rv, repT_int ru, .of h1, h3, k _ _ _ (Grow.refl _ _) w2 h4⟩
    | _ => exact P2.elim
  | _ => exact P1.elim
def tsetS (j : Nat) (ma mi m : SE D) : SS := fun env tp => (m env tp).bindS fun d tp1 => (ma env tp1).bindS fun o tp2 => (mi env tp2).bindS fun i tp3 => match o, i with
  | .tape, .int k => if ixN tp3.length k = some j then .nx env (tp3.set j d) else .stuck
  | _, _ => .stuck
theorem gs_tset {ma mi m : SE D} (j : Nat) {p1 : Pos} (h : GE K mg r X O E e t m) (ha : GO K mg r X O E a ta ma) (hb : GO K mg r X O E b tb mi)
    (hg : ∀ v, assign (.Subscript a b p1) X.env v = (do
      let ov ← holding [v] (eval a X.env)
      let iv ← holding [v, ov] (eval b X.env)
      standAt p1
      holding [v, ov, iv] (setItem ov iv v)
      release [v, ov, iv] []) := by intro _; rfl)
    (hs : swapsWithSole [.Subscript a b p1] e pos.line X.env = pure false := by rfl) (hw : swappedStores [.Subscript a b p1] e X.env = pure none := by rfl)
    (h1 : (assignEach [.Subscript a b p1] X.env).map (·.2) = [assign (.Subscript a b p1) X.env] := by rfl) :
    GS K mg r X E O O Ol (.Assign [.Subscript a b p1] e pos) (tAsg t (gSub ta tb rSetL)) (tsetS j ma mi m) := by
  refine ⟨ps_asg h.pe (pg_sub ha.pe hb.pe set_list hg) hs hw h1, fun Hs0 H0 Hs H σ env tp D R P => ?_⟩
  refine h.snd _ _ _ _ _ _ _ _ R (PostS.bind R P fun v Hs1 H1 d tp1 _ g w R1 rv P1 => ?_)
  refine ha.snd _ _ _ _ _ _ _ _ R1 (PostS.bind R1 P1 fun o Hs2 H2 od tp2 _ g2 w2 R2 ro P2 => ?_)
  refine hb.snd _ _ _ _ _ _ _ _ R2 (PostS.bind R2 P2 fun i Hs3 H3 id tp3 _ g3 w3 R3 ri P3 => ?_)
  split at P3
  · split at P3
    · rename_i q
      obtain ⟨vs, h1, h2⟩ := w3.tH
      refine ⟨r, vs, _, j, repT_tape ro, repT_int ri, h1, by rw [h2.length]; exact q, ?_⟩
      exact P3 _ _ _ (Same.refl _) (R3.tape h1 h2 (rv.mono (g2.ex.trans g3.ex)))
    · exact P3.elim
  · exact P3.elim
def setAll {α : Type} : List (Option α) → List Nat → List α → List (Option α)
  | s, i :: is, v :: vs => setAll (s.set i (some v)) is vs
  | s, _, _ => s
/-- the target of a loop: the slots that are set -/
structure GG (K : PySem.W.Frag) (mg : Str → Option Value) (r : Addr) (X : Cx) (tg : Expr) (g : TG) (is : List Nat) (f : D → Option (List D)) : Prop where
  pe : PG X tg g
  snd : ∀ v d ds Hs H tp σ (Q : L2.St → Hp → Prop), Wd K mg r Hs H tp → RepD K mg r Hs v d → f d = some ds → (∀ vs, RepDs K mg r Hs vs ds → vs.length = is.length → Q (setAll σ is vs) H) → g v σ H Q
def t1 : D → Option (List D) := fun d => some [d]
def tN (n : Nat) : D → Option (List D)
  | .tup ds => if ds.length = n then some ds else none
  | _ => none
theorem gg_name (i : Nat) {x : Str} (hN : X.N.Nodup) (hi : X.N[i]? = some x := by rfl) (hx : Loc X.env.scope x := by first | exact Or.inl rfl | exact Or.inr rfl) (hf : X.fn x = true ∨ X.env.scope.names.lookup x = some .local := by first | exact .inl rfl | exact .inr rfl) :
    GG K mg r X (.Name x pos) (gName i) [i] t1 :=
  ⟨pg_name hN hi hx hf, fun v d ds Hs H tp σ Q w rv hf q => by
    cases hf
    exact q [v] (.cons rv .nil) rfl⟩
structure GGs (K : PySem.W.Frag) (mg : Str → Option Value) (r : Addr) (X : Cx) (tg : List Expr) (g : TGs) (is : List Nat) : Prop where
  pe : PGs X tg g
  snd : ∀ vs σ H (Q : L2.St → Hp → Prop), vs.length = is.length → Q (setAll σ is vs) H → g vs σ H Q
theorem ggs_nil : GGs K mg r X [] gNil [] := ⟨pgs_nil, fun vs σ H Q hl q => by
  cases vs with
  | nil => exact ⟨rfl, q⟩
  | cons _ _ => cases hl⟩
theorem ggs_cons (i : Nat) {is : List Nat} {x : Str} {g : TGs} (hN : X.N.Nodup) (h : GGs K mg r X es g is) (hi : X.N[i]? = some x := by rfl) (hx : Loc X.env.scope x := by first | exact Or.inl rfl | exact Or.inr rfl) (hf : X.fn x = true ∨ X.env.scope.names.lookup x = some .local := by first | exact .inl rfl | exact .inr rfl)
    (hs : (assignEach (.Name x pos :: es) X.env).map (·.2) = assign (.Name x pos) X.env :: (assignEach es X.env).map (·.2) := by rfl) : GGs K mg r X (.Name x pos :: es) (gCons (gName i) g) (i :: is) :=
  ⟨pgs_cons (pg_name hN hi hx hf) h.pe hs, fun vs σ H Q hl q => by
    cases vs with
    | nil => cases hl
    | cons v vs => exact ⟨v, vs, rfl, h.snd vs _ H Q (by simpa using hl) q⟩⟩
theorem gg_tup {is : List Nat} {g : TGs} {k : Nat} {n : Nat} (hc : X.calm = true) (h : GGs K mg r X es g is) (hn : is.length = n) (hK : X.K = K := by rfl) (hn1 : (assignEach es X.env).length = n := by rfl) (hst : (assignEach es X.env).findIdx? (·.1) = none := by rfl) : GG K mg r X (.Tuple es k pos) (gTup K n g) is (tN n) := by
  subst hK
  refine ⟨pg_tup hc h.pe hn1 hst, fun v d ds Hs H tp σ Q w rv hf q => ?_⟩
  cases d with
  | tup xs =>
    have hf : (if xs.length = n then some xs else none) = some ds := hf
    split at hf
    · rename_i hl
      cases hf
      cases rv with
      | tupR h1 h2 => exact ⟨_, _, rfl, .inl (Same.rd w.sub h1), by rw [h2.length]; exact hl, h.snd _ σ H Q (by rw [h2.length, hn]; exact hl) (q _ h2 (by rw [h2.length, hn]; exact hl))⟩
    · cases hf
  | _ => cases hf
theorem filt_id {O : List Nat} {i : Nat} (h : i ∉ O) : O.filter (· != i) = O := List.filter_eq_self.mpr fun a ha => by
  have : a ≠ i := fun e => h (e ▸ ha)
  simpa using this
theorem rel_setAll {Hs0 H0 Hs H : Hp} {tp : List D} : ∀ (is : List Nat) (σ : L2.St) (env : DEnv) (vs : List V) (ds : List D), Rel K mg r O Hs0 H0 Hs H σ env tp → (∀ i ∈ is, i ∉ O) → RepDs K mg r Hs vs ds → vs.length = is.length → Rel K mg r O Hs0 H0 Hs H (setAll σ is vs) (setAll env is ds) tp
  | [], σ, env, vs, ds, R, _, h, hl => by
    cases vs with
    | nil => cases h; exact R
    | cons _ _ => cases hl
  | i :: is, σ, env, vs, ds, R, hn, h, hl => by
    cases h with
    | nil => cases hl
    | cons h1 h2 =>
      have R1 := R.set i h1
      rw [filt_id (hn i List.mem_cons_self)] at R1
      exact rel_setAll is _ _ _ _ R1 (fun j hj => hn j (List.mem_cons_of_mem _ hj)) h2 (by simpa using hl)
def WalksD (K : PySem.W.Frag) (mg : Str → Option Value) (r : Addr) (J : It) (Hs1 : Hp) (items : List D) : Prop :=
  ∃ (Gd : Hp → Prop) (Y : Nat → Hp → V → Hp → Prop), Walk J items.length Gd Y ∧ (∀ Hs H, Same Hs1 Hs → Same Hs H → Gd H) ∧
    ∀ i Hs H tp x H', i < items.length → Same Hs1 Hs → Wd K mg r Hs H tp → Y i H x H' → ∃ Hs' d, Grow r Hs H Hs' H' ∧ Wd K mg r Hs' H' tp ∧ items[i]? = some d ∧ RepD K mg r Hs' x d
structure GI (K : PySem.W.Frag) (mg : Str → Option Value) (r : Addr) (X : Cx) (O : List Nat) (E : XK) (tg : Expr) (e : Expr) (wi : TI) (m : SE (List D)) : Prop where
  pe : PI X tg e wi
  snd : ∀ Hs0 H0 Hs H σ env tp Q, Rel K mg r O Hs0 H0 Hs H σ env tp → Post K mg r (fun Hs _ J items => WalksD K mg r J Hs items) E Hs H (m env tp) Q → wi σ H Q
theorem pi_or {tg : Expr} {w1 w2 : TI} (h1 : PI X tg e w1) (h2 : PI X tg e w2) : PI X tg e (fun σ H R => w1 σ H R ∨ w2 σ H R) :=
  ⟨fun pins s σ H R I h => h.elim (h1.run pins s σ H R I) (h2.run pins s σ H R I)⟩
/-- the items of a list, a tuple, a text -/
def seqD : D → Option (List D)
  | .lst xs => some xs
  | .tup xs => some xs
  | .scr ns => some (ns.map .int)
  | .str s => some (s.cps.toList.map fun c => .str ⟨#[c]⟩)
  | _ => none
def seqI (m : SE D) : SE (List D) := fun env tp => (m env tp).bind fun d tp1 => RE.of (seqD d) tp1
abbrev iSeq (K : PySem.W.Frag) (t : TE) : TI := fun σ H R => iList K t σ H R ∨ iTup K t σ H R ∨ iStr t σ H R
theorem walks_list {K : PySem.W.Frag} {mg : Str → Option Value} {r : Addr} {Hs : Hp} {a : Addr} {vs : List V} {ds : List D} (h : SqL K Hs a vs) (hr : RepDs K mg r Hs vs ds) : WalksD K mg r (Itl K a) Hs ds := by
  refine ⟨_, _, by rw [← hr.length]; exact walk_list (K := K) (a := a) (xs := vs), fun Hs2 H e1 e2 => Same.seq e2 (Same.seq e1 h), fun i Hs2 H tp x H' hi e w y => ?_⟩
  obtain ⟨rfl, y⟩ := y
  obtain ⟨d, h1, h2⟩ := hr.get y
  exact ⟨Hs2, d, Grow.refl _ _, w, h1, h2.mono e⟩
theorem sqt_mono {K : PySem.W.Frag} {H H' : Hp} {a : Addr} {xs : List V} (e : Same H H') (h : SqT K H a xs) : SqT K H' a xs := e.sqt h
theorem walks_tup {K : PySem.W.Frag} {mg : Str → Option Value} {r : Addr} {Hs : Hp} {a : Addr} {vs : List V} {ds : List D} (h : SqT K Hs a vs) (hr : RepDs K mg r Hs vs ds) : WalksD K mg r (Itt K a) Hs ds := by
  refine ⟨_, _, by rw [← hr.length]; exact walk_tup (K := K) (a := a) (xs := vs), fun Hs2 H e1 e2 => sqt_mono e2 (sqt_mono e1 h), fun i Hs2 H tp x H' hi e w y => ?_⟩
  obtain ⟨rfl, y⟩ := y
  obtain ⟨d, h1, h2⟩ := hr.get y
  exact ⟨Hs2, d, Grow.refl _ _, w, h1, h2.mono e⟩
theorem walks_str {K : PySem.W.Frag} {mg : Str → Option Value} {r : Addr} {Hs : Hp} {z : Str} : WalksD K mg r (Its z) Hs (z.cps.toList.map fun c => .str ⟨#[c]⟩) := by
  refine ⟨_, _, by rw [List.length_map, Array.length_toList]; exact walk_str (z := z), fun Hs2 H e1 e2 => trivial, fun i Hs2 H tp x H' hi e w y => ?_⟩
  obtain ⟨rfl, c, y, rfl⟩ := y
  refine ⟨Hs2, .str ⟨#[c]⟩, Grow.refl _ _, w, ?_, .str _⟩
  rw [List.getElem?_map, Array.getElem?_toList, y]
  rfl
theorem gi_seq {tg : Expr} {m : SE D} (h : GE K mg r X O E e t m) (hK : X.K = K := by rfl) : GI K mg r X O E tg e (iSeq K t) (seqI m) := by
  subst hK
  refine ⟨pi_or (pi_list h.pe) (pi_or (pi_tup h.pe) (pi_str h.pe)), fun Hs0 H0 Hs H σ env tp Q R P => ?_⟩
  unfold seqI at P
  cases q : m env tp with
  | stuck => rw [q] at P; exact P.elim
  | exn c fs tp1 =>
    rw [q] at P
    refine .inl (h.snd _ _ _ _ _ _ _ _ R ?_)
    rw [q]; exact P
  | ok d tp1 =>
    rw [q] at P
    obtain ⟨items, hz, k⟩ := Post.ok_of (show Post X.K mg r (fun Hs _ J items => WalksD X.K mg r J Hs items) E Hs H (RE.of (seqD d) tp1) Q from P)
    cases d with
    | lst xs =>
      cases hz
      refine .inl (h.snd _ _ _ _ _ _ _ _ R ?_)
      rw [q]
      intro v Hs1 H1 g w rv
      cases rv with
      | lst h1 h2 => exact ⟨_, rfl, ⟨_, .of (w.sub _ _ h1).lst⟩, k _ Hs1 H1 g w (walks_list (.of h1) h2)⟩
    | scr ns =>
      cases hz
      refine .inl (h.snd _ _ _ _ _ _ _ _ R ?_)
      rw [q]
      intro v Hs1 H1 g w rv
      cases rv with
      | scr h1 => exact ⟨_, rfl, ⟨_, Same.seq w.sub h1⟩, k _ Hs1 H1 g w (walks_list h1 (RepDs.ints ns))⟩
    | tup xs =>
      cases hz
      refine .inr (.inl (h.snd _ _ _ _ _ _ _ _ R ?_))
      rw [q]
      intro v Hs1 H1 g w rv
      cases rv with
      | tupR h1 h2 => exact ⟨_, rfl, ⟨_, .inl (Same.rd w.sub h1)⟩, k _ Hs1 H1 g w (walks_tup (.inl h1) h2)⟩
    | str s =>
      cases hz
      refine .inr (.inr (h.snd _ _ _ _ _ _ _ _ R ?_))
      rw [q]
      intro v Hs1 H1 g w rv
      cases rv
      exact ⟨_, rfl, k _ Hs1 H1 g w walks_str⟩
    | _ => cases hz
/-- range -/
def cRg (i : Int) : Bool := decide (-(2 ^ 62) ≤ i) && decide (i < 2 ^ 62)
theorem cRg_ok {i : Int} (h : cRg i = true) : -(2 ^ 62) ≤ i ∧ i < 2 ^ 62 := by
  have h := Bool.and_eq_true_iff.mp h
  exact ⟨of_decide_eq_true h.1, of_decide_eq_true h.2⟩
def rangeL (lo hi : Int) : List D := (List.range (hi - lo).toNat).map fun (i : Nat) => .int (lo + i)
def range1D : List D → Option (List D)
  | [.int j] => if cRg j then some (rangeL 0 j) else none
  | _ => none
def rangeI (f : List D → Option (List D)) (ms : SE (List D)) : SE (List D) := fun env tp => (ms env tp).bind fun ds tp1 => RE.of (f ds) tp1
theorem walks_range {K : PySem.W.Frag} {mg : Str → Option Value} {r : Addr} {Hs : Hp} {lo hi : Int} : WalksD K mg r (Itr lo (hi - lo).toNat) Hs (rangeL lo hi) := by
  have hl : (rangeL lo hi).length = (hi - lo).toNat := by unfold rangeL; rw [List.length_map, List.length_range]
  refine ⟨_, _, by rw [hl]; exact walk_range, fun Hs2 H e1 e2 => trivial, fun i Hs2 H tp x H' hi e w y => ?_⟩
  obtain ⟨rfl, rfl⟩ := y
  refine ⟨Hs2, .int (lo + i), Grow.refl _ _, w, ?_, .int _⟩
  rw [hl] at hi
  unfold rangeL
  rw [List.getElem?_map, List.getElem?_range hi]
  rfl
theorem gi_range1 {tg : Expr} {m : SE (List D)} {p : Pos} (hm : X.mg "range" = none) (h : GAO K mg r X O E [e] ts m) (hg : Gl X "range" := by rfl) (hs : starEach [e] X.env = [(false, eval e X.env)] := by rfl) : GI K mg r X O E tg (.Call (.Name "range" p) [e] [] pos) (iRng1 ts) (rangeI range1D m) := by
  refine ⟨pi_range1 hg hm h.pe hs, fun Hs0 H0 Hs H σ env tp Q R P => ?_⟩
  refine h.snd _ _ _ _ _ _ _ _ R (Post.bind P fun vs Hs1 H1 ds tp1 _ g w rv P1 => ?_)
  obtain ⟨items, hz, k⟩ := Post.ok_of P1
  unfold range1D at hz
  split at hz
  · split at hz
    · rename_i c
      cases hz
      obtain ⟨x, rfl, h1⟩ := paired1 rv
      have c := cRg_ok c
      refine ⟨_, by rw [repT_int h1], c.1, c.2, ?_⟩
      refine k _ Hs1 H1 (Grow.refl _ _) w ?_
      have q := fun j => walks_range (K := K) (mg := mg) (r := r) (Hs := Hs1) (lo := 0) (hi := j)
      simp only [Int.sub_zero] at q
      exact q _
    · cases hz
  · cases hz
def forL (tgt : D → Option (List D)) (is : List Nat) (body : SS) : List D → SS
  | [], env, tp => .nx env tp
  | d :: ds, env, tp => match tgt d with
    | some es => (match body (setAll env is es) tp with
      | .nx e t => forL tgt is body ds e t
      | .ct e t => forL tgt is body ds e t
      | .bk e t => .nx e t
      | x => x)
    | none => .stuck
def forS (mi : SE (List D)) (tgt : D → Option (List D)) (is : List Nat) (body : SS) : SS := fun env tp => (mi env tp).bindS fun items tp1 => forL tgt is body items env tp1
theorem gs_for {tg : Expr} {mi : SE (List D)} {wi : TI} {g : TG} {is : List Nat} {tgt : D → Option (List D)} {body : SS} (hp : PassesOwn (model X.prog X.w) X.A X.env X.xe) (hc : X.calm = true) (hi : GI K mg r X O E tg e wi mi) (hg : GG K mg r X tg g is tgt) (hb : GSs K mg r X E O O O ss u body) (hO : ∀ i ∈ is, i ∉ O)
    (hlen : ∀ d ds, tgt d = some ds → ds.length = is.length) (hs : ∀ x, foldedSetIterable e X.env x = pure x := by intro _; rfl) : GS K mg r X E O O Ol (.For tg e ss [] pos) (tFor wi g u) (forS mi tgt is body) := by
  refine ⟨ps_for hp hc hi.pe hg.pe hb.pe hs, fun Hs0 H0 Hs H σ env tp D R P => ?_⟩
  refine hi.snd _ _ _ _ _ _ _ _ R (PostS.bind R P fun J Hs1 H1 items tp1 _ gg w R1 wd P1 => ?_)
  obtain ⟨Gd, Y, wk, hG, hY⟩ := wd
  refine for_it wk (fun i σ H => ∃ Hs env tp, Rel K mg r O Hs0 H0 Hs H σ env tp ∧ Same Hs1 Hs ∧ PostS K mg r E O Ol Hs0 H0 Hs (forL tgt is body (items.drop i) env tp) D) ⟨Hs1, env, tp1, R1, Same.refl _, P1⟩ (fun i σ H _ ⟨Hs2, _, _, R2, e2, _⟩ => hG Hs2 H e2 R2.wd.sub) (fun i x σ H H' hi ⟨Hs2, env2, tp2, R2, e2, P2⟩ y => ?_) (fun σ H ⟨Hs2, env2, tp2, R2, e2, P2⟩ => ?_)
  · obtain ⟨Hs3, d, g3, w3, hd, rd⟩ := hY i Hs2 H tp2 x H' hi e2 R2.wd y
    rw [List.drop_eq_getElem_cons hi] at P2
    have hd' : items[i] = d := by rw [List.getElem?_eq_getElem hi] at hd; exact Option.some.inj hd
    rw [hd'] at P2
    unfold forL at P2
    cases q : tgt d with
    | none => rw [q] at P2; exact P2.elim
    | some es =>
      rw [q] at P2
      simp only at P2
      refine hg.snd x d es Hs3 H' tp2 σ _ w3 rd q fun vs rs hl => ?_
      have R3 := rel_setAll is _ _ _ _ (R2.grow g3 w3) hO rs hl
      refine hb.snd _ _ _ _ _ _ _ _ R3 ?_
      have P2 := P2.shift g3.ex
      have e3 := e2.trans g3.ex
      have again : ∀ {e t}, PostS K mg r E O Ol Hs0 H0 Hs3 (forL tgt is body (items.drop (i + 1)) e t) D → ∀ σ' Hs' H', Same Hs3 Hs' → Rel K mg r O Hs0 H0 Hs' H' σ' e t → ∃ Hs env tp, Rel K mg r O Hs0 H0 Hs H' σ' env tp ∧ Same Hs1 Hs ∧ PostS K mg r E O Ol Hs0 H0 Hs (forL tgt is body (items.drop (i + 1)) env tp) D := fun P σ' Hs' H' e4 R' => ⟨Hs', _, _, R', e3.trans e4, P.shift e4⟩
      cases q2 : body (setAll env2 is es) tp2 with
      | nx e t => rw [q2] at P2; exact again P2
      | ct e t => rw [q2] at P2; exact again P2
      | bk e t => rw [q2] at P2; exact P2
      | rt d t => rw [q2] at P2; exact P2
      | exn c fs t => rw [q2] at P2; exact P2
      | stuck => rw [q2] at P2; exact P2
  · rw [List.drop_length] at P2
    exact P2 _ _ _ (Same.refl _) R2
end
end G
set_option maxHeartbeats 1000000
namespace G
open PySem PySem.Spec PyProof.Rows L2
section
variable {K : PySem.W.Frag} {mg : Str → Option Value} {r : Addr} {X : Cx} {E : XK} {O O1 On Ol : List Nat} {e a b : Expr} {es : List Expr} {pos : Pos} {t ta tb : TE} {tt : TT} {ts : TA} {s1 : Stmt} {ss : List Stmt} {u u1 u2 : TS}
def whileF (c : SE Bool) (body : SS) : Nat → SS
  | 0, _, _ => .stuck
  | n + 1, env, tp => (c env tp).bindS fun b tp1 => if b = true then (match body env tp1 with
      | .nx e t => whileF c body n e t
      | .ct e t => whileF c body n e t
      | .bk e t => .nx e t
      | x => x)
    else .nx env tp1
def whileS (n : Nat) (c : SE Bool) (body : SS) : SS := whileF c body n
theorem gs_while (n : Nat) {mc : SE Bool} {body : SS} (hp : PassesOwn (model X.prog X.w) X.A X.env X.xe) (hc : GT K mg r X O E e tt mc) (hb : GSs K mg r X E O O O ss u body) : GS K mg r X E O O Ol (.While e ss [] pos) (tWhile tt u) (whileS n mc body) := by
  refine ⟨ps_while hp hc.pe hb.pe, fun Hs0 H0 Hs H σ env tp D R P => ?_⟩
  refine ⟨fun m σ H => ∃ Hs env tp, Rel K mg r O Hs0 H0 Hs H σ env tp ∧ PostS K mg r E O Ol Hs0 H0 Hs (whileF mc body m env tp) D, ⟨n, Hs, env, tp, R, P⟩, ?_⟩
  rintro m σ1 H1 ⟨Hs1, env1, tp1, R1, P1⟩
  cases m with
  | zero => exact P1.elim
  | succ m =>
    unfold whileF at P1
    refine hc.snd _ _ _ _ _ _ _ _ R1 (PostS.bind R1 P1 fun v Hs2 H2 d tp2 _ g w R2 rv P2 => ?_)
    subst rv
    cases v with
    | false => exact iteF (P2 _ _ _ (Same.refl _) R2)
    | true =>
      refine iteT ⟨fun σ H => ∃ Hs env tp, Rel K mg r O Hs0 H0 Hs H σ env tp ∧ PostS K mg r E O Ol Hs0 H0 Hs (whileF mc body m env tp) D, fun σ' H' q => ⟨m, Nat.lt_succ_self m, q⟩, ?_⟩
      rw [if_pos rfl] at P2
      refine hb.snd _ _ _ _ _ _ _ _ R2 ?_
      have again : ∀ {e t}, PostS K mg r E O Ol Hs0 H0 Hs2 (whileF mc body m e t) D → ∀ σ' Hs' H', Same Hs2 Hs' → Rel K mg r O Hs0 H0 Hs' H' σ' e t → ∃ Hs env tp, Rel K mg r O Hs0 H0 Hs H' σ' env tp ∧ PostS K mg r E O Ol Hs0 H0 Hs (whileF mc body m env tp) D := fun P σ' Hs' H' e4 R' => ⟨Hs', _, _, R', P.shift e4⟩
      cases q2 : body env1 tp2 with
      | nx e t => rw [q2] at P2; exact again P2
      | ct e t => rw [q2] at P2; exact again P2
      | bk e t => rw [q2] at P2; exact P2
      | rt d t => rw [q2] at P2; exact P2
      | exn c fs t => rw [q2] at P2; exact P2
      | stuck => rw [q2] at P2; exact P2
def wipeE {α : Type} (σ : List (Option α)) : List Nat → List (Option α)
  | [] => σ
  | v :: vs => (wipeE σ vs).set v none
theorem wipe_eq (σ : L2.St) : ∀ vs : List Nat, wipe σ vs = wipeE σ vs
  | [] => rfl
  | v :: vs => by unfold wipe wipeE; rw [wipe_eq σ vs]
theorem Rel.unset {Hs0 H0 Hs H : Hp} {σ : L2.St} {env : DEnv} {tp : List D} (R : Rel K mg r O Hs0 H0 Hs H σ env tp) (i : Nat) (hi : i ∉ O) : Rel K mg r O Hs0 H0 Hs H (σ.set i none) (env.set i none) tp where
  wd := R.wd
  gr := R.gr
  len := by rw [List.length_set, List.length_set]; exact R.len
  vars := fun j d a n => by
    have ne : j ≠ i := fun q => by
      subst q
      rw [List.getElem?_set] at a
      simp only [if_true] at a
      split at a <;> cases a
    rw [set_gne ne] at a ⊢
    exact R.vars j d a n
  own := fun j hj => by
    have ne : j ≠ i := fun q => hi (q ▸ hj)
    rw [set_gne ne, set_gne ne]
    exact R.own j hj
  dis := fun j l p hj hl a b => by
    rw [set_gne (by rintro rfl; exact hi hj)] at a
    rw [set_gne (by rintro rfl; exact hi hl)] at b
    exact R.dis j l p hj hl a b
theorem Rel.wiped {Hs0 H0 Hs H : Hp} {σ : L2.St} {env : DEnv} {tp : List D} (R : Rel K mg r O Hs0 H0 Hs H σ env tp) : ∀ vs : List Nat, (∀ i ∈ vs, i ∉ O) → Rel K mg r O Hs0 H0 Hs H (wipeE σ vs) (wipeE env vs) tp
  | [], _ => R
  | v :: vs, h => (Rel.wiped R vs fun i hi => h i (List.mem_cons_of_mem _ hi)).unset v (h v List.mem_cons_self)
theorem wipe_get {α : Type} {σ : List (Option α)} {i : Nat} : ∀ {vs : List Nat}, i ∉ vs → (wipeE σ vs)[i]? = σ[i]?
  | [], _ => rfl
  | v :: vs, h => by
    unfold wipeE
    rw [set_gne (by rintro rfl; exact h List.mem_cons_self), wipe_get fun q => h (List.mem_cons_of_mem _ q)]
theorem wipe_len {α : Type} {σ : List (Option α)} : ∀ {vs : List Nat}, (wipeE σ vs).length = σ.length
  | [] => rfl
  | v :: vs => by unfold wipeE; rw [List.length_set, wipe_len]
theorem wipe_none {α : Type} {σ : List (Option α)} {i : Nat} : ∀ {vs : List Nat}, i ∈ vs → (wipeE σ vs)[i]? = some none ∨ (wipeE σ vs)[i]? = none
  | v :: vs, h => by
    unfold wipeE
    by_cases q : i = v
    · subst q
      rw [List.getElem?_set]
      simp only [if_true]
      split
      · exact .inl rfl
      · exact .inr rfl
    · rw [set_gne q]
      rcases List.mem_cons.mp h with z | z
      · exact absurd z q
      · exact wipe_none z
theorem wipe_set {α : Type} {σ : List (Option α)} {i : Nat} {v : Option α} {vs : List Nat} (h : i ∈ vs) : wipeE (σ.set i v) vs = wipeE σ vs := by
  apply List.ext_getElem?
  intro j
  by_cases hj : j ∈ vs
  · have l1 : (wipeE (σ.set i v) vs).length = (wipeE σ vs).length := by rw [wipe_len, wipe_len, List.length_set]
    rcases Nat.lt_or_ge j (wipeE σ vs).length with q | q
    · rcases wipe_none (σ := σ.set i v) hj with a | a
      · rcases wipe_none (σ := σ) hj with b | b
        · rw [a, b]
        · rw [List.getElem?_eq_none_iff] at b; omega
      · rw [List.getElem?_eq_none_iff] at a; omega
    · rw [List.getElem?_eq_none q, List.getElem?_eq_none (by omega)]
  · rw [wipe_get hj, wipe_get hj, set_gne (by rintro rfl; exact hj h)]
theorem wipe_wipe {α : Type} {σ : List (Option α)} {vs : List Nat} : ∀ ws : List Nat, (∀ i ∈ ws, i ∈ vs) → wipeE (wipeE σ ws) vs = wipeE σ vs
  | [], _ => rfl
  | w :: ws, h => by
    show wipeE ((wipeE σ ws).set w none) vs = _
    rw [wipe_set (h w List.mem_cons_self), wipe_wipe ws fun i hi => h i (List.mem_cons_of_mem _ hi)]
theorem wipe_setAll {α : Type} {vs : List Nat} : ∀ (is : List Nat) (σ : List (Option α)) (ws : List α), (∀ i ∈ is, i ∈ vs) → wipeE (setAll σ is ws) vs = wipeE σ vs
  | [], σ, ws, _ => by unfold setAll; rfl
  | i :: is, σ, [], _ => by unfold setAll; rfl
  | i :: is, σ, w :: ws, h => by
    show wipeE (setAll (σ.set i (some w)) is ws) vs = _
    rw [wipe_setAll is _ ws fun j hj => h j (List.mem_cons_of_mem _ hj), wipe_set (h i List.mem_cons_self)]
/-- the items that a comprehension makes -/
def compL (f : D → List D → RE (Option D)) : List D → List D → RE (List D)
  | [], tp => .ok [] tp
  | d :: ds, tp => match f d tp with
    | .ok o tp1 => (match compL f ds tp1 with
      | .ok xs tp2 => .ok (o.toList ++ xs) tp2
      | _ => .stuck)
    | _ => .stuck
def yesT : SE Bool := fun _ tp => .ok true tp
def compTurn1 (tgt : D → Option (List D)) (is : List Nat) (c : SE Bool) (m : SE D) (env : DEnv) (d : D) (tp : List D) : RE (Option D) := match tgt d with
  | some ds => (c (setAll env is ds) tp).bind fun b tp1 => if b = true then (m (setAll env is ds) tp1).bind fun x tp2 => .ok (some x) tp2 else .ok none tp1
  | none => .stuck
def compE (mi : SE (List D)) (vs : List Nat) (tgt : D → Option (List D)) (is : List Nat) (c : SE Bool) (m : SE D) : SE D := fun env tp => (mi env tp).bind fun items tp1 =>
  if items.length ≤ sizeLine then (match compL (compTurn1 tgt is c m (wipeE env vs)) items tp1 with
    | .ok xs tp2 => .ok (.lst xs) tp2
    | _ => .stuck) else .stuck
/-- a clause's tests -/
structure GTs (K : PySem.W.Frag) (mg : Str → Option Value) (r : Addr) (X : Cx) (O : List Nat) (E : XK) (es : List Expr) (t : TT) (m : SE Bool) : Prop where
  pe : PTs X es t
  snd : ∀ Hs0 H0 Hs H σ env tp Q, Rel K mg r O Hs0 H0 Hs H σ env tp → PostB K mg r E Hs H (m env tp) Q → t σ H Q
theorem gts_nil : GTs K mg r X O E [] tYes yesT := ⟨pts_nil, fun Hs0 H0 Hs H σ env tp Q R P => P true Hs H (Grow.refl _ _) R.wd rfl⟩
theorem gts_one {m : SE Bool} (h : GT K mg r X O E e tt m) : GTs K mg r X O E [e] tt m := ⟨pts_one h.pe, h.snd⟩
theorem compL_cons {f : D → List D → RE (Option D)} {d : D} {ds : List D} {tp tpE : List D} {xs : List D} (h : compL f (d :: ds) tp = .ok xs tpE) : ∃ o tp1 xs', f d tp = .ok o tp1 ∧ compL f ds tp1 = .ok xs' tpE ∧ xs = o.toList ++ xs' := by
  unfold compL at h
  cases q : f d tp with
  | ok o tp1 =>
    rw [q] at h
    simp only at h
    cases q2 : compL f ds tp1 with
    | ok xs' tp2 =>
      rw [q2] at h
      simp only [RE.ok.injEq] at h
      exact ⟨o, tp1, xs', rfl, by rw [q2, h.2], h.1.symm⟩
    | _ => rw [q2] at h; cases h
  | _ => rw [q] at h; cases h
theorem Rel.other {Hs0 H0 Hs H : Hp} {σ : L2.St} {env : DEnv} {tp : List D} {p : Addr} {o : HO} (R : Rel K mg r O Hs0 H0 Hs H σ env tp) (hs : Hs p = none) (h0 : H0 p = none) (ne : p ≠ r) (hO : ∀ j ∈ O, σ[j]? ≠ some (some (.ref p))) (nt : ∀ xs : StU, H p ≠ some xs.1 := by (intro xs z; first | (rw [upd_same] at z; exact st_no rfl xs (Option.some.inj z)) | (rename_i zh _; rw [zh] at z; exact st_no rfl xs (Option.some.inj z)) | (exfalso; simp [*] at z; done))) : Rel K mg r O Hs0 H0 Hs (upd H p o) σ env tp := by
  refine ⟨R.wd.write hs ne nt, ⟨fun b u q n hs => ?_, fun b e => R.gr.free b (upd_free e), R.gr.ex, R.gr.new, fun b xs e => by rw [upd_ne (ne_of_none e h0)]; exact R.gr.tup b xs e⟩, R.len, R.vars, fun j hj => ?_, R.dis⟩
  · rw [upd_ne (ne_of_none q h0)]; exact R.gr.keep b u q n hs
  · obtain ⟨d', p', b1, b2, c, c0, n, oa⟩ := R.own j hj
    have np : p' ≠ p := fun z => hO j hj (z ▸ b2)
    exact ⟨d', p', b1, b2, c, c0, n, oa.grow (Same.refl _) fun u z => by rw [upd_ne np]; exact z⟩
theorem Grow.other {Hs H Hs' H' : Hp} {p : Addr} {o : HO} (g : Grow r Hs H Hs' H') (h : H p = none) : Grow r Hs H Hs' (upd H' p o) :=
  ⟨fun b u q n hs => by rw [upd_ne (ne_of_none q h)]; exact g.keep b u q n hs, fun b e => g.free b (upd_free e), g.ex, g.new, fun b xs e => by rw [upd_ne (ne_of_none e h)]; exact g.tup b xs e⟩
theorem comp_sound {wi : TI} {g : TG} {te : TE} {is vs : List Nat} {tgt : D → Option (List D)} {mi : SE (List D)} {c : SE Bool} {m : SE D}
    (hi : ∀ Hs0 H0 Hs H σ env tp Q, Rel K mg r O Hs0 H0 Hs H σ env tp → Post K mg r (fun Hs _ J items => WalksD K mg r J Hs items) E Hs H (mi env tp) Q → wi σ H Q)
    (hg : ∀ v d ds Hs H tp σ (Q : L2.St → Hp → Prop), Wd K mg r Hs H tp → RepD K mg r Hs v d → tgt d = some ds → (∀ vs, RepDs K mg r Hs vs ds → vs.length = is.length → Q (setAll σ is vs) H) → g v σ H Q)
    (ht : ∀ Hs0 H0 Hs H σ env tp Q, Rel K mg r O Hs0 H0 Hs H σ env tp → PostB K mg r E0 Hs H (c env tp) Q → tt σ H Q)
    (he : ∀ Hs0 H0 Hs H σ env tp Q, Rel K mg r O Hs0 H0 Hs H σ env tp → PostE K mg r E0 Hs H (m env tp) Q → te σ H Q)
    (hvs : ∀ i ∈ vs, i ∉ O) (his : ∀ i ∈ is, i ∈ vs) :
    ∀ Hs0 H0 Hs H σ env tp Q, Rel K mg r O Hs0 H0 Hs H σ env tp → Post K mg r (Fresh K mg r H) E Hs H (compE mi vs tgt is c m env tp) Q → tLc wi g tt te vs σ H Q := by
  intro Hs0 H0 Hs H σ env tp Q R P
  refine hi _ _ _ _ _ _ _ _ R ?_
  unfold compE at P
  cases q : mi env tp with
  | stuck => rw [q] at P; exact P.elim
  | exn cc fs tp1 => rw [q] at P; exact P
  | ok items tp1 =>
    rw [q] at P
    intro J Hs1 H1 g1 w1 wd Dl hD
    simp only [RE.bind_ok] at P
    by_cases hz : items.length ≤ sizeLine
    case neg => rw [if_neg hz] at P; exact P.elim
    rw [if_pos hz] at P
    cases q2 : compL (compTurn1 tgt is c m (wipeE env vs)) items tp1 with
    | stuck => rw [q2] at P; exact P.elim
    | exn cc fs tp2 => rw [q2] at P; exact P.elim
    | ok all tpE =>
      rw [q2] at P
      have P : ∀ v Hs' H', Grow r Hs H Hs' H' → Wd K mg r Hs' H' tpE → Fresh K mg r H Hs' H' v (.lst all) → Q v H' := P
      obtain ⟨Gd, Y, wk, hG, hY⟩ := wd
      have R1 := R.grow g1 w1
      obtain ⟨fD, neD⟩ := w1.fresh hD
      have h0D : H Dl = none := g1.free Dl hD
      have Rw := R1.wiped vs hvs
      obtain ⟨gl, wl⟩ := w1.lay (o := .lst []) hD
      obtain ⟨n1, n2⟩ := R.new_ne h0D neD
      have n3 : ∀ j ∈ O, (wipeE σ vs)[j]? ≠ some (some (.ref Dl)) := fun j hj z => n2 j hj (by rw [← z, wipe_get fun q => hvs j q hj])
      have hisO : ∀ i ∈ is, i ∉ O := fun i hi => hvs i (his i hi)
      refine lc_it wk (Qd := fun H' => Q (.ref Dl) H') (fun i H' => ∃ Hs2 vsL dsL tp xs, Rel K mg r O Hs0 H0 Hs2 H' (wipeE σ vs) (wipeE env vs) tp ∧ Same Hs1 Hs2 ∧ Grow r Hs H Hs2 H' ∧ Hs2 Dl = none ∧ H' Dl = some (.lst vsL) ∧ RepDs K mg r Hs2 vsL dsL ∧ dsL.length ≤ i ∧
        compL (compTurn1 tgt is c m (wipeE env vs)) (items.drop i) tp = .ok xs tpE ∧ dsL ++ xs = all) ⟨Hs1, [], [], tp1, all, Rw.grow gl wl, Same.refl _, g1.trans gl, fD, upd_same, .nil, Nat.le_refl _, q2, rfl⟩ ?_ ?_ ?_
      · rintro i H' _ ⟨Hs2, vsL, dsL, tp2, xs, R2, e2, _⟩
        exact hG Hs2 H' e2 R2.wd.sub
      · rintro i x H2 H3 hi2 ⟨Hs2, vsL, dsL, tp2, xs, R2, e2, g2, f2, hD2, rs2, hl2, hc2, ha2⟩ y
        obtain ⟨Hs3, d, g3, w3, hd, rd⟩ := hY i Hs2 H2 tp2 x H3 hi2 e2 R2.wd y
        rw [List.drop_eq_getElem_cons hi2] at hc2
        have hd' : items[i] = d := by rw [List.getElem?_eq_getElem hi2] at hd; exact Option.some.inj hd
        rw [hd'] at hc2
        obtain ⟨o, tp3, xs', hf, hrest, hxs⟩ := compL_cons hc2
        unfold compTurn1 at hf
        cases qt : tgt d with
        | none => rw [qt] at hf; cases hf
        | some es =>
          rw [qt] at hf
          simp only at hf
          rw [wipe_eq]
          refine hg x d es Hs3 H3 tp2 _ _ w3 rd qt fun ws rs hl => ⟨by rw [wipe_eq, wipe_setAll is _ _ his, wipe_wipe vs fun _ h => h], ?_⟩
          have R3 := rel_setAll is _ _ _ _ (R2.grow g3 w3) hisO rs hl
          have f3 := g3.no f2 hD2 neD
          have hD3 := g3.keep Dl _ hD2 neD f2
          refine ht _ _ _ _ _ _ _ _ R3 ?_
          cases qb : c (setAll (wipeE env vs) is es) tp2 with
          | stuck => rw [qb] at hf; cases hf
          | exn cc fs tp4 => rw [qb] at hf; cases hf
          | ok b tpb =>
            rw [qb] at hf
            simp only [RE.bind_ok] at hf
            intro v Hs4 H4 g4 w4 ev
            subst ev
            have f4 := g4.no f3 hD3 neD
            have hD4 := g4.keep Dl _ hD3 neD f3
            cases v with
            | false =>
              rw [if_neg Bool.false_ne_true] at hf
              simp only [RE.ok.injEq] at hf
              obtain ⟨ho, htp⟩ := hf
              subst ho htp
              refine iteF ⟨Hs4, vsL, dsL, tpb, xs', R2.grow (g3.trans g4) w4, e2.trans (g3.ex.trans g4.ex), g2.trans (g3.trans g4), f4, hD4, rs2.mono (g3.ex.trans g4.ex), by omega, hrest, ?_⟩
              rw [← ha2, hxs]; rfl
            | true =>
              rw [if_pos rfl] at hf
              refine iteT (he _ _ _ _ _ _ _ _ (R3.grow g4 w4) ?_)
              cases qm : m (setAll (wipeE env vs) is es) tpb with
              | stuck => rw [qm] at hf; cases hf
              | exn cc fs tp4 => rw [qm] at hf; cases hf
              | ok z tpz =>
                rw [qm] at hf
                simp only [RE.bind_ok, RE.ok.injEq] at hf
                obtain ⟨ho, htp⟩ := hf
                subst ho htp
                intro y5 Hs5 H5 g5 w5 ry
                have f5 := g5.no f4 hD4 neD
                have hD5 := g5.keep Dl _ hD4 neD f4
                have e5 := g3.ex.trans (g4.ex.trans g5.ex)
                refine ⟨vsL, hD5, by rw [rs2.length]; omega, Hs5, vsL ++ [y5], dsL ++ [z], tpz, xs', ?_, e2.trans e5, ?_, f5, upd_same, (rs2.mono e5).append (.cons ry .nil), by rw [List.length_append, List.length_singleton]; omega, hrest, ?_⟩
                · exact (R2.grow (g3.trans (g4.trans g5)) w5).other f5 n1 neD n3 (fun xs z => by rw [hD5] at z; first | exact st_no rfl xs (Option.some.inj z) | cases z)
                · exact (g2.trans (g3.trans (g4.trans g5))).other h0D
                · rw [← ha2, hxs, List.append_assoc]; rfl
      · rintro H2 ⟨Hs2, vsL, dsL, tp2, xs, R2, e2, g2, f2, hD2, rs2, hl2, hc2, ha2⟩
        rw [List.drop_length] at hc2
        unfold compL at hc2
        simp only [RE.ok.injEq] at hc2
        obtain ⟨hx, htp⟩ := hc2
        subst hx htp
        rw [List.append_nil] at ha2
        subst ha2
        exact P _ Hs2 H2 g2 R2.wd ⟨Dl, rfl, h0D, f2, neD, vsL, hD2, rs2⟩
/-- a list comprehension (one clause) -/
theorem gf_lc {elt tg iter : Expr} {ifs : List Expr} {scope : Scope} {own : List (Str × Nat)} {wi : TI} {g : TG} {te : TE} {is : List Nat} {tgt : D → Option (List D)} {mi : SE (List D)} {c : SE Bool} {m : SE D} (hc : X.calm = true) (hN : X.N.Nodup) (hi : GI K mg r X O E tg iter wi mi) (ok : BlkOk X.N X.env.scope scope own)
    (hg : ∀ (s : Shared) (H : Hp) (C : Addr) (cl : List (Str × Addr)) (fp : List Addr), GG K mg r (X.blk s H scope (compEnvC scope cl C X.env) fp) tg g is tgt)
    (ht : ∀ (s : Shared) (H : Hp) (C : Addr) (cl : List (Str × Addr)) (fp : List Addr), GTs K mg r (X.blk s H scope (compEnvC scope cl C X.env) fp) O E0 ifs tt c)
    (he : ∀ (s : Shared) (H : Hp) (C : Addr) (cl : List (Str × Addr)) (fp : List Addr), GE K mg r (X.blk s H scope (compEnvC scope cl C X.env) fp) O E0 elt te m)
    (hvs : ∀ i ∈ own.map (·.2), i ∉ O) (his : ∀ i ∈ is, i ∈ own.map (·.2)) (hs : ∀ x, foldedSetIterable iter X.env x = pure x := by intro _; rfl) :
    GF K mg r X O E (.ListComp elt [⟨tg, iter, ifs, 0⟩] scope pos) (tLc wi g tt te (own.map (·.2))) (compE mi (own.map (·.2)) tgt is c m) :=
  ⟨pe_lc hc hN hi.pe ok (fun s H C cl fp => (hg s H C cl fp).pe) (fun s H C cl fp => (ht s H C cl fp).pe) (fun s H C cl fp => (he s H C cl fp).pe) hs,
    comp_sound hi.snd (hg X.s_0 X.H_0 0 [] []).snd (ht X.s_0 X.H_0 0 [] []).snd (he X.s_0 X.H_0 0 [] []).snd hvs his⟩
/-- name = [..] on one line, the name a local -/
theorem lc_stmt {i : Nat} {y : Str} {py : Pos} {elt tg iter : Expr} {ifs : List Expr} {scope : Scope} {own : List (Str × Nat)} {pos spos : Pos} {wi : TI} {g : TG} {te : TE} {is : List Nat} {tgt : D → Option (List D)} {mi : SE (List D)} {c : SE Bool} {m : SE D} (hc : X.calm = true) (hN : X.N.Nodup) (hi : GI K mg r X O E tg iter wi mi) (ok : BlkOk X.N X.env.scope scope own)
    (hg : ∀ (s : Shared) (H : Hp) (C : Addr) (cl : List (Str × Addr)) (fp : List Addr), GG K mg r (X.blk s H scope (compEnvC scope cl C X.env) fp) tg g is tgt)
    (ht : ∀ (s : Shared) (H : Hp) (C : Addr) (cl : List (Str × Addr)) (fp : List Addr), GTs K mg r (X.blk s H scope (compEnvC scope cl C X.env) fp) O E0 ifs tt c)
    (he : ∀ (s : Shared) (H : Hp) (C : Addr) (cl : List (Str × Addr)) (fp : List Addr), GE K mg r (X.blk s H scope (compEnvC scope cl C X.env) fp) O E0 elt te m)
    (hvs : ∀ i ∈ own.map (·.2), i ∉ O) (his : ∀ i ∈ is, i ∈ own.map (·.2)) (hy : X.N[i]? = some y := by rfl) (hyl : X.env.scope.names.lookup y = some .local := by rfl)
    (hsw : swapsWith (.ListComp elt [⟨tg, iter, ifs, 0⟩] scope pos) (some (.Name y py)) spos.line X.env = pure true := by exact sw_true rfl rfl rfl (by decide +kernel)) (hs : ∀ x, foldedSetIterable iter X.env x = pure x := by intro _; rfl) :
    PS X (.Assign [.Name y py] (.ListComp elt [⟨tg, iter, ifs, 0⟩] scope pos) spos) (tAsg (tLc wi g tt te (own.map (·.2))) (gName i)) ∧
    ∀ Hs0 H0 Hs H σ env tp Q, Rel K mg r O Hs0 H0 Hs H σ env tp → Post K mg r (Fresh K mg r H) E Hs H (compE mi (own.map (·.2)) tgt is c m env tp) Q → tLc wi g tt te (own.map (·.2)) σ H Q :=
  ⟨ps_setLc hc hN hy hyl hsw hi.pe ok (fun s H C cl fp => (hg s H C cl fp).pe) (fun s H C cl fp => (ht s H C cl fp).pe) (fun s H C cl fp => (he s H C cl fp).pe) hs,
    comp_sound hi.snd (hg X.s_0 X.H_0 0 [] []).snd (ht X.s_0 X.H_0 0 [] []).snd (he X.s_0 X.H_0 0 [] []).snd hvs his⟩
theorem ge_of_gf {m : SE D} (h : ∀ Hs0 H0 Hs H σ env tp Q, Rel K mg r O Hs0 H0 Hs H σ env tp → Post K mg r (Fresh K mg r H) E Hs H (m env tp) Q → t σ H Q) : ∀ Hs0 H0 Hs H σ env tp Q, Rel K mg r O Hs0 H0 Hs H σ env tp → PostE K mg r E Hs H (m env tp) Q → t σ H Q := by
  intro Hs0 H0 Hs H σ env tp Q R P
  refine h _ _ _ _ _ _ _ _ R ?_
  unfold PostE at P
  cases q : m env tp with
  | ok d tp' =>
    rw [q] at P
    intro v Hs' H' g w x
    obtain ⟨Hs2, e, w2, rv, nw⟩ := freeze_fresh w x
    refine P v Hs2 H' ⟨g.keep, g.free, g.ex.trans e, fun b o n z => ?_, g.tup⟩ w2 rv
    rcases nw b o z with ⟨u, z⟩ | z
    · exact g.new b u n z
    · exact .inr (.inl z)
  | exn c fs tp' => rw [q] at P; exact P
  | stuck => rw [q] at P; exact P
theorem gs_setLc {i : Nat} {st : Stmt} {m : SE D} (h : PS X st (tAsg t (gName i)) ∧ ∀ Hs0 H0 Hs H σ env tp Q, Rel K mg r O Hs0 H0 Hs H σ env tp → Post K mg r (Fresh K mg r H) E Hs H (m env tp) Q → t σ H Q) : GS K mg r X E O (O.filter (· != i)) Ol st (tAsg t (gName i)) (setS i m) :=
  ⟨h.1, setS_sound i (ge_of_gf h.2)⟩
def spOf (K : PySem.W.Frag) (mg : Str → Option Value) (r : Addr) (n : Nat) (m : List D → List D → RE D) : Sp := fun vs H Q E => ∃ Hs ds tp, vs.length = n ∧ Wd K mg r Hs H tp ∧ RepDs K mg r Hs vs ds ∧ PostE K mg r E Hs H (m ds tp) Q
structure DefOk (P : Program) (w : World) (K : PySem.W.Frag) (mg : Str → Option Value) (base : Heap) (CX : CXT) (r : Addr) (x : Str) (k n : Nat) (m : List D → List D → RE D) : Prop where
  ex : ∃ f fd ps, FnOk P w K mg base CX k f fd ps (spOf K mg r n m) ∧ mg x = some (.ref f) ∧ PySem.W.keepIn K (.ref f) = true ∧ Binds K fd ps []
def callE (n : Nat) (m : List D → List D → RE D) (ms : SE (List D)) : SE D := fun env tp => (ms env tp).bind fun ds tp1 => if ds.length = n then m ds tp1 else .stuck
theorem call_sound {n : Nat} {m : List D → List D → RE D} {ms : SE (List D)} (h : ∀ Hs0 H0 Hs H σ env tp Q, Rel K mg r O Hs0 H0 Hs H σ env tp → PostA K mg r E Hs H (ms env tp) Q → ts σ H Q) :
    ∀ Hs0 H0 Hs H σ env tp Q, Rel K mg r O Hs0 H0 Hs H σ env tp → PostE K mg r E Hs H (callE n m ms env tp) Q → tCall (spOf K mg r n m) [] E ts σ H Q := by
  intro Hs0 H0 Hs H σ env tp Q R P
  refine h _ _ _ _ _ _ _ _ R (Post.bind P fun vs Hs1 H1 ds tp1 _ g w rs P1 => ?_)
  split at P1
  · rename_i hl
    exact ⟨Hs1, ds, tp1, by rw [List.append_nil, rs.length]; exact hl, w, by rw [List.append_nil]; exact rs, P1⟩
  · exact P1.elim
theorem ge_call {CX : CXT} {x : Str} {k n : Nat} {m : List D → List D → RE D} {ms : SE (List D)} {p : Pos} (dk : DefOk X.prog X.w X.K X.mg X.base CX r x k n m) (hr : Room k X.A) (hx : Passes CX X E) (ha : GA K mg r X O E (e :: es) ts ms) (hK : X.K = K := by rfl) (hmg : X.mg = mg := by rfl) (hg : Gl X x := by rfl)
    (hdb : (x == ("__debug__" : Str)) = false := by decide) (he : starEach (e :: es) X.env = (false, eval e X.env) :: starEach es X.env := by rfl) (hpl : (backTo pos (starEach es X.env)).any (·.1) = false := by rfl) :
    GE K mg r X O E (.Call (.Name x p) (e :: es) [] pos) (tCall (spOf K mg r n m) [] E ts) (callE n m ms) := by
  subst hK hmg
  obtain ⟨f, fd, ps, F, hm, hk, hb⟩ := dk.ex
  exact ⟨pe_call F hr hg hm hk hb .nil hx ha.pe hdb he hpl, call_sound ha.snd⟩
/-- a body's result as a def's -/
def retR : RS → RE D
  | .rt d tp => .ok d tp
  | .nx _ tp => .ok .non tp
  | _ => .stuck
def defD (N : Nat) (body : SS) : List D → List D → RE D := fun ds tp => retR (body (ds.map some ++ List.replicate (N - ds.length) none) tp)
theorem rel_start {Hs H : Hp} {tp : List D} {N : List Str} {vs : List V} {ds : List D} (w : Wd K mg r Hs H tp) (rs : RepDs K mg r Hs vs ds) : Rel K mg r [] Hs H Hs H (L2.start N vs) (ds.map some ++ List.replicate (N.length - ds.length) none) tp where
  wd := w
  gr := Grow.refl _ _
  len := by unfold L2.start; rw [List.length_append, List.length_append, List.length_map, List.length_map, List.length_replicate, List.length_replicate, rs.length]
  vars := fun i d a _ => by
    have hi : i < ds.length := by
      rcases Nat.lt_or_ge i ds.length with q | q
      · exact q
      · rw [List.getElem?_append_right (by rw [List.length_map]; exact q), List.getElem?_replicate] at a
        split at a <;> cases a
    rw [List.getElem?_append_left (by rw [List.length_map]; exact hi), List.getElem?_map] at a
    obtain ⟨d', h1, h2⟩ := Option.map_eq_some_iff.mp a
    cases h2
    obtain ⟨v, h3, h4⟩ := rs.get' h1
    refine ⟨v, ?_, h4⟩
    unfold L2.start
    rw [List.getElem?_append_left (by rw [List.length_map, rs.length]; exact hi), List.getElem?_map, h3]
    rfl
  own := fun i hi => nomatch hi
  dis := fun i j p hi => nomatch hi
section
variable {P : Program} {w : World} {base : Heap}
theorem fn_def {x qual : Str} {params : Arguments} {body : List Stmt} {scope : Scope} {f : Addr} {fd : FuncData} {N ps : List Str} {k : Nat} {m : SS} (F : FunD K x qual params body scope [] [] f fd) (S : FnScope N ps scope) (hm : mg x = some (.ref f))
    (hb : ∀ (kV doc pm : Value) (an : Option Addr) (cdv ct : Value) (us : List Value), us.length = ps.length → bindArgs (PySem.W.fnOf x qual params body scope .none kV doc pm an cdv ct) ⟨us, []⟩ = pure (ps.zip us))
    (h : ∀ (cdv : Value) (A : Around) (outer : List Env) (s : Shared) (H : Hp) (E : XK), Room k (A.deeper (envOfC qual scope s.heap.objs.size f cdv)) → ∃ On u, GSs K mg r (cxOf CX0 P w K mg base N qual scope f cdv A outer s H E).nox E0 [] On [] body u m) :
    DefOk P w K mg base CX0 r x (k + 1) ps.length (defD N.length m) := by
  refine ⟨f, fd, ps, F.ok S (fun vs H Q E q => ?_) (fun cdv A outer s H vs Q E hr q => ?_), hm, F.kp, F.bindsN hb⟩
  · obtain ⟨_, _, _, h1, _⟩ := q
    exact h1
  · obtain ⟨Hs, ds, tp, hl, wd, rs, P1⟩ := q
    obtain ⟨On, u, hG⟩ := h cdv A outer s H E hr
    refine ⟨u, hG.pe.nox, hG.snd _ _ _ _ _ _ _ _ (rel_start wd rs) ?_⟩
    unfold defD at P1
    cases q : m (ds.map some ++ List.replicate (N.length - ds.length) none) tp with
    | rt d tp' =>
      rw [q] at P1
      exact fun v Hs' H' g w rv => P1 v Hs' H' g w rv
    | nx env' tp' =>
      rw [q] at P1
      exact fun σ' Hs' H' e R => P1 .non Hs' H' R.gr R.wd .non
    | bk env' tp' => rw [q] at P1; exact P1.elim
    | ct env' tp' => rw [q] at P1; exact P1.elim
    | exn c fs tp' => rw [q] at P1; exact P1.elim
    | stuck => rw [q] at P1; exact P1.elim
/-- the law: its first statement makes the tape -/
def spLaw (K : PySem.W.Frag) : Sp := fun vs H Q _ => ∃ (a : Addr) (ns : List Int), vs = [.ref a] ∧ SqL K H a (ns.map V.int) ∧ ns.length ≤ 63 ∧ ∀ H', Q (.bl true) H'
/-- the heap without its other things -/
def noX (H : Hp) : Hp := fun b => match H b with
  | some (.ext _) => none
  | o => o
theorem noX_some {H : Hp} {b : Addr} {o : HO} (h : noX H b = some o) : H b = some o := by
  unfold noX at h
  split at h
  · cases h
  · exact h
theorem noX_next {H : Hp} {b : Addr} {φ : Heap → Prop} : noX H b ≠ some (.ext φ) := fun h => by
  have e := noX_some h
  unfold noX at h
  rw [e] at h
  cases h
theorem noX_none {H : Hp} {b : Addr} (h : H b = none) : noX H b = none := by unfold noX; rw [h]
theorem noX_seq {H : Hp} {a : Addr} {xs : List V} (h : SqL K H a xs) : SqL K (noX H) a xs := h.imp (fun h => by
  rcases h with h | ⟨o, h⟩
  · exact .inl (by unfold noX; rw [h])
  · exact .inr ⟨o, by unfold noX; rw [h]⟩) id
theorem fn_law {x qual : Str} {params : Arguments} {body : List Stmt} {scope : Scope} {f : Addr} {fd : FuncData} {N : List Str} {k : Nat} {sx rx : Str} {p1 p2 p3 p4 p5 p6 p7 : Pos} {k0 k1 k2 : Nat} {c : Int} {m : SS}
    (F : FunD K x qual params (.Assign [.Name rx p1] (.List [.Name sx p2, .Constant (.int 0) k0 p3, .Constant (.int c) k1 p4, .Constant (.int 0) k2 p5] p6) p7 :: body) scope [] [] f fd) (S : FnScope (sx :: rx :: N) [sx] scope) (hlx : scope.names.lookup sx = some .local ∨ scope.names.lookup sx = some .cell) (hlr : scope.names.lookup rx = some .local ∨ scope.names.lookup rx = some .cell)
    (hd : (sx == ("__debug__" : Str)) = false := by decide) (hcd : (sx == ("__classdict__" : Str)) = false := by decide)
    (h : ∀ (r : Addr) (cdv : Value) (A : Around) (outer : List Env) (s : Shared) (H : Hp) (E : XK), Room k (A.deeper (envOfC qual scope s.heap.objs.size f cdv)) → ∃ On u, GSs K mg r (cxOf CX0 P w K mg base (sx :: rx :: N) qual scope f cdv A outer s H E).nox E0 [] On [] body u m)
    (hv : ∀ ns : List Int, ns.length ≤ 63 → ∃ tp', retR (m (some (.scr ns) :: some .tape :: List.replicate N.length none) [.scr ns, .int 0, .int c, .int 0]) = .ok (.bl true) tp') :
    FnOk P w K mg base CX0 (k + 1) f fd [sx] (spLaw K) := by
  refine F.ok S (fun vs H Q E q => ?_) (fun cdv A outer s H vs Q E hr q => ?_)
  · obtain ⟨a, ns, rfl, _⟩ := q
    rfl
  · obtain ⟨a, ns, rfl, hS, hlen, kq⟩ := q
    have vs1 : Vis scope sx := hlx.elim .inl fun q => .inr (.inl q)
    refine ⟨tSeq (tAsg (tLst (tCons (tVar 0) (tCons (tC (.int 0)) (tCons (tC (.int c)) (tCons (tC (.int 0)) tNil))))) (gName 1)) (fun D σ H1 => ∃ p, H p = none ∧ H1 = upd H p (.lst [.ref a, .int 0, .int c, .int 0]) ∧ σ = some (.ref a) :: some (.ref p) :: List.replicate N.length none ∧ ∀ v H', v = .bl true → D.rt v H'), ?_, ?_⟩
    · refine PSs.nox (pss_cons (ps_set (i := 1) S.nd rfl hlr (pe_lst (pa_cons (pe_var (i := 0) rfl vs1 hd hcd) (pa_cons pe_int (pa_cons pe_int (pa_cons pe_int pa_nil)))))) ?_)
      refine ⟨fun pins s2 σ H1 D I q => ?_⟩
      obtain ⟨p, hp, rfl, rfl, hq⟩ := q
      obtain ⟨On, u, hG⟩ := h p cdv A outer s H E hr
      refine hG.pe.run pins s2 _ _ D I (hG.snd (noX H) (upd H p (.lst [.ref a, .int 0, .int c, .int 0])) (noX H) _ _ (some (.scr ns) :: some .tape :: List.replicate N.length none) [.scr ns, .int 0, .int c, .int 0] _ ⟨⟨.of fun b o e => upd_new hp _ _ (noX_some e), noX_none hp, ⟨_, upd_same, ?_⟩, fun _ _ => noX_next⟩, Grow.refl _ _, ?_, ?_, (fun i hi => nomatch hi), (fun i j p hi => nomatch hi)⟩ ?_)
      · exact .cons (.scr (noX_seq hS)) (.cons (.int 0) (.cons (.int c) (.cons (.int 0) .nil)))
      · simp
      · intro i d hi _
        match i, hi with
        | 0, hi => cases hi; exact ⟨_, rfl, .scr (noX_seq hS)⟩
        | 1, hi => cases hi; exact ⟨_, rfl, .tape⟩
        | i + 2, hi =>
          rw [List.getElem?_cons_succ, List.getElem?_cons_succ, List.getElem?_replicate] at hi
          split at hi <;> cases hi
      · obtain ⟨tp', e⟩ := hv ns hlen
        cases q : m (some (.scr ns) :: some .tape :: List.replicate N.length none) [.scr ns, .int 0, .int c, .int 0] with
        | rt d tp2 =>
          rw [q] at e
          cases e
          intro v Hs' H' g w rv
          cases rv
          exact hq _ _ rfl
        | nx env' tp2 => rw [q] at e; cases e
        | bk env' tp' => rw [q] at e; cases e
        | ct env' tp' => rw [q] at e; cases e
        | exn c fs tp' => rw [q] at e; cases e
        | stuck => rw [q] at e; cases e
    · refine ⟨_, rfl, by show 4 ≤ sizeLine; rw [sizeLine_eq]; decide, fun p hp => ⟨p, hp, rfl, ?_, fun v H' ev => ev ▸ kq H'⟩⟩
      show List.set (L2.start (sx :: rx :: N) [.ref a]) 1 (some (.ref p)) = _
      unfold L2.start
      simp [List.replicate_succ]
end
end
end G
set_option maxHeartbeats 1000000
namespace G
open PySem PySem.Spec PyProof.Rows L2
section
variable {K : PySem.W.Frag} {mg : Str → Option Value} {r : Addr} {X : Cx} {E : XK} {O O1 On Ol : List Nat} {e a b c : Expr} {es : List Expr} {pos : Pos} {t ta tb : TE} {tt : TT} {ts : TA} {s1 : Stmt} {ss : List Stmt} {u u1 u2 : TS}
inductive RepK (K : PySem.W.Frag) (mg : Str → Option Value) (r : Addr) (Hs H : Hp) : List Bool → List V → List D → List Addr → Prop
  | nil : RepK K mg r Hs H [] [] [] []
  | st {v : V} {d : D} {ks : List Bool} {vs : List V} {ds : List D} {ps : List Addr} : RepD K mg r Hs v d → RepK K mg r Hs H ks vs ds ps → RepK K mg r Hs H (false :: ks) (v :: vs) (d :: ds) ps
  | fr {p : Addr} {d : D} {ks : List Bool} {vs : List V} {ds : List D} {ps : List Addr} : Hs p = none → p ≠ r → OwnAt K mg r Hs H p d → RepK K mg r Hs H ks vs ds ps → RepK K mg r Hs H (true :: ks) (.ref p :: vs) (d :: ds) (p :: ps)
theorem RepK.len {Hs H : Hp} : ∀ {ks : List Bool} {vs : List V} {ds : List D} {ps : List Addr}, RepK K mg r Hs H ks vs ds ps → vs.length = ks.length ∧ ds.length = ks.length
  | _, _, _, _, .nil => ⟨rfl, rfl⟩
  | _, _, _, _, .st _ q => by simp only [List.length_cons, q.len.1, q.len.2, and_self]
  | _, _, _, _, .fr _ _ _ q => by simp only [List.length_cons, q.len.1, q.len.2, and_self]
/-- the tuple that holds them (or any other object of no one's) is laid -/
theorem RepK.lay {Hs H : Hp} {q : Addr} {o : HO} (hq : H q = none) : ∀ {ks : List Bool} {vs : List V} {ds : List D} {ps : List Addr}, RepK K mg r Hs H ks vs ds ps → RepK K mg r Hs (upd H q o) ks vs ds ps
  | _, _, _, _, .nil => .nil
  | _, _, _, _, .st h k => .st h (RepK.lay hq k)
  | _, _, _, _, .fr h n oa k => .fr h n (oa.grow (Same.refl _) fun u z => by rw [upd_ne (ne_of_none z hq)]; exact z) (RepK.lay hq k)
structure GAK (K : PySem.W.Frag) (mg : Str → Option Value) (r : Addr) (X : Cx) (O : List Nat) (E : XK) (es : List Expr) (t : TA) (ks : List Bool) (m : SE (List D)) : Prop where
  pe : PA X es t
  snd : ∀ Hs0 H0 Hs H σ env tp Q, Rel K mg r O Hs0 H0 Hs H σ env tp → Post K mg r (fun Hs' H' vs ds => ∃ ps, RepK K mg r Hs' H' ks vs ds ps ∧ ps.Nodup ∧ ∀ p ∈ ps, H p = none) E Hs H (m env tp) Q → t σ H Q
theorem gak_nil : GAK K mg r X O E [] tNil [] nilA := ⟨pa_nil, fun Hs0 H0 Hs H σ env tp Q R P => P [] Hs H (Grow.refl _ _) R.wd ⟨[], .nil, List.nodup_nil, fun _ h => nomatch h⟩⟩
theorem free_back {Hs H Hs' H' : Hp} {p : Addr} (g : Grow r Hs H Hs' H') (h : H' p = none) (ne : p ≠ r) : H p = none := g.free p h
theorem RepK.ner {Hs H : Hp} : ∀ {ks : List Bool} {vs : List V} {ds : List D} {ps : List Addr}, RepK K mg r Hs H ks vs ds ps → ∀ p ∈ ps, p ≠ r
  | _, _, _, _, .nil, _, h => nomatch h
  | _, _, _, _, .st _ k, p, h => RepK.ner k p h
  | _, _, _, _, .fr _ n _ k, p, h => by
    rcases List.mem_cons.mp h with rfl | h
    · exact n
    · exact RepK.ner k p h
theorem gak_st {ks : List Bool} {m : SE D} {ms : SE (List D)} (h : GE K mg r X O E e t m) (hs : GAK K mg r X O E es ts ks ms) (hst : starEach (e :: es) X.env = (false, eval e X.env) :: starEach es X.env := by rfl) : GAK K mg r X O E (e :: es) (tCons t ts) (false :: ks) (consA m ms) := by
  refine ⟨pa_cons h.pe hs.pe hst, fun Hs0 H0 Hs H σ env tp Q R P => ?_⟩
  refine h.snd _ _ _ _ _ _ _ _ R ?_
  unfold consA at P
  cases q : m env tp with
  | stuck => rw [q] at P; exact P
  | exn c fs tp1 => rw [q] at P; exact P
  | ok d tp1 =>
    rw [q] at P
    intro v Hs1 H1 g w rv
    refine hs.snd _ _ _ _ _ _ _ _ (R.grow g w) ?_
    simp only [RE.bind_ok] at P
    cases q2 : ms env tp1 with
    | stuck => rw [q2] at P; exact P
    | exn c fs tp2 => rw [q2] at P; exact Post.shift g P
    | ok ds tp2 =>
      rw [q2] at P
      rintro vs Hs2 H2 g2 w2 ⟨ps, hk, nd, fr⟩
      exact P _ Hs2 H2 (g.trans g2) w2 ⟨ps, .st (rv.mono g2.ex) hk, nd, fun p hp => free_back g (fr p hp) (hk.ner p hp)⟩
theorem gak_fr {ks : List Bool} {m : SE D} {ms : SE (List D)} (h : GF K mg r X O E e t m) (hs : GAK K mg r X O E es ts ks ms) (hst : starEach (e :: es) X.env = (false, eval e X.env) :: starEach es X.env := by rfl) : GAK K mg r X O E (e :: es) (tCons t ts) (true :: ks) (consA m ms) := by
  refine ⟨pa_cons h.pe hs.pe hst, fun Hs0 H0 Hs H σ env tp Q R P => ?_⟩
  refine h.snd _ _ _ _ _ _ _ _ R ?_
  unfold consA at P
  cases q : m env tp with
  | stuck => rw [q] at P; exact P
  | exn c fs tp1 => rw [q] at P; exact P
  | ok d tp1 =>
    rw [q] at P
    rintro v Hs1 H1 g w ⟨p, rfl, hb, hp, ne, oa⟩
    refine hs.snd _ _ _ _ _ _ _ _ (R.grow g w) ?_
    simp only [RE.bind_ok] at P
    cases q2 : ms env tp1 with
    | stuck => rw [q2] at P; exact P
    | exn c fs tp2 => rw [q2] at P; exact Post.shift g P
    | ok ds tp2 =>
      rw [q2] at P
      rintro vs Hs2 H2 g2 w2 ⟨ps, hk, nd, fr⟩
      obtain ⟨o, ho⟩ := oa.there
      refine P _ Hs2 H2 (g.trans g2) w2 ⟨p :: ps, .fr (g2.no hp ho ne (oa.ntup o ho)) ne (oa.grow g2.ex fun u z => g2.keep p u z ne hp) hk, List.nodup_cons.mpr ⟨fun m => ?_, nd⟩, fun p' hp' => ?_⟩
      · have := fr p m; rw [ho] at this; cases this
      · rcases List.mem_cons.mp hp' with rfl | hp'
        · exact hb
        · exact free_back g (fr p' hp') (hk.ner p' hp')
/-- who owns behind it -/
def ownAll : List Nat → List Nat → List Bool → List Nat
  | O, i :: is, k :: ks => ownAll (if k = true then i :: O.filter (· != i) else O.filter (· != i)) is ks
  | O, _, _ => O
theorem repK_setAll {Hs0 H0 Hs H : Hp} {tp : List D} : ∀ (is : List Nat) (ks : List Bool) (O : List Nat) (σ : L2.St) (env : DEnv) (vs : List V) (ds : List D) (ps : List Addr), Rel K mg r O Hs0 H0 Hs H σ env tp → RepK K mg r Hs H ks vs ds ps → ps.Nodup → (∀ p ∈ ps, H0 p = none ∧ ∀ j ∈ O, σ[j]? ≠ some (some (.ref p))) → is.length = ks.length → (∀ i ∈ is, i < env.length) →
    Rel K mg r (ownAll O is ks) Hs0 H0 Hs H (setAll σ is vs) (setAll env is ds) tp
  | [], ks, O, σ, env, vs, ds, ps, R, hk, _, _, hl, _ => by
    cases ks with
    | nil => cases hk; exact R
    | cons _ _ => cases hl
  | i :: is, [], O, σ, env, vs, ds, ps, R, hk, _, _, hl, _ => by cases hl
  | i :: is, k :: ks, O, σ, env, vs, ds, ps, R, hk, nd, hp, hl, hi => by
    cases hk with
    | st h1 h2 =>
      refine repK_setAll is ks _ _ _ _ _ ps (R.set i h1) h2 nd (fun p q => ⟨(hp p q).1, fun j hj => ?_⟩) (by simpa using hl) fun j hj => by rw [List.length_set]; exact hi j (List.mem_cons_of_mem _ hj)
      obtain ⟨m, ne⟩ := List.mem_filter.mp hj
      rw [set_gne (by simpa using ne)]
      exact (hp p q).2 j m
    | @fr p d ks vs ds ps h1 n oa h2 =>
      obtain ⟨np, nd'⟩ := List.nodup_cons.mp nd
      have hp0 := hp p List.mem_cons_self
      refine repK_setAll is ks _ _ _ _ _ ps (R.setF i (hi i List.mem_cons_self) hp0.1 h1 n oa hp0.2) h2 nd' (fun p' q => ⟨(hp p' (List.mem_cons_of_mem _ q)).1, fun j hj z => ?_⟩) (by simpa using hl) fun j hj => by rw [List.length_set]; exact hi j (List.mem_cons_of_mem _ hj)
      rcases List.mem_cons.mp hj with rfl | hj
      · rcases get_set z with ⟨_, e, _⟩ | ⟨ne, _⟩
        · cases e; exact np q
        · exact ne rfl
      · obtain ⟨m, ne⟩ := List.mem_filter.mp hj
        rw [set_gne (by simpa using ne)] at z
        exact (hp p' (List.mem_cons_of_mem _ q)).2 j m z
def parS (is : List Nat) (ms : SE (List D)) : SS := fun env tp => (ms env tp).bindS fun ds tp1 => if is.all (fun i => decide (i < env.length)) = true then .nx (setAll env is ds) tp1 else .stuck
theorem par_sound {is : List Nat} {ks : List Bool} {ms : SE (List D)} {k : L2.Ends → L2.St → Hp → List V → Hp → Prop} (hl : is.length = ks.length) (h : ∀ Hs0 H0 Hs H σ env tp Q, Rel K mg r O Hs0 H0 Hs H σ env tp → Post K mg r (fun Hs' H' vs ds => ∃ ps, RepK K mg r Hs' H' ks vs ds ps ∧ ps.Nodup ∧ ∀ p ∈ ps, H p = none) E Hs H (ms env tp) Q → ts σ H Q)
    (hk : ∀ D σ vs Hs H tp ds ps, Wd K mg r Hs H tp → RepK K mg r Hs H ks vs ds ps → (∀ H', (H' = H ∨ ∃ q o, H q = none ∧ H' = upd H q o) → D.nx (setAll σ is vs) H') → k D σ H vs H) :
    ∀ Hs0 H0 Hs H σ env tp D, Rel K mg r O Hs0 H0 Hs H σ env tp → PostS K mg r E (ownAll O is ks) Ol Hs0 H0 Hs (parS is ms env tp) D → ts σ H (fun vs H1 => k D σ H1 vs H1) := by
  intro Hs0 H0 Hs H σ env tp D R P
  refine h _ _ _ _ _ _ _ _ R (PostS.bind R P fun vs Hs1 H1 ds tp1 _ g w R1 rv P1 => ?_)
  obtain ⟨ps, hrk, nd, fr⟩ := rv
  split at P1
  · rename_i hi
    have hi : ∀ i ∈ is, i < env.length := fun i m => of_decide_eq_true (List.all_eq_true.mp hi i m)
    have hfr : ∀ p ∈ ps, H0 p = none ∧ ∀ j ∈ O, σ[j]? ≠ some (some (.ref p)) := fun p hp => R.new_ne (fr p hp) (hrk.ner p hp)
    refine hk D σ vs Hs1 H1 tp1 ds ps w hrk fun H' hH' => ?_
    rcases hH' with rfl | ⟨q, o, hq, rfl⟩
    · exact P1 _ _ _ (Same.refl _) (repK_setAll is ks _ _ _ _ _ ps R1 hrk nd hfr hl hi)
    · obtain ⟨g2, w2⟩ := w.lay (o := o) hq
      exact P1 _ _ _ (Same.refl _) (repK_setAll is ks _ _ _ _ _ ps (R1.grow g2 w2) (hrk.lay hq) nd hfr hl hi)
  · exact P1.elim
/-- a, b = x, y (two local names) -/
theorem gs_par2 (i j : Nat) {ks : List Bool} {x y : Str} {ms : SE (List D)} {px py pt : Pos} {kt k2 pt2} (hN : X.N.Nodup) (ha : GAK K mg r X O E [a, b] ts ks ms) (hks : ks.length = 2 := by rfl) (hc : X.calm = true := by rfl) (hi : X.N[i]? = some x := by rfl) (hj : X.N[j]? = some y := by rfl) (hij : i ≠ j := by decide)
    (hx : X.env.scope.names.lookup x = some .local := by rfl) (hy : X.env.scope.names.lookup y = some .local := by rfl)
    (hw : swappedStores [.Tuple [.Name x px, .Name y py] kt pt] (.Tuple [a, b] k2 pt2) X.env = pure (some [x, y]) := by rfl)
    (hs : swapsWithSole [.Tuple [.Name x px, .Name y py] kt pt] (.Tuple [a, b] k2 pt2) pos.line X.env = pure false := by rfl) :
    GS K mg r X E O (ownAll O [i, j] ks) Ol (.Assign [.Tuple [.Name x px, .Name y py] kt pt] (.Tuple [a, b] k2 pt2) pos) (tPar i j ts) (parS [i, j] ms) := by
  refine ⟨ps_par hc hN hi hj hij hx hy ha.pe hw hs, ?_⟩
  refine par_sound (k := fun D σ _ vs H1 => ∃ v w, vs = [v, w] ∧ D.nx ((σ.set i (some v)).set j (some w)) H1) (by rw [hks]; rfl) ha.snd ?_
  intro D σ vs Hs H tp ds ps _ hrk q
  have hl := hrk.len.1
  rw [hks] at hl
  match vs, hl with
  | [v, w], _ => exact ⟨v, w, rfl, q H (.inl rfl)⟩
/-- a, b, c = x, y, z (three local names) -/
theorem gs_par3 (i j l : Nat) {ks : List Bool} {x y z : Str} {ms : SE (List D)} {px py pz pt : Pos} {kt k2 pt2} (hN : X.N.Nodup) (ha : GAK K mg r X O E [a, b, c] ts ks ms) (hks : ks.length = 3 := by rfl) (hc : X.calm = true := by rfl) (hi : X.N[i]? = some x := by rfl) (hj : X.N[j]? = some y := by rfl) (hl : X.N[l]? = some z := by rfl) (hij : i ≠ j := by decide) (hil : i ≠ l := by decide) (hjl : j ≠ l := by decide)
    (hx : X.env.scope.names.lookup x = some .local := by rfl) (hy : X.env.scope.names.lookup y = some .local := by rfl) (hz : X.env.scope.names.lookup z = some .local := by rfl)
    (hw : swappedStores [.Tuple [.Name x px, .Name y py, .Name z pz] kt pt] (.Tuple [a, b, c] k2 pt2) X.env = pure (some [x, y, z]) := by rfl)
    (hs : swapsWithSole [.Tuple [.Name x px, .Name y py, .Name z pz] kt pt] (.Tuple [a, b, c] k2 pt2) pos.line X.env = pure false := by rfl) :
    GS K mg r X E O (ownAll O [i, j, l] ks) Ol (.Assign [.Tuple [.Name x px, .Name y py, .Name z pz] kt pt] (.Tuple [a, b, c] k2 pt2) pos) (tPar3 i j l ts) (parS [i, j, l] ms) := by
  refine ⟨ps_par3 hc hN hi hj hl hij hil hjl hx hy hz ha.pe hw hs, ?_⟩
  refine par_sound (k := fun D σ _ vs H1 => ∃ u v w, vs = [u, v, w] ∧ D.nx (((σ.set i (some u)).set j (some v)).set l (some w)) H1) (by rw [hks]; rfl) ha.snd ?_
  intro D σ vs Hs H tp ds ps _ hrk q
  have hl := hrk.len.1
  rw [hks] at hl
  match vs, hl with
  | [u, v, w], _ => exact ⟨u, v, w, rfl, q H (.inl rfl)⟩
/-- the plain way: a tuple is made and unpacked -/
theorem gs_tup {is : List Nat} {n : Nat} {ks : List Bool} {ms : SE (List D)} {tgs : List Expr} {g : TGs} {pt pt2 : Pos} {kt k2} (ha : GAK K mg r X O E es ts ks ms) (hg : GGs K mg r X tgs g is) (hl : is.length = ks.length := by rfl) (hn : is.length = n := by rfl) (hz : n ≤ sizeLine := by decide) (hc : X.calm = true := by rfl) (hK : X.K = K := by rfl) (hn1 : (assignEach tgs X.env).length = n := by rfl) (hst : (assignEach tgs X.env).findIdx? (·.1) = none := by rfl)
    (hs : swapsWithSole [.Tuple tgs kt pt] (.Tuple es k2 pt2) pos.line X.env = pure false := by rfl) (hw : swappedStores [.Tuple tgs kt pt] (.Tuple es k2 pt2) X.env = pure none := by rfl) (h1 : (assignEach [.Tuple tgs kt pt] X.env).map (·.2) = [assign (.Tuple tgs kt pt) X.env] := by rfl) :
    GS K mg r X E O (ownAll O is ks) Ol (.Assign [.Tuple tgs kt pt] (.Tuple es k2 pt2) pos) (tAsg (tTup ts) (gTup K n g)) (parS is ms) := by
  subst hK
  refine ⟨ps_asg (pe_tup ha.pe) (pg_tup hc hg.pe hn1 hst) hs hw h1, ?_⟩
  refine par_sound (k := fun D σ _ vs H1 => vs.length ≤ sizeLine ∧ ∀ p, H1 p = none → gTup X.K n g (.ref p) σ (upd H1 p (.tup vs)) D.nx) hl ha.snd ?_
  intro D σ vs Hs H tp ds ps _ hrk q
  have hv : vs.length = n := by rw [hrk.len.1, ← hl, hn]
  refine ⟨by rw [hv]; exact hz, fun p hp => ⟨p, vs, rfl, .of upd_same, hv, hg.snd vs σ _ _ (by rw [hv, hn]) (q _ (.inr ⟨p, _, hp, rfl⟩))⟩⟩
def methE (p : D → Bool) (f : D → D → Option D) (ma mb : SE D) : SE D := fun env tp => (ma env tp).bind fun d tp1 => if p d = true then (mb env tp1).bind fun e tp2 => RE.of (f d e) tp2 else .stuck
def isStrD : D → Bool
  | .str _ => true
  | _ => false
theorem ty_str {Hs H : Hp} {tp : List D} {v : V} {d : D} (w : Wd K mg r Hs H tp) (h : RepT K mg r Hs H v d) (p : isStrD d = true) : tyV K "str" v H := by
  cases d with
  | str z => rw [repT_str h]; rfl
  | _ => cases p
def MethS (K : PySem.W.Frag) (mg : Str → Option Value) (r : Addr) (R : V → List V → Hp → VK → Prop) (f : D → D → Option D) : Prop := ∀ Hs H tp x y d e z Q, Wd K mg r Hs H tp → RepT K mg r Hs H x d → RepT K mg r Hs H y e → f d e = some z →
  (∀ v Hs' H', Grow r Hs H Hs' H' → Wd K mg r Hs' H' tp → RepD K mg r Hs' v z → Q v H') → R x [y] H Q
theorem ge_m1 {T id : String} {name : Str} {R : V → List V → Hp → VK → Prop} {f : D → D → Option D} {p : D → Bool} {ma mb : SE D} {p1 : Pos} (pa : PlainAttrs T) (slot : Slot T name id) (hty : typeOf (.builtin id) = pure (.type "method_descriptor")) (hm : MtR X id R)
    (hp : ∀ Hs H tp v d, Wd K mg r Hs H tp → RepT K mg r Hs H v d → p d = true → tyV K T v H) (hf : MethS K mg r R f) (ha : GO K mg r X O E a ta ma) (hb : GO K mg r X O E b tb mb) (hK : X.K = K := by rfl)
    (hbase : attributeBase a name X.env (eval a X.env) = eval a X.env := by rfl)
    (hfew : ((backTo pos (starEach [b] X.env)).all (fun x => !x.1) && (backToKw pos (keywordEach [] X.env)).all (fun x => x.1.isSome) && decide ([b].length + ([] : List Keyword).length + (if ([] : List Keyword).isEmpty then 0 else 1) < 30)) = true := by rfl)
    (hline : (p1.endLine == pos.line) = true := by rfl) (hs : starEach [b] X.env = (false, eval b X.env) :: starEach [] X.env := by rfl) (hplain : (backTo pos (starEach [] X.env)).any (·.1) = false := by rfl) :
    GE K mg r X O E (.Call (.Attribute a name p1) [b] [] pos) (tBM K T R ta (tCons tb tNil)) (methE p f ma mb) := by
  subst hK
  refine ⟨pe_bm pa slot hty hm ha.pe (pa_cons hb.pe pa_nil hs) hbase hfew hline hs hplain, fun Hs0 H0 Hs H σ env tp Q Rl P => ?_⟩
  refine ha.snd _ _ _ _ _ _ _ _ Rl (Post.bind P fun v Hs1 H1 d tp1 _ g w rv P1 => ?_)
  split at P1
  · rename_i hpd
    refine ⟨hp _ _ _ _ _ w rv hpd, ?_⟩
    refine hb.snd _ _ _ _ _ _ _ _ (Rl.grow g w) (Post.bind P1 fun y Hs2 H2 e tp2 _ g2 w2 ry P2 => ?_)
    obtain ⟨z, hz, k⟩ := Post.ok_of P2
    exact hf _ _ _ _ _ _ _ _ _ w2 (rv.grow g2) ry hz k
  · exact P1.elim
def joinD (d e : D) : Option D := match d with
  | .str a => (itemsD e).bind fun xs => (unS xs).bind fun ys => if (ys.map (·.length)).sum + ys.length * a.length ≤ 16777216 then some (.str (Txt.join a ys)) else none
  | _ => none
abbrev rJoin (K : PySem.W.Frag) : V → List V → Hp → VK → Prop := fun x xs H Q => ∃ a p, ∃ ys : List Str, x = .str a ∧ xs = [.ref p] ∧ (SqL K H p (ys.map V.str) ∨ SqT K H p (ys.map V.str)) ∧ (ys.map (·.length)).sum + ys.length * a.length ≤ 16777216 ∧ Q (.str (Txt.join a ys)) H
theorem ms_join : MethS K mg r (rJoin K) joinD := by
  intro Hs H tp x y d e z Q w rx ry hz k
  unfold joinD at hz
  split at hz
  · obtain ⟨xs, h1, h2⟩ := Option.bind_eq_some_iff.mp hz
    obtain ⟨ys, h3, h4⟩ := Option.bind_eq_some_iff.mp h2
    split at h4
    · rename_i hg
      cases h4
      rw [unS_ok h3] at h1
      rw [repT_str rx]
      cases e with
      | lst es =>
        cases h1
        obtain ⟨p, vs, rfl, k1, k2⟩ := repT_lst w ry
        rw [RepDs.strs_of k2] at k1
        exact ⟨_, p, ys, rfl, rfl, .inl (.of k1), hg, k _ _ _ (Grow.refl _ _) w (.str _)⟩
      | tup es =>
        cases h1
        obtain ⟨p, vs, rfl, _, k1, k2⟩ := repT_tup w ry
        rw [RepDs.strs_of k2] at k1
        exact ⟨_, p, ys, rfl, rfl, .inr (.inl k1), hg, k _ _ _ (Grow.refl _ _) w (.str _)⟩
      | _ => cases h1
    · cases h4
  · cases hz
theorem ge_join {ma mb : SE D} {p1 : Pos} (ha : GO K mg r X O E a ta ma) (hb : GO K mg r X O E b tb mb) (hK : X.K = K := by rfl)
    (hbase : attributeBase a "join" X.env (eval a X.env) = eval a X.env := by rfl)
    (hfew : ((backTo pos (starEach [b] X.env)).all (fun x => !x.1) && (backToKw pos (keywordEach [] X.env)).all (fun x => x.1.isSome) && decide ([b].length + ([] : List Keyword).length + (if ([] : List Keyword).isEmpty then 0 else 1) < 30)) = true := by rfl)
    (hline : (p1.endLine == pos.line) = true := by rfl) (hs : starEach [b] X.env = (false, eval b X.env) :: starEach [] X.env := by rfl) (hplain : (backTo pos (starEach [] X.env)).any (·.1) = false := by rfl) :
    GE K mg r X O E (.Call (.Attribute a "join" p1) [b] [] pos) (tBM K "str" (rJoin K) ta (tCons tb tNil)) (methE isStrD joinD ma mb) := by
  subst hK
  exact ge_m1 PySem.F.plainAttrs_str PySem.F.slot_str_join PySem.F.type_str_join mt_join (fun _ _ _ _ _ => ty_str) ms_join ha hb rfl hbase hfew hline hs hplain
def appPopS (i j : Nat) (m : SE D) : SS := fun env tp => match env[i]?, env[j]? with
  | some (some (.lst ds)), some (some (.lst es)) => (m env tp).bindS fun k tp1 => match k with
    | .int q => if (decide (-(2 ^ 63) ≤ q) && (decide (q < 2 ^ 63) && decide (ds.length < sizeLine))) = true then (match ixN es.length q with
      | some c => (match es[c]? with
        | some y => .nx ((env.set j (some (.lst (es.eraseIdx c)))).set i (some (.lst (ds ++ [y])))) tp1
        | none => .stuck)
      | none => .stuck) else .stuck
    | _ => .stuck
  | _, _ => .stuck
theorem gs_appPop {m : SE D} (i j : Nat) {x y : Str} {p1 p2 p3 p4 p5 p6 : Pos} (hi : i ∈ O) (hj : j ∈ O) (hij : i ≠ j) (h : GE K mg r X O E e t m) (hK : X.K = K := by rfl) (hN : X.N[i]? = some x := by rfl) (hNy : X.N[j]? = some y := by rfl)
    (hv : Vis X.env.scope x := by first | exact Or.inl rfl | exact Or.inr (Or.inl rfl) | exact Or.inr (Or.inr rfl)) (hvy : Vis X.env.scope y := by first | exact Or.inl rfl | exact Or.inr (Or.inl rfl) | exact Or.inr (Or.inr rfl)) (hd : (x == ("__debug__" : Str)) = false := by decide) (hcd : (x == ("__classdict__" : Str)) = false := by decide)
    (hdy : (y == ("__debug__" : Str)) = false := by decide) (hcdy : (y == ("__classdict__" : Str)) = false := by decide)
    (hb1 : attributeBase (.Name x p1) "append" X.env (eval (.Name x p1) X.env) = eval (.Name x p1) X.env := by rfl)
    (hf1 : ((backTo p3 (starEach [Expr.Call (.Attribute (.Name y p4) "pop" p5) [e] [] p6] X.env)).all (fun x => !x.1) && (backToKw p3 (keywordEach [] X.env)).all (fun x => x.1.isSome) && decide ([Expr.Call (.Attribute (.Name y p4) "pop" p5) [e] [] p6].length + ([] : List Keyword).length + (if ([] : List Keyword).isEmpty then 0 else 1) < 30)) = true := by rfl)
    (hl1 : (p2.endLine == p3.line) = true := by rfl) (hs1 : starEach [Expr.Call (.Attribute (.Name y p4) "pop" p5) [e] [] p6] X.env = (false, eval (Expr.Call (.Attribute (.Name y p4) "pop" p5) [e] [] p6) X.env) :: starEach [] X.env := by rfl) (hpl1 : (backTo p3 (starEach [] X.env)).any (·.1) = false := by rfl)
    (hb2 : attributeBase (.Name y p4) "pop" X.env (eval (.Name y p4) X.env) = eval (.Name y p4) X.env := by rfl)
    (hf2 : ((backTo p6 (starEach [e] X.env)).all (fun x => !x.1) && (backToKw p6 (keywordEach [] X.env)).all (fun x => x.1.isSome) && decide ([e].length + ([] : List Keyword).length + (if ([] : List Keyword).isEmpty then 0 else 1) < 30)) = true := by rfl)
    (hl2 : (p5.endLine == p6.line) = true := by rfl) (hs2 : starEach [e] X.env = (false, eval e X.env) :: starEach [] X.env := by rfl) (hpl2 : (backTo p6 (starEach [] X.env)).any (·.1) = false := by rfl)
    (hsw : swapsWith (.Call (.Attribute (.Name x p1) "append" p2) [.Call (.Attribute (.Name y p4) "pop" p5) [e] [] p6] [] p3) none pos.line X.env = pure false := by rfl) :
    GS K mg r X E O O Ol (.Expr (.Call (.Attribute (.Name x p1) "append" p2) [.Call (.Attribute (.Name y p4) "pop" p5) [e] [] p6] [] p3) pos) (tDrop (tBM K "list" rAppend (tVar i) (tCons (tBM K "list" rPopAt (tVar j) (tCons t tNil)) tNil))) (appPopS i j m) := by
  subst hK
  refine ⟨ps_expr (pe_bm PySem.F.plainAttrs_list PySem.F.slot_list_append PySem.F.type_list_append mt_append (pe_var hN hv hd hcd)
    (pa_cons (pe_bm PySem.F.plainAttrs_list PySem.F.slot_list_pop PySem.F.type_list_pop mt_popAt (pe_var hNy hvy hdy hcdy) (pa_cons h.pe pa_nil hs2) hb2 hf2 hl2 hs2 hpl2) pa_nil hs1) hb1 hf1 hl1 hs1 hpl1) hsw, fun Hs0 H0 Hs H σ env tp D R P => ?_⟩
  obtain ⟨d0, p, b1, b2, c, c0, ne, oa⟩ := R.own i hi
  obtain ⟨d0', p', b1', b2', c', c0', ne', oa'⟩ := R.own j hj
  unfold appPopS at P
  rw [b1, b1'] at P
  split at P
  · rename_i ds es q1 q2
    cases q1; cases q2
    obtain ⟨vs0, k1, _⟩ := oa
    obtain ⟨vs0', k1', _⟩ := oa'
    refine ⟨_, b2, .inl ⟨rfl, vs0, .of k1⟩, ?_⟩
    refine ⟨_, b2', .inl ⟨rfl, vs0', .of k1'⟩, ?_⟩
    refine h.snd _ _ _ _ _ _ _ _ R (PostS.bind R P fun v Hs1 H1 d tp1 _ g w R1 rv P1 => ?_)
    cases d with
    | int q =>
      cases rv
      obtain ⟨d1, p1, e1, e2, f, f0, fn, fo⟩ := R1.own i hi
      rw [b2] at e2; cases e2
      rw [b1] at e1; cases e1
      obtain ⟨vs, h1, h2⟩ := fo
      obtain ⟨d1', p1', e1', e2', f', f0', fn', fo'⟩ := R1.own j hj
      rw [b2'] at e2'; cases e2'
      rw [b1'] at e1'; cases e1'
      obtain ⟨us, h1', h2'⟩ := fo'
      have P1 : PostS X.K mg r E O Ol Hs0 H0 Hs1 (if (decide (-(2 ^ 63) ≤ q) && (decide (q < 2 ^ 63) && decide (ds.length < sizeLine))) = true then (match ixN es.length q with
        | some c => (match es[c]? with
          | some y => .nx ((env.set j (some (.lst (es.eraseIdx c)))).set i (some (.lst (ds ++ [y])))) tp1
          | none => .stuck)
        | none => .stuck) else .stuck) D := P1
      split at P1
      · rename_i hc
        have hc := Bool.and_eq_true_iff.mp hc
        have hc2 := Bool.and_eq_true_iff.mp hc.2
        cases qx : ixN es.length q with
        | none => rw [qx] at P1; exact P1.elim
        | some cc =>
          rw [qx] at P1
          simp only at P1
          cases qy : es[cc]? with
          | none => rw [qy] at P1; exact P1.elim
          | some yd =>
            rw [qy] at P1
            obtain ⟨yv, hy1, hy2⟩ := h2'.get' qy
            rw [← h2'.length] at qx
            refine ⟨p', us, q, cc, yv, rfl, rfl, h1', of_decide_eq_true hc.1, of_decide_eq_true hc2.1, (ixN_seq qx).1, hy1, ?_⟩
            have np : p ≠ p' := fun z => hij (R.dis i j p hi hj b2 (z ▸ b2'))
            refine ⟨p, vs, yv, rfl, rfl, by rw [upd_ne np]; exact h1, by rw [h2.length]; exact of_decide_eq_true hc2.2, ?_⟩
            have W1 := R1.write (d := .lst (es.eraseIdx cc)) (o := .lst (us.eraseIdx cc)) hj b2' ⟨_, upd_same, h2'.eraseIdx cc⟩
            exact P1 _ _ _ (Same.refl _) (W1.write hi b2 ⟨_, upd_same, h2.append (.cons hy2 .nil)⟩)
      · exact P1.elim
    | _ => exact P1.elim
  · exact P.elim
end
end G
namespace G
open PySem PySem.Spec PyProof.Rows L2
section
variable {K : PySem.W.Frag} {mg : Str → Option Value} {r : Addr} {X : Cx} {E : XK} {O O1 On Ol : List Nat} {e a b c : Expr} {es : List Expr} {pos p : Pos} {t ta tb tc : TE} {tt : TT} {ts : TA} {ma mb mc : SE D} {ms : SE (List D)}
theorem gt_eq (hu : X.A.units + 64 < cLine) (ha : GO K mg r X O E a ta ma) (hb : GO K mg r X O E b tb mb) (hK : X.K = K := by rfl) : GT K mg r X O E (.Compare a [.Eq] [b] pos) (tTest (tOp (rEqP K) ta tb)) (boolE (binE eqD ma mb)) := by subst hK; exact gt_cmp (op_eqP hu) ops_eq ha hb (nomark _)
theorem gt_ne (hu : X.A.units + 64 < cLine) (ha : GO K mg r X O E a ta ma) (hb : GO K mg r X O E b tb mb) (hK : X.K = K := by rfl) : GT K mg r X O E (.Compare a [.NotEq] [b] pos) (tTest (tOp (rNeP K) ta tb)) (boolE (binE neD ma mb)) := by subst hK; exact gt_cmp (op_neP hu) ops_ne ha hb (nomark _)
theorem gt_in (hu : X.A.units + 64 < cLine) (ha : GO K mg r X O E a ta ma) (hb : GO K mg r X O E b tb mb) (hm : behindInMarks .In b = false := by rfl) (hK : X.K = K := by rfl) : GT K mg r X O E (.Compare a [.In] [b] pos) (tTest (tOp (rInP K false) ta tb)) (boolE (binE inD ma mb)) := by subst hK; exact gt_cmp (op_inP hu) ops_in ha hb hm
theorem gt_notIn (hu : X.A.units + 64 < cLine) (ha : GO K mg r X O E a ta ma) (hb : GO K mg r X O E b tb mb) (hm : behindInMarks .NotIn b = false := by rfl) (hK : X.K = K := by rfl) : GT K mg r X O E (.Compare a [.NotIn] [b] pos) (tTest (tOp (rInP K true) ta tb)) (boolE (binE notInD ma mb)) := by subst hK; exact gt_cmp (op_notInP hu) ops_notIn ha hb hm
theorem gt_lt (ha : GO K mg r X O E a ta ma) (hb : GO K mg r X O E b tb mb) : GT K mg r X O E (.Compare a [.Lt] [b] pos) (tTest (tOp rLtD ta tb)) (boolE (binE ltD ma mb)) := gt_cmp opr_lt ops_lt ha hb (nomark _)
theorem gt_gt (ha : GO K mg r X O E a ta ma) (hb : GO K mg r X O E b tb mb) : GT K mg r X O E (.Compare a [.Gt] [b] pos) (tTest (tOp rGtD ta tb)) (boolE (binE gtD ma mb)) := gt_cmp op_gt ops_gt ha hb (nomark _)
theorem gt_ge (ha : GO K mg r X O E a ta ma) (hb : GO K mg r X O E b tb mb) : GT K mg r X O E (.Compare a [.GtE] [b] pos) (tTest (tOp rGeD ta tb)) (boolE (binE geD ma mb)) := gt_cmp op_ge ops_ge ha hb (nomark _)
theorem gt_is (ha : GO K mg r X O E a ta ma) (hb : GO K mg r X O E b tb mb) : GT K mg r X O E (.Compare a [.Is] [b] pos) (tTest (tOp rIsD ta tb)) (boolE (binE isNoneD ma mb)) := gt_cmp opr_is ops_is ha hb (nomark _)
theorem gt_isNot (ha : GO K mg r X O E a ta ma) (hb : GO K mg r X O E b tb mb) : GT K mg r X O E (.Compare a [.IsNot] [b] pos) (tTest (tOp rIsNotD ta tb)) (boolE (binE isNotNoneD ma mb)) := gt_cmp opr_isNot ops_isNot ha hb (nomark _)
theorem gt_leLe (ha : GO K mg r X O E a ta ma) (hb : GO K mg r X O E b tb mb) (hc : GO K mg r X O E c tc mc) (hm : lastMarks [.LtE, .LtE] [b, c] = false := by with_unfolding_all rfl) : GT K mg r X O E (.Compare a [.LtE, .LtE] [b, c] pos) (tTest (tChain rLeD rLeD ta tb tc)) (boolE (chainE leD leD ma mb mc)) := gt_chain op_le op_le ops_le ops_le ha hb hc hm
theorem ge_leLe (ha : GO K mg r X O E a ta ma) (hb : GO K mg r X O E b tb mb) (hc : GO K mg r X O E c tc mc) (hm : lastMarks [.LtE, .LtE] [b, c] = false := by with_unfolding_all rfl) : GE K mg r X O E (.Compare a [.LtE, .LtE] [b, c] pos) (tChain rLeD rLeD ta tb tc) (chainE leD leD ma mb mc) := ge_chain op_le op_le ops_le ops_le ha hb hc hm
theorem gf_list1 (hm : X.mg "list" = none) (ha : GAO K mg r X O E [e] ts ms) (hg : Gl X "list" := by rfl) (he : starEach [e] X.env = (false, eval e X.env) :: starEach [] X.env := by rfl) (hpl : (backTo pos (starEach [] X.env)).any (·.1) = false := by rfl) (hK : X.K = K := by rfl) : GF K mg r X O E (.Call (.Name "list" p) [e] [] pos) (tCB (rListD1 K) ts) (callB listD ms) := by
  subst hK
  refine ⟨pe_callTy (r := rListD1 X.K) call_list_of hg hm (by decide +kernel) ha.pe (by decide) (by decide) he hpl, fun Hs0 H0 Hs H σ env tp Q Rl P => ?_⟩
  refine ha.snd _ _ _ _ _ _ _ _ Rl ?_
  unfold callB at P
  cases q : ms env tp with
  | stuck => rw [q] at P; exact P
  | exn cc fs tp1 => rw [q] at P; exact P
  | ok ds tp1 =>
    rw [q] at P
    intro xs Hs1 H1 g w rx
    obtain ⟨z, hz, k⟩ := Post.ok_of (show Post X.K mg r (Fresh X.K mg r H) E Hs H (RE.of (listD ds) tp1) Q from P)
    unfold listD at hz
    split at hz
    · cases hz
      obtain ⟨x, rfl, h⟩ := paired1 rx
      obtain ⟨p, vs, rfl, h1, h2⟩ := repT_lst w h
      refine ⟨p, vs, rfl, .inl (.of h1), fun q hq => ?_⟩
      obtain ⟨a, b, c⟩ := fresh_new (o := .lst vs) (d := .lst _) g w hq ⟨vs, upd_same, h2⟩
      exact k _ _ _ a b c
    · cases hz
      obtain ⟨x, rfl, h⟩ := paired1 rx
      obtain ⟨p, vs, rfl, h0, h1, h2⟩ := repT_tup w h
      refine ⟨p, vs, rfl, .inr (.inl h1), fun q hq => ?_⟩
      obtain ⟨a, b, c⟩ := fresh_new (o := .lst vs) (d := .lst _) g w hq ⟨vs, upd_same, h2⟩
      exact k _ _ _ a b c
    · cases hz
      obtain ⟨x, rfl, h⟩ := paired1 rx
      obtain ⟨p, rfl, h1⟩ := repT_scr w h
      refine ⟨p, _, rfl, .inl h1, fun q hq => ?_⟩
      obtain ⟨a, b, c⟩ := fresh_new (o := .lst (List.map V.int _)) (d := .lst _) g w hq ⟨_, upd_same, RepDs.ints _⟩
      exact k _ _ _ a b c
    · cases hz
def cRgOk (a b : Int) : Bool := cRg a && (cRg b && decide ((b - a).toNat ≤ 16777216))
theorem cRgOk_ok {a b : Int} (h : cRgOk a b = true) : RgOk a b := by
  have h := Bool.and_eq_true_iff.mp h
  have h2 := Bool.and_eq_true_iff.mp h.2
  have h1 := cRg_ok h.1
  have h3 := cRg_ok h2.1
  have h4 := of_decide_eq_true h2.2
  exact ⟨h1.1, h1.2, h3.1, h3.2, h4⟩
theorem reps_range {Hs : Hp} (a b : Int) : RepDs K mg r Hs (rgV a b) (rangeL a b) := by
  unfold rgV rangeL
  induction (List.range (b - a).toNat) with
  | nil => exact .nil
  | cons x xs ih => exact .cons (.int _) ih
def rg1E (k : List D → D) (ma : SE D) : SE D := fun env tp => (ma env tp).bind fun d tp1 => match d with
  | .int n => if cRgOk 0 n = true then .ok (k (rangeL 0 n)) tp1 else .stuck
  | _ => .stuck
theorem gf_listRg1 {pa pb : Pos} (hm : X.mg "list" = none) (hm2 : X.mg "range" = none) (ha : GO K mg r X O E a ta ma) (hc : X.calm = true := by rfl) (hg : Gl X "list" := by rfl) (hg2 : Gl X "range" := by rfl) (na : starEach [a] X.env = (false, eval a X.env) :: starEach [] X.env := by rfl) (nb : starEach [Expr.Call (.Name "range" pa) [a] [] pb] X.env = (false, eval (Expr.Call (.Name "range" pa) [a] [] pb) X.env) :: starEach [] X.env := by rfl) :
    GF K mg r X O E (.Call (.Name "list" p) [.Call (.Name "range" pa) [a] [] pb] [] pos) (tLstRg (tRg1 ta)) (rg1E .lst ma) := by
  refine ⟨pe_listRg hc hg hm (prg_1 hg2 hm2 ha.pe na) nb, fun Hs0 H0 Hs H σ env tp Q Rl P => ?_⟩
  refine ha.snd _ _ _ _ _ _ _ _ Rl ?_
  unfold rg1E at P
  cases q : ma env tp with
  | stuck => rw [q] at P; exact P
  | exn cc fs tp1 => rw [q] at P; exact P
  | ok d tp1 =>
    rw [q] at P
    intro x Hs1 H1 g w rx
    simp only [RE.bind_ok] at P
    cases d with
    | int n =>
      have P : Post K mg r (Fresh K mg r H) E Hs H (if cRgOk 0 n = true then .ok (.lst (rangeL 0 n)) tp1 else .stuck) Q := P
      split at P
      · rename_i c
        refine ⟨n, repT_int rx, cRgOk_ok c, fun q hq => ?_⟩
        obtain ⟨a, b, c⟩ := fresh_new (o := .lst (rgV 0 n)) (d := .lst _) g w hq ⟨_, upd_same, reps_range 0 n⟩
        exact P _ _ _ a b c
      · exact P.elim
    | _ => exact P.elim
theorem ge_tupRg1 {pa pb : Pos} (hm : X.mg "tuple" = none) (hm2 : X.mg "range" = none) (ha : GO K mg r X O E a ta ma) (hc : X.calm = true := by rfl) (hg : Gl X "tuple" := by rfl) (hg2 : Gl X "range" := by rfl) (na : starEach [a] X.env = (false, eval a X.env) :: starEach [] X.env := by rfl) (nb : starEach [Expr.Call (.Name "range" pa) [a] [] pb] X.env = (false, eval (Expr.Call (.Name "range" pa) [a] [] pb) X.env) :: starEach [] X.env := by rfl) :
    GE K mg r X O E (.Call (.Name "tuple" p) [.Call (.Name "range" pa) [a] [] pb] [] pos) (tTupRg (tRg1 ta)) (rg1E .tup ma) := by
  refine ⟨pe_tupRg hc hg hm (prg_1 hg2 hm2 ha.pe na) nb, fun Hs0 H0 Hs H σ env tp Q Rl P => ?_⟩
  refine ha.snd _ _ _ _ _ _ _ _ Rl (Post.bind P fun x Hs1 H1 d tp1 _ g w rx P1 => ?_)
  cases d with
  | int n =>
    have P1 : PostE K mg r E Hs1 H1 (if cRgOk 0 n = true then .ok (.tup (rangeL 0 n)) tp1 else .stuck) Q := P1
    split at P1
    · rename_i c
      refine ⟨n, repT_int rx, cRgOk_ok c, fun q hq => ?_⟩
      obtain ⟨g2, w2⟩ := w.alloc (o := .tup (rgV 0 n)) hq
      exact P1 _ _ _ g2 w2 (.tup upd_same (reps_range 0 n))
    · exact P1.elim
  | _ => exact P1.elim
theorem tN_len {n : Nat} {d : D} {ds : List D} (h : tN n d = some ds) : ds.length = n := by
  cases d with
  | tup xs =>
    have h : (if xs.length = n then some xs else none) = some ds := h
    split at h
    · cases h; assumption
    · cases h
  | _ => cases h
end
end G
set_option maxHeartbeats 1000000
namespace G
open PySem PySem.Spec PyProof.Rows L2
theorem meets_enum1 {v : Value} {o : Obj} {Ho : Heap → Prop} (B : Begins v o Ho) :
    Meets (Builtin.«enumerate.__new__» ⟨[.type "enumerate", v], []⟩) (fun _ R s => Ho s.heap ∧
      R (.ok (.ret (.ref (s.heap.push o).objs.size))) { s with heap := (s.heap.push o).push { cls := .type "enumerate", data := .fields #[.none, .bool false, .ref s.heap.objs.size, rawInt 0, .none, .none] } }) :=
  .of_wp fun prog w A R s h => by
    obtain ⟨hp, g, d, tk, os⟩ := s; obtain ⟨h1, h⟩ := h
    have hsub := sub_enumerate
    have q1 : ∀ {A' : Around} {E : Value → Shared → Prop} {Q : Value → Shared → Prop}, Q (.ref hp.objs.size) ⟨hp.push o, g, d, tk, os⟩ → wpAny (model prog w) A' (pyIter v) Q E ⟨hp, g, d, tk, os⟩ :=
      fun q => B.iter prog w _ _ ⟨hp, g, d, tk, os⟩ _ h1 q
    wp_walk using q1
    refine wpAny_stack_any fun st => wpAny_pure ?_
    split
    · rename_i c _ _ _ _ _
      cases (c == Value.type "enumerate")
      · wp_walk using q1
        exact ⟨_, rfl, h⟩
      · wp_walk using q1
        exact ⟨_, rfl, h⟩
    · wp_walk using q1
      exact ⟨_, rfl, h⟩
section
variable {prog : Program} {w : World} {A : Around} {E : Value → Shared → Prop} {s : Shared}
theorem call_enum1 {v : Value} {o : Obj} {Ho : Heap → Prop} {Q : Value → Shared → Prop} (B : Begins v o Ho) (h1 : Ho s.heap)
    (h : ∀ h', IsEnum h' (s.heap.objs.size + 1) s.heap.objs.size 0 .none → h'.get? s.heap.objs.size = some o → h'.objs.size = s.heap.objs.size + 2 →
      (∀ b o, s.heap.get? b = some o → h'.get? b = some o) → Q (.ref (s.heap.objs.size + 1)) { s with heap := h' }) :
    wpAny (model prog w) A (call (.type "enumerate") [v]) Q E s := by
  refine callType_new F.called_enumerate (by decide) (F.typeCall_enumerate_1 _) (F.newCall_enumerate_1 _) (fun obj => F.args_object_init_2 obj _) F.entry_enumerate_new
    (meets_enum1 B) ⟨h1, ?_⟩
  have hz : (s.heap.push o).objs.size = s.heap.objs.size + 1 := Heap.size_push ..
  show _ ∧ _
  rw [hz]
  have he : IsEnum ((s.heap.push o).push { cls := .type "enumerate", data := .fields #[.none, .bool false, .ref s.heap.objs.size, rawInt 0, .none, .none] }) (s.heap.objs.size + 1) s.heap.objs.size 0 .none := by
    have := Heap.get?_push_size (s.heap.push o) (o := { cls := .type "enumerate", data := .fields #[.none, .bool false, .ref s.heap.objs.size, rawInt 0, .none, .none] }) rfl
    rw [hz] at this; exact this
  refine ⟨⟨_, he, rfl⟩, h _ he (Heap.get?_push_of_some _ (Heap.get?_push_size _ B.free)) (by rw [Heap.size_push, hz]) fun b o x => Heap.get?_push_of_some _ (Heap.get?_push_of_some _ x)⟩
end
/-- the items of what a Draws tells, numbered; V's items by Pv -/
def IteD (n : Nat) (Gd : Hp → Prop) (Pv : Nat → Hp → V → Prop) : It :=
  ⟨fun i H => i < n ∧ Gd H, fun i H v H' => ∃ T x, v = .ref T ∧ H T = none ∧ H' = upd H T (.tup [.int (i : Nat), x]) ∧ Pv i H x, fun i H => i = n ∧ Gd H⟩
theorem turn_enumS {P : Program} {w : World} {K : PySem.W.Frag} {elts : List Expr} {kk : Nat} {tpos : Pos} (e it : Addr) (z : Str) (t : Tok) :
    Turn P w K (.Tuple elts kk tpos) (IteD z.cps.size (fun _ => True) (fun i _ x => ∃ c, z.cps[i]? = some c ∧ x = .str ⟨#[c]⟩)) [e, it] e (fun i h => (∃ old, IsEnum h e it ((i : Nat) : Int) old) ∧ h.IsStrIter it (strIterType z) z t i ∧ e ≠ it) where
  mem := by simp
  obj := fun i h st b hb => by
    obtain ⟨⟨old, he⟩, ⟨o, ho, hc, hd⟩, _⟩ := st
    have e' : b = e ∨ b = it := by simpa using hb
    rcases e' with z | z
    · rw [z]; exact ⟨_, he, fun v q => nomatch q⟩
    · rw [z]; exact ⟨o, ho, fun v q => by rw [hd] at q; cases q⟩
  keep := fun i h h' st k => by
    obtain ⟨⟨old, he⟩, ⟨o, ho, r⟩, hne⟩ := st
    exact ⟨⟨old, k e (by simp) _ he⟩, ⟨o, k it (by simp) o ho, r⟩, hne⟩
  item := by
    intro X hP hw hK hc i pins s σ H E I hf st hg
    subst hP hw hK
    obtain ⟨⟨old, he⟩, hit, hne⟩ := st
    have hel : e < s.heap.objs.size := Heap.lt_size he
    have hil : it < s.heap.objs.size := by obtain ⟨_, q, _⟩ := hit; exact Heap.lt_size q
    refine wpAny_pyNext_enum_itemD (Draws.text (A := X.A.in1) (I.ok.hd hc) it z t) he hit hg.1 hne (by simp [hne]) fun v h' tk hv ho hit' hT hsz hk => ?_
    obtain ⟨c, u, hcx, rfl⟩ := hv
    refine ⟨_, rfl, wpAny_letOwnedTupleGo_enum (s := { s with heap := h', toks := tk + 1 }) ho fun h'' he' sb => ?_⟩
    have hT2 : h''.get? s.heap.objs.size = some { cls := .type "tuple", data := .seq #[.int i tk, .str ⟨#[c]⟩ u] } := (sb.2 _ (Nat.ne_of_gt hel)).trans hT
    have new : ObjOk X.prog X.w (upd H s.heap.objs.size (.tup [.int (i : Nat), .str ⟨#[c]⟩])) h'' s.heap.objs.size (.tup [.int (i : Nat), .str ⟨#[c]⟩]) :=
      ⟨by show 2 ≤ sizeLine; decide, [.int i tk, .str ⟨#[c]⟩ u], .cons ⟨_, rfl⟩ (.cons ⟨_, rfl⟩ .nil), ⟨_, hT2, rfl, _, rfl⟩⟩
    have I1 : Inv X pins σ (upd H s.heap.objs.size (.tup [.int (i : Nat), .str ⟨#[c]⟩])) { s with heap := h'', toks := tk + 1 } :=
      I.turnedNew (ch := [e, it]) (fun b ob hb q => (sb.2 b (fun z => hb (by simp [z]))).trans (hk b ob (fun z => hb (by simp [z])) (fun z => hb (by simp [z])) q)) hf (Nat.le_refl _) new
    refine ⟨.ref s.heap.objs.size, _, I1, rfl, ⟨_, _, rfl, I.hok.fresh (Nat.le_refl _), rfl, c, hcx, rfl⟩, ⟨⟨.str ⟨#[c]⟩ u, ?_⟩, ?_, hne⟩, fun b hb => ?_⟩
    · have e1 : ((i + 1 : Nat) : Int) = (i : Int) + 1 := by omega
      rw [e1]; exact he'
    · obtain ⟨o, q, r⟩ := hit'
      exact ⟨o, (sb.2 it (Ne.symm hne)).trans q, r⟩
    · have hb' : b < s.heap.objs.size := by
        have e' : b = e ∨ b = it := by simpa using hb
        rcases e' with z | z
        · rw [z]; exact hel
        · rw [z]; exact hil
      rw [upd_ne (Nat.ne_of_lt hb')]
      exact (hf b hb).1
  done := by
    intro X hP hw hK hc i pins s σ H E I hf st hg
    subst hP hw hK
    obtain ⟨⟨old, he⟩, hit, hne⟩ := st
    obtain ⟨f0, f1, f2, f3, f4, f5⟩ := hf it (by simp)
    obtain ⟨rfl, _⟩ := hg
    exact wpAny_pyNext_enum_endD (Draws.text (A := X.A.in1) (I.ok.hd hc) it z t) he hit fun h' eb => ⟨rfl, I.turned (t' := s.toks) (fun b o hb q => eb b o hb q) f0 f1 f3 f4 f5⟩
  self := fun A i s Q E st h => let ⟨⟨_, he⟩, _⟩ := st; wpAny_pyIter_enum he h
theorem turn_enumT {P : Program} {w : World} {K : PySem.W.Frag} {elts : List Expr} {kk : Nat} {tpos : Pos} (e it a : Addr) (xs : List V) :
    Turn P w K (.Tuple elts kk tpos) (IteD xs.length (fun H => SqT K H a xs) (fun i _ x => xs[i]? = some x)) [e, it] e (fun i h => (∃ old, IsEnum h e it ((i : Nat) : Int) old) ∧ h.IsTupleIter it a i ∧ e ≠ it) where
  mem := by simp
  obj := fun i h st b hb => by
    obtain ⟨⟨old, he⟩, ⟨o, ho, hc, hd⟩, _⟩ := st
    have e' : b = e ∨ b = it := by simpa using hb
    rcases e' with z | z
    · rw [z]; exact ⟨_, he, fun v q => nomatch q⟩
    · rw [z]; exact ⟨o, ho, fun v q => by rw [hd] at q; cases q⟩
  keep := fun i h h' st k => by
    obtain ⟨⟨old, he⟩, hi, hne⟩ := st
    exact ⟨⟨old, k e (by simp) _ he⟩, hi.at fun o q => k it (by simp) o q, hne⟩
  item := by
    intro X hP hw hK hc i pins s σ H E I hf st hg
    subst hP hw hK
    obtain ⟨⟨old, he⟩, hit, hne⟩ := st
    obtain ⟨hi, hq⟩ := hg
    obtain ⟨its, rv, p, hz⟩ := I.tuple hq
    have hel : e < s.heap.objs.size := Heap.lt_size he
    have hil : it < s.heap.objs.size := by obtain ⟨_, q, _⟩ := hit; exact Heap.lt_size q
    have hea : e ≠ a := by
      rintro rfl
      obtain ⟨o, q1, q2, _⟩ := id p
      rw [show s.heap.get? e = _ from he] at q1
      cases q1
      have q2' : (Value.type "enumerate") = .type "tuple" := q2
      exact absurd q2' (by decide)
    have hia : a ≠ it := by
      rintro rfl
      obtain ⟨o, q1, q2, _⟩ := id p
      obtain ⟨o', q3, q4, _⟩ := id hit
      rw [q1] at q3
      cases q3
      rw [q2] at q4
      exact absurd q4 (by decide)
    have hl : its.toArray.size = xs.length := by rw [List.size_toArray]; exact rv.length.symm
    refine wpAny_pyNext_enum_itemD (Draws.tuple (A := X.A.in1) (I.ok.hd hc) it a hia its.toArray) he ⟨hit, p⟩ (by rw [hl]; exact hi) hne (by simp [hne, hea]) fun v h' tk hv ho hit' hT hsz hk => ?_
    obtain ⟨x, hx⟩ : ∃ x, xs[i]? = some x := ⟨xs[i], List.getElem?_eq_getElem hi⟩
    obtain ⟨u, hu, ru⟩ := rv.get hx
    have ev : v = u := by
      have hv' : its[i]? = some v := by simpa using hv
      rw [hu] at hv'
      exact (Option.some.inj hv').symm
    subst ev
    refine ⟨_, rfl, wpAny_letOwnedTupleGo_enum (s := { s with heap := h', toks := tk + 1 }) ho fun h'' he' sb => ?_⟩
    have hT2 : h''.get? s.heap.objs.size = some { cls := .type "tuple", data := .seq #[.int i tk, v] } := (sb.2 _ (Nat.ne_of_gt hel)).trans hT
    have new : ObjOk X.prog X.w (upd H s.heap.objs.size (.tup [.int (i : Nat), x])) h'' s.heap.objs.size (.tup [.int (i : Nat), x]) :=
      ⟨by show 2 ≤ sizeLine; decide, [.int i tk, v], .cons ⟨_, rfl⟩ (.cons ru .nil), ⟨_, hT2, rfl, _, rfl⟩⟩
    have I1 : Inv X pins σ (upd H s.heap.objs.size (.tup [.int (i : Nat), x])) { s with heap := h'', toks := tk + 1 } :=
      I.turnedNew (ch := [e, it]) (fun b ob hb q => (sb.2 b (fun z => hb (by simp [z]))).trans (hk b ob (fun z => hb (by simp [z])) (fun z => hb (by simp [z])) q)) hf (Nat.le_refl _) new
    refine ⟨.ref s.heap.objs.size, _, I1, rfl, ⟨_, _, rfl, I.hok.fresh (Nat.le_refl _), rfl, hx⟩, ⟨⟨v, ?_⟩, ?_, hne⟩, fun b hb => ?_⟩
    · have e1 : ((i + 1 : Nat) : Int) = (i : Int) + 1 := by omega
      rw [e1]; exact he'
    · exact hit'.1.at fun o q => (sb.2 it (Ne.symm hne)).trans q
    · have hb' : b < s.heap.objs.size := by
        have e' : b = e ∨ b = it := by simpa using hb
        rcases e' with z | z
        · rw [z]; exact hel
        · rw [z]; exact hil
      rw [upd_ne (Nat.ne_of_lt hb')]
      exact (hf b hb).1
  done := by
    intro X hP hw hK hc i pins s σ H E I hf st hg
    subst hP hw hK
    obtain ⟨⟨old, he⟩, hit, hne⟩ := st
    obtain ⟨rfl, hq⟩ := hg
    obtain ⟨its, rv, p, hz⟩ := I.tuple hq
    have hia : a ≠ it := by
      rintro rfl
      obtain ⟨o, q1, q2, _⟩ := id p
      obtain ⟨o', q3, q4, _⟩ := id hit
      rw [q1] at q3
      cases q3
      rw [q2] at q4
      exact absurd q4 (by decide)
    have hl : its.toArray.size = xs.length := by rw [List.size_toArray]; exact rv.length.symm
    obtain ⟨f0, f1, f2, f3, f4, f5⟩ := hf it (by simp)
    exact wpAny_pyNext_enum_endD (Draws.tuple (A := X.A.in1) (I.ok.hd hc) it a hia its.toArray) he ⟨by rw [hl]; exact hit, p⟩ fun h' eb => ⟨rfl, I.turned (t' := s.toks) (fun b o hb q => eb b o hb q) f0 f1 f3 f4 f5⟩
  self := fun A i s Q E st h => let ⟨⟨_, he⟩, _⟩ := st; wpAny_pyIter_enum he h
def iEnumA (K : PySem.W.Frag) (ta : TA) : TI := fun σ H R => ta σ H fun vs H1 => (∃ a xs, vs = [.ref a] ∧ SqT K H1 a xs ∧ R (IteD xs.length (fun H => SqT K H a xs) (fun i _ x => xs[i]? = some x)) H1) ∨ (∃ z, vs = [.str z] ∧ R (IteD z.cps.size (fun _ => True) (fun i _ x => ∃ c, z.cps[i]? = some c ∧ x = .str ⟨#[c]⟩)) H1) ∨ ∃ a xs, vs = [.ref a] ∧ SqL K H1 a xs ∧ R (Ite K a) H1
theorem pi_enumA {X : Cx} {e : Expr} {ta : TA} {p pos tpos : Pos} {elts : List Expr} {kk : Nat} (hg : Gl X "enumerate") (hm : X.mg "enumerate" = none) (ha : PA X [e] ta) (hs : starEach [e] X.env = [(false, eval e X.env)] := by rfl) :
    PI X (.Tuple elts kk tpos) (.Call (.Name "enumerate" p) [e] [] pos) (iEnumA X.K ta) := by
  refine ⟨fun pins s σ H R I h => ?_⟩
  refine Call_ (ld_blt I hg hm boot_enumerate (PyProof.Rows.callWith_type1 (thn (ha.run pos pins s σ H _ I h) fun us s1 ⟨vs, H1, I1, r1, q1⟩ => ?_) hs rfl))
  have fin : ∀ b, b ∈ [s1.heap.objs.size + 1, s1.heap.objs.size] → FpOk X pins H1 b := fun b hb => by
    have e' : b = s1.heap.objs.size + 1 ∨ b = s1.heap.objs.size := by simpa using hb
    have hle : s1.heap.objs.size ≤ b := by
      rcases e' with z | z
      · rw [z]; exact Nat.le_add_right _ _
      · rw [z]; exact Nat.le_refl _
    exact I1.fpOk hle (I1.hok.fresh hle)
  rcases q1 with ⟨a, xs, ex, hq, q⟩ | ⟨z, ex, q⟩ | ⟨a, xs, ex, hq, q⟩
  · subst ex
    cases r1 with
    | cons r rr =>
      cases rr
      cases r
      obtain ⟨its, rv, p', hz⟩ := I1.tuple hq
      refine call_enum1 (begins_tuple a its.toArray) p' fun h' he hit hsz hk => wpAny_pyIter_enum he ?_
      have I2 : Inv X pins σ H1 { s1 with heap := h' } := I1.kept (t' := s1.toks) hk
      exact ⟨s1.heap.objs.size + 1, [s1.heap.objs.size + 1, s1.heap.objs.size], _, _, H1, rfl, I2, turn_enumT (s1.heap.objs.size + 1) s1.heap.objs.size a xs, ⟨⟨.none, he⟩, ⟨_, hit, rfl, rfl⟩, Nat.succ_ne_self _⟩, fin, q⟩
  · subst ex
    cases r1 with
    | cons r rr =>
      cases rr
      obtain ⟨t, rfl⟩ := r
      refine call_enum1 (begins_text z t) trivial fun h' he hit hsz hk => wpAny_pyIter_enum he ?_
      have I2 : Inv X pins σ H1 { s1 with heap := h' } := I1.kept (t' := s1.toks) hk
      exact ⟨s1.heap.objs.size + 1, [s1.heap.objs.size + 1, s1.heap.objs.size], _, _, H1, rfl, I2, turn_enumS (s1.heap.objs.size + 1) s1.heap.objs.size z t, ⟨⟨.none, he⟩, ⟨_, hit, rfl, rfl⟩, Nat.succ_ne_self _⟩, fin, q⟩
  · subst ex
    cases r1 with
    | cons r rr =>
      cases rr
      cases r
      obtain ⟨its, rv, p', hz⟩ := I1.list hq
      refine call_enumerate_list p'.isList fun h' he hit hsz hk => wpAny_pyIter_enum he ?_
      have I2 : Inv X pins σ H1 { s1 with heap := h' } := I1.kept (t' := s1.toks) hk
      exact ⟨s1.heap.objs.size + 1, [s1.heap.objs.size + 1, s1.heap.objs.size], _, _, H1, rfl, I2, turn_enum a (s1.heap.objs.size + 1) s1.heap.objs.size, ⟨⟨.none, he⟩, hit, Nat.succ_ne_self _⟩, fin, q⟩
section
variable {r : Addr} {X : Cx} {K : PySem.W.Frag} {mg : Str → Option Value} {O : List Nat} {E : XK} {e : Expr} {ts : TA}
def numD (xs : List D) : List D := xs.mapIdx fun i x => .tup [.int (i : Int), x]
def enumD : List D → Option (List D)
  | [d] => (seqD d).map numD
  | _ => none
theorem numD_len (xs : List D) : (numD xs).length = xs.length := by unfold numD; simp
theorem numD_get {xs : List D} {i : Nat} {x : D} (h : xs[i]? = some x) : (numD xs)[i]? = some (.tup [.int (i : Int), x]) := by
  unfold numD; rw [List.getElem?_mapIdx, h]; rfl
theorem walks_pair {J : It} {Hs1 : Hp} {ds : List D} {Gd : Hp → Prop} {Y : Nat → Hp → V → Hp → Prop} (wk : Walk J ds.length Gd Y) (hG : ∀ Hs H, Same Hs1 Hs → Same Hs H → Gd H)
    (hY : ∀ i Hs H v H', i < ds.length → Same Hs1 Hs → Same Hs H → Y i H v H' → ∃ T x d, v = .ref T ∧ H T = none ∧ H' = upd H T (.tup [.int (i : Nat), x]) ∧ ds[i]? = some d ∧ RepD K mg r Hs x d) : WalksD K mg r J Hs1 (numD ds) := by
  refine ⟨Gd, Y, by rw [numD_len]; exact wk, hG, fun i Hs H tp v H' hi e w y => ?_⟩
  rw [numD_len] at hi
  obtain ⟨T, x, d, rfl, hT, rfl, hd, hx⟩ := hY i Hs H v H' hi e w.sub y
  obtain ⟨g', w'⟩ := w.alloc (o := .tup [.int (i : Nat), x]) hT
  exact ⟨_, _, g', w', numD_get hd, .tup upd_same (.cons (.int _) (.cons (hx.mono g'.ex) .nil))⟩
theorem enumD_ok {ds items : List D} (h : enumD ds = some items) : ∃ d xs, ds = [d] ∧ seqD d = some xs ∧ items = numD xs := by
  match ds, h with
  | [d], h =>
    obtain ⟨xs, h1, h2⟩ := Option.map_eq_some_iff.mp h
    exact ⟨d, xs, rfl, h1, h2.symm⟩
theorem gi_enum {p tpos : Pos} {pos : Pos} {elts : List Expr} {kk : Nat} {m : SE (List D)} (hm : X.mg "enumerate" = none) (h : GA K mg r X O E [e] ts m) (hg : Gl X "enumerate" := by rfl) (hs : starEach [e] X.env = [(false, eval e X.env)] := by rfl) (hK : X.K = K := by rfl) :
    GI K mg r X O E (.Tuple elts kk tpos) (.Call (.Name "enumerate" p) [e] [] pos) (iEnumA K ts) (rangeI enumD m) := by
  subst hK
  refine ⟨pi_enumA hg hm h.pe hs, fun Hs0 H0 Hs H σ env tp Q R P => ?_⟩
  refine h.snd _ _ _ _ _ _ _ _ R (Post.bind P fun vs Hs1 H1 ds tp1 _ g w rv P1 => ?_)
  obtain ⟨items, hz, k⟩ := Post.ok_of P1
  obtain ⟨d, xs, rfl, h1, rfl⟩ := enumD_ok hz
  cases rv with
  | cons rx rr =>
    cases rr
    cases d with
    | lst ys =>
      cases h1
      cases rx with
      | lst q1 q2 =>
        rename_i a vs
        refine .inr (.inr ⟨a, vs, rfl, .of (w.sub _ _ q1).lst, k _ Hs1 H1 (Grow.refl _ _) w ?_⟩)
        refine walks_pair (Gd := fun H => SqL X.K H a vs) (Y := fun i H v H' => ∃ T x, v = .ref T ∧ H T = none ∧ H' = upd H T (.tup [.int (i : Nat), x]) ∧ vs[i]? = some x) ?_ (fun Hs H e1 e2 => (e1.trans e2).seq (.of q1)) fun i Hs H v H' hi e e2 y => ?_
        · rw [← q2.length]
          exact ⟨fun i H hi q => ⟨vs, vs[i], q, List.getElem?_eq_getElem hi⟩, fun H q => ⟨vs, q, Nat.le_refl _⟩, fun i H x H' hi q y => by
            obtain ⟨T, z, h1, h2, h3, h4⟩ := y
            exact ⟨T, z, h1, h2, h3, h4 vs q⟩⟩
        · obtain ⟨T, x, h1, h2, h3, h4⟩ := y
          obtain ⟨d, h5, h6⟩ := q2.get h4
          exact ⟨T, x, d, h1, h2, h3, h5, h6.mono e⟩
    | tup ys =>
      cases h1
      cases rx with
      | tupR q1 q2 =>
        rename_i a vs
        refine .inl ⟨a, vs, rfl, .inl (Same.rd w.sub q1), k _ Hs1 H1 (Grow.refl _ _) w ?_⟩
        refine walks_pair (Gd := fun H => SqT X.K H a vs) (Y := fun i H v H' => ∃ T x, v = .ref T ∧ H T = none ∧ H' = upd H T (.tup [.int (i : Nat), x]) ∧ vs[i]? = some x) ?_ (fun Hs H e1 e2 => (e1.trans e2).sqt (.inl q1)) fun i Hs H v H' hi e e2 y => ?_
        · rw [← q2.length]
          exact ⟨fun i H hi q => ⟨hi, q⟩, fun H q => ⟨rfl, q⟩, fun i H x H' hi q y => y⟩
        · obtain ⟨T, x, h1, h2, h3, h4⟩ := y
          obtain ⟨d, h5, h6⟩ := q2.get h4
          exact ⟨T, x, d, h1, h2, h3, h5, h6.mono e⟩
    | scr ns =>
      cases h1
      cases rx with
      | scr q1 =>
        rename_i a
        refine .inr (.inr ⟨a, ns.map V.int, rfl, Same.seq w.sub q1, k _ Hs1 H1 (Grow.refl _ _) w ?_⟩)
        refine walks_pair (Gd := fun H => SqL X.K H a (ns.map V.int)) (Y := fun i H v H' => ∃ T x, v = .ref T ∧ H T = none ∧ H' = upd H T (.tup [.int (i : Nat), x]) ∧ (ns.map V.int)[i]? = some x) ?_ (fun Hs H e1 e2 => Same.seq e2 (Same.seq e1 q1)) fun i Hs H v H' hi e e2 y => ?_
        · rw [List.length_map]
          exact ⟨fun i H hi q => ⟨ns.map V.int, .int ns[i], q, by rw [List.getElem?_map, List.getElem?_eq_getElem hi]; rfl⟩, fun H q => ⟨ns.map V.int, q, by rw [List.length_map]; exact Nat.le_refl _⟩, fun i H x H' hi q y => by
            obtain ⟨T, z, h1, h2, h3, h4⟩ := y
            exact ⟨T, z, h1, h2, h3, h4 _ q⟩⟩
        · obtain ⟨T, x, h1, h2, h3, h4⟩ := y
          rw [List.getElem?_map] at h4
          obtain ⟨n, h5, rfl⟩ := Option.map_eq_some_iff.mp h4
          exact ⟨T, _, .int n, h1, h2, h3, by rw [List.getElem?_map, h5]; rfl, .int _⟩
    | str s =>
      cases h1
      cases rx
      refine .inr (.inl ⟨s, rfl, k _ Hs1 H1 (Grow.refl _ _) w ?_⟩)
      refine walks_pair (Gd := fun _ => True) (Y := fun i H v H' => ∃ T x, v = .ref T ∧ H T = none ∧ H' = upd H T (.tup [.int (i : Nat), x]) ∧ ∃ c, s.cps[i]? = some c ∧ x = .str ⟨#[c]⟩) ?_ (fun _ _ _ _ => trivial) fun i Hs H v H' hi e e2 y => ?_
      · rw [List.length_map, Array.length_toList]
        exact ⟨fun _ _ hi _ => ⟨hi, trivial⟩, fun _ _ => ⟨rfl, trivial⟩, fun _ _ _ _ _ _ y => y⟩
      · obtain ⟨T, x, rfl, hT, rfl, c, hc, rfl⟩ := y
        exact ⟨T, _, .str ⟨#[c]⟩, rfl, hT, rfl, by rw [List.getElem?_map, Array.getElem?_toList, hc]; rfl, .str _⟩
    | _ => cases h1
end
end G
set_option maxHeartbeats 1000000
namespace SrtT
open PySem PySem.Spec PyProof.Rows SrtO
section
variable {prog : Program} {w : World} {A : Around} {E : Value → Shared → Prop} {s : Shared}
theorem collect_tuple {l : Addr} {vs : List Value} {Q : List Value → Shared → Prop} (hl : s.heap.IsTuple l vs.toArray)
    (h : Q vs { s with heap := (s.heap.push (seqObj "list" #[] 0)).update s.heap.objs.size (Obj.mapSeq (· ++ vs.toArray)) }) (hsz : vs.length ≤ sizeLine) :
    wpAny (model prog w) A (collect (.ref l)) Q E s := by
  obtain ⟨o, ho, hc, n, hd⟩ := id hl
  unfold collect
  refine wpAny_bind (wpAny_runValue (codeAny_builtin entry_proto_collect' ?_))
  show wpAny _ _ (do again (.builtin "list.__iadd__" ⟨[← newList [], .ref l], []⟩)) _ _ s
  refine wpAny_bind (wpAny_newList (wpAny_pure ⟨Code.quiet_builtin _ (by decide +kernel), codeAny_builtin entry_list_iadd' ?_⟩))
  show wpAny _ _ (Builtin.List.listExtendWith (.ref s.heap.objs.size) (.ref l) (.ref s.heap.objs.size)) _ _ { s with heap := s.heap.push (seqObj "list" #[] 0) }
  unfold Builtin.List.listExtendWith
  have ho' : (s.heap.push (seqObj "list" #[] 0)).get? l = some o := Heap.get?_push_of_some _ ho
  refine wpAny_bind (wpAny_typeOf (T := "tuple") ⟨o, ho', hc⟩ ?_)
  have ht : (Value.type "tuple" == Value.type "tuple") = true := by rfl
  rw [if_pos (by rw [ht]; simp)]
  refine wpAny_bind (listItems_at ho' hd ?_)
  refine wpAny_bind (listItems_at (xs := #[]) (n := 0) (Heap.get?_push_size _ rfl) rfl ?_)
  rw [if_neg (by simp)]
  refine wpAny_bind (listUpdate_at (xs := #[]) (n := 0) (Heap.get?_push_size _ rfl) rfl ?_ (Nat.zero_le _) (by show (#[] ++ vs.toArray).size ≤ sizeLine + 1; simp only [Array.size_append, List.size_toArray, List.length_nil]; omega))
  refine wpAny_pure ?_
  show wpAny (model prog w) A (do
      let o ← load s.heap.objs.size
      match o.data with
      | .seq xs _ => pure xs.toList
      | _ => unsupported "internal:collect") Q E { s with heap := (s.heap.push (seqObj "list" #[] 0)).update s.heap.objs.size (Obj.mapSeq (· ++ vs.toArray)) }
  refine wpAny_bind (wpAny_load (get?_update_seq (Heap.get?_push_size _ rfl) _) ?_)
  show wpAny _ _ (pure ((#[] : Array Value) ++ vs.toArray).toList) Q E _
  rw [show ((#[] : Array Value) ++ vs.toArray).toList = vs by simp]
  exact wpAny_pure h
theorem sorted_ordT {l : Addr} {vs : List Value} {ltv : Value → Value → Bool} {Q : Value → Shared → Prop} (O : Swo ltv) (hl : s.heap.IsTuple l vs.toArray) (hz : vs.length ≤ sizeLine)
    (hS : 2 ≤ vs.length → ∀ (h₁ : Heap) (a : Addr), h₁.get? a = some (seqObj "list" vs.toArray 0) → (∀ b o, s.heap.get? b = some o → b ≠ a ∧ h₁.get? b = some o) → SortableO prog w A.in1.in1 { s with heap := h₁ } a vs ltv)
    (h : ∀ out : List Value, Srtd ltv out → Stb ltv out vs → Q (.ref (s.heap.objs.size + 1)) { s with heap := sortedAll s.heap vs out.toArray }) :
    wpAny (model prog w) A (call (.builtin "sorted") [.ref l]) Q E s := by
  refine Calls.call_function_entry kind_sorted plain_sorted entry_sorted (args_sorted1 _) ?_
  unfold Builtin.«sorted»
  refine wpAny_bind (m := checkCount "sorted" 1 1 _) (wpAny_pure ?_)
  refine wpAny_bind (collect_tuple hl ?_ hz)
  refine wpAny_bind (wpAny_newList ?_ hz)
  have hsz : ((s.heap.push (seqObj "list" #[] 0)).update s.heap.objs.size (Obj.mapSeq (· ++ vs.toArray))).objs.size = s.heap.objs.size + 1 := by
    rw [Heap.size_update, size_push']
  have hoL : (((s.heap.push (seqObj "list" #[] 0)).update s.heap.objs.size (Obj.mapSeq (· ++ vs.toArray))).push (seqObj "list" vs.toArray 0)).get? (s.heap.objs.size + 1) = some (seqObj "list" vs.toArray 0) := by
    rw [← hsz]; exact Heap.get?_push_size _ rfl
  have keep : ∀ b o, s.heap.get? b = some o → b ≠ s.heap.objs.size + 1 ∧ (((s.heap.push (seqObj "list" #[] 0)).update s.heap.objs.size (Obj.mapSeq (· ++ vs.toArray))).push (seqObj "list" vs.toArray 0)).get? b = some o := fun b o q => by
    have hlt : b < s.heap.objs.size := Heap.lt_size q
    refine ⟨Nat.ne_of_lt (Nat.lt_succ_of_lt hlt), Heap.get?_push_of_some _ ?_⟩
    rw [Heap.get?_update_ne _ _ _ _ (Nat.ne_of_lt hlt)]
    exact Heap.get?_push_of_some _ q
  show wpAny _ _ _ _ _ { s with heap := ((s.heap.push (seqObj "list" #[] 0)).update s.heap.objs.size (Obj.mapSeq (· ++ vs.toArray))).push (seqObj "list" vs.toArray 0) }
  rw [hsz]
  refine wpAny_bind (wpAny_holding (wpAny_call_entry slot_list_sort ⟨_, hoL, rfl⟩ entry_list_sort (list_sort_ord O hoL hz (fun h2 => hS h2 _ _ hoL keep) fun out hs hb => ⟨_, rfl, ?_⟩) (args_list_sort _)))
  exact wpAny_pure ⟨_, rfl, h out hs hb⟩
end
end SrtT
namespace G
open PySem PySem.Spec PyProof.Rows L2
def rSortedA (K : PySem.W.Frag) : List V → Hp → VK → Prop := fun vs H Q => ∃ (a : Addr) (ns : List Int), vs = [V.ref a] ∧ SqT K H a (ns.map V.int) ∧
  ∀ (ns' : List Int) (p : Addr), ns'.Perm ns → ns'.Pairwise (· ≤ ·) → H p = none → Q (.ref p) (upd H p (.lst (ns'.map V.int)))
theorem cr_sortedA {X : Cx} : CallR X (.builtin "sorted") (rSortedA X.K) := by
  intro pins s σ H vs us Q I r h
  obtain ⟨a, ns, rfl, hs, q⟩ := h
  obtain ⟨its, rv, hl, hz⟩ := I.tuple hs
  rw [Vals.ref1 r]
  have hi := rv.ints
  refine SrtT.sorted_ordT SrtO.swo_int hl (by rw [← rv.length]; exact hz) (fun h2 h₁ a' _ _ => SrtO.ints_sortable hi h2) fun out h1 h2 => ?_
  obtain ⟨k1, k2, k3⟩ := SrtO.ints_out hi h1 h2
  obtain ⟨ep, he'⟩ := PyProof.Rows.sortedAll_at s.heap its out.toArray
  have hlen : ((out.map SrtO.iv).map V.int).length ≤ sizeLine := by
    rw [List.length_map, k2.length_eq]
    rw [List.length_map] at hz
    exact hz
  exact ⟨.ref _, upd H (s.heap.objs.size + 1) (.lst ((out.map SrtO.iv).map V.int)), I.laid (t' := s.toks) (fun _ _ => PyProof.Rows.sortedAll_old) (Nat.le_succ _) ⟨hlen, out, ep, vals_of_ints k1, he'⟩, rfl, q _ _ k2 k3 (I.hok.fresh (Nat.le_succ _))⟩
theorem crr_or {X : Cx} {f : Value} {r1 r2 : List V → Hp → VK → Prop} (h1 : CallR X f r1) (h2 : CallR X f r2) : CallR X f (fun vs H Q => r1 vs H Q ∨ r2 vs H Q) := by
  intro pins s σ H vs us Q I r h
  rcases h with h | h
  · exact h1 pins s σ H vs us Q I r h
  · exact h2 pins s σ H vs us Q I r h
abbrev rSortedB (K : PySem.W.Frag) : List V → Hp → VK → Prop := fun vs H Q => rSortedI K vs H Q ∨ rSortedA K vs H Q
/-- ints in order -/
def insI (x : Int) : List Int → List Int
  | [] => [x]
  | y :: ys => if x ≤ y then x :: y :: ys else y :: insI x ys
def sortI : List Int → List Int
  | [] => []
  | x :: xs => insI x (sortI xs)
theorem insI_perm (x : Int) : ∀ ys, (insI x ys).Perm (x :: ys)
  | [] => .refl _
  | y :: ys => by
    unfold insI
    split
    · exact .refl _
    · exact ((insI_perm x ys).cons y).trans (.swap _ _ _)
theorem sortI_perm : ∀ xs, (sortI xs).Perm xs
  | [] => .refl _
  | x :: xs => (insI_perm x _).trans ((sortI_perm xs).cons x)
theorem insI_sorted (x : Int) : ∀ {ys : List Int}, ys.Pairwise (· ≤ ·) → (insI x ys).Pairwise (· ≤ ·)
  | [], _ => List.pairwise_singleton _ _
  | y :: ys, h => by
    unfold insI
    have h' := List.pairwise_cons.mp h
    split
    · rename_i c
      exact List.pairwise_cons.mpr ⟨fun z hz => (List.mem_cons.mp hz).elim (fun e => e ▸ c) (fun q => Int.le_trans c (h'.1 z q)), h⟩
    · rename_i c
      refine List.pairwise_cons.mpr ⟨fun z hz => ?_, insI_sorted x h'.2⟩
      rcases List.mem_cons.mp ((insI_perm x ys).mem_iff.mp hz) with e | q
      · subst e; omega
      · exact h'.1 z q
theorem sortI_sorted : ∀ xs, (sortI xs).Pairwise (· ≤ ·)
  | [] => .nil
  | x :: xs => insI_sorted x (sortI_sorted xs)
theorem sorted_unique : ∀ {xs ys : List Int}, xs.Perm ys → xs.Pairwise (· ≤ ·) → ys.Pairwise (· ≤ ·) → xs = ys
  | [], ys, p, _, _ => p.nil_eq
  | x :: xs, [], p, _, _ => absurd p.symm.nil_eq (by simp)
  | x :: xs, y :: ys, p, h1, h2 => by
    have h1' := List.pairwise_cons.mp h1
    have h2' := List.pairwise_cons.mp h2
    have e : x = y := by
      have a : x ∈ y :: ys := p.mem_iff.mp List.mem_cons_self
      have b : y ∈ x :: xs := p.mem_iff.mpr List.mem_cons_self
      rcases List.mem_cons.mp a with e | a
      · exact e
      rcases List.mem_cons.mp b with e | b
      · exact e.symm
      have := h1'.1 y b
      have := h2'.1 x a
      omega
    subst e
    rw [sorted_unique (List.Perm.cons_inv p) h1'.2 h2'.2]
section
variable {r : Addr} {X : Cx} {K : PySem.W.Frag} {mg : Str → Option Value} {O : List Nat} {E : XK} {e a : Expr} {ts : TA} {ta : TE} {p pos : Pos} {ms : SE (List D)} {ma : SE D}
def sortD : List D → Option D
  | [.lst xs] => (unI xs).map fun ns => .lst ((sortI ns).map .int)
  | [.scr ns] => some (.lst ((sortI ns).map .int))
  | [.tup xs] => (unI xs).map fun ns => .lst ((sortI ns).map .int)
  | _ => none
theorem gf_sorted (hm : X.mg "sorted" = none) (ha : GAO K mg r X O E [e] ts ms) (hg : Gl X "sorted" := by rfl) (he : starEach [e] X.env = (false, eval e X.env) :: starEach [] X.env := by rfl) (hpl : (backTo pos (starEach [] X.env)).any (·.1) = false := by rfl) (hK : X.K = K := by rfl) : GF K mg r X O E (.Call (.Name "sorted" p) [e] [] pos) (tCB (rSortedB K) ts) (callB sortD ms) := by
  subst hK
  refine ⟨pe_callB (r := rSortedB X.K) (crr_or cr_sortedI cr_sortedA) hg hm boot_sorted ha.pe (by decide) (by decide) he hpl, fun Hs0 H0 Hs H σ env tp Q Rl P => ?_⟩
  refine ha.snd _ _ _ _ _ _ _ _ Rl ?_
  unfold callB at P
  cases q : ms env tp with
  | stuck => rw [q] at P; exact P
  | exn cc fs tp1 => rw [q] at P; exact P
  | ok ds tp1 =>
    rw [q] at P
    intro xs Hs1 H1 g w rx
    obtain ⟨z, hz, k⟩ := Post.ok_of (show Post X.K mg r (Fresh X.K mg r H) E Hs H (RE.of (sortD ds) tp1) Q from P)
    unfold sortD at hz
    split at hz
    · obtain ⟨ns, h1, h2⟩ := Option.map_eq_some_iff.mp hz
      subst h2
      obtain ⟨x, rfl, h⟩ := paired1 rx
      rw [unI_ok h1] at h
      obtain ⟨p, rfl, h3⟩ := lst_typed RepDs.ints_of w h
      refine .inl ⟨p, ns, rfl, .of h3, fun ns' q hp hs hq => ?_⟩
      have e : ns' = sortI ns := sorted_unique (hp.trans (sortI_perm ns).symm) hs (sortI_sorted ns)
      subst e
      obtain ⟨a, b, c⟩ := fresh_new (o := .lst ((sortI ns).map V.int)) (d := .lst ((sortI ns).map D.int)) g w hq ⟨_, upd_same, RepDs.ints _⟩
      exact k _ _ _ a b c
    · cases hz
      rename_i ns
      obtain ⟨x, rfl, h⟩ := paired1 rx
      obtain ⟨p, rfl, h3⟩ := repT_scr w h
      refine .inl ⟨p, ns, rfl, h3, fun ns' q hp hs hq => ?_⟩
      have e : ns' = sortI ns := sorted_unique (hp.trans (sortI_perm ns).symm) hs (sortI_sorted ns)
      subst e
      obtain ⟨a, b, c⟩ := fresh_new (o := .lst ((sortI ns).map V.int)) (d := .lst ((sortI ns).map D.int)) g w hq ⟨_, upd_same, RepDs.ints _⟩
      exact k _ _ _ a b c
    · obtain ⟨ns, h1, h2⟩ := Option.map_eq_some_iff.mp hz
      subst h2
      obtain ⟨x, rfl, h⟩ := paired1 rx
      rw [unI_ok h1] at h
      obtain ⟨p, vs, rfl, h0, h3, h4⟩ := repT_tup w h
      rw [RepDs.ints_of h4] at h3
      refine .inr ⟨p, ns, rfl, .inl h3, fun ns' q hp hs hq => ?_⟩
      have e : ns' = sortI ns := sorted_unique (hp.trans (sortI_perm ns).symm) hs (sortI_sorted ns)
      subst e
      obtain ⟨a, b, c⟩ := fresh_new (o := .lst ((sortI ns).map V.int)) (d := .lst ((sortI ns).map D.int)) g w hq ⟨_, upd_same, RepDs.ints _⟩
      exact k _ _ _ a b c
    · cases hz
end
end G
set_option maxHeartbeats 1000000
namespace G
open PySem PySem.Spec PyProof.Rows L2
section
variable {r : Addr} {X : Cx} {K : PySem.W.Frag} {mg : Str → Option Value} {O : List Nat} {E : XK} {e e2 a b : Expr} {ts : TA} {ta tb : TE} {p pos : Pos} {ms : SE (List D)}
def zipL : List D → List D → List D
  | x :: xs, y :: ys => .tup [x, y] :: zipL xs ys
  | _, _ => []
theorem zipL_len : ∀ xs ys : List D, (zipL xs ys).length = min xs.length ys.length
  | [], ys => by simp [zipL]
  | x :: xs, [] => by simp [zipL]
  | x :: xs, y :: ys => by show (zipL xs ys).length + 1 = _; rw [zipL_len xs ys]; simp only [List.length_cons]; omega
theorem zipL_get : ∀ {xs ys : List D} {i : Nat} {x y : D}, xs[i]? = some x → ys[i]? = some y → (zipL xs ys)[i]? = some (.tup [x, y])
  | [], _, i, _, _, h, _ => by simp at h
  | _ :: _, [], i, _, _, _, h => by simp at h
  | a :: xs, b :: ys, 0, x, y, h, h' => by simp at h h'; subst h; subst h'; rfl
  | a :: xs, b :: ys, i + 1, x, y, h, h' => by
    have h : xs[i]? = some x := by simpa using h
    have h' : ys[i]? = some y := by simpa using h'
    show (zipL xs ys)[i]? = _
    exact zipL_get h h'
def zipD : List D → Option (List D)
  | [.tup xs, .tup ys] => some (zipL xs ys)
  | _ => none
theorem gi_zip {p tpos : Pos} {pos : Pos} {elts : List Expr} {kk : Nat} {m : SE (List D)} (hm : X.mg "zip" = none) (h : GA K mg r X O E [e, e2] ts m) (hg : Gl X "zip" := by rfl) (hs : starEach [e, e2] X.env = (false, eval e X.env) :: starEach [e2] X.env := by rfl) (hpl : (backTo pos (starEach [e2] X.env)).any (·.1) = false := by rfl) (hK : X.K = K := by rfl) :
    GI K mg r X O E (.Tuple elts kk tpos) (.Call (.Name "zip" p) [e, e2] [] pos) (RZ.iZipA K ts) (rangeI zipD m) := by
  subst hK
  refine ⟨RZ.pi_zipA hg hm h.pe hs hpl, fun Hs0 H0 Hs H σ env tp Q R P => ?_⟩
  refine h.snd _ _ _ _ _ _ _ _ R (Post.bind P fun vs Hs1 H1 ds tp1 _ g w rv P1 => ?_)
  obtain ⟨items, hz, k⟩ := Post.ok_of P1
  match ds, hz, rv with
  | [.tup xs, .tup ys], hz, .cons (.tupR q1 q2) (.cons (.tupR q3 q4) .nil) =>
    cases hz
    rename_i a b vs us _
    refine ⟨a, b, vs, us, rfl, .inr ⟨.inl (Same.rd w.sub q1), .inl (Same.rd w.sub q3), k _ Hs1 H1 (Grow.refl _ _) w ?_⟩⟩
    refine ⟨fun H => SqT X.K H a vs ∧ SqT X.K H b us, fun i H v H' => ∃ T x y, v = .ref T ∧ H T = none ∧ H' = upd H T (.tup [x, y]) ∧ vs[i]? = some x ∧ us[i]? = some y, ?_, fun Hs H e1 e2 => ⟨.inl ((e1.trans e2).rd q1), .inl ((e1.trans e2).rd q3)⟩, fun i Hs H tp v H' hi e w y => ?_⟩
    · rw [zipL_len, ← q2.length, ← q4.length]
      refine ⟨fun i H hi q => ?_, fun H q => ⟨vs, us, q.1, q.2, by omega⟩, fun i H x H' hi q y => ?_⟩
      · have h1 : i < vs.length := by omega
        have h2 : i < us.length := by omega
        exact ⟨vs, us, vs[i], us[i], q.1, q.2, List.getElem?_eq_getElem h1, List.getElem?_eq_getElem h2⟩
      · obtain ⟨T, z, z', h1, h2, h3, h4, h5⟩ := y
        exact ⟨T, z, z', h1, h2, h3, h4 vs q.1, h5 us q.2⟩
    · obtain ⟨T, x, z, rfl, hT, rfl, h4, h5⟩ := y
      obtain ⟨d, h6, h7⟩ := q2.get h4
      obtain ⟨d', h8, h9⟩ := q4.get h5
      obtain ⟨g', w'⟩ := w.alloc (o := .tup [x, z]) hT
      exact ⟨_, _, g', w', zipL_get h6 h8, .tup upd_same (.cons ((h7.mono e).mono g'.ex) (.cons ((h9.mono e).mono g'.ex) .nil))⟩
end
end G
set_option maxHeartbeats 1000000
namespace G
open PySem PySem.Spec PyProof.Rows L2
section
variable {r : Addr} {X : Cx} {K : PySem.W.Frag} {mg : Str → Option Value} {O : List Nat} {E : XK} {tt tt1 : TT}
def compLL (f : D → List D → RE (List D)) : List D → List D → RE (List D)
  | [], tp => .ok [] tp
  | d :: ds, tp => match f d tp with
    | .ok o tp1 => (match compLL f ds tp1 with
      | .ok xs tp2 => .ok (o ++ xs) tp2
      | _ => .stuck)
    | _ => .stuck
def compTurn2 (tgt : D → Option (List D)) (is : List Nat) (c : SE Bool) (mi1 : SE (List D)) (vs1 : List Nat) (tgt1 : D → Option (List D)) (is1 : List Nat) (c1 : SE Bool) (m : SE D) (env : DEnv) (d : D) (tp : List D) : RE (List D) := match tgt d with
  | some ds => (c (setAll env is ds) tp).bind fun b tp1 => if b = true then (mi1 (setAll env is ds) tp1).bind fun items1 tp2 => compL (compTurn1 tgt1 is1 c1 m (wipeE (setAll env is ds) vs1)) items1 tp2 else .ok [] tp1
  | none => .stuck
def comp2E (mi : SE (List D)) (vs : List Nat) (tgt : D → Option (List D)) (is : List Nat) (c : SE Bool) (mi1 : SE (List D)) (vs1 : List Nat) (tgt1 : D → Option (List D)) (is1 : List Nat) (c1 : SE Bool) (m : SE D) : SE D := fun env tp => (mi env tp).bind fun items tp1 =>
  match compLL (compTurn2 tgt is c mi1 vs1 tgt1 is1 c1 m (wipeE env vs)) items tp1 with
    | .ok xs tp2 => if xs.length ≤ sizeLine then .ok (.lst xs) tp2 else .stuck
    | _ => .stuck
theorem compLL_cons {f : D → List D → RE (List D)} {d : D} {ds : List D} {tp tpE : List D} {xs : List D} (h : compLL f (d :: ds) tp = .ok xs tpE) : ∃ o tp1 xs', f d tp = .ok o tp1 ∧ compLL f ds tp1 = .ok xs' tpE ∧ xs = o ++ xs' := by
  unfold compLL at h
  cases q : f d tp with
  | ok o tp1 =>
    rw [q] at h
    simp only at h
    cases q2 : compLL f ds tp1 with
    | ok ys tp2 =>
      rw [q2] at h
      simp only [RE.ok.injEq] at h
      exact ⟨o, tp1, ys, rfl, by rw [q2, h.2], h.1.symm⟩
    | exn c fs t => rw [q2] at h; cases h
    | stuck => rw [q2] at h; cases h
  | exn c fs t => rw [q] at h; cases h
  | stuck => rw [q] at h; cases h
theorem setAll_get {α : Type} : ∀ (is : List Nat) (s : List (Option α)) (ws : List α) {j : Nat}, j ∉ is → (setAll s is ws)[j]? = s[j]?
  | [], s, ws, j, _ => by unfold setAll; cases ws <;> rfl
  | i :: is, s, [], j, _ => rfl
  | i :: is, s, w :: ws, j, h => by
    show (setAll (s.set i (some w)) is ws)[j]? = _
    have ne : i ≠ j := fun q => h (by rw [← q]; exact List.mem_cons_self)
    rw [setAll_get is _ ws fun q => h (List.mem_cons_of_mem _ q), List.getElem?_set_ne ne]
theorem comp2_sound {wi wi1 : TI} {g g1 : TG} {te : TE} {is vs is1 vs1 : List Nat} {tgt tgt1 : D → Option (List D)} {mi mi1 : SE (List D)} {c c1 : SE Bool} {m : SE D}
    (hi : ∀ Hs0 H0 Hs H σ env tp Q, Rel K mg r O Hs0 H0 Hs H σ env tp → Post K mg r (fun Hs _ J items => WalksD K mg r J Hs items) E Hs H (mi env tp) Q → wi σ H Q)
    (hg : ∀ v d ds Hs H tp σ (Q : L2.St → Hp → Prop), Wd K mg r Hs H tp → RepD K mg r Hs v d → tgt d = some ds → (∀ vs, RepDs K mg r Hs vs ds → vs.length = is.length → Q (setAll σ is vs) H) → g v σ H Q)
    (ht : ∀ Hs0 H0 Hs H σ env tp Q, Rel K mg r O Hs0 H0 Hs H σ env tp → PostB K mg r E0 Hs H (c env tp) Q → tt σ H Q)
    (hi1 : ∀ Hs0 H0 Hs H σ env tp Q, Rel K mg r O Hs0 H0 Hs H σ env tp → Post K mg r (fun Hs _ J items => WalksD K mg r J Hs items) E0 Hs H (mi1 env tp) Q → wi1 σ H Q)
    (hg1 : ∀ v d ds Hs H tp σ (Q : L2.St → Hp → Prop), Wd K mg r Hs H tp → RepD K mg r Hs v d → tgt1 d = some ds → (∀ vs, RepDs K mg r Hs vs ds → vs.length = is1.length → Q (setAll σ is1 vs) H) → g1 v σ H Q)
    (ht1 : ∀ Hs0 H0 Hs H σ env tp Q, Rel K mg r O Hs0 H0 Hs H σ env tp → PostB K mg r E0 Hs H (c1 env tp) Q → tt1 σ H Q)
    (he : ∀ Hs0 H0 Hs H σ env tp Q, Rel K mg r O Hs0 H0 Hs H σ env tp → PostE K mg r E0 Hs H (m env tp) Q → te σ H Q)
    (hvs : ∀ i ∈ vs, i ∉ O) (his : ∀ i ∈ is, i ∈ vs) (hv1 : ∀ i ∈ vs1, i ∈ vs) (his1 : ∀ i ∈ is1, i ∈ vs1) :
    ∀ Hs0 H0 Hs H σ env tp Q, Rel K mg r O Hs0 H0 Hs H σ env tp → Post K mg r (Fresh K mg r H) E Hs H (comp2E mi vs tgt is c mi1 vs1 tgt1 is1 c1 m env tp) Q → tLc2 wi g tt wi1 g1 tt1 te vs vs1 σ H Q := by
  intro Hs0 H0 Hs H σ env tp Q R P
  refine hi _ _ _ _ _ _ _ _ R ?_
  unfold comp2E at P
  cases q : mi env tp with
  | stuck => rw [q] at P; exact P.elim
  | exn cc fs tp1 => rw [q] at P; exact P
  | ok items tp1 =>
    rw [q] at P
    intro J Hs1 H1 ga w1 wd Dl hD
    simp only [RE.bind_ok] at P
    cases q2 : compLL (compTurn2 tgt is c mi1 vs1 tgt1 is1 c1 m (wipeE env vs)) items tp1 with
    | stuck => rw [q2] at P; exact P.elim
    | exn cc fs tp2 => rw [q2] at P; exact P.elim
    | ok all tpE =>
      rw [q2] at P
      simp only at P
      by_cases hz : all.length ≤ sizeLine
      case neg => rw [if_neg hz] at P; exact P.elim
      rw [if_pos hz] at P
      have P : ∀ v Hs' H', Grow r Hs H Hs' H' → Wd K mg r Hs' H' tpE → Fresh K mg r H Hs' H' v (.lst all) → Q v H' := P
      obtain ⟨Gd, Y, wk, hG, hY⟩ := wd
      have R1 := R.grow ga w1
      obtain ⟨fD, neD⟩ := w1.fresh hD
      have h0D : H Dl = none := ga.free Dl hD
      have Rw := R1.wiped vs hvs
      obtain ⟨gl, wl⟩ := w1.lay (o := .lst []) hD
      obtain ⟨n1, n2⟩ := R.new_ne h0D neD
      have n3 : ∀ j ∈ O, (wipeE σ vs)[j]? ≠ some (some (.ref Dl)) := fun j hj z => n2 j hj (by rw [← z, wipe_get fun q => hvs j q hj])
      have hisO : ∀ i ∈ is, i ∉ O := fun i hi => hvs i (his i hi)
      have hv1O : ∀ i ∈ vs1, i ∉ O := fun i hi => hvs i (hv1 i hi)
      have his1O : ∀ i ∈ is1, i ∉ O := fun i hi => hv1O i (his1 i hi)
      let Pv : Nat → Hp → Prop := fun i H' => ∃ Hs2 vsL dsL tp xs, Rel K mg r O Hs0 H0 Hs2 H' (wipeE σ vs) (wipeE env vs) tp ∧ Same Hs1 Hs2 ∧ Grow r Hs H Hs2 H' ∧ Hs2 Dl = none ∧ H' Dl = some (.lst vsL) ∧ RepDs K mg r Hs2 vsL dsL ∧
        compLL (compTurn2 tgt is c mi1 vs1 tgt1 is1 c1 m (wipeE env vs)) (items.drop i) tp = .ok xs tpE ∧ dsL ++ xs = all
      have p0 : Pv 0 (upd H1 Dl (.lst [])) := ⟨Hs1, [], [], tp1, all, Rw.grow gl wl, Same.refl _, ga.trans gl, fD, upd_same, .nil, q2, rfl⟩
      refine ⟨fun i n H' => n = items.length - i ∧ i ≤ items.length ∧ Pv i H', ⟨items.length, by simp, Nat.zero_le _, p0⟩, ?_⟩
      rintro i n H2 ⟨rfl, hil, Hs2, vsL, dsL, tp2, xs, R2, e2, g2, f2, hD2, rs2, hc2, ha2⟩
      have gd := hG Hs2 H2 e2 R2.wd.sub
      by_cases hi2 : i < items.length
      case neg =>
        have e : i = items.length := by omega
        subst e
        refine .inl ⟨wk.stops _ gd, ?_⟩
        rw [List.drop_length] at hc2
        unfold compLL at hc2
        simp only [RE.ok.injEq] at hc2
        obtain ⟨hx, htp⟩ := hc2
        subst hx htp
        rw [List.append_nil] at ha2
        subst ha2
        exact P _ Hs2 H2 g2 R2.wd ⟨Dl, rfl, h0D, f2, neD, vsL, hD2, rs2⟩
      refine .inr ⟨wk.goes i H2 hi2 gd, Pv (i + 1), fun H' p' => ⟨items.length - (i + 1), by omega, rfl, hi2, p'⟩, fun x H3 yy => ?_⟩
      obtain ⟨Hs3, d, g3, w3, hd, rd⟩ := hY i Hs2 H2 tp2 x H3 hi2 e2 R2.wd (wk.yields i H2 x H3 hi2 gd yy)
      rw [List.drop_eq_getElem_cons hi2] at hc2
      have hd' : items[i] = d := by rw [List.getElem?_eq_getElem hi2] at hd; exact Option.some.inj hd
      rw [hd'] at hc2
      obtain ⟨o, tpI, xs', hf, hrest, hxs⟩ := compLL_cons hc2
      unfold compTurn2 at hf
      cases qt : tgt d with
      | none => rw [qt] at hf; cases hf
      | some es =>
        rw [qt] at hf
        simp only at hf
        rw [wipe_eq]
        refine hg x d es Hs3 H3 tp2 _ _ w3 rd qt fun ws rs hl => ⟨by rw [wipe_eq, wipe_setAll is _ _ his, wipe_wipe vs fun _ h => h], ?_⟩
        have R3 := rel_setAll is _ _ _ _ (R2.grow g3 w3) hisO rs hl
        have f3 := g3.no f2 hD2 neD
        have hD3 := g3.keep Dl _ hD2 neD f2
        refine ht _ _ _ _ _ _ _ _ R3 ?_
        cases qb : c (setAll (wipeE env vs) is es) tp2 with
        | stuck => rw [qb] at hf; cases hf
        | exn cc fs tp4 => rw [qb] at hf; cases hf
        | ok b tpb =>
          rw [qb] at hf
          simp only [RE.bind_ok] at hf
          intro v Hs4 H4 g4 w4 ev
          subst ev
          have f4 := g4.no f3 hD3 neD
          have hD4 := g4.keep Dl _ hD3 neD f3
          cases v with
          | false =>
            rw [if_neg Bool.false_ne_true] at hf
            simp only [RE.ok.injEq] at hf
            obtain ⟨ho, htp⟩ := hf
            subst ho htp
            refine iteF ⟨Hs4, vsL, dsL, tpb, xs', R2.grow (g3.trans g4) w4, e2.trans (g3.ex.trans g4.ex), g2.trans (g3.trans g4), f4, hD4, rs2.mono (g3.ex.trans g4.ex), hrest, ?_⟩
            rw [← ha2, hxs]; rfl
          | true =>
            rw [if_pos rfl] at hf
            refine iteT (hi1 _ _ _ _ _ _ _ _ (R3.grow g4 w4) ?_)
            cases qi : mi1 (setAll (wipeE env vs) is es) tpb with
            | stuck => rw [qi] at hf; cases hf
            | exn cc fs tp5 => rw [qi] at hf; cases hf
            | ok items1 tpi =>
              rw [qi] at hf
              simp only [RE.bind_ok] at hf
              intro J1 Hs5 H5 g5 w5 wd1
              obtain ⟨Gd1, Y1, wk1, hG1, hY1⟩ := wd1
              have f5 := g5.no f4 hD4 neD
              have hD5 := g5.keep Dl _ hD4 neD f4
              have e5 := g3.ex.trans (g4.ex.trans g5.ex)
              have R5 := R3.grow (g4.trans g5) w5
              have Rb5 := R5.wiped vs1 hv1O
              have n3b : ∀ j ∈ O, (wipeE (setAll (wipeE σ vs) is ws) vs1)[j]? ≠ some (some (.ref Dl)) := fun j hj z => n3 j hj (by
                rw [← z, wipe_get fun q => hv1O j q hj, setAll_get is _ ws fun q => hisO j q hj])
              let Pv1 : Nat → Hp → Prop := fun j H' => ∃ Hs6 vsL' dsL' tp' xs'', Rel K mg r O Hs0 H0 Hs6 H' (wipeE σ vs) (wipeE env vs) tp' ∧ Rel K mg r O Hs0 H0 Hs6 H' (wipeE (setAll (wipeE σ vs) is ws) vs1) (wipeE (setAll (wipeE env vs) is es) vs1) tp' ∧ Same Hs5 Hs6 ∧ Same Hs1 Hs6 ∧ Grow r Hs H Hs6 H' ∧ Hs6 Dl = none ∧ H' Dl = some (.lst vsL') ∧ RepDs K mg r Hs6 vsL' dsL' ∧
                compL (compTurn1 tgt1 is1 c1 m (wipeE (setAll (wipeE env vs) is es) vs1)) (items1.drop j) tp' = .ok xs'' tpI ∧ dsL' ++ xs'' = dsL ++ o
              have p1 : Pv1 0 H5 := ⟨Hs5, vsL, dsL, tpi, o, R2.grow (g3.trans (g4.trans g5)) w5, Rb5, Same.refl _, e2.trans e5, g2.trans (g3.trans (g4.trans g5)), f5, hD5, rs2.mono e5, hf, rfl⟩
              refine ⟨fun j k H' => k = items1.length - j ∧ j ≤ items1.length ∧ Pv1 j H', ⟨items1.length, by simp, Nat.zero_le _, p1⟩, ?_⟩
              rintro j k H6 ⟨rfl, hjl, Hs6, vsL6, dsL6, tp6, xs6, Ra6, Rb6, es6, e6, g6, f6, hD6, rs6, hc6, ha6⟩
              have gd1 := hG1 Hs6 H6 es6 Ra6.wd.sub
              by_cases hj2 : j < items1.length
              case neg =>
                have e : j = items1.length := by omega
                subst e
                refine .inl ⟨wk1.stops _ gd1, ?_⟩
                rw [List.drop_length] at hc6
                unfold compL at hc6
                simp only [RE.ok.injEq] at hc6
                obtain ⟨hx, htp⟩ := hc6
                subst hx htp
                rw [List.append_nil] at ha6
                refine ⟨Hs6, vsL6, dsL6, tp6, xs', Ra6, e6, g6, f6, hD6, rs6, hrest, ?_⟩
                rw [ha6, ← ha2, hxs, List.append_assoc]
              refine .inr ⟨wk1.goes j H6 hj2 gd1, Pv1 (j + 1), fun H' p' => ⟨items1.length - (j + 1), by omega, rfl, hj2, p'⟩, fun x1 H7 yy1 => ?_⟩
              obtain ⟨Hs7, d1, g7, w7, hd1, rd1⟩ := hY1 j Hs6 H6 tp6 x1 H7 hj2 es6 Ra6.wd (wk1.yields j H6 x1 H7 hj2 gd1 yy1)
              rw [List.drop_eq_getElem_cons hj2] at hc6
              have hd1' : items1[j] = d1 := by rw [List.getElem?_eq_getElem hj2] at hd1; exact Option.some.inj hd1
              rw [hd1'] at hc6
              obtain ⟨o1, tp8, xs8, hf1, hrest1, hxs1⟩ := compL_cons hc6
              unfold compTurn1 at hf1
              cases qt1 : tgt1 d1 with
              | none => rw [qt1] at hf1; cases hf1
              | some es1 =>
                rw [qt1] at hf1
                simp only at hf1
                rw [wipe_eq]
                refine hg1 x1 d1 es1 Hs7 H7 tp6 _ _ w7 rd1 qt1 fun ws1 rs1 hl1 => ⟨by rw [wipe_eq, wipe_setAll is1 _ _ his1, wipe_wipe vs1 fun _ h => h], ?_⟩
                have R7 := rel_setAll is1 _ _ _ _ (Rb6.grow g7 w7) his1O rs1 hl1
                have f7 := g7.no f6 hD6 neD
                have hD7 := g7.keep Dl _ hD6 neD f6
                refine ht1 _ _ _ _ _ _ _ _ R7 ?_
                cases qb1 : c1 (setAll (wipeE (setAll (wipeE env vs) is es) vs1) is1 es1) tp6 with
                | stuck => rw [qb1] at hf1; cases hf1
                | exn cc fs tp9 => rw [qb1] at hf1; cases hf1
                | ok b1 tpb1 =>
                  rw [qb1] at hf1
                  simp only [RE.bind_ok] at hf1
                  intro v Hs8 H8 g8 w8 ev
                  subst ev
                  have f8 := g8.no f7 hD7 neD
                  have hD8 := g8.keep Dl _ hD7 neD f7
                  cases v with
                  | false =>
                    rw [if_neg Bool.false_ne_true] at hf1
                    simp only [RE.ok.injEq] at hf1
                    obtain ⟨ho, htp⟩ := hf1
                    subst ho htp
                    refine iteF ⟨Hs8, vsL6, dsL6, tpb1, xs8, Ra6.grow (g7.trans g8) w8, Rb6.grow (g7.trans g8) w8, es6.trans (g7.ex.trans g8.ex), e6.trans (g7.ex.trans g8.ex), g6.trans (g7.trans g8), f8, hD8, rs6.mono (g7.ex.trans g8.ex), hrest1, ?_⟩
                    rw [← ha6, hxs1]; rfl
                  | true =>
                    rw [if_pos rfl] at hf1
                    refine iteT (he _ _ _ _ _ _ _ _ (R7.grow g8 w8) ?_)
                    cases qm : m (setAll (wipeE (setAll (wipeE env vs) is es) vs1) is1 es1) tpb1 with
                    | stuck => rw [qm] at hf1; cases hf1
                    | exn cc fs tp9 => rw [qm] at hf1; cases hf1
                    | ok z tpz =>
                      rw [qm] at hf1
                      simp only [RE.bind_ok, RE.ok.injEq] at hf1
                      obtain ⟨ho, htp⟩ := hf1
                      subst ho htp
                      intro y9 Hs9 H9 g9 w9 ry
                      have f9 := g9.no f8 hD8 neD
                      have hD9 := g9.keep Dl _ hD8 neD f8
                      have e9 := g7.ex.trans (g8.ex.trans g9.ex)
                      have hlen : dsL6.length < all.length := by
                        rw [← ha2, hxs, ← List.append_assoc, ← ha6, hxs1]
                        simp
                      refine ⟨vsL6, hD9, by rw [rs6.length]; omega, Hs9, vsL6 ++ [y9], dsL6 ++ [z], tpz, xs8, ?_, ?_, es6.trans e9, e6.trans e9, ?_, f9, upd_same, (rs6.mono e9).append (.cons ry .nil), hrest1, ?_⟩
                      · exact (Ra6.grow (g7.trans (g8.trans g9)) w9).other f9 n1 neD n3 (fun xs z => by rw [hD9] at z; first | exact st_no rfl xs (Option.some.inj z) | cases z)
                      · exact (Rb6.grow (g7.trans (g8.trans g9)) w9).other f9 n1 neD n3b (fun xs z => by rw [hD9] at z; first | exact st_no rfl xs (Option.some.inj z) | cases z)
                      · exact (g6.trans (g7.trans (g8.trans g9))).other h0D
                      · rw [← ha6, hxs1, List.append_assoc]; rfl
/-- a list comprehension of two clauses -/
theorem gf_lc2 {elt tg iter tg1 iter1 : Expr} {ifs ifs1 : List Expr} {scope : Scope} {own : List (Str × Nat)} {pos : Pos} {wi wi1 : TI} {g g1 : TG} {te : TE} {is is1 vs1 : List Nat} {tgt tgt1 : D → Option (List D)} {mi mi1 : SE (List D)} {c c1 : SE Bool} {m : SE D} (hc : X.calm = true) (hN : X.N.Nodup) (hi : GI K mg r X O E tg iter wi mi) (ok : BlkOk X.N X.env.scope scope own)
    (hg : ∀ (s : Shared) (H : Hp) (C : Addr) (cl : List (Str × Addr)) (fp : List Addr), GG K mg r (X.blk s H scope (compEnvC scope cl C X.env) fp) tg g is tgt)
    (ht : ∀ (s : Shared) (H : Hp) (C : Addr) (cl : List (Str × Addr)) (fp : List Addr), GTs K mg r (X.blk s H scope (compEnvC scope cl C X.env) fp) O E0 ifs tt c)
    (hi1 : ∀ (s : Shared) (H : Hp) (C : Addr) (cl : List (Str × Addr)) (fp : List Addr), GI K mg r (X.blk s H scope (compEnvC scope cl C X.env) fp) O E0 tg1 iter1 wi1 mi1)
    (hg1 : ∀ (s : Shared) (H : Hp) (C : Addr) (cl : List (Str × Addr)) (fp : List Addr), GG K mg r (X.blk s H scope (compEnvC scope cl C X.env) fp) tg1 g1 is1 tgt1)
    (ht1 : ∀ (s : Shared) (H : Hp) (C : Addr) (cl : List (Str × Addr)) (fp : List Addr), GTs K mg r (X.blk s H scope (compEnvC scope cl C X.env) fp) O E0 ifs1 tt1 c1)
    (he : ∀ (s : Shared) (H : Hp) (C : Addr) (cl : List (Str × Addr)) (fp : List Addr), GE K mg r (X.blk s H scope (compEnvC scope cl C X.env) fp) O E0 elt te m)
    (hvs : ∀ i ∈ own.map (·.2), i ∉ O) (his : ∀ i ∈ is, i ∈ own.map (·.2)) (hv1 : ∀ i ∈ vs1, i ∈ own.map (·.2)) (his1 : ∀ i ∈ is1, i ∈ vs1) (hs : ∀ x, foldedSetIterable iter X.env x = pure x := by intro _; rfl) (hs1 : ∀ env x, foldedSetIterable iter1 env x = pure x := by intro _ _; rfl) :
    GF K mg r X O E (.ListComp elt [⟨tg, iter, ifs, 0⟩, ⟨tg1, iter1, ifs1, 0⟩] scope pos) (tLc2 wi g tt wi1 g1 tt1 te (own.map (·.2)) vs1) (comp2E mi (own.map (·.2)) tgt is c mi1 vs1 tgt1 is1 c1 m) :=
  ⟨pe_lc2 hc hN hi.pe ok hv1 (fun s H C cl fp => (hg s H C cl fp).pe) (fun s H C cl fp => (ht s H C cl fp).pe) (fun s H C cl fp => (hi1 s H C cl fp).pe) (fun s H C cl fp => (hg1 s H C cl fp).pe) (fun s H C cl fp => (ht1 s H C cl fp).pe) (fun s H C cl fp => (he s H C cl fp).pe) hs hs1,
    comp2_sound hi.snd (hg X.s_0 X.H_0 0 [] []).snd (ht X.s_0 X.H_0 0 [] []).snd (hi1 X.s_0 X.H_0 0 [] []).snd (hg1 X.s_0 X.H_0 0 [] []).snd (ht1 X.s_0 X.H_0 0 [] []).snd (he X.s_0 X.H_0 0 [] []).snd hvs his hv1 his1⟩
def augS (i : Nat) (f : D → D → Option D) (m : SE D) : SS := fun env tp => match env[i]? with
  | some (some d) => (m env tp).bindS fun e tp1 => match d, e with
    | .int _, .int _ => (match f d e with
      | some z => .nx (env.set i (some z)) tp1
      | none => .stuck)
    | _, _ => .stuck
  | _ => .stuck
theorem aug_sound {m : SE D} {e : Expr} {t : TE} {Ol : List Nat} {f : D → D → Option D} {F : Int → Int → Int} {op : Operator} {pos pos' : Pos} (i : Nat) {x : Str} (hip : PIp X op (ipI F)) (hf : ∀ a b, f (.int a) (.int b) = some (.int (F a b))) (hO : i ∉ O) (hN : X.N.Nodup) (h : GE K mg r X O E e t m) (hi : X.N[i]? = some x) (hx : Loc X.env.scope x)
    (hfn : X.fn x = true ∨ X.env.scope.names.lookup x = some .local) : GS K mg r X E O O Ol (.AugAssign (.Name x pos') op e pos) (tAug i t (ipI F)) (augS i f m) := by
  refine ⟨ps_aug hN hi hx h.pe hip hfn, fun Hs0 H0 Hs H σ env tp Dn R P => ?_⟩
  unfold augS at P
  cases q : env[i]? with
  | none => rw [q] at P; exact P.elim
  | some od =>
    cases od with
    | none => rw [q] at P; exact P.elim
    | some d =>
      rw [q] at P
      simp only at P
      obtain ⟨v, hv, rv⟩ := R.vars i d q hO
      refine ⟨v, hv, h.snd _ _ _ _ _ _ _ _ R (PostS.bind R P fun u Hs1 H1 d1 tp1 _ g w R1 ru P1 => ?_)⟩
      cases d with
      | int a =>
        cases d1 with
        | int b =>
          simp only [hf] at P1
          cases rv
          cases ru
          exact ⟨a, b, rfl, rfl, P1 _ _ _ (Same.refl _) (by
            have := R1.set i (.int (F a b))
            have eO : O.filter (· != i) = O := List.filter_eq_self.mpr fun j hj => by
              have : j ≠ i := fun z => hO (z ▸ hj)
              simpa using this
            rw [eO] at this
            exact this)⟩
        | _ => exact P1.elim
      | _ => exact P1.elim
theorem gs_augAdd {m : SE D} {e : Expr} {t : TE} {Ol : List Nat} {pos pos' : Pos} (i : Nat) {x : Str} (hN : X.N.Nodup) (h : GE K mg r X O E e t m) (hO : i ∉ O := by decide) (hi : X.N[i]? = some x := by rfl) (hx : Loc X.env.scope x := by first | exact Or.inl rfl | exact Or.inr rfl)
    (hfn : X.fn x = true ∨ X.env.scope.names.lookup x = some .local := by first | exact .inl rfl | exact .inr rfl) : GS K mg r X E O O Ol (.AugAssign (.Name x pos') .Add e pos) (tAug i t (ipI fun i j => i + j)) (augS i addD m) :=
  aug_sound i ip_add (fun _ _ => rfl) hO hN h hi hx hfn
end
end G
set_option maxHeartbeats 1000000
namespace SumT
open PySem PySem.Spec PyProof.Rows
section
variable {prog : Program} {w : World} {A : Around} {E : Value → Shared → Prop} {s : Shared} {l : Addr} {xs : Array (Int × Tok)}
theorem iter_intTuple {Q : Value → Shared → Prop} (hl : s.heap.IsTuple l (intItems xs))
    (h : ∀ s₂ : Shared, s₂ = { s with heap := s.heap.push { cls := .type "tuple_iterator", data := .fields #[.ref l, .int 0 0] } } →
      (s₂.heap.IsTupleIter s.heap.objs.size l 0 ∧ s₂.heap.IsTuple l (intItems xs)) → (∀ b ∈ [s.heap.objs.size, l], b < s₂.heap.objs.size) → l ≠ s.heap.objs.size → Q (.ref s.heap.objs.size) s₂) :
    wpAny (model prog w) A (pyIter (.ref l)) Q E s := by
  have hlt : l < s.heap.objs.size := by obtain ⟨_, e, _⟩ := hl; exact Heap.lt_size e
  refine wpAny_pyIter_tuple hl (h _ rfl ⟨⟨_, Heap.get?_push_size _ rfl, rfl, rfl⟩, hl.push _⟩ (fun b hb => ?_) (Nat.ne_of_lt hlt))
  show b < (s.heap.push _).objs.size
  rw [Heap.size_push]
  rcases List.mem_cons.mp hb with rfl | hb
  · exact Nat.lt_succ_self _
  · rcases List.mem_cons.mp hb with rfl | hb
    · exact Nat.lt_succ_of_lt hlt
    · cases hb
theorem old_keptT {h' : Heap} (hk : ∀ b o, b ∉ [s.heap.objs.size] → (s.heap.push { cls := .type "tuple_iterator", data := .fields #[.ref l, .int 0 0] }).get? b = some o → h'.get? b = some o) :
    ∀ b o, s.heap.get? b = some o → h'.get? b = some o := fun b o e => by
  refine hk b o (fun hm => ?_) (Heap.get?_push_of_some _ e)
  rcases List.mem_cons.mp hm with e1 | hm
  · exact absurd (e1 ▸ Heap.lt_size e) (Nat.lt_irrefl _)
  · cases hm
theorem sum_intTupG {Q : Value → Shared → Prop} (hh : A.handled = none) (hl : s.heap.IsTuple l (intItems xs))
    (h : ∀ h' tk t', (∀ b o, s.heap.get? b = some o → h'.get? b = some o) → Q (.int (preSum (numAt xs) xs.size) t') { s with heap := h', toks := tk }) :
    wpAny (model prog w) A (call (.builtin "sum") [.ref l]) Q E s := by
  refine call_sum_walkG (iter_intTuple hl fun s₂ e st hfp hlI => ?_)
  subst e
  refine ⟨_, _, _, _, _, _, numAt xs, rfl, Walks.tuple (A := A.in1) hh _ l hlI (intItems xs), st, hfp, (fun _ _ => intItems_at), fun h' tk t' hk => ?_⟩
  have := h h' tk t' (old_keptT hk)
  simpa [intItems] using this
theorem sumT_raw {its : List Value} {ns : List Int} {Q : Value → Shared → Prop} (hh : A.handled = none) (hl : s.heap.IsTuple l its.toArray) (hi : IntsAre its ns)
    (h : ∀ h' tk t', (∀ b o, s.heap.get? b = some o → h'.get? b = some o) → Q (.int ns.sum t') { s with heap := h', toks := tk }) : wpAny (model prog w) A (call (.builtin "sum") [.ref l]) Q E s := by
  obtain ⟨xs, e⟩ := hi.allInts.items
  have hn : numsOf (intItems xs).toList = ns := by rw [← e]; exact hi.numsOf
  rw [nums_intItems] at hn
  rw [e] at hl
  refine sum_intTupG hh hl fun h' tk t' hk => ?_
  have := h h' tk t' hk
  rw [preSum_eq, List.take_of_length_le (by simp), hn]; exact this
end
end SumT
namespace G
open PySem PySem.Spec PyProof.Rows L2
def rSumA (K : PySem.W.Frag) : List V → Hp → VK → Prop := fun vs H Q => ∃ (a : Addr) (ns : List Int), vs = [V.ref a] ∧ SqT K H a (ns.map V.int) ∧ Q (.int ns.sum) H
theorem cr_sumA {X : Cx} (hc : X.calm = true) : CallR X (.builtin "sum") (rSumA X.K) := by
  intro pins s σ H vs us Q I r h
  obtain ⟨a, ns, rfl, hs, q⟩ := h
  obtain ⟨its, rv, hl, _⟩ := I.tuple hs
  rw [Vals.ref1 r]
  exact SumT.sumT_raw (I.ok.hd hc) hl rv.ints fun h' tk t' hk => ⟨.int _, H, I.kept hk, ⟨_, rfl⟩, q⟩
def sum2D : List D → Option D
  | [.lst xs] => (unI xs).map fun bs => .int bs.sum
  | [.tup xs] => (unI xs).map fun bs => .int bs.sum
  | _ => none
def sumTD : List D → Option D
  | [.tup xs] => (unI xs).map fun bs => .int bs.sum
  | _ => none
abbrev rSum2 (K : PySem.W.Frag) : List V → Hp → VK → Prop := fun vs H Q => rSum K vs H Q ∨ rSumA K vs H Q
section
variable {K : PySem.W.Frag} {mg : Str → Option Value} {r : Addr} {X : Cx} {O : List Nat} {E : XK} {e : Expr} {pos : Pos} {ts : TA}
theorem cs_sumA : CallS K mg r (rSumA K) sumTD := by
  intro Hs H tp xs ds z Q w rx hz k
  unfold sumTD at hz
  split at hz
  · obtain ⟨bs, h1, h2⟩ := Option.map_eq_some_iff.mp hz
    subst h2
    obtain ⟨x, rfl, h⟩ := paired1 rx
    rw [unI_ok h1] at h
    obtain ⟨p, vs, rfl, _, a, b⟩ := repT_tup w h
    have := RepDs.ints_of b
    subst this
    exact ⟨p, bs, rfl, .inl a, k _ _ _ (Grow.refl _ _) w (.int _)⟩
  · cases hz
theorem ge_sum2 {p0 : Pos} {ms : SE (List D)} (hc : X.calm = true) (hm : X.mg "sum" = none) (ha : GAO K mg r X O E [e] ts ms) (hg : Gl X "sum" := by rfl) (he : starEach [e] X.env = (false, eval e X.env) :: starEach [] X.env := by rfl) (hpl : (backTo pos (starEach [] X.env)).any (·.1) = false := by rfl) (hK : X.K = K := by rfl) :
    GE K mg r X O E (.Call (.Name "sum" p0) [e] [] pos) (tCB (rSum2 K) ts) (callB sum2D ms) := by
  subst hK
  exact ge_callB (crr_or (cr_sum hc) (cr_sumA hc)) (CallS.or cs_sum cs_sumA fun d z h => by
    unfold sum2D at h
    split at h
    · exact .inl h
    · exact .inr h
    · cases h) hm ha hg (by decide +kernel) (by decide) (by decide) he hpl
end
end G
set_option maxHeartbeats 1000000
namespace Dc2
open PySem PySem.Spec PyProof.Rows L2
abbrev two (kx vx t0 i0 t1 i1 : Expr) (sc : Scope) (ps : Pos) : Expr := .DictComp kx vx [⟨t0, i0, [], 0⟩, ⟨t1, i1, [], 0⟩] sc ps
theorem outTurn (kx vx t0 i0 t1 i1 : Expr) (sc : Scope) (ps : Pos) (it acc : Value) (en : Env) : compTurn (two kx vx t0 i0 t1 i1 sc ps) 0 it acc en = (do
    standAt i0.pos
    let nx ← pyNext it
    match nx with
    | none => pure (.done .next)
    | some u =>
      letOwnedTupleGo t0 it u
      assign t0 en u
      let a ← eval i1 en
      standAt i1.pos
      let b ← foldedSetIterable i1 en a
      let j ← holding [b] (pyIter b)
      let _ ← runOwn (.compStart (two kx vx t0 i0 t1 i1 sc ps) 1 j acc en) en
      again (.compLoop (two kx vx t0 i0 t1 i1 sc ps) 0 it acc en)) := by rfl
theorem inTurn (kx vx t0 i0 t1 i1 : Expr) (sc : Scope) (ps : Pos) (it : Value) (D : Addr) (en : Env) : compTurn (two kx vx t0 i0 t1 i1 sc ps) 1 it (.ref D) en = (do
    standAt i1.pos
    let nx ← pyNext it
    match nx with
    | none => pure (.done .next)
    | some u =>
      letOwnedTupleGo t1 it u
      assign t1 en u
      (do
        let a ← eval kx en
        let b ← holding [a] (eval vx en)
        standAt { kx.pos with endLine := vx.pos.endLine, endCol := vx.pos.endCol }
        holding [a, b] (dictSet D a b))
      again (.compLoop (two kx vx t0 i0 t1 i1 sc ps) 1 it (.ref D) en)) := by rfl
section
variable {P : Program} {w : World} {A : Around} {R : Result → Shared → Prop} {s : Shared} {kx vx t0 i0 t1 i1 : Expr} {sc : Scope} {ps : Pos} {it acc : Value} {en : Env}
/-- what is wanted if something is raised within -/
abbrev bad (P : Program) (w : World) (A : Around) (en : Env) (R : Result → Shared → Prop) : Value → Shared → Prop := notedBy (model P w) A en fun x z => R (.error x) z
theorem outLoop (hf : ∀ x, foldedSetIterable i1 en x = pure x) (J : Nat → Shared → Prop)
    (step : ∀ n z, J n z → wpAny (model P w) A (pyNext it) (fun nx z1 => match nx with
      | none => R (.ok .next) z1
      | some u => wpAny (model P w) A (letOwnedTupleGo t0 it u) (fun _ z2 => wpAny (model P w) A (assign t0 en u) (fun _ z3 => wpAny (model P w) A (eval i1 en) (fun a z4 => wpAny (model P w) A (pyIter a) (fun j z5 =>
          codeAny (model P w) A (.compStart (two kx vx t0 i0 t1 i1 sc ps) 1 j acc en) (fun e z6 => match e with
            | .ok _ => ∃ k, k < n ∧ J k z6
            | .error _ => False) z5) (bad P w A en R) z4) (bad P w A en R) z3) (bad P w A en R) z2) (bad P w A en R) z1) (bad P w A en R) z)
    (n : Nat) (h : J n s) : codeAny (model P w) A (.compLoop (two kx vx t0 i0 t1 i1 sc ps) 0 it acc en) R s := by
  refine codeAny_loop rfl J (fun n z hJ => ?_) n h
  show wpAny _ A ((compTurn (two kx vx t0 i0 t1 i1 sc ps) 0 it acc en).onRaise fun x => do noteFrame x en; theTreesLotGoes x) _ _ z
  refine wpAny_noted ?_
  rw [outTurn]
  refine wpAny_bind (wpAny_standAt (wpAny_bind (wpAny_mono (step n z hJ) (fun nx z1 q => ?_) fun _ _ y => y)))
  cases nx with
  | none => exact wpAny_pure q
  | some u =>
    refine wpAny_bind (wpAny_mono q (fun _ z2 q2 => ?_) fun _ _ y => y)
    refine wpAny_bind (wpAny_mono q2 (fun _ z3 q3 => ?_) fun _ _ y => y)
    refine wpAny_bind (wpAny_mono q3 (fun a z4 q4 => ?_) fun _ _ y => y)
    refine wpAny_bind (wpAny_standAt (wpAny_bind (wpAny_of_eq (hf a) (wpAny_bind (wpAny_holding (wpAny_mono q4 (fun j z5 q5 => ?_) fun _ _ y => y))))))
    refine wpAny_bind (wpAny_runOwn ?_)
    rw [Around.mark_none]
    refine codeAny_mono q5 fun e z6 q6 => ?_
    cases e with
    | ok _ => first | exact wpAny_pure ⟨rfl, q6⟩ | exact wpAny_bind (wpAny_pure (wpAny_pure ⟨rfl, q6⟩))
    | error _ => exact q6.elim
theorem inLoop {D : Addr} (J : Nat → Shared → Prop)
    (step : ∀ n z, J n z → wpAny (model P w) A (pyNext it) (fun nx z1 => match nx with
      | none => R (.ok .next) z1
      | some u => wpAny (model P w) A (letOwnedTupleGo t1 it u) (fun _ z2 => wpAny (model P w) A (assign t1 en u) (fun _ z3 => wpAny (model P w) A (eval kx en) (fun a z4 => wpAny (model P w) A (eval vx en) (fun b z5 =>
          wpAny (model P w) A (dictSet D a b) (fun _ z6 => ∃ k, k < n ∧ J k z6) (bad P w A en R) z5) (bad P w A en R) z4) (bad P w A en R) z3) (bad P w A en R) z2) (bad P w A en R) z1) (bad P w A en R) z)
    (n : Nat) (h : J n s) : codeAny (model P w) A (.compLoop (two kx vx t0 i0 t1 i1 sc ps) 1 it (.ref D) en) R s := by
  refine codeAny_loop rfl J (fun n z hJ => ?_) n h
  show wpAny _ A ((compTurn (two kx vx t0 i0 t1 i1 sc ps) 1 it (.ref D) en).onRaise fun x => do noteFrame x en; theTreesLotGoes x) _ _ z
  refine wpAny_noted ?_
  rw [inTurn]
  refine wpAny_bind (wpAny_standAt (wpAny_bind (wpAny_mono (step n z hJ) (fun nx z1 q => ?_) fun _ _ y => y)))
  cases nx with
  | none => exact wpAny_pure q
  | some u =>
    refine wpAny_bind (wpAny_mono q (fun _ z2 q2 => ?_) fun _ _ y => y)
    refine wpAny_bind (wpAny_mono q2 (fun _ z3 q3 => ?_) fun _ _ y => y)
    refine wpAny_bind (wpAny_bind (wpAny_mono q3 (fun a z4 q4 => ?_) fun _ _ y => y))
    refine wpAny_bind (wpAny_holding (wpAny_mono q4 (fun b z5 q5 => ?_) fun _ _ y => y))
    exact wpAny_bind (wpAny_standAt (wpAny_holding (wpAny_mono q5 (fun _ z6 q6 => wpAny_pure ⟨rfl, q6⟩) fun _ _ y => y)))
theorem inStart (h0 : codeAny (model P w) A (.compLoop (two kx vx t0 i0 t1 i1 sc ps) 1 it acc en) R s)
    (h : wpAny (model P w) A (pyIter it) (fun j z => codeAny (model P w) A (.compLoop (two kx vx t0 i0 t1 i1 sc ps) 1 j acc en) R z) (bad P w A en R) s) :
    codeAny (model P w) A (.compStart (two kx vx t0 i0 t1 i1 sc ps) 1 it acc en) R s := by
  refine codeAny_of_tree ?_
  show wpAny _ _ ((compStart (two kx vx t0 i0 t1 i1 sc ps) 1 it acc en).onRaise fun x => do noteFrame x en; standAt theWindowsPlace) _ _ s
  refine wpAny_notedAt ?_
  unfold compStart
  show wpAny _ _ (ask >>= _) _ _ s
  refine wpAny_bind (wpAny_askSetting (wpAny_ite ?_))
  split
  · first | exact wpAny_bind (wpAny_pure (wpAny_pure ⟨rfl, h0⟩)) | exact wpAny_pure ⟨rfl, h0⟩
  · first
    | exact wpAny_bind (wpAny_rule (wpAny_bind (wpAny_standAt (wpAny_bind (wpAny_mono h (fun j z q => wpAny_pure ⟨rfl, q⟩) fun _ _ y => y)))))
    | (refine wpAny_bind (wpAny_rule ?_)
       show wpAny _ _ (standAt i1.pos >>= _) _ _ s
       exact wpAny_bind (wpAny_standAt (wpAny_bind (wpAny_mono h (fun j z q => wpAny_pure ⟨rfl, q⟩) fun _ _ y => y))))
end
end Dc2
set_option maxHeartbeats 1000000
namespace Dc2
open PySem PySem.Spec PyProof.Rows L2
def wants (wi : TI) (g : TG) (wj : TI) (k : TG) (tk tv : TE) (vs us : List Nat) : TE := fun σ H Q => wi σ H fun J H1 => ∀ D, H1 D = none → ∃ W : Nat → Nat → Hp → Prop, (∃ m, W 0 m (upd H1 D (.dK []))) ∧ ∀ i m H2, W i m H2 →
  (J.stop i H2 ∧ Q (.ref D) H2) ∨ (J.go i H2 ∧ ∃ G : Hp → Prop, (∀ H3, G H3 → ∃ m', m' < m ∧ W (i + 1) m' H3) ∧ ∀ x H3, J.yld i H2 x H3 → g x (wipe σ vs) H3 fun σ2 H4 => wipe σ2 vs = wipe σ vs ∧
    wj σ2 H4 fun Jn H5 => ∃ U : Nat → Nat → Hp → Prop, (∃ m, U 0 m H5) ∧ ∀ j l H6, U j l H6 →
      (Jn.stop j H6 ∧ G H6) ∨ (Jn.go j H6 ∧ ∃ F : Hp → Prop, (∀ H7, F H7 → ∃ l', l' < l ∧ U (j + 1) l' H7) ∧ ∀ y H7, Jn.yld j H6 y H7 → k y (wipe σ2 us) H7 fun σ3 H8 => wipe σ3 us = wipe σ2 us ∧
        tk σ3 H8 fun a H9 => tv σ3 H9 fun b H10 => ∃ (kvs : List (Key × V)) (q : Key), a = kV q ∧ H10 D = some (.dK kvs) ∧ kvs.length < sizeLine ∧ F (upd H10 D (.dK (putK kvs q b)))))
/-- the blocks' contexts -/
abbrev BX (X : Cx) (sc : Scope) (s : Shared) (H : Hp) (C : Addr) (cl : List (Str × Addr)) (fp : List Addr) : Cx := X.blk s H sc (compEnvC sc cl C X.env) fp
section
variable {X : Cx}
theorem core {pins : List (Addr × Obj)} {s : Shared} {σ : L2.St} {H : Hp} {Q : VK} {kx vx t0 i0 t1 i1 : Expr} {sc : Scope} {own : List (Str × Nat)} {us : List Nat} {ps pp : Pos} {wi wj : TI} {g k : TG} {tk tv : TE} {use : Option (Value → Sem Unit)} {Qf : Value → Shared → Prop}
    (calm : X.calm = true) (nd : X.N.Nodup) (I : L2.Inv X pins σ H s) (p0 : PI X t0 i0 wi) (bo : BlkOk X.N X.env.scope sc own) (hus : ∀ i ∈ us, i ∈ own.map (·.2))
    (pg : ∀ s H C cl fp, PG (BX X sc s H C cl fp) t0 g) (pj : ∀ s H C cl fp, PI (BX X sc s H C cl fp) t1 i1 wj) (pk : ∀ s H C cl fp, PG (BX X sc s H C cl fp) t1 k)
    (pa : ∀ s H C cl fp, PE (BX X sc s H C cl fp) kx tk) (pb : ∀ s H C cl fp, PE (BX X sc s H C cl fp) vx tv)
    (f0 : ∀ x, foldedSetIterable i0 X.env x = pure x) (f1 : ∀ en x, foldedSetIterable i1 en x = pure x) (want : wants wi g wj k tk tv (own.map (·.2)) us σ H Q)
    (back : ∀ D C z m H', Inv X pins σ H' z → Q (.ref D) H' → z.heap.Ns C m → FpOk X pins H' C → compPost (model X.prog X.w) X.A X.xe use Qf (.ref D) C (.ok .next) z) :
    wpAny (model X.prog X.w) X.A (comprehension (two kx vx t0 i0 t1 i1 sc ps) sc X.env pp newDict false (eval i0 X.env) use) Qf X.xe s := by
  have caught : ∀ y ∈ sc.names, y.2 = .free → ∃ c, X.env.cells.lookup y.1 = some c := by
    intro y hy e
    cases bo.free y hy e with
    | inl z => exact I.ok.has _ (.inl z)
    | inr z => exact I.ok.has _ (.inr z)
  refine wpAny_comprehension_free (use := use) rfl f0 (closure_ok caught) bo.kind (fun y hy e => by rw [bo.uniq y hy, e]) ?_
  refine thn (p0.run pins s σ H _ I want) fun _ z1 w1 => thn w1 fun _ z2 ⟨it, fp, tn, J, H2, e2, I2, Tw, st2, fo2, w2⟩ => ?_
  subst e2
  refine wpAny_newObj_type (newEnv_comp ?_)
  generalize eD : z2.heap.objs.size = D
  have fr : H2 D = none := I2.hok.fresh (Nat.le_of_eq eD)
  obtain ⟨W, ⟨m0, W0⟩, turn⟩ := w2 D fr
  generalize e3 : ({ z2 with heap := z2.heap.push { cls := .type "dict", data := .dict #[] } } : Shared) = z3
  have hp3 : z3.heap = z2.heap.push { cls := .type "dict", data := .dict #[] } := by rw [← e3]
  have I3 : L2.Inv X pins σ (upd H2 D (.dK [])) z3 := by
    rw [← e3]
    refine I2.laid (t' := z2.toks) (fun _ _ e => Heap.get?_push_of_some _ e) (Nat.le_of_eq eD) ?_
    rw [← eD]
    exact dk_empty z2.heap I2.big
  have below : ∀ b ∈ fp, b < z2.heap.objs.size := by
    intro b hb
    obtain ⟨_, e, _⟩ := Tw.obj _ _ st2 b hb
    exact Heap.lt_size e
  have fo3 : ∀ b ∈ fp, FpOk X pins (upd H2 D (.dK [])) b ∧ b < z3.heap.objs.size := by
    intro b hb
    have lt := below b hb
    have ne : b ≠ D := by rw [← eD]; exact Nat.ne_of_lt lt
    refine ⟨⟨by rw [upd_ne ne]; exact (fo2 b hb).1, (fo2 b hb).2⟩, ?_⟩
    rw [hp3, Heap.size_push]
    exact Nat.lt_succ_of_lt lt
  have st3 : tn 0 z3.heap := Tw.keep _ _ _ st2 fun b _ _ e => by rw [hp3]; exact Heap.get?_push_of_some _ e
  have I4 := block_start I3 bo nd fo3
  have pg := pg z3 (upd H2 D (.dK [])) z3.heap.objs.size (cellsFrom (z3.heap.objs.size + 1) sc.names (cloFrom X.env.cells sc.names [])) fp
  have pj := pj z3 (upd H2 D (.dK [])) z3.heap.objs.size (cellsFrom (z3.heap.objs.size + 1) sc.names (cloFrom X.env.cells sc.names [])) fp
  have pk := pk z3 (upd H2 D (.dK [])) z3.heap.objs.size (cellsFrom (z3.heap.objs.size + 1) sc.names (cloFrom X.env.cells sc.names [])) fp
  have pa := pa z3 (upd H2 D (.dK [])) z3.heap.objs.size (cellsFrom (z3.heap.objs.size + 1) sc.names (cloFrom X.env.cells sc.names [])) fp
  have pb := pb z3 (upd H2 D (.dK [])) z3.heap.objs.size (cellsFrom (z3.heap.objs.size + 1) sc.names (cloFrom X.env.cells sc.names [])) fp
  show codeAny _ _ (.compStart (two kx vx t0 i0 t1 i1 sc ps) 0 (.ref it) (.ref D) (compEnvC sc (cellsFrom (z3.heap.objs.size + 1) sc.names (cloFrom X.env.cells sc.names [])) z3.heap.objs.size X.env)) (compPost (model X.prog X.w) X.A X.xe use Qf (.ref D) z3.heap.objs.size) { z3 with heap := pushCells (z3.heap.push { cls := .type "dict", data := .dict #[] }) sc.names }
  have none3 : ∀ b ∈ fp, (upd H2 D (.dK [])) b = none := fun b hb => (fo3 b hb).1.1
  unfold BX at pg pj pk pa pb
  generalize eC : compEnvC sc (cellsFrom (z3.heap.objs.size + 1) sc.names (cloFrom X.env.cells sc.names [])) z3.heap.objs.size X.env = ce at I4 pg pj pk pa pb ⊢
  have eL : ce.locals = z3.heap.objs.size := by subst eC; rfl
  generalize eH : upd H2 D (.dK []) = H3 at I3 I4 pg pj pk pa pb W0 none3 fo3
  generalize e4 : ({ z3 with heap := pushCells (z3.heap.push { cls := .type "dict", data := .dict #[] }) sc.names } : Shared) = z4 at I4 ⊢
  have st4 : tn 0 z4.heap := Tw.keep _ _ _ st3 fun b _ _ e => by rw [← e4]; exact pushCells_keeps _ _ _ _ (Heap.get?_push_of_some _ e)
  have own_fp : ∀ {σ' : L2.St} {H' : Hp} {z : Shared}, Inv (X.blk z3 H3 sc ce fp) [] σ' H' z → (∀ b ∈ fp, H' b = none) → ∀ b ∈ fp, FpOk (X.blk z3 H3 sc ce fp) [] H' b := by
    intro σ' H' z I' hn b hb
    refine ⟨hn b hb, (I'.ok.exf b hb).1, I'.ok.exfs b hb, .inl hb, fun x c e => (I'.ok.exf b hb).2 x c e, fun p hp => ?_⟩
    have hp : p ∈ ([] : List (Addr × Obj)) ++ [] := hp
    simp at hp
  have whole : codeAny (model X.prog X.w) X.A (.compLoop (two kx vx t0 i0 t1 i1 sc ps) 0 (.ref it) (.ref D) ce) (compPost (model X.prog X.w) X.A X.xe use Qf (.ref D) z3.heap.objs.size) z4 := by
    refine outLoop (f1 ce) (fun n z => ∃ i H', Inv (X.blk z3 H3 sc ce fp) [] (wipe σ (own.map (·.2))) H' z ∧ tn i z.heap ∧ (∀ b ∈ fp, H' b = none) ∧ W i n H') ?_ m0 ⟨0, H3, I4, st4, none3, W0⟩
    rintro n z5 ⟨i, H5, I5, st5, n5, w5⟩
    cases turn i n H5 w5 with
    | inl e =>
      obtain ⟨stop, q⟩ := e
      refine thnF (Tw.done (X.blk z3 H3 sc ce fp) rfl rfl rfl calm i [] z5 _ H5 (fun _ _ => False) I5 (own_fp I5 n5) st5 stop) fun nx z6 ⟨hr, I6⟩ => ?_
      subst hr
      have I7 : L2.Inv X pins σ H5 z6 := I3.call' (ch := fp) I6.os I6.base I6.hok I6.bare fun b hb => by
        obtain ⟨_, a1, a2, a3, a4, a5⟩ := (fo3 b hb).1
        exact ⟨a3, a1, a4, a5⟩
      have free : H5 z3.heap.objs.size = none := by
        have y : H5 ce.locals = none := I6.free
        rwa [eL] at y
      obtain ⟨m, hn, _⟩ := I6.loc
      have hn : z6.heap.Ns ce.locals m := hn
      rw [eL] at hn
      exact back D z3.heap.objs.size z6 m H5 I7 q hn (I3.fpOk (Nat.le_refl _) free)
    | inr e =>
      obtain ⟨go, G, hG, step⟩ := e
      refine thnF (Tw.item (X.blk z3 H3 sc ce fp) rfl rfl rfl calm i [] z5 _ H5 (fun _ _ => False) I5 (own_fp I5 n5) st5 go) fun nx z6 ⟨u, hr, h6⟩ => ?_
      subst hr
      refine thnF h6 fun _ z7 ⟨x, H7, I7, r7, y7, st7, n7⟩ => ?_
      have I7p := I7.pinned (own_fp I7 n7) (Tw.obj _ _ st7)
      refine thnF (pg.run _ z7 _ H7 x u _ I7p r7 (step x H7 y7)) fun _ z8 ⟨σ8, H8, I8, hw8, q8⟩ => ?_
      have len8 : (wipe σ (own.map (·.2))).length = (wipe σ8 us).length := by rw [← hw8, wipe_length, wipe_length]
      have kept8 : ∀ (j : Nat) v, (wipe σ (own.map (·.2)))[j]? = some (some v) → (wipe σ8 us)[j]? = some (some v) := by
        intro j v e
        rw [← hw8] at e
        obtain ⟨a, b⟩ := wipe_some e
        rw [wipe_out fun y => b (hus j y)]
        exact a
      have fin : ∀ {z : Shared} {H' : Hp}, Inv (X.blk z3 H3 sc ce fp) ([] ++ pinsAt fp z7.heap) (wipe σ8 us) H' z → G H' → ∃ k, k < n ∧ ∃ i H', Inv (X.blk z3 H3 sc ce fp) [] (wipe σ (own.map (·.2))) H' z ∧ tn i z.heap ∧ (∀ b ∈ fp, H' b = none) ∧ W i k H' := by
        intro z H' I' hg
        obtain ⟨m', lt, w'⟩ := hG H' hg
        have pin : ∀ b ∈ fp, ∀ o, z7.heap.get? b = some o → z.heap.get? b = some o ∧ H' b = none := by
          intro b hb o e
          have y := I'.pin (b, o) (List.mem_append_right _ (List.mem_append_right _ (mem_pinsAt hb e)))
          exact ⟨y.1, y.2.1⟩
        refine ⟨m', lt, i + 1, H', (I'.unpinned (pins := [])).weak len8 kept8, Tw.keep _ _ _ st7 fun b hb o e => (pin b hb o e).1, fun b hb => ?_, w'⟩
        obtain ⟨o, e, _⟩ := Tw.obj _ _ st7 b hb
        exact (pin b hb o e).2
      refine thnF (pj.run _ z8 σ8 H8 _ I8 q8) fun _ z9 w9 => thnF w9 fun _ z10 ⟨jt, fq, tm, Jn, H10, e10, I10, Tj, st10, fo10, U, ⟨l0, U0⟩, round⟩ => ?_
      subst e10
      have own_fq : ∀ {H' : Hp}, (∀ b ∈ fq, H' b = none) → ∀ b ∈ fq, FpOk (X.blk z3 H3 sc ce fp) ([] ++ pinsAt fp z7.heap) H' b := fun hn b hb => ⟨hn b hb, (fo10 b hb).2⟩
      have inner : codeAny (model X.prog X.w) X.A (.compLoop (two kx vx t0 i0 t1 i1 sc ps) 1 (.ref jt) (.ref D) ce)
          (fun e z => match e with
            | .ok _ => ∃ k, k < n ∧ ∃ i H', Inv (X.blk z3 H3 sc ce fp) [] (wipe σ (own.map (·.2))) H' z ∧ tn i z.heap ∧ (∀ b ∈ fp, H' b = none) ∧ W i k H'
            | .error _ => False) z10 := by
        refine inLoop (fun l z => ∃ j H', Inv (X.blk z3 H3 sc ce fp) ([] ++ pinsAt fp z7.heap) (wipe σ8 us) H' z ∧ tm j z.heap ∧ (∀ b ∈ fq, H' b = none) ∧ U j l H') ?_ l0 ⟨0, H10, I10.weak (wipe_length _ _) (fun j v e => (wipe_some e).1), st10, fun b hb => (fo10 b hb).1, U0⟩
        rintro l z11 ⟨j, H11, I11, st11, n11, u11⟩
        cases round j l H11 u11 with
        | inl e =>
          obtain ⟨stop, hg⟩ := e
          refine thnF (Tj.done (X.blk z3 H3 sc ce fp) rfl rfl rfl calm j _ z11 (wipe σ8 us) H11 (fun _ _ => False) I11 (own_fq n11) st11 stop) fun nx z12 ⟨hr, I12⟩ => ?_
          subst hr
          exact fin I12 hg
        | inr e =>
          obtain ⟨go, F, hF, step1⟩ := e
          refine thnF (Tj.item (X.blk z3 H3 sc ce fp) rfl rfl rfl calm j _ z11 (wipe σ8 us) H11 (fun _ _ => False) I11 (own_fq n11) st11 go) fun nx z12 ⟨u1, hr, h12⟩ => ?_
          subst hr
          refine thnF h12 fun _ z13 ⟨y1, H13, I13, r13, yy13, st13, n13⟩ => ?_
          have I13p := I13.pinned (own_fq n13) (Tj.obj _ _ st13)
          refine thnF (pk.run _ z13 (wipe σ8 us) H13 y1 u1 _ I13p r13 (step1 y1 H13 yy13)) fun _ z14 ⟨σ14, H14, I14, hw14, q14⟩ => ?_
          refine thnF (pa.run _ z14 σ14 H14 _ I14 q14) fun _ z15 ⟨ya, H15, I15, r15, q15⟩ => ?_
          refine thnF (pb.run _ z15 σ14 H15 _ I15 q15) fun _ z16 ⟨yb, H16, I16, r16, kvs, q, eq_, hD16, hz16, hf⟩ => ?_
          subst eq_
          refine d_dictSet (X := X.blk z3 H3 sc ce fp) I16 hD16 hz16 r15 r16 fun z17 I17 => ?_
          obtain ⟨l', lt, u'⟩ := hF _ hf
          have pin : ∀ b ∈ fq, ∀ o, z13.heap.get? b = some o → z17.heap.get? b = some o ∧ (upd H16 D (.dK (putK kvs q yb))) b = none := by
            intro b hb o e
            have y := I17.pin (b, o) (List.mem_append_right _ (List.mem_append_right _ (mem_pinsAt hb e)))
            exact ⟨y.1, y.2.1⟩
          refine ⟨l', lt, j + 1, _, I17.unpinned.weak (by rw [← hw14, wipe_length]) (fun j v e => by rw [← hw14] at e; exact (wipe_some e).1), Tj.keep _ _ _ st13 fun b hb o e => (pin b hb o e).1, fun b hb => ?_, u'⟩
          obtain ⟨o, e, _⟩ := Tj.obj _ _ st13 b hb
          exact (pin b hb o e).2
      exact inStart inner (Tj.self X.A 0 _ _ _ st10 inner)
  exact codeAny_compStart_dict whole (Tw.self X.A 0 _ _ _ st4 whole)
/-- as a value -/
theorem pe_dcTwo {kx vx t0 i0 t1 i1 : Expr} {sc : Scope} {own : List (Str × Nat)} {us : List Nat} {ps : Pos} {wi wj : TI} {g k : TG} {tk tv : TE}
    (calm : X.calm = true) (nd : X.N.Nodup) (p0 : PI X t0 i0 wi) (bo : BlkOk X.N X.env.scope sc own) (hus : ∀ i ∈ us, i ∈ own.map (·.2))
    (pg : ∀ s H C cl fp, PG (BX X sc s H C cl fp) t0 g) (pj : ∀ s H C cl fp, PI (BX X sc s H C cl fp) t1 i1 wj) (pk : ∀ s H C cl fp, PG (BX X sc s H C cl fp) t1 k)
    (pa : ∀ s H C cl fp, PE (BX X sc s H C cl fp) kx tk) (pb : ∀ s H C cl fp, PE (BX X sc s H C cl fp) vx tv)
    (f0 : ∀ x, foldedSetIterable i0 X.env x = pure x := by intro _; rfl) (f1 : ∀ en x, foldedSetIterable i1 en x = pure x := by intro _ _; rfl) :
    PE X (two kx vx t0 i0 t1 i1 sc ps) (wants wi g wj k tk tv (own.map (·.2)) us) := by
  refine ⟨fun pins s σ H Q I h => ?_⟩
  unfold two
  rw [arm_eval_DictComp]
  refine core calm nd I p0 bo hus pg pj pk pa pb f0 f1 h fun D C z m H' I' q hn fo => ⟨m, hn, fun h'' sb => ?_⟩
  obtain ⟨a0, a1, a2, a3, a4, a5⟩ := fo
  exact ⟨.ref D, H', I'.turned (t' := z.toks) (fun b o hb e => (sb.2 b hb).trans e) a0 a1 a3 a4 a5, rfl, q⟩
/-- what is stored by name on the comprehension's own line -/
theorem stored {i : Nat} {y : Str} {py : Pos} {e fst : Expr} {sc : Scope} {sp pp : Pos} {t : TE} (nd : X.N.Nodup) (hy : X.N[i]? = some y) (hyl : X.env.scope.names.lookup y = some .local)
    (hsw : swapsWith e (some (.Name y py)) sp.line X.env = pure true)
    (hx : evalThenUse e X.env (assign (.Name y py) X.env) = (do let _ ← comprehension e sc X.env pp newDict false (eval fst X.env) (some (assign (.Name y py) X.env))))
    (run : ∀ (pins : List (Addr × Obj)) (s : Shared) (σ : L2.St) (H : Hp) (Q : VK) (Qf : Value → Shared → Prop), L2.Inv X pins σ H s → t σ H Q →
      (∀ D C z m H', L2.Inv X pins σ H' z → Q (.ref D) H' → z.heap.Ns C m → FpOk X pins H' C → compPost (model X.prog X.w) X.A X.xe (some (assign (.Name y py) X.env)) Qf (.ref D) C (.ok .next) z) →
      wpAny (model X.prog X.w) X.A (comprehension e sc X.env pp newDict false (eval fst X.env) (some (assign (.Name y py) X.env))) Qf X.xe s) :
    PS X (.Assign [.Name y py] e sp) (tAsg t (gName i)) := by
  refine ⟨fun pins s σ H D I h => ?_⟩
  rw [exec_Assign_Name_used _ _ _ _ hsw, hx]
  have h : t σ H (fun x H1 => gName i x σ H1 D.nx) := h
  refine wpAny_bind (wpAny_standAt (wpAny_bind (wpAny_bind ?_)))
  refine thn (run pins s σ H _ (fun _ s' => SP X pins D .next s') I h fun L C z m H' I' q hn fo => ?_) fun _ s' hq => wpAny_pure (wpAny_pure hq)
  show wpAny _ _ (assign (.Name y py) X.env (.ref L)) _ _ _
  refine wpAny_assign_Name (store_ok2 (v := V.ref L) I' nd hy (.inl hyl) rfl (fun z2 I2 ⟨a, sb, ha⟩ => ?_) (.inr hyl))
  obtain ⟨a0, a1, a2, a3, a4, a5⟩ := fo
  have ne : C ≠ a := by
    cases ha with
    | inl e => rw [e]; exact a1
    | inr e => exact fun e' => a4 y a e e'.symm
  refine ⟨m, hn.sameBut sb ne, fun h3 sb3 => ?_⟩
  exact ⟨_, H', I2.turned (t' := z2.toks) (fun b o hb e => (sb3.2 b hb).trans e) a0 a1 a3 a4 a5, q⟩
theorem ps_setDcOne {i : Nat} {y : Str} {py : Pos} {kx vx t0 i0 : Expr} {ifs : List Expr} {sc : Scope} {own : List (Str × Nat)} {ps sp : Pos} {wi : TI} {g : TG} {tt : TT} {tk tv : TE}
    (calm : X.calm = true) (nd : X.N.Nodup) (hy : X.N[i]? = some y) (hyl : X.env.scope.names.lookup y = some .local) (hsw : swapsWith (.DictComp kx vx [⟨t0, i0, ifs, 0⟩] sc ps) (some (.Name y py)) sp.line X.env = pure true)
    (p0 : PI X t0 i0 wi) (bo : BlkOk X.N X.env.scope sc own)
    (pg : ∀ s H C cl fp, PG (BX X sc s H C cl fp) t0 g) (pt : ∀ s H C cl fp, PTs (BX X sc s H C cl fp) ifs tt)
    (pa : ∀ s H C cl fp, PE (BX X sc s H C cl fp) kx tk) (pb : ∀ s H C cl fp, PE (BX X sc s H C cl fp) vx tv)
    (f0 : ∀ x, foldedSetIterable i0 X.env x = pure x := by intro _; rfl) :
    PS X (.Assign [.Name y py] (.DictComp kx vx [⟨t0, i0, ifs, 0⟩] sc ps) sp) (tAsg (tDc wi g tt tk tv (own.map (·.2))) (gName i)) :=
  stored nd hy hyl hsw rfl fun pins s σ H Q Qf I h back => dc_core calm nd I p0 bo pg pt pa pb f0 h back
end
end Dc2
set_option maxHeartbeats 1000000
namespace G
open PySem PySem.Spec PyProof.Rows L2
def keyOf : D → Option Key
  | .int i => some (.inl i)
  | .str s => some (.inr s)
  | _ => none
def keysL : List D → Option (List Key)
  | [] => some []
  | d :: ds => (keyOf d).bind fun q => (keysL ds).map (q :: ·)
def keysOf : D → Option (List Key)
  | .tup ds => keysL ds
  | _ => none
def findP {κ : Type} [DecidableEq κ] (kf : D → Option κ) : List (D × D) → κ → Option D
  | [], _ => none
  | (a, b) :: r, q => if kf a = some q then some b else findP kf r q
def putP {κ : Type} [DecidableEq κ] (kf : D → Option κ) (kd : κ → D) (ds : List (D × D)) (q : κ) (v : D) : List (D × D) :=
  if (findP kf ds q).isSome = true then ds.map (fun p => if kf p.1 = some q then (p.1, v) else p) else ds ++ [(kd q, v)]
theorem keyOf_D (q : Key) : keyOf (keyD q) = some q := by cases q <;> rfl
section
variable {K : PySem.W.Frag} {mg : Str → Option Value} {r : Addr} {Hs Hs' H H' : Hp} {tp : List D}
theorem repT_key {v : V} {d : D} {q : Key} (h : RepT K mg r Hs H v d) (e : keyOf d = some q) : v = kV q := by
  cases d with
  | int i => cases e; rw [repT_int h]; rfl
  | str s => cases e; rw [repT_str h]; rfl
  | _ => cases e
theorem repT_dic {v : V} {ds : List (D × D)} (w : Wd K mg r Hs H tp) (h : RepT K mg r Hs H v (.dic ds)) : ∃ p kvs, v = .ref p ∧ Rd H p (.dK kvs) ∧ RepP K mg r Hs (kvs.map fun q => (keyD q.1, q.2)) ds := by
  rcases h with h | ⟨p, e, _, kvs, a, b⟩
  · cases h with
    | dicK a b => exact ⟨_, _, rfl, w.sub.rd a, b⟩
  · exact ⟨p, kvs, e, .of a, b⟩
section
variable {κ : Type} [DecidableEq κ] {kf : D → Option κ} {kd : κ → D}
theorem find_rep (hk : ∀ q, kf (kd q) = some q) (q : κ) : ∀ {kvs : List (κ × V)} {ds : List (D × D)}, RepP K mg r Hs (kvs.map fun p => (kd p.1, p.2)) ds →
    (∀ d, findP kf ds q = some d → ∃ v, valV kvs q = some v ∧ RepD K mg r Hs v d) ∧ (findP kf ds q = none → valV kvs q = none)
  | [], _, .nil => ⟨fun d e => (by cases e), fun _ => rfl⟩
  | p :: kvs, _, .cons (d := d0) (ds := ds) h hs => by
    obtain ⟨a, b⟩ := find_rep hk q (kvs := kvs) (ds := ds) hs
    by_cases e : p.1 = q
    · have ek : kf (kd p.1) = some q := by rw [hk, e]
      unfold findP
      rw [if_pos ek]
      refine ⟨fun d ed => ?_, fun ed => by cases ed⟩
      cases ed
      exact ⟨p.2, valV_pos e, h⟩
    · have ek : ¬ kf (kd p.1) = some q := by rw [hk]; intro z; exact e (Option.some.inj z)
      unfold findP
      rw [if_neg ek]
      refine ⟨fun d ed => ?_, fun ed => by rw [valV_neg e]; exact b ed⟩
      obtain ⟨v, h1, h2⟩ := a d ed
      exact ⟨v, by rw [valV_neg e]; exact h1, h2⟩
theorem repP_map (hk : ∀ q, kf (kd q) = some q) {q : κ} {z : V} {v : D} (hz : RepD K mg r Hs z v) : ∀ {kvs : List (κ × V)} {ds : List (D × D)}, RepP K mg r Hs (kvs.map fun p => (kd p.1, p.2)) ds →
    RepP K mg r Hs ((kvs.map fun kv => if kv.1 = q then (kv.1, z) else kv).map fun p => (kd p.1, p.2)) (ds.map fun p => if kf p.1 = some q then (p.1, v) else p)
  | [], _, .nil => .nil
  | p :: kvs, _, .cons (d := d0) (ds := ds) h hs => by
    have ih := repP_map (q := q) hk hz (kvs := kvs) (ds := ds) hs
    rw [List.map_cons, List.map_cons, List.map_cons]
    by_cases e : p.1 = q
    · rw [if_pos e, if_pos (by show kf (kd p.1) = some q; rw [hk, e])]
      exact .cons hz ih
    · rw [if_neg e, if_neg (by show ¬ kf (kd p.1) = some q; rw [hk]; intro y; exact e (Option.some.inj y))]
      exact .cons h ih
theorem repP_app {a b : List (D × V)} {ds es : List (D × D)} : RepP K mg r Hs a ds → RepP K mg r Hs b es → RepP K mg r Hs (a ++ b) (ds ++ es)
  | .nil, q => q
  | .cons h p, q => .cons h (repP_app p q)
theorem put_rep (hk : ∀ q, kf (kd q) = some q) {q : κ} {z : V} {v : D} {kvs : List (κ × V)} {ds : List (D × D)} (hz : RepD K mg r Hs z v) (h : RepP K mg r Hs (kvs.map fun p => (kd p.1, p.2)) ds) :
    RepP K mg r Hs ((putK kvs q z).map fun p => (kd p.1, p.2)) (putP kf kd ds q v) := by
  obtain ⟨a, b⟩ := find_rep hk q h
  unfold putK putP
  rw [valV_any]
  cases e : findP kf ds q with
  | some d =>
    obtain ⟨v0, h1, _⟩ := a d e
    rw [h1]
    exact repP_map hk hz h
  | none =>
    rw [b e]
    rw [if_neg (by simp), if_neg (by simp), List.map_append]
    exact repP_app h (.cons hz .nil)
theorem repP_len : ∀ {a : List (D × V)} {ds : List (D × D)}, RepP K mg r Hs a ds → a.length = ds.length
  | _, _, .nil => rfl
  | _, _, .cons _ q => by simp only [List.length_cons, repP_len q]
end
def dgetD (d k : D) : Option (Option D) := match d with
  | .dic ds => (keyOf k).map fun q => findP keyOf ds q
  | _ => none
theorem dget_ok {x y : V} {d k : D} {o : Option D} (w : Wd K mg r Hs H tp) (hx : RepT K mg r Hs H x d) (hy : RepT K mg r Hs H y k) (e : dgetD d k = some o) :
    ∃ a, x = .ref a ∧ IsD H a ∧ ∃ ov, DGet H a y ov ∧ ov.isSome = o.isSome ∧ ∀ z, o = some z → ∃ v, ov = some v ∧ RepD K mg r Hs v z := by
  unfold dgetD at e
  cases d with
  | dic ds =>
    obtain ⟨q, h1, h2⟩ := Option.map_eq_some_iff.mp e
    obtain ⟨p, kvs, rfl, a, b⟩ := repT_dic w hx
    obtain ⟨f1, f2⟩ := find_rep (K := K) (mg := mg) (r := r) keyOf_D q b
    refine ⟨p, rfl, .inl ⟨kvs, a⟩, valV kvs q, ?_, ?_, fun z hz => ?_⟩
    · rw [repT_key hy h1]; exact .inl ⟨kvs, q, a, rfl, rfl⟩
    · cases c : findP keyOf ds q with
      | none => rw [f2 c, ← h2, c]; rfl
      | some z => obtain ⟨v, e1, _⟩ := f1 z c; rw [e1, ← h2, c]; rfl
    · obtain ⟨v, e1, e2⟩ := f1 z (h2.trans hz)
      exact ⟨v, e1, e2⟩
  | _ => cases e
end
section
variable {r : Addr} {X : Cx} {K : PySem.W.Frag} {mg : Str → Option Value} {O : List Nat} {E : XK} {a b c : Expr} {ta tb tc : TE} {pos : Pos}
/-- k in d, k not in d: the key, then the dict -/
def inKD (neg : Bool) (k d : D) : Option D := (dgetD d k).map fun o => .bl (if neg then !o.isSome else o.isSome)
theorem ge_inK {ma mb : SE D} (hu : X.A.units + 64 < cLine) (ha : GO K mg r X O E a ta ma) (hb : GO K mg r X O E b tb mb) (hm : behindInMarks .In b = false := by rfl) : GE K mg r X O E (.Compare a [.In] [b] pos) (tDIn ta tb) (binE (inKD false) ma mb) := by
  refine ⟨pe_cmp (pc_din (by omega) ha.pe hb.pe) hm, fun Hs0 H0 Hs H σ env tp Q Rl P => ?_⟩
  refine ha.snd _ _ _ _ _ _ _ _ Rl (Post.bind P fun v Hs1 H1 d tp1 _ g w rv P1 => ?_)
  refine hb.snd _ _ _ _ _ _ _ _ (Rl.grow g w) (Post.bind P1 fun u Hs2 H2 e tp2 _ g2 w2 ru P2 => ?_)
  obtain ⟨z, hz, k⟩ := Post.ok_of P2
  obtain ⟨o, h1, h2⟩ := Option.map_eq_some_iff.mp hz
  obtain ⟨p, rfl, _, ov, dg, e1, _⟩ := dget_ok w2 ru (rv.grow g2) h1
  refine ⟨p, ov, rfl, dg, k _ Hs2 H2 (Grow.refl _ _) w2 ?_⟩
  rw [e1, ← h2]; exact .bl _
theorem ge_notInK {ma mb : SE D} (hu : X.A.units + 64 < cLine) (ha : GO K mg r X O E a ta ma) (hb : GO K mg r X O E b tb mb) (hm : behindInMarks .NotIn b = false := by rfl) : GE K mg r X O E (.Compare a [.NotIn] [b] pos) (tDNotIn ta tb) (binE (inKD true) ma mb) := by
  refine ⟨pe_cmp (pc_dnotin (by omega) ha.pe hb.pe) hm, fun Hs0 H0 Hs H σ env tp Q Rl P => ?_⟩
  refine ha.snd _ _ _ _ _ _ _ _ Rl (Post.bind P fun v Hs1 H1 d tp1 _ g w rv P1 => ?_)
  refine hb.snd _ _ _ _ _ _ _ _ (Rl.grow g w) (Post.bind P1 fun u Hs2 H2 e tp2 _ g2 w2 ru P2 => ?_)
  obtain ⟨z, hz, k⟩ := Post.ok_of P2
  obtain ⟨o, h1, h2⟩ := Option.map_eq_some_iff.mp hz
  obtain ⟨p, rfl, _, ov, dg, e1, _⟩ := dget_ok w2 ru (rv.grow g2) h1
  refine ⟨p, ov, rfl, dg, k _ Hs2 H2 (Grow.refl _ _) w2 ?_⟩
  rw [e1, ← h2]; exact .bl _
theorem gt_inK {ma mb : SE D} (hu : X.A.units + 64 < cLine) (ha : GO K mg r X O E a ta ma) (hb : GO K mg r X O E b tb mb) (hm : behindInMarks .In b = false := by rfl) : GT K mg r X O E (.Compare a [.In] [b] pos) (tB (tDIn ta tb)) (boolE (binE (inKD false) ma mb)) :=
  ⟨pt_cmp (pc_din (by omega) ha.pe hb.pe) hm, boolE_sound (ge_inK (pos := pos) hu ha hb hm).snd⟩
theorem gt_notInK {ma mb : SE D} (hu : X.A.units + 64 < cLine) (ha : GO K mg r X O E a ta ma) (hb : GO K mg r X O E b tb mb) (hm : behindInMarks .NotIn b = false := by rfl) : GT K mg r X O E (.Compare a [.NotIn] [b] pos) (tB (tDNotIn ta tb)) (boolE (binE (inKD true) ma mb)) :=
  ⟨pt_cmp (pc_dnotin (by omega) ha.pe hb.pe) hm, boolE_sound (ge_notInK (pos := pos) hu ha hb hm).snd⟩
theorem gf_dnew : GF K mg r X O E (.Dict [] [] pos) tDNewK (cE (.dic [])) := by
  refine ⟨pe_dnewK, fun Hs0 H0 Hs H σ env tp Q R P p hp => ?_⟩
  obtain ⟨g, w, f⟩ := fresh_new (K := K) (mg := mg) (o := .dK []) (d := .dic []) (Grow.refl Hs H) R.wd hp ⟨[], upd_same, .nil⟩
  exact P _ _ _ g w f
def putD (d k v : D) : Option D := match d with
  | .dic ds => if ds.length < sizeLine then (keyOf k).map fun q => .dic (putP keyOf keyD ds q v) else none
  | _ => none
def dsetS (i : Nat) (mk mv : SE D) : SS := fun env tp => match env[i]? with
  | some (some d) => (mv env tp).bindS fun v tp1 => (mk env tp1).bindS fun k tp2 => (match putD d k v with
    | some d' => .nx (env.set i (some d')) tp2
    | none => .stuck)
  | _ => .stuck
theorem gs_dset {mk mv : SE D} {Ol : List Nat} (i : Nat) {x : Str} {p1 p2 : Pos} {k val : Expr} {tk tv : TE} (hu : X.A.units + 64 < cLine) (hO : i ∈ O) (hk : GE K mg r X O E k tk mk) (hv : GE K mg r X O E val tv mv) (hN : X.N[i]? = some x := by rfl)
    (hvis : Vis X.env.scope x := by first | exact Or.inl rfl | exact Or.inr (Or.inl rfl) | exact Or.inr (Or.inr rfl)) (hd : (x == ("__debug__" : Str)) = false := by decide) (hcd : (x == ("__classdict__" : Str)) = false := by decide)
    (hs : swapsWith val (some (.Subscript (.Name x p1) k p2)) pos.line X.env = pure false := by rfl) : GS K mg r X E O O Ol (.Assign [.Subscript (.Name x p1) k p2] val pos) (sDPut (tVar i) tk tv) (dsetS i mk mv) := by
  refine ⟨ps_dput (by omega) (pe_var hN hvis hd hcd) hk.pe hv.pe hs, fun Hs0 H0 Hs H σ env tp Dn R P => ?_⟩
  obtain ⟨d0, p, b1, b2, c, c0, ne, oa⟩ := R.own i hO
  unfold dsetS at P
  rw [b1] at P
  simp only at P
  refine hv.snd _ _ _ _ _ _ _ _ R (PostS.bind R P fun v Hs1 H1 dv tp1 _ g w R1 rv P1 => ?_)
  refine ⟨_, b2, ?_⟩
  refine hk.snd _ _ _ _ _ _ _ _ R1 (PostS.bind R1 P1 fun u Hs2 H2 dk tp2 _ g2 w2 R2 ru P2 => ?_)
  obtain ⟨d1, p1, e1, e2, f, f0, fn, fo⟩ := R2.own i hO
  rw [b2] at e2; cases e2
  rw [b1] at e1; cases e1
  cases e : putD d0 dk dv with
  | none => rw [e] at P2; exact P2.elim
  | some d' =>
    rw [e] at P2
    have rv2 := rv.mono g2.ex
    cases d0 with
    | dic ds =>
      obtain ⟨kvs, h1, h2⟩ := fo
      unfold putD at e
      simp only at e
      split at e
      · rename_i hz
        obtain ⟨q, hq, hd'⟩ := Option.map_eq_some_iff.mp e
        subst hd'
        have ek := repT_key (H := H2) ru.top hq
        subst ek
        have hl : kvs.length < sizeLine := by have := repP_len h2; rw [List.length_map] at this; omega
        exact ⟨p, _, rfl, .k h1 hl, P2 _ _ _ (Same.refl _) (R2.write hO b2 ⟨_, upd_same, put_rep keyOf_D rv2 h2⟩)⟩
      · cases e
    | _ => cases e
def sortKD : List D → Option D
  | [.dic ds] => if ds.length < 64 then (unI (ds.map (·.1))).map fun ns => .lst ((sortI ns).map .int) else none
  | _ => none
theorem dic_ints {Hs : Hp} : ∀ {kvs : List (Key × V)} {ds : List (D × D)} {ns : List Int}, RepP K mg r Hs (kvs.map fun q => (keyD q.1, q.2)) ds → unI (ds.map (·.1)) = some ns → kvs.map (·.1) = ns.map Sum.inl
  | [], _, ns, .nil, e => by cases e; rfl
  | (.inl i, v) :: kvs, _, ns, .cons (ds := ds) h hs, e => by
    obtain ⟨ms, h1, h2⟩ := Option.map_eq_some_iff.mp (show (unI (ds.map (·.1))).map (i :: ·) = some ns from e)
    subst h2
    rw [List.map_cons, dic_ints hs h1]; rfl
  | (.inr x, v) :: kvs, _, ns, .cons (ds := ds) h hs, e => by cases e
abbrev rSortKD : List V → Hp → VK → Prop := fun xs H Q => ∃ (a : Addr) (kvs : List (Key × V)) (ks : List Int), xs = [.ref a] ∧ Rd H a (.dK kvs) ∧ kvs.map (·.1) = ks.map Sum.inl ∧ ks.length < 64 ∧ ∀ (ys : List Int) (p : Addr), ys.Perm ks → ys.Pairwise (· ≤ ·) → H p = none → Q (.ref p) (upd H p (.lst (ys.map V.int)))
theorem gf_sortedK {e : Expr} {p : Pos} {ts : TA} {ms : SE (List D)} (hc : X.calm = true) (hm : X.mg "sorted" = none) (ha : GAO K mg r X O E [e] ts ms) (hg : Gl X "sorted" := by rfl) (he : starEach [e] X.env = (false, eval e X.env) :: starEach [] X.env := by rfl) (hpl : (backTo pos (starEach [] X.env)).any (·.1) = false := by rfl) : GF K mg r X O E (.Call (.Name "sorted" p) [e] [] pos) (tCB rSortKD ts) (callB sortKD ms) := by
  refine ⟨pe_callB (r := rSortKD) (call_sortedDI hc) hg hm boot_sorted ha.pe (by decide) (by decide) he hpl, fun Hs0 H0 Hs H σ env tp Q Rl P => ?_⟩
  refine ha.snd _ _ _ _ _ _ _ _ Rl ?_
  unfold callB at P
  cases q : ms env tp with
  | stuck => rw [q] at P; exact P
  | exn cc fs tp1 => rw [q] at P; exact P
  | ok ds tp1 =>
    rw [q] at P
    intro xs Hs1 H1 g w rx
    obtain ⟨z, hz, k⟩ := Post.ok_of (show Post K mg r (Fresh K mg r H) E Hs H (RE.of (sortKD ds) tp1) Q from P)
    unfold sortKD at hz
    split at hz
    · split at hz
      · rename_i d64
        obtain ⟨ns, h1, h2⟩ := Option.map_eq_some_iff.mp hz
        subst h2
        obtain ⟨x, rfl, h⟩ := paired1 rx
        obtain ⟨p, kvs, rfl, a, b⟩ := repT_dic w h
        have ek := dic_ints b h1
        have hl : ns.length < 64 := by
          have e1 := repP_len b
          have e2 := congrArg List.length ek
          rw [List.length_map, List.length_map] at e2
          rw [List.length_map] at e1
          omega
        refine ⟨p, kvs, ns, rfl, a, ek, hl, fun ns' q hp hs hq => ?_⟩
        have e : ns' = sortI ns := sorted_unique (hp.trans (sortI_perm ns).symm) hs (sortI_sorted ns)
        subst e
        obtain ⟨a, b, c⟩ := fresh_new (o := .lst ((sortI ns).map V.int)) (d := .lst ((sortI ns).map D.int)) g w hq ⟨_, upd_same, RepDs.ints _⟩
        exact k _ _ _ a b c
      · cases hz
    · cases hz
def putR (acc : List (D × D)) (k v : D) (tp : List D) : RE (List (D × D)) := if acc.length < sizeLine then (match keyOf k with
  | some q => .ok (putP keyOf keyD acc q v) tp
  | none => .stuck) else .stuck
def foldR (f : List (D × D) → D → List D → RE (List (D × D))) : List D → List (D × D) → List D → RE (List (D × D))
  | [], acc, tp => .ok acc tp
  | d :: ds, acc, tp => match f acc d tp with
    | .ok acc' tp' => foldR f ds acc' tp'
    | _ => .stuck
def pairT (mk mv : SE D) (env : DEnv) (acc : List (D × D)) (tp : List D) : RE (List (D × D)) := match mk env tp with
  | .ok k tp1 => (match mv env tp1 with
    | .ok v tp2 => putR acc k v tp2
    | _ => .stuck)
  | _ => .stuck
def dcTurn (tgt : D → Option (List D)) (is : List Nat) (mk mv : SE D) (env : DEnv) (acc : List (D × D)) (d : D) (tp : List D) : RE (List (D × D)) := match tgt d with
  | some ds => pairT mk mv (setAll env is ds) acc tp
  | none => .stuck
def dcE (mi : SE (List D)) (vs : List Nat) (tgt : D → Option (List D)) (is : List Nat) (mk mv : SE D) : SE D := fun env tp => (mi env tp).bind fun items tp1 => match foldR (dcTurn tgt is mk mv (wipeE env vs)) items [] tp1 with
  | .ok acc tp2 => .ok (.dic acc) tp2
  | _ => .stuck
def dcTurn2 (tgt : D → Option (List D)) (is : List Nat) (mi1 : SE (List D)) (vs1 : List Nat) (tgt1 : D → Option (List D)) (is1 : List Nat) (mk mv : SE D) (env : DEnv) (acc : List (D × D)) (d : D) (tp : List D) : RE (List (D × D)) := match tgt d with
  | some ds => (match mi1 (setAll env is ds) tp with
    | .ok items1 tp1 => foldR (dcTurn tgt1 is1 mk mv (wipeE (setAll env is ds) vs1)) items1 acc tp1
    | _ => .stuck)
  | none => .stuck
def dc2E (mi : SE (List D)) (vs : List Nat) (tgt : D → Option (List D)) (is : List Nat) (mi1 : SE (List D)) (vs1 : List Nat) (tgt1 : D → Option (List D)) (is1 : List Nat) (mk mv : SE D) : SE D := fun env tp => (mi env tp).bind fun items tp1 => match foldR (dcTurn2 tgt is mi1 vs1 tgt1 is1 mk mv (wipeE env vs)) items [] tp1 with
  | .ok acc tp2 => .ok (.dic acc) tp2
  | _ => .stuck
theorem foldR_cons {f : List (D × D) → D → List D → RE (List (D × D))} {d : D} {ds : List D} {acc z : List (D × D)} {tp tpE : List D} (h : foldR f (d :: ds) acc tp = .ok z tpE) : ∃ acc' tp', f acc d tp = .ok acc' tp' ∧ foldR f ds acc' tp' = .ok z tpE := by
  unfold foldR at h
  cases q : f acc d tp with
  | ok acc' tp' => rw [q] at h; exact ⟨acc', tp', rfl, h⟩
  | exn c fs t => rw [q] at h; cases h
  | stuck => rw [q] at h; cases h
theorem pairT_ok {mk mv : SE D} {env : DEnv} {acc z : List (D × D)} {tp tpE : List D} (h : pairT mk mv env acc tp = .ok z tpE) : ∃ k tp1 v q, mk env tp = .ok k tp1 ∧ mv env tp1 = .ok v tpE ∧ keyOf k = some q ∧ acc.length < sizeLine ∧ z = putP keyOf keyD acc q v := by
  unfold pairT at h
  cases q1 : mk env tp with
  | ok k tp1 =>
    rw [q1] at h
    simp only at h
    cases q2 : mv env tp1 with
    | ok v tp2 =>
      rw [q2] at h
      simp only at h
      unfold putR at h
      split at h
      · rename_i hl
        cases q3 : keyOf k with
        | some q =>
          rw [q3] at h
          simp only [RE.ok.injEq] at h
          obtain ⟨e1, e2⟩ := h
          subst e2
          exact ⟨k, tp1, v, q, rfl, q2, q3, hl, e1.symm⟩
        | none => rw [q3] at h; cases h
      · cases h
    | exn c fs t => rw [q2] at h; cases h
    | stuck => rw [q2] at h; cases h
  | exn c fs t => rw [q1] at h; cases h
  | stuck => rw [q1] at h; cases h
/-- what a turn's pair does to the world -/
theorem pair_sound {tk tv : TE} {mk mv : SE D} {Hs0 H0 Hs H : Hp} {σ : L2.St} {env : DEnv} {acc z : List (D × D)} {tp tpE : List D} {Dl : Addr} {kvs : List (Key × V)} {F : Hp → Prop}
    (hk : ∀ Hs0 H0 Hs H σ env tp Q, Rel K mg r O Hs0 H0 Hs H σ env tp → PostE K mg r E0 Hs H (mk env tp) Q → tk σ H Q)
    (hv : ∀ Hs0 H0 Hs H σ env tp Q, Rel K mg r O Hs0 H0 Hs H σ env tp → PostE K mg r E0 Hs H (mv env tp) Q → tv σ H Q)
    (R : Rel K mg r O Hs0 H0 Hs H σ env tp) (neD : Dl ≠ r) (fD : Hs Dl = none) (hD : H Dl = some (.dK kvs)) (rs : RepP K mg r Hs (kvs.map fun q => (keyD q.1, q.2)) acc) (h : pairT mk mv env acc tp = .ok z tpE)
    (next : ∀ Hs1 H1 q zv, Grow r Hs H Hs1 H1 → Wd K mg r Hs1 H1 tpE → Hs1 Dl = none → RepP K mg r Hs1 ((putK kvs q zv).map fun q => (keyD q.1, q.2)) z → F (upd H1 Dl (.dK (putK kvs q zv)))) :
    tk σ H fun y H9 => tv σ H9 fun b H10 => ∃ (kvs : List (Key × V)) (q : Key), y = kV q ∧ H10 Dl = some (.dK kvs) ∧ kvs.length < sizeLine ∧ F (upd H10 Dl (.dK (putK kvs q b))) := by
  obtain ⟨k, tp1, v, q, e1, e2, e3, hl, rfl⟩ := pairT_ok h
  refine hk _ _ _ _ _ _ _ _ R ?_
  rw [e1]
  intro y Hs1 H1 g1 w1 ry
  refine hv _ _ _ _ _ _ _ _ (R.grow g1 w1) ?_
  rw [e2]
  intro b Hs2 H2 g2 w2 rb
  have g := g1.trans g2
  refine ⟨kvs, q, repT_key (H := H1) ry.top e3, g.keep Dl _ hD neD fD, ?_, ?_⟩
  · have e := repP_len rs
    rw [List.length_map] at e
    omega
  · exact next Hs2 H2 q b g w2 (g.no fD hD neD) (put_rep keyOf_D rb (RepP.mono g.ex rs))
end
end G
set_option maxHeartbeats 1000000
namespace G
open PySem PySem.Spec PyProof.Rows L2
section
variable {r : Addr} {X : Cx} {K : PySem.W.Frag} {mg : Str → Option Value} {O : List Nat} {E : XK} {tt : TT}
theorem dc_sound {wi : TI} {g : TG} {tk tv : TE} {is vs : List Nat} {tgt : D → Option (List D)} {mi : SE (List D)} {mk mv : SE D}
    (hi : ∀ Hs0 H0 Hs H σ env tp Q, Rel K mg r O Hs0 H0 Hs H σ env tp → Post K mg r (fun Hs _ J items => WalksD K mg r J Hs items) E Hs H (mi env tp) Q → wi σ H Q)
    (hg : ∀ v d ds Hs H tp σ (Q : L2.St → Hp → Prop), Wd K mg r Hs H tp → RepD K mg r Hs v d → tgt d = some ds → (∀ vs, RepDs K mg r Hs vs ds → vs.length = is.length → Q (setAll σ is vs) H) → g v σ H Q)
    (ht : ∀ Hs0 H0 Hs H σ env tp Q, Rel K mg r O Hs0 H0 Hs H σ env tp → PostB K mg r E0 Hs H (yesT env tp) Q → tt σ H Q)
    (hk : ∀ Hs0 H0 Hs H σ env tp Q, Rel K mg r O Hs0 H0 Hs H σ env tp → PostE K mg r E0 Hs H (mk env tp) Q → tk σ H Q)
    (hv : ∀ Hs0 H0 Hs H σ env tp Q, Rel K mg r O Hs0 H0 Hs H σ env tp → PostE K mg r E0 Hs H (mv env tp) Q → tv σ H Q)
    (hvs : ∀ i ∈ vs, i ∉ O) (his : ∀ i ∈ is, i ∈ vs) :
    ∀ Hs0 H0 Hs H σ env tp Q, Rel K mg r O Hs0 H0 Hs H σ env tp → Post K mg r (Fresh K mg r H) E Hs H (dcE mi vs tgt is mk mv env tp) Q → tDc wi g tt tk tv vs σ H Q := by
  intro Hs0 H0 Hs H σ env tp Q R P
  refine hi _ _ _ _ _ _ _ _ R ?_
  unfold dcE at P
  cases q : mi env tp with
  | stuck => rw [q] at P; exact P.elim
  | exn cc fs tp1 => rw [q] at P; exact P
  | ok items tp1 =>
    rw [q] at P
    intro J Hs1 H1 ga w1 wd Dl hD
    simp only [RE.bind_ok] at P
    cases q2 : foldR (dcTurn tgt is mk mv (wipeE env vs)) items [] tp1 with
    | stuck => rw [q2] at P; exact P.elim
    | exn cc fs tp2 => rw [q2] at P; exact P.elim
    | ok all tpE =>
      rw [q2] at P
      have P : ∀ v Hs' H', Grow r Hs H Hs' H' → Wd K mg r Hs' H' tpE → Fresh K mg r H Hs' H' v (.dic all) → Q v H' := P
      obtain ⟨Gd, Y, wk, hG, hY⟩ := wd
      have R1 := R.grow ga w1
      obtain ⟨fD, neD⟩ := w1.fresh hD
      have h0D : H Dl = none := ga.free Dl hD
      have Rw := R1.wiped vs hvs
      obtain ⟨gl, wl⟩ := w1.lay (o := .dK []) hD
      obtain ⟨n1, n2⟩ := R.new_ne h0D neD
      have n3 : ∀ j ∈ O, (wipeE σ vs)[j]? ≠ some (some (.ref Dl)) := fun j hj z => n2 j hj (by rw [← z, wipe_get fun q => hvs j q hj])
      have hisO : ∀ i ∈ is, i ∉ O := fun i hi => hvs i (his i hi)
      let Pv : Nat → Hp → Prop := fun i H' => ∃ Hs2 kvs acc tp, Rel K mg r O Hs0 H0 Hs2 H' (wipeE σ vs) (wipeE env vs) tp ∧ Same Hs1 Hs2 ∧ Grow r Hs H Hs2 H' ∧ Hs2 Dl = none ∧ H' Dl = some (.dK kvs) ∧ RepP K mg r Hs2 (kvs.map fun q => (keyD q.1, q.2)) acc ∧
        foldR (dcTurn tgt is mk mv (wipeE env vs)) (items.drop i) acc tp = .ok all tpE
      have p0 : Pv 0 (upd H1 Dl (.dK [])) := ⟨Hs1, [], [], tp1, Rw.grow gl wl, Same.refl _, ga.trans gl, fD, upd_same, .nil, q2⟩
      refine ⟨fun i n H' => n = items.length - i ∧ i ≤ items.length ∧ Pv i H', ⟨items.length, by simp, Nat.zero_le _, p0⟩, ?_⟩
      rintro i n H2 ⟨rfl, hil, Hs2, kvs, acc, tp2, R2, e2, g2, f2, hD2, rs2, hc2⟩
      have gd := hG Hs2 H2 e2 R2.wd.sub
      by_cases hi2 : i < items.length
      case neg =>
        have e : i = items.length := by omega
        subst e
        refine .inl ⟨wk.stops _ gd, ?_⟩
        rw [List.drop_length] at hc2
        unfold foldR at hc2
        simp only [RE.ok.injEq] at hc2
        obtain ⟨hx, htp⟩ := hc2
        subst hx htp
        exact P _ Hs2 H2 g2 R2.wd ⟨Dl, rfl, h0D, f2, neD, kvs, hD2, rs2⟩
      refine .inr ⟨wk.goes i H2 hi2 gd, Pv (i + 1), fun H' p' => ⟨items.length - (i + 1), by omega, rfl, hi2, p'⟩, fun x H3 yy => ?_⟩
      obtain ⟨Hs3, d, g3, w3, hd, rd⟩ := hY i Hs2 H2 tp2 x H3 hi2 e2 R2.wd (wk.yields i H2 x H3 hi2 gd yy)
      rw [List.drop_eq_getElem_cons hi2] at hc2
      have hd' : items[i] = d := by rw [List.getElem?_eq_getElem hi2] at hd; exact Option.some.inj hd
      rw [hd'] at hc2
      obtain ⟨acc', tpI, hf, hrest⟩ := foldR_cons hc2
      unfold dcTurn at hf
      cases qt : tgt d with
      | none => rw [qt] at hf; cases hf
      | some es =>
        rw [qt] at hf
        simp only at hf
        rw [wipe_eq]
        refine hg x d es Hs3 H3 tp2 _ _ w3 rd qt fun ws rs hl => ⟨by rw [wipe_eq, wipe_setAll is _ _ his, wipe_wipe vs fun _ h => h], ?_⟩
        have R3 := rel_setAll is _ _ _ _ (R2.grow g3 w3) hisO rs hl
        have f3 := g3.no f2 hD2 neD
        have hD3 := g3.keep Dl _ hD2 neD f2
        refine ht _ _ _ _ _ _ _ _ R3 fun v Hs4 H4 g4 w4 ev => ?_
        subst ev
        have f4 := g4.no f3 hD3 neD
        have hD4 := g4.keep Dl _ hD3 neD f3
        refine iteT (pair_sound (F := Pv (i + 1)) hk hv (R3.grow g4 w4) neD f4 hD4 (RepP.mono (g3.ex.trans g4.ex) rs2) hf fun Hs5 H5 q zv g5 w5 f5 rp => ?_)
        have e5 := g3.ex.trans (g4.ex.trans g5.ex)
        exact ⟨Hs5, _, acc', tpI, (R2.grow (g3.trans (g4.trans g5)) w5).other f5 n1 neD n3 (fun xs z => by rw [g5.keep Dl _ hD4 neD f4] at z; first | exact st_no rfl xs (Option.some.inj z) | cases z), e2.trans e5, (g2.trans (g3.trans (g4.trans g5))).other h0D, f5, upd_same, rp, hrest⟩
theorem gf_dc {kx vx tg iter : Expr} {scope : Scope} {own : List (Str × Nat)} {pos : Pos} {wi : TI} {g : TG} {tk tv : TE} {is : List Nat} {tgt : D → Option (List D)} {mi : SE (List D)} {mk mv : SE D} (hc : X.calm = true) (hN : X.N.Nodup) (hi : GI K mg r X O E tg iter wi mi) (ok : BlkOk X.N X.env.scope scope own)
    (hg : ∀ s H C cl fp, GG K mg r (Dc2.BX X scope s H C cl fp) tg g is tgt) (ht : ∀ s H C cl fp, GTs K mg r (Dc2.BX X scope s H C cl fp) O E0 [] tt yesT)
    (hk : ∀ s H C cl fp, GE K mg r (Dc2.BX X scope s H C cl fp) O E0 kx tk mk) (hv : ∀ s H C cl fp, GE K mg r (Dc2.BX X scope s H C cl fp) O E0 vx tv mv)
    (hvs : ∀ i ∈ own.map (·.2), i ∉ O) (his : ∀ i ∈ is, i ∈ own.map (·.2)) (hs : ∀ x, foldedSetIterable iter X.env x = pure x := by intro _; rfl) :
    GF K mg r X O E (.DictComp kx vx [⟨tg, iter, [], 0⟩] scope pos) (tDc wi g tt tk tv (own.map (·.2))) (dcE mi (own.map (·.2)) tgt is mk mv) :=
  ⟨pe_dc hc hN hi.pe ok (fun s H C cl fp => (hg s H C cl fp).pe) (fun s H C cl fp => (ht s H C cl fp).pe) (fun s H C cl fp => (hk s H C cl fp).pe) (fun s H C cl fp => (hv s H C cl fp).pe) hs,
    dc_sound hi.snd (hg X.s_0 X.H_0 0 [] []).snd (ht X.s_0 X.H_0 0 [] []).snd (hk X.s_0 X.H_0 0 [] []).snd (hv X.s_0 X.H_0 0 [] []).snd hvs his⟩
theorem dc_stmt {i : Nat} {y : Str} {py : Pos} {kx vx tg iter : Expr} {scope : Scope} {own : List (Str × Nat)} {pos spos : Pos} {wi : TI} {g : TG} {tk tv : TE} {is : List Nat} {tgt : D → Option (List D)} {mi : SE (List D)} {mk mv : SE D} (hc : X.calm = true) (hN : X.N.Nodup) (hi : GI K mg r X O E tg iter wi mi) (ok : BlkOk X.N X.env.scope scope own)
    (hg : ∀ s H C cl fp, GG K mg r (Dc2.BX X scope s H C cl fp) tg g is tgt) (ht : ∀ s H C cl fp, GTs K mg r (Dc2.BX X scope s H C cl fp) O E0 [] tt yesT)
    (hk : ∀ s H C cl fp, GE K mg r (Dc2.BX X scope s H C cl fp) O E0 kx tk mk) (hv : ∀ s H C cl fp, GE K mg r (Dc2.BX X scope s H C cl fp) O E0 vx tv mv)
    (hvs : ∀ i ∈ own.map (·.2), i ∉ O) (his : ∀ i ∈ is, i ∈ own.map (·.2)) (hy : X.N[i]? = some y := by rfl) (hyl : X.env.scope.names.lookup y = some .local := by rfl)
    (hsw : swapsWith (.DictComp kx vx [⟨tg, iter, [], 0⟩] scope pos) (some (.Name y py)) spos.line X.env = pure true := by rfl) (hs : ∀ x, foldedSetIterable iter X.env x = pure x := by intro _; rfl) :
    PS X (.Assign [.Name y py] (.DictComp kx vx [⟨tg, iter, [], 0⟩] scope pos) spos) (tAsg (tDc wi g tt tk tv (own.map (·.2))) (gName i)) ∧
    ∀ Hs0 H0 Hs H σ env tp Q, Rel K mg r O Hs0 H0 Hs H σ env tp → Post K mg r (Fresh K mg r H) E Hs H (dcE mi (own.map (·.2)) tgt is mk mv env tp) Q → tDc wi g tt tk tv (own.map (·.2)) σ H Q :=
  ⟨Dc2.ps_setDcOne hc hN hy hyl hsw hi.pe ok (fun s H C cl fp => (hg s H C cl fp).pe) (fun s H C cl fp => (ht s H C cl fp).pe) (fun s H C cl fp => (hk s H C cl fp).pe) (fun s H C cl fp => (hv s H C cl fp).pe) hs,
    dc_sound hi.snd (hg X.s_0 X.H_0 0 [] []).snd (ht X.s_0 X.H_0 0 [] []).snd (hk X.s_0 X.H_0 0 [] []).snd (hv X.s_0 X.H_0 0 [] []).snd hvs his⟩
theorem dc2_sound {wi wi1 : TI} {g g1 : TG} {tk tv : TE} {is vs is1 vs1 : List Nat} {tgt tgt1 : D → Option (List D)} {mi mi1 : SE (List D)} {mk mv : SE D}
    (hi : ∀ Hs0 H0 Hs H σ env tp Q, Rel K mg r O Hs0 H0 Hs H σ env tp → Post K mg r (fun Hs _ J items => WalksD K mg r J Hs items) E Hs H (mi env tp) Q → wi σ H Q)
    (hg : ∀ v d ds Hs H tp σ (Q : L2.St → Hp → Prop), Wd K mg r Hs H tp → RepD K mg r Hs v d → tgt d = some ds → (∀ vs, RepDs K mg r Hs vs ds → vs.length = is.length → Q (setAll σ is vs) H) → g v σ H Q)
    (hi1 : ∀ Hs0 H0 Hs H σ env tp Q, Rel K mg r O Hs0 H0 Hs H σ env tp → Post K mg r (fun Hs _ J items => WalksD K mg r J Hs items) E0 Hs H (mi1 env tp) Q → wi1 σ H Q)
    (hg1 : ∀ v d ds Hs H tp σ (Q : L2.St → Hp → Prop), Wd K mg r Hs H tp → RepD K mg r Hs v d → tgt1 d = some ds → (∀ vs, RepDs K mg r Hs vs ds → vs.length = is1.length → Q (setAll σ is1 vs) H) → g1 v σ H Q)
    (hk : ∀ Hs0 H0 Hs H σ env tp Q, Rel K mg r O Hs0 H0 Hs H σ env tp → PostE K mg r E0 Hs H (mk env tp) Q → tk σ H Q)
    (hv : ∀ Hs0 H0 Hs H σ env tp Q, Rel K mg r O Hs0 H0 Hs H σ env tp → PostE K mg r E0 Hs H (mv env tp) Q → tv σ H Q)
    (hvs : ∀ i ∈ vs, i ∉ O) (his : ∀ i ∈ is, i ∈ vs) (hv1 : ∀ i ∈ vs1, i ∈ vs) (his1 : ∀ i ∈ is1, i ∈ vs1) :
    ∀ Hs0 H0 Hs H σ env tp Q, Rel K mg r O Hs0 H0 Hs H σ env tp → Post K mg r (Fresh K mg r H) E Hs H (dc2E mi vs tgt is mi1 vs1 tgt1 is1 mk mv env tp) Q → Dc2.wants wi g wi1 g1 tk tv vs vs1 σ H Q := by
  intro Hs0 H0 Hs H σ env tp Q R P
  refine hi _ _ _ _ _ _ _ _ R ?_
  unfold dc2E at P
  cases q : mi env tp with
  | stuck => rw [q] at P; exact P.elim
  | exn cc fs tp1 => rw [q] at P; exact P
  | ok items tp1 =>
    rw [q] at P
    intro J Hs1 H1 ga w1 wd Dl hD
    simp only [RE.bind_ok] at P
    cases q2 : foldR (dcTurn2 tgt is mi1 vs1 tgt1 is1 mk mv (wipeE env vs)) items [] tp1 with
    | stuck => rw [q2] at P; exact P.elim
    | exn cc fs tp2 => rw [q2] at P; exact P.elim
    | ok all tpE =>
      rw [q2] at P
      have P : ∀ v Hs' H', Grow r Hs H Hs' H' → Wd K mg r Hs' H' tpE → Fresh K mg r H Hs' H' v (.dic all) → Q v H' := P
      obtain ⟨Gd, Y, wk, hG, hY⟩ := wd
      have R1 := R.grow ga w1
      obtain ⟨fD, neD⟩ := w1.fresh hD
      have h0D : H Dl = none := ga.free Dl hD
      have Rw := R1.wiped vs hvs
      obtain ⟨gl, wl⟩ := w1.lay (o := .dK []) hD
      obtain ⟨n1, n2⟩ := R.new_ne h0D neD
      have n3 : ∀ j ∈ O, (wipeE σ vs)[j]? ≠ some (some (.ref Dl)) := fun j hj z => n2 j hj (by rw [← z, wipe_get fun q => hvs j q hj])
      have hisO : ∀ i ∈ is, i ∉ O := fun i hi => hvs i (his i hi)
      have hv1O : ∀ i ∈ vs1, i ∉ O := fun i hi => hvs i (hv1 i hi)
      have his1O : ∀ i ∈ is1, i ∉ O := fun i hi => hv1O i (his1 i hi)
      let Pv : Nat → Hp → Prop := fun i H' => ∃ Hs2 kvs acc tp, Rel K mg r O Hs0 H0 Hs2 H' (wipeE σ vs) (wipeE env vs) tp ∧ Same Hs1 Hs2 ∧ Grow r Hs H Hs2 H' ∧ Hs2 Dl = none ∧ H' Dl = some (.dK kvs) ∧ RepP K mg r Hs2 (kvs.map fun q => (keyD q.1, q.2)) acc ∧
        foldR (dcTurn2 tgt is mi1 vs1 tgt1 is1 mk mv (wipeE env vs)) (items.drop i) acc tp = .ok all tpE
      have p0 : Pv 0 (upd H1 Dl (.dK [])) := ⟨Hs1, [], [], tp1, Rw.grow gl wl, Same.refl _, ga.trans gl, fD, upd_same, .nil, q2⟩
      refine ⟨fun i n H' => n = items.length - i ∧ i ≤ items.length ∧ Pv i H', ⟨items.length, by simp, Nat.zero_le _, p0⟩, ?_⟩
      rintro i n H2 ⟨rfl, hil, Hs2, kvs, acc, tp2, R2, e2, g2, f2, hD2, rs2, hc2⟩
      have gd := hG Hs2 H2 e2 R2.wd.sub
      by_cases hi2 : i < items.length
      case neg =>
        have e : i = items.length := by omega
        subst e
        refine .inl ⟨wk.stops _ gd, ?_⟩
        rw [List.drop_length] at hc2
        unfold foldR at hc2
        simp only [RE.ok.injEq] at hc2
        obtain ⟨hx, htp⟩ := hc2
        subst hx htp
        exact P _ Hs2 H2 g2 R2.wd ⟨Dl, rfl, h0D, f2, neD, kvs, hD2, rs2⟩
      refine .inr ⟨wk.goes i H2 hi2 gd, Pv (i + 1), fun H' p' => ⟨items.length - (i + 1), by omega, rfl, hi2, p'⟩, fun x H3 yy => ?_⟩
      obtain ⟨Hs3, d, g3, w3, hd, rd⟩ := hY i Hs2 H2 tp2 x H3 hi2 e2 R2.wd (wk.yields i H2 x H3 hi2 gd yy)
      rw [List.drop_eq_getElem_cons hi2] at hc2
      have hd' : items[i] = d := by rw [List.getElem?_eq_getElem hi2] at hd; exact Option.some.inj hd
      rw [hd'] at hc2
      obtain ⟨accT, tpI, hf, hrest⟩ := foldR_cons hc2
      unfold dcTurn2 at hf
      cases qt : tgt d with
      | none => rw [qt] at hf; cases hf
      | some es =>
        rw [qt] at hf
        simp only at hf
        rw [wipe_eq]
        refine hg x d es Hs3 H3 tp2 _ _ w3 rd qt fun ws rs hl => ⟨by rw [wipe_eq, wipe_setAll is _ _ his, wipe_wipe vs fun _ h => h], ?_⟩
        have R3 := rel_setAll is _ _ _ _ (R2.grow g3 w3) hisO rs hl
        have f3 := g3.no f2 hD2 neD
        have hD3 := g3.keep Dl _ hD2 neD f2
        refine hi1 _ _ _ _ _ _ _ _ R3 ?_
        cases qi : mi1 (setAll (wipeE env vs) is es) tp2 with
        | stuck => rw [qi] at hf; cases hf
        | exn cc fs tp5 => rw [qi] at hf; cases hf
        | ok items1 tpi =>
          rw [qi] at hf
          simp only at hf
          intro J1 Hs5 H5 g5 w5 wd1
          obtain ⟨Gd1, Y1, wk1, hG1, hY1⟩ := wd1
          have f5 := g5.no f3 hD3 neD
          have hD5 := g5.keep Dl _ hD3 neD f3
          have e5 := g3.ex.trans g5.ex
          have R5 := R3.grow g5 w5
          have Rb5 := R5.wiped vs1 hv1O
          have n3b : ∀ j ∈ O, (wipeE (setAll (wipeE σ vs) is ws) vs1)[j]? ≠ some (some (.ref Dl)) := fun j hj z => n3 j hj (by
            rw [← z, wipe_get fun q => hv1O j q hj, setAll_get is _ ws fun q => hisO j q hj])
          let Pv1 : Nat → Hp → Prop := fun j H' => ∃ Hs6 kvs' acc' tp', Rel K mg r O Hs0 H0 Hs6 H' (wipeE σ vs) (wipeE env vs) tp' ∧ Rel K mg r O Hs0 H0 Hs6 H' (wipeE (setAll (wipeE σ vs) is ws) vs1) (wipeE (setAll (wipeE env vs) is es) vs1) tp' ∧ Same Hs5 Hs6 ∧ Same Hs1 Hs6 ∧ Grow r Hs H Hs6 H' ∧ Hs6 Dl = none ∧ H' Dl = some (.dK kvs') ∧ RepP K mg r Hs6 (kvs'.map fun q => (keyD q.1, q.2)) acc' ∧
            foldR (dcTurn tgt1 is1 mk mv (wipeE (setAll (wipeE env vs) is es) vs1)) (items1.drop j) acc' tp' = .ok accT tpI
          have p1 : Pv1 0 H5 := ⟨Hs5, kvs, acc, tpi, R2.grow (g3.trans g5) w5, Rb5, Same.refl _, e2.trans e5, g2.trans (g3.trans g5), f5, hD5, RepP.mono e5 rs2, hf⟩
          refine ⟨fun j k H' => k = items1.length - j ∧ j ≤ items1.length ∧ Pv1 j H', ⟨items1.length, by simp, Nat.zero_le _, p1⟩, ?_⟩
          rintro j k H6 ⟨rfl, hjl, Hs6, kvs6, acc6, tp6, Ra6, Rb6, es6, e6, g6, f6, hD6, rs6, hc6⟩
          have gd1 := hG1 Hs6 H6 es6 Ra6.wd.sub
          by_cases hj2 : j < items1.length
          case neg =>
            have e : j = items1.length := by omega
            subst e
            refine .inl ⟨wk1.stops _ gd1, ?_⟩
            rw [List.drop_length] at hc6
            unfold foldR at hc6
            simp only [RE.ok.injEq] at hc6
            obtain ⟨hx, htp⟩ := hc6
            subst hx htp
            exact ⟨Hs6, kvs6, acc6, tp6, Ra6, e6, g6, f6, hD6, rs6, hrest⟩
          refine .inr ⟨wk1.goes j H6 hj2 gd1, Pv1 (j + 1), fun H' p' => ⟨items1.length - (j + 1), by omega, rfl, hj2, p'⟩, fun x1 H7 yy1 => ?_⟩
          obtain ⟨Hs7, d1, g7, w7, hd1, rd1⟩ := hY1 j Hs6 H6 tp6 x1 H7 hj2 es6 Ra6.wd (wk1.yields j H6 x1 H7 hj2 gd1 yy1)
          rw [List.drop_eq_getElem_cons hj2] at hc6
          have hd1' : items1[j] = d1 := by rw [List.getElem?_eq_getElem hj2] at hd1; exact Option.some.inj hd1
          rw [hd1'] at hc6
          obtain ⟨acc8, tp8, hf1, hrest1⟩ := foldR_cons hc6
          unfold dcTurn at hf1
          cases qt1 : tgt1 d1 with
          | none => rw [qt1] at hf1; cases hf1
          | some es1 =>
            rw [qt1] at hf1
            simp only at hf1
            rw [wipe_eq]
            refine hg1 x1 d1 es1 Hs7 H7 tp6 _ _ w7 rd1 qt1 fun ws1 rs1 hl1 => ⟨by rw [wipe_eq, wipe_setAll is1 _ _ his1, wipe_wipe vs1 fun _ h => h], ?_⟩
            have R7 := rel_setAll is1 _ _ _ _ (Rb6.grow g7 w7) his1O rs1 hl1
            have f7 := g7.no f6 hD6 neD
            have hD7 := g7.keep Dl _ hD6 neD f6
            refine pair_sound (F := Pv1 (j + 1)) hk hv R7 neD f7 hD7 (RepP.mono g7.ex rs6) hf1 fun Hs9 H9 q zv g9 w9 f9 rp => ?_
            have e9 := g7.ex.trans g9.ex
            exact ⟨Hs9, _, acc8, tp8, (Ra6.grow (g7.trans g9) w9).other f9 n1 neD n3 (fun xs z => by rw [g9.keep Dl _ hD7 neD f7] at z; first | exact st_no rfl xs (Option.some.inj z) | cases z), (Rb6.grow (g7.trans g9) w9).other f9 n1 neD n3b (fun xs z => by rw [g9.keep Dl _ hD7 neD f7] at z; first | exact st_no rfl xs (Option.some.inj z) | cases z), es6.trans e9, e6.trans e9, (g6.trans (g7.trans g9)).other h0D, f9, upd_same, rp, hrest1⟩
theorem gf_dc2 {kx vx tg iter tg1 iter1 : Expr} {scope : Scope} {own : List (Str × Nat)} {pos : Pos} {wi wi1 : TI} {g g1 : TG} {tk tv : TE} {is is1 vs1 : List Nat} {tgt tgt1 : D → Option (List D)} {mi mi1 : SE (List D)} {mk mv : SE D} (hc : X.calm = true) (hN : X.N.Nodup) (hi : GI K mg r X O E tg iter wi mi) (ok : BlkOk X.N X.env.scope scope own)
    (hg : ∀ s H C cl fp, GG K mg r (Dc2.BX X scope s H C cl fp) tg g is tgt) (hi1 : ∀ s H C cl fp, GI K mg r (Dc2.BX X scope s H C cl fp) O E0 tg1 iter1 wi1 mi1) (hg1 : ∀ s H C cl fp, GG K mg r (Dc2.BX X scope s H C cl fp) tg1 g1 is1 tgt1)
    (hk : ∀ s H C cl fp, GE K mg r (Dc2.BX X scope s H C cl fp) O E0 kx tk mk) (hv : ∀ s H C cl fp, GE K mg r (Dc2.BX X scope s H C cl fp) O E0 vx tv mv)
    (hvs : ∀ i ∈ own.map (·.2), i ∉ O) (his : ∀ i ∈ is, i ∈ own.map (·.2)) (hv1 : ∀ i ∈ vs1, i ∈ own.map (·.2)) (his1 : ∀ i ∈ is1, i ∈ vs1) (hs : ∀ x, foldedSetIterable iter X.env x = pure x := by intro _; rfl) (hs1 : ∀ env x, foldedSetIterable iter1 env x = pure x := by intro _ _; rfl) :
    GF K mg r X O E (.DictComp kx vx [⟨tg, iter, [], 0⟩, ⟨tg1, iter1, [], 0⟩] scope pos) (Dc2.wants wi g wi1 g1 tk tv (own.map (·.2)) vs1) (dc2E mi (own.map (·.2)) tgt is mi1 vs1 tgt1 is1 mk mv) :=
  ⟨Dc2.pe_dcTwo hc hN hi.pe ok hv1 (fun s H C cl fp => (hg s H C cl fp).pe) (fun s H C cl fp => (hi1 s H C cl fp).pe) (fun s H C cl fp => (hg1 s H C cl fp).pe) (fun s H C cl fp => (hk s H C cl fp).pe) (fun s H C cl fp => (hv s H C cl fp).pe) hs hs1,
    dc2_sound hi.snd (hg X.s_0 X.H_0 0 [] []).snd (hi1 X.s_0 X.H_0 0 [] []).snd (hg1 X.s_0 X.H_0 0 [] []).snd (hk X.s_0 X.H_0 0 [] []).snd (hv X.s_0 X.H_0 0 [] []).snd hvs his hv1 his1⟩
end
end G
set_option maxHeartbeats 1000000
namespace G
open PySem PySem.Spec PyProof.Rows L2
end G
set_option maxHeartbeats 1000000
namespace G
open PySem PySem.Spec PyProof.Rows L2
end G
set_option maxHeartbeats 1000000
namespace G
open PySem PySem.Spec PyProof.Rows L2
end G
set_option maxHeartbeats 1000000
namespace G
open PySem PySem.Spec PyProof.Rows L2
end G
set_option maxHeartbeats 1000000
namespace G
open PySem PySem.Spec PyProof.Rows L2
end G
set_option maxHeartbeats 1000000
namespace G
open PySem PySem.Spec PyProof.Rows L2
end G
set_option maxHeartbeats 1000000
namespace G
open PySem PySem.Spec PyProof.Rows L2
end G
set_option maxHeartbeats 1000000
namespace G
open PySem PySem.Spec PyProof.Rows L2
end G
set_option maxHeartbeats 1000000
namespace RvT
open PySem PySem.Spec PyProof.Rows L2 HT
end RvT
namespace G
open PySem PySem.Spec PyProof.Rows L2 RvT
end G
set_option maxHeartbeats 1000000
namespace G
open PySem PySem.Spec PyProof.Rows L2
section
variable {r : Addr} {X : Cx} {K : PySem.W.Frag} {mg : Str → Option Value} {O : List Nat} {E : XK} {e : Expr} {te : TE} {apos cpos tpos : Pos} {elts : List Expr} {kk : Nat}
theorem RepP.len {Hs : Hp} : ∀ {a : List (D × V)} {ds : List (D × D)}, RepP K mg r Hs a ds → a.length = ds.length
  | _, _, .nil => rfl
  | _, _, .cons _ q => by simp only [List.length_cons, RepP.len q]
end
end G
set_option maxHeartbeats 1000000
namespace SrtI
open PySem PySem.Spec PyProof.Rows PyProof.Rows.G PySem.W
section
variable {prog : Program} {w : World} {A : Around} {E : Value → Shared → Prop} {s : Shared} {r d : Addr} {es : Array DictEntry} {ep : Nat}
/-- the pair that stands at a -/
def PrAt (h : Heap) (a : Addr) (p : Int × Int) : Prop := ∃ t u, h.get? a = some { cls := .type "tuple", data := .seq #[.int p.1 t, .int p.2 u] }
theorem PrAt.keep {h h' : Heap} {a : Addr} {p : Int × Int} (x : PrAt h a p) (k : ∀ o, h.get? a = some o → h'.get? a = some o) : PrAt h' a p := by
  obtain ⟨t, u, e⟩ := x
  exact ⟨t, u, k _ e⟩
end
end SrtI
namespace G
open PySem PySem.Spec PyProof.Rows L2 SrtI
end G
set_option maxHeartbeats 1000000
namespace G
open PySem PySem.Spec PyProof.Rows L2 SrtI
def lII (a b : Int × Int) : Bool := decide (a.1 < b.1 ∨ (a.1 = b.1 ∧ a.2 < b.2))
end G
set_option maxHeartbeats 1000000
namespace MxI
open PySem PySem.Spec PyProof.Rows PySem.W SrtI G
theorem dl (a b : Int × Int) : dataLt (.tuple [.int a.1, .int a.2]) (.tuple [.int b.1, .int b.2]) = lII a b := by
  unfold lII dataLt
  by_cases h : a.1 < b.1
  · simp [keyToks, keyToksAll, PyProof.Rows.lexLt, itemOrd, itemLt, h]
  · by_cases h2 : b.1 < a.1
    · simp [keyToks, keyToksAll, PyProof.Rows.lexLt, itemOrd, itemLt, h, h2]; omega
    · have e : a.1 = b.1 := by omega
      by_cases h3 : a.2 < b.2
      · simp [keyToks, keyToksAll, PyProof.Rows.lexLt, itemOrd, itemLt, e, h3]
      · by_cases h4 : b.2 < a.2
        · simp [keyToks, keyToksAll, PyProof.Rows.lexLt, itemOrd, itemLt, e, h3, h4]
        · have e2 : a.2 = b.2 := by omega
          simp [keyToks, keyToksAll, PyProof.Rows.lexLt, itemOrd, itemLt, e, e2]
theorem al (a b : Int × Int) : alike (.tuple [.int a.1, .int a.2]) (.tuple [.int b.1, .int b.2]) = true := by simp [alike, alikeAll]
theorem dd (a : Int × Int) : (PyData.tuple [.int a.1, .int a.2]).depth ≤ 3 := by simp [PyData.depth, PyData.depthAll]
theorem PrAt.reads {h : Heap} {a : Addr} {p : Int × Int} (x : PrAt h a p) : Reads h (.ref a) (.tuple [.int p.1, .int p.2]) [] := by
  obtain ⟨t, u, e⟩ := x
  exact .tuple e rfl rfl (.cons (as := []) (bs := []) (.int _ _) (.cons (as := []) (bs := []) (.int _ _) .nil))
end MxI
namespace G
open PySem PySem.Spec PyProof.Rows L2 SrtI MxI
end G
set_option maxHeartbeats 1000000
namespace G
open PySem PySem.Spec PyProof.Rows L2
end G
set_option maxHeartbeats 1000000
namespace ZpM
open PySem PySem.Spec PyProof.Rows L2
end ZpM
namespace G
open PySem PySem.Spec PyProof.Rows L2 ZpM
end G
set_option maxHeartbeats 1000000
namespace G
open PySem PySem.Spec PyProof.Rows L2
end G
set_option maxHeartbeats 1000000
namespace G
open PySem PySem.Spec PyProof.Rows L2
section
variable {r : Addr} {X : Cx} {K : PySem.W.Frag} {mg : Str → Option Value} {O Ol : List Nat} {E : XK} {pos : Pos}
variable {Hs0 H0 Hs H : Hp} {σ : L2.St} {env : DEnv} {tp : List D} {p : Addr} {o : HO}
theorem Rel.laid (R : Rel K mg r O Hs0 H0 Hs H σ env tp) (h : H p = none) (u : HO) : Rel K mg r O Hs0 H0 Hs (upd H p u) σ env tp :=
  R.grow (R.wd.lay (o := u) h).1 (R.wd.lay (o := u) h).2
variable {tg e : Expr} {mi : SE (List D)} {wi : TI} {g : TG}
end
end G
set_option maxHeartbeats 1000000
namespace DcB
open PySem PySem.Spec PyProof.Rows L2
/-- the dict at D, its keys these truth values -/
def dB (P : Program) (w : World) (D : Addr) (ks : List Bool) : HO := .ext fun h => (D == sysModules) = false ∧ ∃ vs : List (Bool × Value), vs.map (·.1) = ks ∧ h.DictOf (PpSet.boolK P w) D vs
def putB (ks : List Bool) (k : Bool) : List Bool := if ks.any (fun x => x = k) then ks else ks ++ [k]
theorem stored_keys (k : Bool) (r : Value) : ∀ vs : List (Bool × Value), (PySem.stored vs k r).map (·.1) = putB (vs.map (·.1)) k := fun vs => by
  unfold PySem.stored putB
  rw [List.any_map]
  show (if vs.any (fun kv => decide (kv.1 = k)) = true then _ else _ : List (Bool × Value)).map _ = if vs.any (fun kv => decide (kv.1 = k)) = true then _ else _
  split
  · rw [List.map_map]
    refine List.map_congr_left fun x _ => ?_
    show (if x.1 = k then (x.1, r) else x).1 = x.1
    split <;> rfl
  · rw [List.map_append]; rfl
section
variable {X : Cx} {pins : List (Addr × Obj)} {σ : L2.St} {H : Hp} {s : Shared} {D : Addr} {ks : List Bool}
theorem dB_ok {P : Program} {w : World} {H : Hp} {h : Heap} {vs : List (Bool × Value)} (hd : (D == sysModules) = false) (e : vs.map (·.1) = ks) (dd : h.DictOf (PpSet.boolK P w) D vs) : ObjOk P w H h D (dB P w D ks) :=
  ⟨⟨hd, vs, e, dd⟩, (let ⟨q, _, _, hq, _⟩ := dd; ⟨q, hq⟩), fun h1 h2 ⟨a, us, e, d⟩ k => ⟨a, us, e, d.at k⟩⟩
theorem set (I : L2.Inv X pins σ H s) (hD : H D = some (dB X.prog X.w D ks)) (hz : ks.length ≤ sizeLine) {k : Bool} {u r : Value} {E : Value → Shared → Prop} {Q : Unit → Shared → Prop} (ry : RelV (.bl k) u)
    (h : ∀ s', L2.Inv X pins σ (upd H D (dB X.prog X.w D (putB ks k))) s' → Q () s') : wpAny (model X.prog X.w) X.A (dictSet D u r) Q E s := by
  have ok : ObjOk X.prog X.w H s.heap D (dB X.prog X.w D ks) := I.hok D _ hD
  obtain ⟨⟨hd, vs, e, dd⟩, _, _⟩ := ok
  obtain rfl : u = Value.bool k := ry
  refine wpAny_dictSet_pairs (knd := PpSet.boolK X.prog X.w) (hsz := by rw [← List.length_map (f := (·.1)), e]; exact hz) (PpSet.boolK_is _ _ k) dd fun h' dd' hs => h _ ?_
  have he : ∃ q, h'.get? D = some q := let ⟨q, _, _, hq, _⟩ := dd'; ⟨q, hq⟩
  exact d_write I (by rw [hD]; exact True.intro) hs he (dB_ok hd (by rw [stored_keys, e]) dd')
end
end DcB
namespace G
open PySem PySem.Spec PyProof.Rows L2
end G
set_option maxHeartbeats 1000000
namespace G
open PySem PySem.Spec PyProof.Rows L2
end G
set_option maxHeartbeats 1000000
namespace G
open PySem PySem.Spec PyProof.Rows L2
end G
set_option maxHeartbeats 1000000
namespace G
open PySem PySem.Spec PyProof.Rows L2
section
variable {r : Addr} {X : Cx} {K : PySem.W.Frag} {mg : Str → Option Value} {O : List Nat} {E : XK} {e a b : Expr} {ts : TA} {ta tb : TE} {p pos : Pos} {ms : SE (List D)}
/-- a tuple that stands still and has no dict of its own -/
def tyQ (v : V) (H : Hp) : Prop := ∃ p o xs, v = .ref p ∧ H p = some (.frz o (.tup xs)) ∧ o.dict = none
theorem tyQ_is {pins : List (Addr × Obj)} {σ : L2.St} {H : Hp} {s : Shared} {x : V} {v : Value} (I : Inv X pins σ H s) (h : RelV x v) (ty : tyQ x H) :
    s.TypeIs v "tuple" ∧ ∀ a, v = .ref a → ∃ ob, s.heap.get? a = some ob ∧ ob.dict = none := by
  obtain ⟨p, o, xs, rfl, h1, hd⟩ := ty
  cases h
  obtain ⟨e, z, its, rv, o', ho, hc, n, hs⟩ := (show ObjOk X.prog X.w H s.heap p (.frz o (.tup xs)) from I.hok p _ h1)
  exact ⟨⟨o', ho, hc⟩, fun a e2 => by cases e2; exact ⟨o, e, hd⟩⟩
def tBMQ (R : V → List V → Hp → VK → Prop) (to : TE) (t : TA) : TE := fun σ H Q => to σ H fun x H1 => tyQ x H1 ∧ t σ H1 fun xs H2 => R x xs H2 Q
theorem pe_bmQ {o e : Expr} {es : List Expr} {to : TE} {t : TA} {name : Str} {apos cpos : Pos} {id : String} {R : V → List V → Hp → VK → Prop}
    (pa : PlainAttrs "tuple") (slot : Slot "tuple" name id) (hty : typeOf (.builtin id) = pure (.type "method_descriptor")) (hm : MtR X id R) (ho : PE X o to) (ha : PA X (e :: es) t)
    (hbase : attributeBase o name X.env (eval o X.env) = eval o X.env := by rfl)
    (hfew : ((backTo cpos (starEach (e :: es) X.env)).all (fun x => !x.1) && (backToKw cpos (keywordEach [] X.env)).all (fun x => x.1.isSome)
      && decide ((e :: es).length + ([] : List Keyword).length + (if ([] : List Keyword).isEmpty then 0 else 1) < 30)) = true := by rfl)
    (hline : (apos.endLine == cpos.line) = true := by rfl) (hs : starEach (e :: es) X.env = (false, eval e X.env) :: starEach es X.env := by rfl) (hplain : (backTo cpos (starEach es X.env)).any (·.1) = false := by rfl) :
    PE X (.Call (.Attribute o name apos) (e :: es) [] cpos) (tBMQ R to t) := by
  refine ⟨fun pins s σ H Q I h => ?_⟩
  refine wpAny_Call_method_late hbase hfew hline rfl (thn (ho.run pins s σ H _ I h) fun v s1 ⟨x, H1, I1, r1, ty, q1⟩ => ?_)
  obtain ⟨h1, h2⟩ := tyQ_is I1 r1 ty
  refine ⟨"tuple", id, pa, slot, hty, h1, h2, ?_⟩
  have hA := ha.run cpos pins s1 σ H1 _ I1 q1
  rw [hs] at hA ⊢
  refine Calls.callWith_builtin (by show (false || (backTo cpos (starEach es X.env)).any (·.1)) = false; rw [hplain] <;> rfl) (Calls.evalArgs_plain ?_)
  exact thn hA fun us s2 ⟨vs, H2, I2, r2, q2⟩ => hm pins s2 σ H2 x vs v us Q I2 r1 r2 q2
def rIndexT (K : PySem.W.Frag) : V → List V → Hp → VK → Prop := fun x xs H Q => ∃ (a : Addr) (ns : List Int) (k : Int), x = V.ref a ∧ xs = [.int k] ∧ SqT K H a (ns.map V.int) ∧ k ∈ ns ∧ Q (.int (ns.idxOf k : Nat)) H
theorem mt_indexT : MtR X "tuple.index" (rIndexT X.K) := by
  intro pins s σ H x xs v us Q I rx rxs h
  obtain ⟨a, ns, k, rfl, rfl, hs, hk, q⟩ := h
  cases rx
  cases rxs with
  | cons ry rt =>
    cases rt
    obtain ⟨t, rfl⟩ := ry
    obtain ⟨its, rv, pl, hz⟩ := I.tuple hs
    exact PySem.SeqAt.tuple_index_ints pl (Vals.ints rv) hk ⟨.int _, H, I.tok _, ⟨_, rfl⟩, q⟩
def isTuq : D → Bool | .tuq _ => true | _ => false
def indexTD (d e : D) : Option D := match d, e with
  | .tuq xs, .int i => (unI xs).bind fun ns => if i ∈ ns then some (.int ((ns.idxOf i : Nat) : Int)) else none
  | _, _ => none
def indexTE (ma mb : SE D) : SE D := methE isTuq indexTD ma mb
theorem repT_tuq {Hs H : Hp} {tp : List D} {v : V} {ds : List D} (w : Wd K mg r Hs H tp) (h : RepT K mg r Hs H v (.tuq ds)) : ∃ p o vs, v = .ref p ∧ Hs p = some (.frz o (.tup vs)) ∧ H p = some (.frz o (.tup vs)) ∧ o.dict = none ∧ RepDs K mg r Hs vs ds := by
  rcases h with h | ⟨p, e, _, a⟩
  · cases h with
    | tuq a n b => exact ⟨_, _, _, rfl, a, (w.sub _ _ a).frz, n, b⟩
  · exact a.elim
theorem ge_indexT {ma mb : SE D} {p1 : Pos} (ha : GO K mg r X O E a ta ma) (hb : GO K mg r X O E b tb mb) (hK : X.K = K := by rfl)
    (hbase : attributeBase a "index" X.env (eval a X.env) = eval a X.env := by rfl)
    (hfew : ((backTo pos (starEach [b] X.env)).all (fun x => !x.1) && (backToKw pos (keywordEach [] X.env)).all (fun x => x.1.isSome) && decide ([b].length + ([] : List Keyword).length + (if ([] : List Keyword).isEmpty then 0 else 1) < 30)) = true := by rfl)
    (hline : (p1.endLine == pos.line) = true := by rfl) (hs : starEach [b] X.env = (false, eval b X.env) :: starEach [] X.env := by rfl) (hplain : (backTo pos (starEach [] X.env)).any (·.1) = false := by rfl) :
    GE K mg r X O E (.Call (.Attribute a "index" p1) [b] [] pos) (tBMQ (rIndexT K) ta (tCons tb tNil)) (indexTE ma mb) := by
  subst hK
  refine ⟨pe_bmQ PySem.F.plainAttrs_tuple PySem.F.slot_tuple_index PySem.F.type_tuple_index mt_indexT ha.pe (pa_cons hb.pe pa_nil hs) hbase hfew hline hs hplain, fun Hs0 H0 Hs H σ env tp Q Rl P => ?_⟩
  refine ha.snd _ _ _ _ _ _ _ _ Rl (Post.bind P fun v Hs1 H1 d tp1 _ g w rv P1 => ?_)
  split at P1
  · rename_i hpd
    have hq : tyQ v H1 := by
      cases d with
      | tuq z =>
        obtain ⟨p, o, vs, rfl, _, k1, k2, _⟩ := repT_tuq w rv
        exact ⟨p, o, vs, rfl, k1, k2⟩
      | _ => cases hpd
    refine ⟨hq, ?_⟩
    refine hb.snd _ _ _ _ _ _ _ _ (Rl.grow g w) (Post.bind P1 fun y Hs2 H2 e tp2 _ g2 w2 ry P2 => ?_)
    obtain ⟨z, hz, k⟩ := Post.ok_of P2
    have rv := rv.grow g2
    unfold indexTD at hz
    split at hz
    · obtain ⟨ns, h1, h2⟩ := Option.bind_eq_some_iff.mp hz
      split at h2
      · rename_i hin
        cases h2
        rw [unI_ok h1] at rv
        obtain ⟨p, o, vs, rfl, _, k1, _, k3⟩ := repT_tuq w2 rv
        rw [repT_int ry]
        have e1 : vs = ns.map V.int := RepDs.ints_of k3
        subst e1
        exact ⟨p, ns, _, rfl, rfl, .inl (.inr ⟨_, k1⟩), hin, k _ _ _ (Grow.refl _ _) w2 (.int _)⟩
      · cases h2
    · cases hz
  · exact P1.elim
/-- tuple(xs) of a list, the new object told -/
def rTupleQ (K : PySem.W.Frag) : List V → Hp → VK → Prop := fun xs H Q => ∃ p ys, xs = [.ref p] ∧ SqL K H p ys ∧ ∀ l o, H l = none → o.dict = none → Q (.ref l) (upd H l (.frz o (.tup ys)))
theorem call_tupleQ : CallR X (.type "tuple") (rTupleQ X.K) := by
  intro pins s σ H xs us Q I rx h
  obtain ⟨p, ys, rfl, hs, q⟩ := h
  rw [Vals.ref1 rx]
  obtain ⟨its, rv, pl, hz⟩ := I.list hs
  refine call_tuple_list pl.isList (fun h' hk => ?_) (by rw [List.size_toArray, ← rv.length]; exact hz)
  have I1 : Inv X pins σ H { s with heap := h' } := I.kept (t' := s.toks) hk
  have I2 : Inv X pins σ (upd H h'.objs.size (.frz { cls := .type "tuple", data := .seq its.toArray } (.tup ys))) { s with heap := h'.push { cls := .type "tuple", data := .seq its.toArray } } :=
    I1.laid (t' := s.toks) (fun b o e => Heap.get?_push_of_some _ e) (Nat.le_refl _) (show ObjOk X.prog X.w _ _ _ (.frz _ (.tup ys)) from ⟨Heap.get?_push_size _ rfl, hz, its, rv, IsTup.new _ _⟩)
  exact ⟨.ref h'.objs.size, _, I2, rfl, q _ _ (I1.hok.fresh (Nat.le_refl _)) rfl⟩
def tupleqD : List D → Option D
  | [.lst xs] => some (.tuq xs)
  | _ => none
theorem cs_tupleQ : CallS K mg r (rTupleQ K) tupleqD := by
  intro Hs H tp xs ds z Q w rx hz k
  unfold tupleqD at hz
  split at hz
  · cases hz
    obtain ⟨x, rfl, h⟩ := paired1 rx
    obtain ⟨p, vs, rfl, h1, h2⟩ := repT_lst w h
    refine ⟨p, vs, rfl, .of h1, fun q o hq hd => ?_⟩
    obtain ⟨g', w'⟩ := w.alloc (o := .frz o (.tup vs)) hq
    exact k _ _ _ g' w' (.tuq upd_same hd (h2.mono g'.ex))
  · cases hz
theorem ge_tupleQ (hm : X.mg "tuple" = none) (ha : GAO K mg r X O E [e] ts ms) (hg : Gl X "tuple" := by rfl) (he : starEach [e] X.env = (false, eval e X.env) :: starEach [] X.env := by rfl) (hpl : (backTo pos (starEach [] X.env)).any (·.1) = false := by rfl) (hK : X.K = K := by rfl) : GE K mg r X O E (.Call (.Name "tuple" p) [e] [] pos) (tCB (rTupleQ K) ts) (callB tupleqD ms) := by
  subst hK; exact ge_callTy (R := rTupleQ X.K) call_tupleQ cs_tupleQ hm ha hg (by decide +kernel) (by decide) (by decide) he hpl
/-- what is told of the object is forgotten -/
def unqD : D → Option D
  | .tuq xs => some (.tup xs)
  | _ => none
def unqE (m : SE D) : SE D := fun env tp => (m env tp).bind fun d tp1 => RE.of (unqD d) tp1
theorem ge_unq {m : SE D} (ha : GO K mg r X O E a ta m) : GE K mg r X O E a ta (unqE m) := by
  refine ⟨ha.pe, fun Hs0 H0 Hs H σ env tp Q Rl P => ?_⟩
  refine ha.snd _ _ _ _ _ _ _ _ Rl (Post.bind P fun v Hs1 H1 d tp1 _ g w rv P1 => ?_)
  obtain ⟨z, hz, k⟩ := Post.ok_of P1
  unfold unqD at hz
  split at hz
  · cases hz
    obtain ⟨p, o, vs, rfl, h1, _, _, h2⟩ := repT_tuq w rv
    exact k _ _ _ (Grow.refl _ _) w (.tupR (.inr ⟨_, h1⟩) h2)
  · cases hz
end
end G
set_option maxHeartbeats 1000000
namespace G
open PySem L2
/-- with draws: T holds of the tape -/
theorem compL_eff {T : List D → Prop} {R : D → D → Prop} {f : D → List D → RE (Option D)} : ∀ {items : List D} {tp : List D}, T tp → (∀ d ∈ items, ∀ tp, T tp → ∃ x tp', f d tp = .ok (some x) tp' ∧ T tp' ∧ R d x) → ∃ xs tp', compL f items tp = .ok xs tp' ∧ T tp' ∧ Paired R items xs
  | [], tp, ht, _ => ⟨[], tp, rfl, ht, .nil⟩
  | d :: ds, tp, ht, h => by
    obtain ⟨x, tp1, e1, t1, r1⟩ := h d List.mem_cons_self tp ht
    obtain ⟨xs, tp2, e2, t2, r2⟩ := compL_eff (items := ds) t1 fun d' hd => h d' (List.mem_cons_of_mem _ hd)
    refine ⟨x :: xs, tp2, ?_, t2, .cons r1 r2⟩
    unfold compL
    rw [e1]
    simp only
    rw [e2]
    rfl
theorem compE_eff {T : List D → Prop} {R : D → D → Prop} {mi : SE (List D)} {vs : List Nat} {i : Nat} {m : SE D} {env : DEnv} {tp tp1 : List D} {items : List D} (h1 : mi env tp = .ok items tp1) (ht : T tp1) (hl : items.length ≤ sizeLine)
    (h : ∀ d ∈ items, ∀ tp, T tp → ∃ x tp', m ((wipeE env vs).set i (some d)) tp = .ok x tp' ∧ T tp' ∧ R d x) : ∃ xs tp', compE mi vs t1 [i] yesT m env tp = .ok (.lst xs) tp' ∧ T tp' ∧ Paired R items xs := by
  obtain ⟨xs, tp', e, t, r⟩ := compL_eff (f := compTurn1 t1 [i] yesT m (wipeE env vs)) (items := items) ht (R := R) fun d hd tp ht => by
    obtain ⟨x, tp', e, t, r⟩ := h d hd tp ht
    refine ⟨x, tp', ?_, t, r⟩
    unfold compTurn1 t1
    simp only [setAll]
    unfold yesT
    simp only [RE.bind_ok, if_true]
    rw [e]
    rfl
  refine ⟨xs, tp', ?_, t, r⟩
  unfold compE
  rw [h1]
  simp only [RE.bind_ok]
  rw [if_pos hl, e]
/-- a loop by its invariant -/
theorem forL_inv {i : Nat} {body : SS} (I : Nat → DEnv → List D → Prop) : ∀ {items : List D} {env : DEnv} {tp : List D} (k : Nat), I k env tp → (∀ j d env tp, items[j]? = some d → I (k + j) env tp → ∃ env' tp', body (env.set i (some d)) tp = .nx env' tp' ∧ I (k + j + 1) env' tp') →
    ∃ env' tp', forL t1 [i] body items env tp = .nx env' tp' ∧ I (k + items.length) env' tp'
  | [], env, tp, k, h0, _ => ⟨env, tp, rfl, h0⟩
  | d :: ds, env, tp, k, h0, h => by
    obtain ⟨e1, tp1, q1, i1⟩ := h 0 d env tp rfl h0
    obtain ⟨e2, tp2, q2, i2⟩ := forL_inv I (items := ds) (k + 1) i1 fun j d' env tp hj hi => by
      have e : k + 1 + j = k + (j + 1) := by omega
      rw [e] at hi ⊢
      exact h (j + 1) d' env tp (by simpa using hj) hi
    refine ⟨e2, tp2, ?_, by rw [List.length_cons]; have e : k + (ds.length + 1) = k + 1 + ds.length := by omega
                            rw [e]; exact i2⟩
    unfold forL t1
    simp only [setAll]
    rw [q1]
    exact q2
abbrev Row := List Bool
abbrev Pic := List Row
def sg (b : Bool) : Nat := if b then 35 else 46
def rowS (r : Row) : Str := ⟨(r.map sg).toArray⟩
def picD (p : Pic) : D := .tup (p.map fun r => .str (rowS r))
structure PicOk (h w : Nat) (p : Pic) : Prop where
  len : p.length = h
  row : ∀ r ∈ p, r.length = w
  h1 : 1 ≤ h
  h30 : h ≤ 30
  w1 : 1 ≤ w
  w30 : w ≤ 30
theorem rowS_len (r : Row) : (rowS r).length = r.length := by
  show ((r.map sg).toArray).size = _
  rw [List.size_toArray, List.length_map]
theorem rowS_app (a b : Row) : rowS a ++ rowS b = rowS (a ++ b) := by
  show (⟨(a.map sg).toArray ++ (b.map sg).toArray⟩ : Str) = _
  unfold rowS
  rw [List.map_append, List.append_toArray]
theorem rowS_inj {a b : Row} (h : rowS a = rowS b) : a = b := by
  have h1 : (a.map sg).toArray = (b.map sg).toArray := congrArg Str.cps h
  have h2 : a.map sg = b.map sg := by
    have := congrArg Array.toList h1
    simpa using this
  have hs : ∀ x y, sg x = sg y → x = y := by decide
  exact List.map_inj_right (fun x y => hs x y) |>.mp h2
theorem str_black : ("#" : Str) = rowS [true] := by decide +kernel
theorem str_white : ("." : Str) = rowS [false] := by decide +kernel
theorem str_empty : ("" : Str) = rowS [] := by decide +kernel
theorem row_toList (r : Row) : (rowS r).cps.toList = r.map sg := by
  show ((r.map sg).toArray).toList = _
  simp
theorem atI_nat' {α : Type} (xs : List α) (j : Nat) : atI xs (j : Int) = xs[j]? := by
  unfold atI ixN
  rw [if_pos (by omega)]
  by_cases h : (j : Int) < xs.length
  · rw [if_pos h]; rfl
  · rw [if_neg h, List.getElem?_eq_none (by omega)]; rfl
theorem atI_int {α : Type} (xs : List α) {i : Int} (h : 0 ≤ i) : atI xs i = xs[i.toNat]? := by
  obtain ⟨j, rfl⟩ := Int.eq_ofNat_of_zero_le h
  rw [atI_nat', Int.toNat_natCast]
theorem glue_nil : ∀ ys : List Row, Str.join (rowS []) (ys.map rowS) = rowS ys.flatten
  | [] => rfl
  | [y] => by
    show rowS y = _
    simp
  | y :: z :: ys => by
    have ih := glue_nil (z :: ys)
    show (rowS y ++ rowS []) ++ Str.join (rowS []) ((z :: ys).map rowS) = _
    rw [ih, rowS_app, rowS_app]
    simp
theorem join_rows (ys : List Row) : Txt.join (rowS []) (ys.map rowS) = rowS ys.flatten := by
  rw [TL.join_eq, glue_nil]
theorem small_line {n : Nat} (h : n ≤ 1000000) : n ≤ sizeLine := by rw [sizeLine_eq]; omega
structure Tape (tp : List D) : Prop where
  ex : ∃ (ns : List Int) (pos seed rest : Int), tp = [.scr ns, .int pos, .int seed, .int rest] ∧ 0 ≤ pos ∧ 0 ≤ seed ∧ seed < 2147483647 ∧ ns.length ≤ 63
theorem tape0 (ns : List Int) (c : Int) (h : ns.length ≤ 63) (h0 : 0 ≤ c) (h1 : c < 2147483647) : Tape [.scr ns, .int 0, .int c, .int 0] := ⟨⟨ns, 0, c, 0, rfl, by omega, h0, h1, h⟩⟩
end G
set_option maxHeartbeats 1000000
namespace T
open PySem L2 G
abbrev eN (n : Nat) : D := .int (n : Int)
abbrev eZ (i : Int) : D := .int i
abbrev eB (b : Bool) : D := .bl b
abbrev eR (r : Row) : D := .str (rowS r)
abbrev eG (b : Bool) : D := .str (rowS [b])
abbrev eU (_ : Unit) : D := .non
abbrev eL {α : Type} (e : α → D) (xs : List α) : D := .lst (xs.map e)
abbrev eT {α : Type} (e : α → D) (xs : List α) : D := .tup (xs.map e)
abbrev eP {α β : Type} (a : α → D) (b : β → D) (x : α × β) : D := .tup [a x.1, b x.2]
abbrev eP4 {α β γ δ : Type} (a : α → D) (b : β → D) (c : γ → D) (d : δ → D) (x : α × β × γ × δ) : D := .tup [a x.1, b x.2.1, c x.2.2.1, d x.2.2.2]
abbrev eO {α : Type} (e : α → D) : Option α → D
  | none => .non
  | some x => e x
abbrev ePic (p : Pic) : D := eT eR p
structure EqE {α : Type} [DecidableEq α] (k : Nat) (e : α → D) : Prop where
  pl : ∀ x, (e x).pd.plain = true
  dp : ∀ x, (e x).pd.depth ≤ k
  eq : ∀ x y, PyData.eqv (e x).pd (e y).pd = decide (x = y)
theorem rowS_dec (a b : Row) : (rowS a == rowS b) = decide (a = b) := by
  by_cases h : a = b
  · subst h; simp
  · rw [decide_eq_false h]
    exact beq_eq_false_iff_ne.mpr fun e => h (rowS_inj e)
theorem qN : EqE 1 eN := ⟨fun _ => rfl, fun _ => by simp [D.pd, PyData.depth], fun x y => by
  show ((x : Int) == (y : Int)) = _
  by_cases h : x = y
  · subst h; simp
  · rw [decide_eq_false h]; exact beq_eq_false_iff_ne.mpr fun e => h (by omega)⟩
theorem qR : EqE 1 eR := ⟨fun _ => rfl, fun _ => by simp [D.pd, PyData.depth], fun x y => rowS_dec x y⟩
theorem qG : EqE 1 eG := ⟨fun _ => rfl, fun _ => by simp [D.pd, PyData.depth], fun x y => by
  refine (rowS_dec [x] [y]).trans ?_
  cases x <;> cases y <;> rfl⟩
section
variable {α β γ δ : Type} [DecidableEq α] [DecidableEq β] [DecidableEq γ] [DecidableEq δ] {k k1 k2 k3 k4 : Nat} {e : α → D} {e1 : β → D} {e2 : γ → D} {e3 : δ → D}
theorem plainAll_map (h : EqE k e) (xs : List α) : PyData.plainAll (pdAll (xs.map e)) = true := by
  induction xs with
  | nil => rfl
  | cons x xs ih =>
    show PyData.plainAll ((e x).pd :: pdAll (xs.map e)) = true
    simp only [PyData.plainAll, h.pl x, ih, Bool.and_self]
theorem depthAll_map (h : EqE k e) (xs : List α) : PyData.depthAll (pdAll (xs.map e)) ≤ k := by
  induction xs with
  | nil => exact Nat.zero_le _
  | cons x xs ih =>
    show PyData.depthAll ((e x).pd :: pdAll (xs.map e)) ≤ k
    simp only [PyData.depthAll]
    have := h.dp x
    omega
theorem eqvAll_mapE (h : EqE k e) : ∀ xs ys : List α, PyData.eqvAll (pdAll (xs.map e)) (pdAll (ys.map e)) = decide (xs = ys)
  | [], [] => rfl
  | [], y :: ys => by show false = _; simp
  | x :: xs, [] => by show false = _; simp
  | x :: xs, y :: ys => by
    show (PyData.eqv (e x).pd (e y).pd && PyData.eqvAll (pdAll (xs.map e)) (pdAll (ys.map e))) = _
    rw [h.eq, eqvAll_mapE h xs ys]
    by_cases h1 : x = y <;> by_cases h2 : xs = ys <;> simp [h1, h2]
theorem qL (h : EqE k e) : EqE (k + 1) (eL e) := ⟨fun xs => by
    show (PyData.list (pdAll (xs.map e))).plain = true
    simp only [PyData.plain]; exact plainAll_map h xs, fun xs => by
    show (PyData.list (pdAll (xs.map e))).depth ≤ k + 1
    simp only [PyData.depth]
    have := depthAll_map h xs
    omega, fun xs ys => eqvAll_mapE h xs ys⟩
theorem qT (h : EqE k e) : EqE (k + 1) (eT e) := ⟨fun xs => by
    show (PyData.tuple (pdAll (xs.map e))).plain = true
    simp only [PyData.plain]; exact plainAll_map h xs, fun xs => by
    show (PyData.tuple (pdAll (xs.map e))).depth ≤ k + 1
    simp only [PyData.depth]
    have := depthAll_map h xs
    omega, fun xs ys => eqvAll_mapE h xs ys⟩
theorem qP (h : EqE k e) (h1 : EqE k1 e1) : EqE (max k k1 + 1) (eP e e1) := ⟨fun x => by
    show PyData.plainAll [(e x.1).pd, (e1 x.2).pd] = true
    simp only [PyData.plainAll, h.pl, h1.pl, Bool.and_self], fun x => by
    show (PyData.tuple [(e x.1).pd, (e1 x.2).pd]).depth ≤ _
    simp only [PyData.depth, PyData.depthAll]
    have := h.dp x.1; have := h1.dp x.2
    omega, fun x y => by
    show (PyData.eqv (e x.1).pd (e y.1).pd && (PyData.eqv (e1 x.2).pd (e1 y.2).pd && true)) = _
    rw [h.eq, h1.eq]
    obtain ⟨a, b⟩ := x; obtain ⟨c, d⟩ := y
    by_cases p : a = c <;> by_cases q : b = d <;> simp [p, q]⟩
theorem okq_of (h : EqE k e) (hk : k ≤ 60) (x : α) : (e x).okq = true := by
  unfold D.okq
  have a := h.dp x
  rw [h.pl x, decide_eq_true (by omega : (e x).pd.depth ≤ 60)]; rfl
theorem eqD_E (h : EqE k e) (hk : k ≤ 60) (x y : α) : eqD (e x) (e y) = some (.bl (decide (x = y))) := by
  unfold eqD
  rw [okq_of h hk x, okq_of h hk y, h.eq]; rfl
theorem neD_E (h : EqE k e) (hk : k ≤ 60) (x y : α) : neD (e x) (e y) = some (.bl (decide (x ≠ y))) := by
  unfold neD
  rw [okq_of h hk x, okq_of h hk y, h.eq]
  by_cases q : x = y <;> simp [q]
theorem memD_E (h : EqE k e) (x : α) (xs : List α) : memD (e x) (xs.map e) = decide (x ∈ xs) := by
  unfold memD
  rw [List.any_map]
  by_cases q : x ∈ xs
  · rw [decide_eq_true q]
    exact List.any_eq_true.mpr ⟨x, q, by show PyData.eqv (e x).pd (e x).pd = true; rw [h.eq]; simp⟩
  · rw [decide_eq_false q]
    refine List.any_eq_false.mpr fun y hy => ?_
    show ¬ PyData.eqv (e y).pd (e x).pd = true
    rw [h.eq]
    intro z
    exact q (of_decide_eq_true z ▸ hy)
theorem inD_L (h : EqE k e) (hk : k ≤ 59) (x : α) (xs : List α) : inD (e x) (eL e xs) = some (.bl (decide (x ∈ xs))) := by
  show (if (e x).okq && (eL e xs).okq then some (D.bl (memD (e x) (xs.map e))) else none) = _
  rw [okq_of h (by omega) x, okq_of (qL h) (by omega) xs, memD_E h]; rfl
theorem inD_T (h : EqE k e) (hk : k ≤ 59) (x : α) (xs : List α) : inD (e x) (eT e xs) = some (.bl (decide (x ∈ xs))) := by
  show (if (e x).okq && (eT e xs).okq then some (D.bl (memD (e x) (xs.map e))) else none) = _
  rw [okq_of h (by omega) x, okq_of (qT h) (by omega) xs, memD_E h]; rfl
theorem notInD_L (h : EqE k e) (hk : k ≤ 59) (x : α) (xs : List α) : notInD (e x) (eL e xs) = some (.bl (decide (x ∉ xs))) := by
  show (if (e x).okq && (eL e xs).okq then some (D.bl (!memD (e x) (xs.map e))) else none) = _
  rw [okq_of h (by omega) x, okq_of (qL h) (by omega) xs, memD_E h]
  by_cases q : x ∈ xs <;> simp [q]
theorem notInD_T (h : EqE k e) (hk : k ≤ 59) (x : α) (xs : List α) : notInD (e x) (eT e xs) = some (.bl (decide (x ∉ xs))) := by
  show (if (e x).okq && (eT e xs).okq then some (D.bl (!memD (e x) (xs.map e))) else none) = _
  rw [okq_of h (by omega) x, okq_of (qT h) (by omega) xs, memD_E h]
  by_cases q : x ∈ xs <;> simp [q]
end
section
variable {α β γ δ : Type} {e : α → D} {e1 : β → D} {e2 : γ → D} {env : DEnv} {tp t1' t2' t3' t4' : List D} {m ma mb mc : SE D} {ms : SE (List D)} {c c2 : SE Bool} {P Q : Prop} [Decidable P] [Decidable Q]
theorem ev_v {i : Nat} {d : D} (h : env[i]? = some (some d)) : vE i env tp = .ok d tp := by unfold vE; rw [h]
theorem ev_cN (n : Nat) {i : Int} (h : i = (n : Int) := by rfl) : cE (.int i) env tp = .ok (eN n) tp := by rw [h]; rfl
theorem ev_c {d d' : D} (h : d = d') : cE d env tp = .ok d' tp := by rw [h]; rfl
theorem ev_bin {f : D → D → Option D} {a b z : D} (ha : ma env tp = .ok a t1') (hb : mb env t1' = .ok b t2') (h : f a b = some z) : binE f ma mb env tp = .ok z t2' := by
  unfold binE; rw [ha]; simp only [RE.bind_ok]; rw [hb]; simp only [RE.bind_ok]; rw [h]; rfl
theorem ev_un {f : D → Option D} {a z : D} (ha : ma env tp = .ok a t1') (h : f a = some z) : unE f ma env tp = .ok z t1' := by
  unfold unE; rw [ha]; simp only [RE.bind_ok]; rw [h]; rfl
theorem ev_callB {f : List D → Option D} {ds : List D} {z : D} (ha : ms env tp = .ok ds t1') (h : f ds = some z) : callB f ms env tp = .ok z t1' := by
  unfold callB; rw [ha]; simp only [RE.bind_ok]; rw [h]; rfl
theorem ev_meth {p : D → Bool} {f : D → D → Option D} {a b z : D} (ha : ma env tp = .ok a t1') (hp : p a = true) (hb : mb env t1' = .ok b t2') (h : f a b = some z) : methE p f ma mb env tp = .ok z t2' := by
  unfold methE; rw [ha]; simp only [RE.bind_ok]; rw [if_pos hp, hb]; simp only [RE.bind_ok]; rw [h]; rfl
theorem ev_nil : nilA env tp = .ok [] tp := rfl
theorem ev_cons {d : D} {ds : List D} (h : m env tp = .ok d t1') (hs : ms env t1' = .ok ds t2') : consA m ms env tp = .ok (d :: ds) t2' := by
  unfold consA; rw [h]; simp only [RE.bind_ok]; rw [hs]; rfl
theorem ev_call {n : Nat} {f : List D → List D → RE D} {ds : List D} {d : D} (hs : ms env tp = .ok ds t1') (hn : ds.length = n) (h : f ds t1' = .ok d t2') : callE n f ms env tp = .ok d t2' := by
  unfold callE; rw [hs]; simp only [RE.bind_ok]; rw [if_pos hn, h]
theorem ev_tup {ds : List D} (hs : ms env tp = .ok ds t1') (hn : decide (ds.length ≤ 1000000) = true) : tupE ms env tp = .ok (.tup ds) t1' := by
  unfold tupE; rw [hs]; simp only [RE.bind_ok]; rw [if_pos (small_line (of_decide_eq_true hn))]
theorem ev_lst {ds : List D} (hs : ms env tp = .ok ds t1') (hn : decide (ds.length ≤ 1000000) = true) : lstE ms env tp = .ok (.lst ds) t1' := by
  unfold lstE; rw [hs]; simp only [RE.bind_ok]; rw [if_pos (small_line (of_decide_eq_true hn))]
theorem ev_bool {b : Bool} (h : m env tp = .ok (.bl b) t1') : boolE m env tp = .ok b t1' := by
  unfold boolE; rw [h]; rfl
theorem ev_dec (b : Bool) (h : m env tp = .ok (.bl b) t1') : boolE m env tp = .ok (decide (b = true)) t1' := by
  rw [ev_bool h]; cases b <;> rfl
theorem ev_notT (h : c env tp = .ok (decide P) t1') : notT c env tp = .ok (decide (¬P)) t1' := by
  unfold notT; rw [h]; simp only [RE.bind_ok]; by_cases q : P <;> simp [q]
theorem ev_andT (h : c env tp = .ok (decide P) tp) (h2 : P → c2 env tp = .ok (decide Q) tp) : andT c c2 env tp = .ok (decide (P ∧ Q)) tp := by
  unfold andT; rw [h]; simp only [RE.bind_ok]
  by_cases q : P
  · rw [decide_eq_true q, if_pos rfl, h2 q]; simp [q]
  · rw [decide_eq_false q, if_neg (by decide)]; simp [q]
theorem ev_orT (h : c env tp = .ok (decide P) tp) (h2 : ¬P → c2 env tp = .ok (decide Q) tp) : orT c c2 env tp = .ok (decide (P ∨ Q)) tp := by
  unfold orT; rw [h]; simp only [RE.bind_ok]
  by_cases q : P
  · rw [decide_eq_true q, if_pos rfl]; simp [q]
  · rw [decide_eq_false q, if_neg (by decide), h2 q]; simp [q]
theorem ev_notE (h : m env tp = .ok (eB (decide P)) t1') : notE m env tp = .ok (eB (decide (¬P))) t1' := by
  unfold notE; rw [h]; simp only [RE.bind_ok]; by_cases q : P <;> simp [q, isB]
theorem ev_andE (h : ma env tp = .ok (eB (decide P)) tp) (h2 : P → mb env tp = .ok (eB (decide Q)) tp) : andE ma mb env tp = .ok (eB (decide (P ∧ Q))) tp := by
  unfold andE; rw [h]; simp only [RE.bind_ok]
  by_cases q : P
  · rw [decide_eq_true q]; rw [h2 q]; simp [q]
  · rw [decide_eq_false q]; simp [q]
theorem ev_orE (h : ma env tp = .ok (eB (decide P)) tp) (h2 : ¬P → mb env tp = .ok (eB (decide Q)) tp) : orE ma mb env tp = .ok (eB (decide (P ∨ Q))) tp := by
  unfold orE; rw [h]; simp only [RE.bind_ok]
  by_cases q : P
  · rw [decide_eq_true q]; simp [q]
  · rw [decide_eq_false q]; rw [h2 q]; simp [q]
theorem ev_ifE {x y : α} (h : c env tp = .ok (decide P) t1') (hp : P → ma env t1' = .ok (e x) t1') (hn : ¬P → mb env t1' = .ok (e y) t1') : ifE c ma mb env tp = .ok (e (if P then x else y)) t1' := by
  unfold ifE; rw [h]; simp only [RE.bind_ok]
  by_cases q : P
  · rw [decide_eq_true q, if_pos rfl, hp q, if_pos q]
  · rw [decide_eq_false q, if_neg (by decide), hn q, if_neg q]
theorem ev_decB (b : Bool) (h : m env tp = .ok (eB b) t1') : m env tp = .ok (eB (decide (b = true))) t1' := by
  rw [h]; cases b <;> rfl
theorem ev_add {x y : Nat} (ha : ma env tp = .ok (eN x) t1') (hb : mb env t1' = .ok (eN y) t2') : binE addD ma mb env tp = .ok (eN (x + y)) t2' :=
  (ev_bin ha hb rfl).trans (by simp)
theorem ev_sub {x y : Nat} (h : y ≤ x) (ha : ma env tp = .ok (eN x) t1') (hb : mb env t1' = .ok (eN y) t2') : binE subD ma mb env tp = .ok (eN (x - y)) t2' :=
  (ev_bin ha hb rfl).trans (by show RE.ok (D.int ((x : Int) - (y : Int))) t2' = RE.ok (D.int ((x - y : Nat) : Int)) t2'; rw [Int.ofNat_sub h])
theorem ev_mul {x y : Nat} (h : cMul x y = true) (ha : ma env tp = .ok (eN x) t1') (hb : mb env t1' = .ok (eN y) t2') : binE mulD ma mb env tp = .ok (eN (x * y)) t2' :=
  (ev_bin ha hb (by unfold mulD; simp only; rw [if_pos h])).trans (by simp)
theorem ev_lt {x y : Nat} (ha : ma env tp = .ok (eN x) t1') (hb : mb env t1' = .ok (eN y) t2') : binE ltD ma mb env tp = .ok (eB (decide (x < y))) t2' :=
  (ev_bin ha hb rfl).trans (by simp)
theorem ev_gt {x y : Nat} (ha : ma env tp = .ok (eN x) t1') (hb : mb env t1' = .ok (eN y) t2') : binE gtD ma mb env tp = .ok (eB (decide (x > y))) t2' :=
  (ev_bin ha hb rfl).trans (by simp)
theorem ev_ge {x y : Nat} (ha : ma env tp = .ok (eN x) t1') (hb : mb env t1' = .ok (eN y) t2') : binE geD ma mb env tp = .ok (eB (decide (x ≥ y))) t2' :=
  (ev_bin ha hb rfl).trans (by simp)
theorem ev_negZ {x : Int} (ha : ma env tp = .ok (eZ x) t1') : unE negD ma env tp = .ok (eZ (-x)) t1' := ev_un ha rfl
theorem ev_chLeLe {x y z : Nat} (ha : ma env tp = .ok (eN x) tp) (hb : mb env tp = .ok (eN y) tp) (hc : mc env tp = .ok (eN z) tp) : chainE leD leD ma mb mc env tp = .ok (eB (decide (x ≤ y ∧ y ≤ z))) tp := by
  unfold chainE; rw [ha]; simp only [RE.bind_ok]; rw [hb]; simp only [RE.bind_ok]
  by_cases q : x ≤ y
  · rw [show leD (eN x) (eN y) = some (.bl true) from by show some (D.bl (decide ((x : Int) ≤ y))) = _; rw [decide_eq_true (by omega)]]
    simp only; rw [hc]; simp only [RE.bind_ok]
    show RE.of (some (D.bl (decide ((y : Int) ≤ z)))) tp = _
    simp [q]
  · rw [show leD (eN x) (eN y) = some (.bl false) from by show some (D.bl (decide ((x : Int) ≤ y))) = _; rw [decide_eq_false (by omega)]]
    simp [q]
section
variable [DecidableEq α] {k : Nat}
theorem ev_eq {x y : α} (h : EqE k e) (hk : Nat.ble k 60 = true) (ha : ma env tp = .ok (e x) t1') (hb : mb env t1' = .ok (e y) t2') : binE eqD ma mb env tp = .ok (eB (decide (x = y))) t2' := ev_bin ha hb (eqD_E h (Nat.le_of_ble_eq_true hk) x y)
theorem ev_ne {x y : α} (h : EqE k e) (hk : Nat.ble k 60 = true) (ha : ma env tp = .ok (e x) t1') (hb : mb env t1' = .ok (e y) t2') : binE neD ma mb env tp = .ok (eB (decide (x ≠ y))) t2' := ev_bin ha hb (neD_E h (Nat.le_of_ble_eq_true hk) x y)
theorem ev_inL {x : α} {xs : List α} (h : EqE k e) (hk : Nat.ble k 59 = true) (ha : ma env tp = .ok (e x) t1') (hb : mb env t1' = .ok (eL e xs) t2') : binE inD ma mb env tp = .ok (eB (decide (x ∈ xs))) t2' := ev_bin ha hb (inD_L h (Nat.le_of_ble_eq_true hk) x xs)
theorem ev_inT {x : α} {xs : List α} (h : EqE k e) (hk : Nat.ble k 59 = true) (ha : ma env tp = .ok (e x) t1') (hb : mb env t1' = .ok (eT e xs) t2') : binE inD ma mb env tp = .ok (eB (decide (x ∈ xs))) t2' := ev_bin ha hb (inD_T h (Nat.le_of_ble_eq_true hk) x xs)
theorem ev_ninL {x : α} {xs : List α} (h : EqE k e) (hk : Nat.ble k 59 = true) (ha : ma env tp = .ok (e x) t1') (hb : mb env t1' = .ok (eL e xs) t2') : binE notInD ma mb env tp = .ok (eB (decide (x ∉ xs))) t2' := ev_bin ha hb (notInD_L h (Nat.le_of_ble_eq_true hk) x xs)
theorem ev_ninT {x : α} {xs : List α} (h : EqE k e) (hk : Nat.ble k 59 = true) (ha : ma env tp = .ok (e x) t1') (hb : mb env t1' = .ok (eT e xs) t2') : binE notInD ma mb env tp = .ok (eB (decide (x ∉ xs))) t2' := ev_bin ha hb (notInD_T h (Nat.le_of_ble_eq_true hk) x xs)
end
theorem isNon_O {e : α → D} (n : ∀ x, isNoneD (e x) .non = some (.bl false)) (x : Option α) : isNoneD (eO e x) .non = some (.bl (decide (x = none))) := by
  cases x with
  | none => rfl
  | some x => refine (n x).trans ?_; simp
theorem isNotNon_O {e : α → D} (n : ∀ x, isNotNoneD (e x) .non = some (.bl true)) (x : Option α) : isNotNoneD (eO e x) .non = some (.bl (decide (x ≠ none))) := by
  cases x with
  | none => rfl
  | some x => refine (n x).trans ?_; simp
theorem ev_isNon {x : Option α} (n : ∀ x, isNoneD (e x) .non = some (.bl false)) (ha : ma env tp = .ok (eO e x) t1') (hb : mb env t1' = .ok .non t2') : binE isNoneD ma mb env tp = .ok (eB (decide (x = none))) t2' := ev_bin ha hb (isNon_O n x)
theorem ev_isNotNon {x : Option α} (n : ∀ x, isNotNoneD (e x) .non = some (.bl true)) (ha : ma env tp = .ok (eO e x) t1') (hb : mb env t1' = .ok .non t2') : binE isNotNoneD ma mb env tp = .ok (eB (decide (x ≠ none))) t2' := ev_bin ha hb (isNotNon_O n x)
theorem ev_isB {x y : Bool} (ha : ma env tp = .ok (eB x) t1') (hb : mb env t1' = .ok (eB y) t2') : binE isNoneD ma mb env tp = .ok (eB (decide (x = y))) t2' := ev_bin ha hb (by cases x <;> cases y <;> rfl)
theorem ev_isNotB {x y : Bool} (ha : ma env tp = .ok (eB x) t1') (hb : mb env t1' = .ok (eB y) t2') : binE isNotNoneD ma mb env tp = .ok (eB (decide (x ≠ y))) t2' := ev_bin ha hb (by cases x <;> cases y <;> rfl)
theorem ev_get {x : Option α} [Inhabited α] (h : x ≠ none) (ha : m env tp = .ok (eO e x) t1') : m env tp = .ok (e (x.getD default)) t1' := by
  cases x with
  | none => exact (h rfl).elim
  | some x => exact ha
theorem get!_map [Inhabited α] {xs : List α} {i : Nat} (h : i < xs.length) : atI (xs.map e) (i : Int) = some (e xs[i]!) := by
  rw [atI_nat', List.getElem?_map, List.getElem?_eq_getElem h, getElem!_pos xs i h]; rfl
theorem ev_ixL [Inhabited α] {xs : List α} {i : Nat} (h : i < xs.length) (ha : ma env tp = .ok (eL e xs) t1') (hb : mb env t1' = .ok (eN i) t2') : binE ixD ma mb env tp = .ok (e xs[i]!) t2' := ev_bin ha hb (get!_map h)
theorem ev_ixT [Inhabited α] {xs : List α} {i : Nat} (h : i < xs.length) (ha : ma env tp = .ok (eT e xs) t1') (hb : mb env t1' = .ok (eN i) t2') : binE ixD ma mb env tp = .ok (e xs[i]!) t2' := ev_bin ha hb (get!_map h)
theorem get!_row {r : Row} {i : Nat} (hl : r.length ≤ 1000000) (h : i < r.length) : ixD (eR r) (eN i) = some (eG r[i]!) := by
  show (if (rowS r).length ≤ sizeLine then (atI (rowS r).cps.toList (i : Int)).map (fun c => D.str ⟨#[c]⟩) else none) = _
  rw [rowS_len, if_pos (small_line hl), row_toList, atI_nat', List.getElem?_map, List.getElem?_eq_getElem h, getElem!_pos r i h]; rfl
theorem ev_ixR {r : Row} {i : Nat} (h : r.length ≤ 1000000 ∧ i < r.length) (ha : ma env tp = .ok (eR r) t1') (hb : mb env t1' = .ok (eN i) t2') : binE ixD ma mb env tp = .ok (eG r[i]!) t2' := ev_bin ha hb (get!_row h.1 h.2)
theorem lastI [Inhabited α] {xs : List α} (h : xs ≠ []) : atI (xs.map e) (-1) = some (e xs[xs.length - 1]!) := by
  have hp := List.length_pos_iff.mpr h
  have hi : ixN (xs.map e).length (-1) = some (xs.length - 1) := by
    unfold ixN
    rw [List.length_map]
    simp
    omega
  unfold atI
  rw [hi]
  show (xs.map e)[xs.length - 1]? = _
  rw [List.getElem?_map, List.getElem?_eq_getElem (show xs.length - 1 < xs.length by omega), getElem!_pos xs _ (show xs.length - 1 < xs.length by omega)]; rfl
theorem ev_lastL [Inhabited α] {xs : List α} (h : xs ≠ []) (ha : ma env tp = .ok (eL e xs) t1') (hb : mb env t1' = .ok (.int (-1)) t2') : binE ixD ma mb env tp = .ok (e xs[xs.length - 1]!) t2' := ev_bin ha hb (lastI h)
theorem ev_fst {x : α × β} (ha : ma env tp = .ok (eP e e1 x) t1') (hb : mb env t1' = .ok (.int 0) t2') : binE ixD ma mb env tp = .ok (e x.1) t2' := ev_bin ha hb rfl
theorem ev_snd {x : α × β} (ha : ma env tp = .ok (eP e e1 x) t1') (hb : mb env t1' = .ok (.int 1) t2') : binE ixD ma mb env tp = .ok (e1 x.2) t2' := ev_bin ha hb rfl
theorem ev_lenL {xs : List α} (h : m env tp = .ok (eL e xs) t1') : callB lenD (consA m nilA) env tp = .ok (eN xs.length) t1' :=
  ev_callB (ev_cons h ev_nil) (by show some (D.int ((xs.map e).length : Int)) = _; rw [List.length_map])
theorem ev_lenT {xs : List α} (h : m env tp = .ok (eT e xs) t1') : callB lenD (consA m nilA) env tp = .ok (eN xs.length) t1' :=
  ev_callB (ev_cons h ev_nil) (by show some (D.int ((xs.map e).length : Int)) = _; rw [List.length_map])
theorem ev_lenR {r : Row} (hl : r.length ≤ 1000000) (h : m env tp = .ok (eR r) t1') : callB lenD (consA m nilA) env tp = .ok (eN r.length) t1' :=
  ev_callB (ev_cons h ev_nil) (by show (if (rowS r).length ≤ sizeLine then some (D.int ((rowS r).length : Int)) else none) = _; rw [rowS_len, if_pos (small_line hl)])
theorem ev_tupleL {xs : List α} (h : m env tp = .ok (eL e xs) t1') : callB tupleD (consA m nilA) env tp = .ok (eT e xs) t1' := ev_callB (ev_cons h ev_nil) rfl
theorem ev_listL {xs : List α} (h : m env tp = .ok (eL e xs) t1') : callB listD (consA m nilA) env tp = .ok (eL e xs) t1' := ev_callB (ev_cons h ev_nil) rfl
theorem ev_catL {xs ys : List α} (h : xs.length + ys.length ≤ 1000000) (ha : ma env tp = .ok (eL e xs) t1') (hb : mb env t1' = .ok (eL e ys) t2') : binE addD ma mb env tp = .ok (eL e (xs ++ ys)) t2' :=
  ev_bin ha hb (by show (if (xs.map e).length + (ys.map e).length ≤ sizeLine then some (D.lst (xs.map e ++ ys.map e)) else none) = _; rw [List.length_map, List.length_map, if_pos (small_line h), ← List.map_append])
theorem ev_catR {xs ys : Row} (h : xs.length + ys.length ≤ 1000000) (ha : ma env tp = .ok (eR xs) t1') (hb : mb env t1' = .ok (eR ys) t2') : binE addD ma mb env tp = .ok (eR (xs ++ ys)) t2' :=
  ev_bin ha hb (by show (if (rowS xs).length + (rowS ys).length ≤ sizeLine then some (D.str (rowS xs ++ rowS ys)) else none) = _; rw [rowS_len, rowS_len, if_pos (small_line h), rowS_app])
theorem cut_toL {α : Type} (xs : List α) (k : Nat) : cutD xs none (some (k : Int)) = xs.take k := by
  unfold cutD
  rw [HT.sIx_none, HT.sIx_nat, List.drop_zero, Nat.sub_zero]
  by_cases h : k ≤ xs.length
  · rw [Nat.min_eq_left h]
  · rw [Nat.min_eq_right (by omega), List.take_of_length_le (by omega), List.take_of_length_le (by omega)]
theorem cut_fromL {α : Type} (xs : List α) (k : Nat) : cutD xs (some (k : Int)) none = xs.drop k := by
  unfold cutD
  rw [HT.sIx_none, HT.sIx_nat]
  by_cases h : k ≤ xs.length
  · rw [Nat.min_eq_left h, List.take_of_length_le (by rw [List.length_drop]; omega)]
  · rw [Nat.min_eq_right (by omega), List.drop_of_length_le (by omega), List.drop_of_length_le (by omega)]; simp
theorem ev_optN : optI none env tp = .ok none tp := rfl
theorem ev_optS {i : Int} (h : m env tp = .ok (.int i) t1') : optI (some m) env tp = .ok (some i) t1' := by
  unfold optI; simp only; rw [h]; rfl
theorem ev_sl {a z : D} {ml mh : SE (Option Int)} {lo hi : Option Int} (ha : m env tp = .ok a t1') (hl : ml env t1' = .ok lo t2') (hh : mh env t2' = .ok hi t3') (h : sliceD a lo hi = some z) : sliceE m ml mh env tp = .ok z t3' := by
  unfold sliceE; rw [ha]; simp only [RE.bind_ok]; rw [hl]; simp only [RE.bind_ok]; rw [hh]; simp only [RE.bind_ok]; rw [h]; rfl
theorem ev_toL {xs : List α} {k : Nat} (ha : m env tp = .ok (eL e xs) t1') (hh : mb env t1' = .ok (eN k) t2') : sliceE m (optI none) (optI (some mb)) env tp = .ok (eL e (xs.take k)) t2' :=
  ev_sl ha ev_optN (ev_optS hh) (by show some (D.lst (cutD (xs.map e) none (some (k : Int)))) = _; rw [cut_toL, ← List.map_take])
theorem ev_toT {xs : List α} {k : Nat} (ha : m env tp = .ok (eT e xs) t1') (hh : mb env t1' = .ok (eN k) t2') : sliceE m (optI none) (optI (some mb)) env tp = .ok (eT e (xs.take k)) t2' :=
  ev_sl ha ev_optN (ev_optS hh) (by show some (D.tup (cutD (xs.map e) none (some (k : Int)))) = _; rw [cut_toL, ← List.map_take])
theorem ev_fromT {xs : List α} {k : Nat} (ha : m env tp = .ok (eT e xs) t1') (hh : mb env t1' = .ok (eN k) t2') : sliceE m (optI (some mb)) (optI none) env tp = .ok (eT e (xs.drop k)) t2' :=
  ev_sl ha (ev_optS hh) ev_optN (by show some (D.tup (cutD (xs.map e) (some (k : Int)) none)) = _; rw [cut_fromL, ← List.map_drop])
theorem cut_m1 {α : Type} (xs : List α) : cutD xs none (some (-1)) = xs.dropLast := by
  unfold cutD
  rw [HT.sIx_none, List.drop_zero, Nat.sub_zero, List.dropLast_eq_take]
  congr 1
  unfold HT.sIx
  first
  | (simp only []; omega)
  | (simp; omega)
  | (split <;> omega)
theorem ev_butL {xs : List α} (ha : m env tp = .ok (eL e xs) t1') (hh : mb env t1' = .ok (.int (-1)) t2') : sliceE m (optI none) (optI (some mb)) env tp = .ok (eL e xs.dropLast) t2' :=
  ev_sl ha ev_optN (ev_optS hh) (by show some (D.lst (cutD (xs.map e) none (some (-1)))) = _; rw [cut_m1, ← List.map_dropLast])
end
end T
set_option maxHeartbeats 1000000
namespace T
open PySem L2 G
theorem kb_int_int : kitB "int" "int" = some true := by decide +kernel
theorem kb_int_bool : kitB "int" "bool" = some false := by decide +kernel
theorem kb_str_str : kitB "str" "str" = some true := by decide +kernel
theorem kb_tuple_tuple : kitB "tuple" "tuple" = some true := by decide +kernel
section
variable {α β γ δ : Type} {e : α → D} {e1 : β → D} {e2 : γ → D} {env : DEnv} {tp t1' t2' t3' t4' : List D} {m ma mb mc : SE D} {mi mi1 : SE (List D)} {ms : SE (List D)} {c c1 : SE Bool}
theorem ev_isi {d : D} {a n : String} {b : Bool} (ha : ma env tp = .ok d t1') (ht : tyN d = some a) (hk : kitB a n = some b) : callB isiD (consA ma (consA (cE (.ty n)) nilA)) env tp = .ok (eB b) t1' := by
  refine ev_callB (ds := [d, .ty n]) (ev_cons ha (ev_cons (m := cE (.ty n)) rfl ev_nil)) ?_
  show (tyN d).bind (fun t => (kitB t n).map D.bl) = some (.bl b)
  rw [ht]
  show (kitB a n).map D.bl = some (.bl b)
  rw [hk]; rfl
theorem it_L {xs : List α} (h : m env tp = .ok (eL e xs) t1') : seqI m env tp = .ok (xs.map e) t1' := by unfold seqI; rw [h]; rfl
theorem it_T {xs : List α} (h : m env tp = .ok (eT e xs) t1') : seqI m env tp = .ok (xs.map e) t1' := by unfold seqI; rw [h]; rfl
theorem row_items (r : Row) : seqD (eR r) = some (r.map eG) := by
  show some ((rowS r).cps.toList.map fun c => D.str ⟨#[c]⟩) = _
  rw [row_toList, List.map_map]; rfl
theorem it_R {r : Row} (h : m env tp = .ok (eR r) t1') : seqI m env tp = .ok (r.map eG) t1' := by
  unfold seqI; rw [h]; simp only [RE.bind_ok]; rw [row_items]; rfl
theorem rangeL_N (n : Nat) : rangeL 0 (n : Int) = (List.range n).map eN := by
  unfold rangeL
  rw [Int.sub_zero, Int.toNat_natCast]
  exact List.map_congr_left fun a _ => by rw [Int.zero_add]
theorem cRg_nat {n : Nat} (h : n ≤ 1073741824) : cRg (n : Int) = true := by
  unfold cRg
  have h1 : -(2 ^ 62) ≤ (n : Int) := by omega
  have h2 : (n : Int) < 2 ^ 62 := by omega
  rw [decide_eq_true h1, decide_eq_true h2]; rfl
theorem range1D_i {i : Int} (h : cRg i = true) : range1D [.int i] = some (rangeL 0 i) := by
  show (if cRg i then some (rangeL 0 i) else none) = _
  rw [if_pos h]
theorem range1D_N {n : Nat} (hn : n ≤ 1073741824) : range1D [eN n] = some ((List.range n).map eN) := by
  rw [← rangeL_N]; exact range1D_i (cRg_nat hn)
theorem ev_rangeI {f : List D → Option (List D)} {ds its : List D} (h : ms env tp = .ok ds t1') (hf : f ds = some its) : rangeI f ms env tp = .ok its t1' := by
  unfold rangeI; rw [h]; simp only [RE.bind_ok]; rw [hf]; rfl
theorem it_range {n : Nat} (hn : n ≤ 1073741824) (h : m env tp = .ok (eN n) t1') : rangeI range1D (consA m nilA) env tp = .ok ((List.range n).map eN) t1' :=
  ev_rangeI (ev_cons h ev_nil) (range1D_N hn)
/-- the pairs of places and things -/
def enumP {α : Type} (xs : List α) : List (Nat × α) := xs.mapIdx fun i x => (i, x)
theorem numD_map (xs : List α) : numD (xs.map e) = (enumP xs).map (eP eN e) := by
  unfold numD enumP
  refine List.ext_getElem? fun i => ?_
  rw [List.getElem?_mapIdx, List.getElem?_map, List.getElem?_map, List.getElem?_mapIdx]
  cases xs[i]? <;> rfl
theorem it_enum {xs : List α} (h : seqD d = some (xs.map e)) (hm : m env tp = .ok d t1') : rangeI enumD (consA m nilA) env tp = .ok ((enumP xs).map (eP eN e)) t1' := by
  unfold rangeI; rw [ev_cons hm ev_nil]; simp only [RE.bind_ok]
  show RE.of ((seqD d).map numD) t1' = _
  rw [h]
  show RE.of (some (numD (xs.map e))) t1' = _
  rw [numD_map]; rfl
theorem it_enumL {xs : List α} (hm : m env tp = .ok (eL e xs) t1') : rangeI enumD (consA m nilA) env tp = .ok ((enumP xs).map (eP eN e)) t1' := it_enum rfl hm
theorem it_enumT {xs : List α} (hm : m env tp = .ok (eT e xs) t1') : rangeI enumD (consA m nilA) env tp = .ok ((enumP xs).map (eP eN e)) t1' := it_enum rfl hm
theorem it_enumR {xs : Row} (hm : m env tp = .ok (eR xs) t1') : rangeI enumD (consA m nilA) env tp = .ok ((enumP xs).map (eP eN eG)) t1' := it_enum (row_items xs) hm
theorem zipL_map : ∀ (xs : List α) (ys : List β), zipL (xs.map e) (ys.map e1) = (xs.zip ys).map (eP e e1)
  | [], _ => by cases ‹List β› <;> rfl
  | _ :: _, [] => rfl
  | x :: xs, y :: ys => by
    show D.tup [e x, e1 y] :: zipL (xs.map e) (ys.map e1) = _
    rw [zipL_map xs ys]; rfl
theorem it_zipT {xs : List α} {ys : List β} (ha : ma env tp = .ok (eT e xs) t1') (hb : mb env t1' = .ok (eT e1 ys) t2') : rangeI zipD (consA ma (consA mb nilA)) env tp = .ok ((xs.zip ys).map (eP e e1)) t2' := by
  unfold rangeI; rw [ev_cons ha (ev_cons hb ev_nil)]; simp only [RE.bind_ok]
  show RE.of (some (zipL (xs.map e) (ys.map e1))) t2' = _
  rw [zipL_map]; rfl
theorem compL_mapP {f : D → List D → RE (Option D)} {g : α → β} {P : α → Prop} [DecidablePred P] : ∀ {xs : List α}, (∀ x ∈ xs, f (e x) tp = .ok (if P x then some (e1 (g x)) else none) tp) → compL f (xs.map e) tp = .ok (((xs.filter fun x => decide (P x)).map g).map e1) tp
  | [], _ => rfl
  | x :: xs, h => by
    rw [List.map_cons]
    unfold compL
    rw [h x List.mem_cons_self]
    simp only
    rw [compL_mapP fun y hy => h y (List.mem_cons_of_mem _ hy)]
    by_cases q : P x <;> simp [q]
theorem ev_comp {vs is : List Nat} {tgt : D → Option (List D)} {xs : List α} {ds : α → List D} {g : α → β} {P : α → Prop} [DecidablePred P] (hi : mi env tp = .ok (xs.map e) t1') (hl : xs.length ≤ 1000000) (ht : ∀ x, tgt (e x) = some (ds x))
    (hc : ∀ x ∈ xs, c (setAll (wipeE env vs) is (ds x)) t1' = .ok (decide (P x)) t1') (hm : ∀ x ∈ xs, P x → m (setAll (wipeE env vs) is (ds x)) t1' = .ok (e1 (g x)) t1') :
    compE mi vs tgt is c m env tp = .ok (eL e1 ((xs.filter fun x => decide (P x)).map g)) t1' := by
  unfold compE
  rw [hi]
  simp only [RE.bind_ok]
  rw [if_pos (small_line (by rw [List.length_map]; exact hl)), compL_mapP (e := e) (e1 := e1) (g := g) (P := P)]
  intro x hx
  unfold compTurn1
  rw [ht]
  simp only
  rw [hc x hx]
  simp only [RE.bind_ok]
  by_cases q : P x
  · rw [if_pos (decide_eq_true q), hm x hx q, if_pos q]; rfl
  · rw [if_neg (by simp [q]), if_neg q]
theorem filter_tt {α : Type} (xs : List α) : (xs.filter fun _ => decide True) = xs := List.filter_eq_self.mpr fun _ _ => rfl
theorem ev_compY {vs is : List Nat} {tgt : D → Option (List D)} {xs : List α} {ds : α → List D} {g : α → β} (hi : mi env tp = .ok (xs.map e) t1') (hl : xs.length ≤ 1000000) (ht : ∀ x, tgt (e x) = some (ds x))
    (hm : ∀ x ∈ xs, m (setAll (wipeE env vs) is (ds x)) t1' = .ok (e1 (g x)) t1') :
    compE mi vs tgt is yesT m env tp = .ok (eL e1 (xs.map g)) t1' := by
  have := ev_comp (c := yesT) (P := fun _ => True) (g := g) (e1 := e1) (vs := vs) hi hl ht (fun x hx => rfl) (fun x hx _ => hm x hx)
  rw [this, filter_tt]
theorem compLL_map {f : D → List D → RE (List D)} {g : α → List β} : ∀ {xs : List α}, (∀ x ∈ xs, f (e x) tp = .ok ((g x).map e1) tp) → compLL f (xs.map e) tp = .ok ((xs.flatMap g).map e1) tp
  | [], _ => rfl
  | x :: xs, h => by
    rw [List.map_cons]
    unfold compLL
    rw [h x List.mem_cons_self]
    simp only
    rw [compLL_map fun y hy => h y (List.mem_cons_of_mem _ hy)]
    simp
/-- two clauses; no test at the first -/
theorem ev_comp2 {vs is vs1 is1 : List Nat} {tgt tgt1 : D → Option (List D)} {xs : List α} {ds : α → List D} {ys : α → List β} {ds1 : β → List D} {g : α → β → γ} {P : α → β → Prop} [∀ x, DecidablePred (P x)] (hi : mi env tp = .ok (xs.map e) t1') (ht : ∀ x, tgt (e x) = some (ds x))
    (hi1 : ∀ x ∈ xs, mi1 (setAll (wipeE env vs) is (ds x)) t1' = .ok ((ys x).map e1) t1') (ht1 : ∀ y, tgt1 (e1 y) = some (ds1 y))
    (hc : ∀ x ∈ xs, ∀ y ∈ ys x, c1 (setAll (wipeE (setAll (wipeE env vs) is (ds x)) vs1) is1 (ds1 y)) t1' = .ok (decide (P x y)) t1')
    (hm : ∀ x ∈ xs, ∀ y ∈ ys x, P x y → m (setAll (wipeE (setAll (wipeE env vs) is (ds x)) vs1) is1 (ds1 y)) t1' = .ok (e2 (g x y)) t1')
    (hl : (xs.flatMap fun x => ((ys x).filter fun y => decide (P x y)).map (g x)).length ≤ 1000000) :
    comp2E mi vs tgt is yesT mi1 vs1 tgt1 is1 c1 m env tp = .ok (eL e2 (xs.flatMap fun x => ((ys x).filter fun y => decide (P x y)).map (g x))) t1' := by
  unfold comp2E
  rw [hi]
  simp only [RE.bind_ok]
  rw [compLL_map (e := e) (e1 := e2) (g := fun x => ((ys x).filter fun y => decide (P x y)).map (g x))]
  · simp only
    rw [if_pos (small_line (by rw [List.length_map]; exact hl))]
  · intro x hx
    unfold compTurn2
    rw [ht]
    simp only
    unfold yesT
    simp only [RE.bind_ok, if_true]
    rw [hi1 x hx]
    simp only [RE.bind_ok]
    rw [compL_mapP (e := e1) (e1 := e2) (g := g x) (P := P x)]
    intro y hy
    unfold compTurn1
    rw [ht1]
    simp only
    rw [hc x hx y hy]
    simp only [RE.bind_ok]
    by_cases q : P x y
    · rw [if_pos (decide_eq_true q), hm x hx y hy q, if_pos q]; rfl
    · rw [if_neg (by simp [q]), if_neg q]
theorem ev_comp2Y {vs is vs1 is1 : List Nat} {tgt tgt1 : D → Option (List D)} {xs : List α} {ds : α → List D} {ys : α → List β} {ds1 : β → List D} {g : α → β → γ} (hi : mi env tp = .ok (xs.map e) t1') (ht : ∀ x, tgt (e x) = some (ds x))
    (hi1 : ∀ x ∈ xs, mi1 (setAll (wipeE env vs) is (ds x)) t1' = .ok ((ys x).map e1) t1') (ht1 : ∀ y, tgt1 (e1 y) = some (ds1 y))
    (hm : ∀ x ∈ xs, ∀ y ∈ ys x, m (setAll (wipeE (setAll (wipeE env vs) is (ds x)) vs1) is1 (ds1 y)) t1' = .ok (e2 (g x y)) t1')
    (hl : (xs.flatMap fun x => (ys x).map (g x)).length ≤ 1000000) :
    comp2E mi vs tgt is yesT mi1 vs1 tgt1 is1 yesT m env tp = .ok (eL e2 (xs.flatMap fun x => (ys x).map (g x))) t1' := by
  have := ev_comp2 (c1 := yesT) (P := fun _ _ => True) (g := g) (e2 := e2) (vs := vs) (vs1 := vs1) hi ht hi1 ht1 (fun x hx y hy => rfl) (fun x hx y hy _ => hm x hx y hy) (by simp only [filter_tt]; exact hl)
  rw [this]
  simp only [filter_tt]
theorem unB_map (bs : List Bool) : unB (bs.map eB) = some bs := by
  induction bs with
  | nil => rfl
  | cons b bs ih => show (unB (bs.map eB)).map (b :: ·) = _; rw [ih]; rfl
theorem unI_mapN (ns : List Nat) : unI (ns.map eN) = some (ns.map fun n : Nat => (n : Int)) := by
  induction ns with
  | nil => rfl
  | cons b bs ih => show (unI (bs.map eN)).map ((b : Int) :: ·) = _; rw [ih]; rfl
theorem unS_mapR (ns : List Row) : unS (ns.map eR) = some (ns.map rowS) := by
  induction ns with
  | nil => rfl
  | cons b bs ih => show (unS (bs.map eR)).map (rowS b :: ·) = _; rw [ih]; rfl
theorem ev_allY {xs : List α} {R : α → Prop} [DecidablePred R] {dq : Decidable (∀ x ∈ xs, R x)} (h : m env tp = .ok (eL eB (xs.map fun x => decide (R x))) t1') : callB allD (consA m nilA) env tp = .ok (eB (@decide _ dq)) t1' :=
  ev_callB (ev_cons h ev_nil) (by
    show (unB ((xs.map fun x => decide (R x)).map eB)).map (fun bs => D.bl (bs.all id)) = _
    rw [unB_map]
    show some (D.bl ((xs.map fun x => decide (R x)).all id)) = _
    congr 2
    rw [List.all_map]
    by_cases q : ∀ x ∈ xs, R x
    · rw [decide_eq_true q]; exact List.all_eq_true.mpr fun x hx => by simp [q x hx]
    · rw [decide_eq_false q]
      cases z : xs.all (id ∘ fun x => decide (R x)) with
      | false => rfl
      | true => exact (q fun x hx => by have := List.all_eq_true.mp z x hx; simpa using this).elim)
theorem ev_anyY {xs : List α} {R : α → Prop} [DecidablePred R] {dq : Decidable (∃ x ∈ xs, R x)} (h : m env tp = .ok (eL eB (xs.map fun x => decide (R x))) t1') : callB anyD (consA m nilA) env tp = .ok (eB (@decide _ dq)) t1' :=
  ev_callB (ev_cons h ev_nil) (by
    show (unB ((xs.map fun x => decide (R x)).map eB)).map (fun bs => D.bl (bs.any id)) = _
    rw [unB_map]
    show some (D.bl ((xs.map fun x => decide (R x)).any id)) = _
    congr 2
    rw [List.any_map]
    by_cases q : ∃ x ∈ xs, R x
    · rw [decide_eq_true q]
      obtain ⟨x, hx, r⟩ := q
      exact List.any_eq_true.mpr ⟨x, hx, by simp [r]⟩
    · rw [decide_eq_false q]
      refine List.any_eq_false.mpr fun x hx => ?_
      intro z
      exact q ⟨x, hx, by simpa using z⟩)
theorem cast_sum (ns : List Nat) : (ns.map fun n : Nat => (n : Int)).sum = (ns.sum : Int) := by
  induction ns with
  | nil => rfl
  | cons n ns ih => rw [List.map_cons, List.sum_cons, ih, List.sum_cons]; simp
theorem ev_sumL {xs : List Nat} (h : m env tp = .ok (eL eN xs) t1') : callB sum2D (consA m nilA) env tp = .ok (eN xs.sum) t1' :=
  ev_callB (ev_cons h ev_nil) (by
    show (unI (xs.map eN)).map (fun bs => D.int bs.sum) = _
    rw [unI_mapN]
    show some (D.int (xs.map fun n : Nat => (n : Int)).sum) = _
    rw [cast_sum])
def insN (x : Nat) : List Nat → List Nat
  | [] => [x]
  | y :: ys => if x ≤ y then x :: y :: ys else y :: insN x ys
def sortN : List Nat → List Nat
  | [] => []
  | x :: xs => insN x (sortN xs)
theorem insI_N (x : Nat) (ys : List Nat) : _root_.G.insI (x : Int) (ys.map fun n : Nat => (n : Int)) = (insN x ys).map fun n : Nat => (n : Int) := by
  induction ys with
  | nil => rfl
  | cons y ys ih =>
    rw [List.map_cons]
    unfold _root_.G.insI insN
    by_cases q : x ≤ y
    · rw [if_pos (by omega), if_pos q]; rfl
    · rw [if_neg (by omega), if_neg q, ih]; rfl
theorem sortI_N (xs : List Nat) : _root_.G.sortI (xs.map fun n : Nat => (n : Int)) = (sortN xs).map fun n : Nat => (n : Int) := by
  induction xs with
  | nil => rfl
  | cons x xs ih => rw [List.map_cons]; unfold _root_.G.sortI sortN; rw [ih, insI_N]
theorem insN_perm (x : Nat) (ys : List Nat) : (insN x ys).Perm (x :: ys) := by
  induction ys with
  | nil => exact .refl _
  | cons y ys ih =>
    unfold insN
    by_cases q : x ≤ y
    · rw [if_pos q]
    · rw [if_neg q]; exact (ih.cons y).trans (.swap x y ys)
theorem sortN_perm (xs : List Nat) : (sortN xs).Perm xs := by
  induction xs with
  | nil => exact .refl _
  | cons x xs ih => exact (insN_perm x _).trans (ih.cons x)
theorem insN_le (x : Nat) (ys : List Nat) (h : ys.Pairwise (· ≤ ·)) : (insN x ys).Pairwise (· ≤ ·) := by
  induction ys with
  | nil => exact List.pairwise_singleton _ _
  | cons y ys ih =>
    unfold insN
    have h' := List.pairwise_cons.mp h
    by_cases q : x ≤ y
    · rw [if_pos q]
      exact List.pairwise_cons.mpr ⟨fun z hz => (List.mem_cons.mp hz).elim (fun e => e ▸ q) (fun hz => Nat.le_trans q (h'.1 z hz)), h⟩
    · rw [if_neg q]
      refine List.pairwise_cons.mpr ⟨fun z hz => ?_, ih h'.2⟩
      rcases List.mem_cons.mp ((insN_perm x ys).mem_iff.mp hz) with rfl | hz
      · omega
      · exact h'.1 z hz
theorem sortN_le (xs : List Nat) : (sortN xs).Pairwise (· ≤ ·) := by
  induction xs with
  | nil => exact .nil
  | cons x xs ih => exact insN_le x _ ih
theorem sorted_unique : ∀ {xs ys : List Nat}, xs.Perm ys → xs.Pairwise (· ≤ ·) → ys.Pairwise (· ≤ ·) → xs = ys
  | xs, ys, p, h1, h2 => p.eq_of_pairwise (fun a b _ _ h1 h2 => Nat.le_antisymm h1 h2) h1 h2
theorem sortN_of_perm {xs ys : List Nat} (p : xs.Perm ys) (h : ys.Pairwise (· ≤ ·)) : sortN xs = ys := sorted_unique ((sortN_perm xs).trans p) (sortN_le xs) h
theorem ev_sortL {xs : List Nat} (h : m env tp = .ok (eL eN xs) t1') : callB sortD (consA m nilA) env tp = .ok (eL eN (sortN xs)) t1' :=
  ev_callB (ev_cons h ev_nil) (by
    show (unI (xs.map eN)).map (fun ns => D.lst ((_root_.G.sortI ns).map .int)) = _
    rw [unI_mapN]
    show some (D.lst ((_root_.G.sortI (xs.map fun n : Nat => (n : Int))).map .int)) = _
    rw [sortI_N, List.map_map]; rfl)
theorem rg1_i {k : List D → D} {i : Int} (hc : cRgOk 0 i = true) (h : m env tp = .ok (.int i) t1') : rg1E k m env tp = .ok (k (rangeL 0 i)) t1' := by
  unfold rg1E; rw [h]; simp only [RE.bind_ok]; rw [if_pos hc]
theorem cRgOk_i {i j : Int} (h1 : cRg i = true) (h2 : cRg j = true) (h3 : (j - i).toNat ≤ 16777216) : cRgOk i j = true := by
  unfold cRgOk; rw [h1, h2, decide_eq_true h3]; rfl
theorem cRg_zero : cRg 0 = true := by decide +kernel
theorem ev_rg1L {n : Nat} (hn : n ≤ 16777216) (h : m env tp = .ok (eN n) t1') : rg1E .lst m env tp = .ok (eL eN (List.range n)) t1' := by
  rw [rg1_i (cRgOk_i cRg_zero (cRg_nat (show n ≤ 1073741824 by omega)) (by omega)) h, rangeL_N]
theorem ev_rg1T {n : Nat} (hn : n ≤ 16777216) (h : m env tp = .ok (eN n) t1') : rg1E .tup m env tp = .ok (eT eN (List.range n)) t1' := by
  rw [rg1_i (cRgOk_i cRg_zero (cRg_nat (show n ≤ 1073741824 by omega)) (by omega)) h, rangeL_N]
theorem flatten_sing (bs : List Bool) : (bs.map fun b => [b]).flatten = bs := by
  induction bs with
  | nil => rfl
  | cons b bs ih => rw [List.map_cons, List.flatten_cons, ih]; rfl
theorem sum_lens (bs : List Row) : ((bs.map rowS).map (·.length)).sum = (bs.map (·.length)).sum := by
  rw [List.map_map]; congr 1; exact List.map_congr_left fun a _ => rowS_len a
theorem sum_ones {α : Type} (xs : List α) : (xs.map fun _ => 1).sum = xs.length := by
  induction xs with
  | nil => rfl
  | cons x xs ih => rw [List.map_cons, List.sum_cons, ih, List.length_cons]; omega
theorem join_R {d : D} {bs : List Row} (hd : itemsD d = some (bs.map eR)) (h : (bs.map (·.length)).sum ≤ 16777216) : joinD (.str "") d = some (eR bs.flatten) := by
  unfold joinD
  simp only
  rw [hd]
  simp only [Option.bind_some]
  rw [unS_mapR]
  simp only [Option.bind_some]
  have e : ("" : Str) = rowS [] := by decide +kernel
  rw [e, rowS_len, sum_lens, if_pos (by simpa using h), join_rows]
theorem ev_joinR {bs : List Row} (h : (bs.map (·.length)).sum ≤ 16777216) (hb : mb env tp = .ok (eL eR bs) t1') : methE isStrD joinD (cE (.str "")) mb env tp = .ok (eR bs.flatten) t1' :=
  ev_meth rfl rfl hb (join_R (d := eL eR bs) rfl h)
theorem ev_joinG {bs : List Bool} (h : bs.length ≤ 16777216) (hb : mb env tp = .ok (eL eG bs) t1') : methE isStrD joinD (cE (.str "")) mb env tp = .ok (eR bs) t1' := by
  have e : bs.map eG = (bs.map fun b => [b]).map eR := by rw [List.map_map]; rfl
  have := ev_joinR (bs := bs.map fun b => [b]) (by rw [List.map_map]; show (bs.map fun _ => 1).sum ≤ 16777216; rw [sum_ones]; exact h) (hb.trans (by show RE.ok (D.lst (bs.map eG)) t1' = _; rw [e]))
  rw [this, flatten_sing]
end
end T
set_option maxHeartbeats 1000000
namespace T
open PySem L2 G
abbrev Wn := DEnv → List D → Prop
abbrev Wr := D → List D → Prop
/-- N behind it, R where it returns, B where it breaks, C where it goes on with the next turn -/
inductive WP (N : Wn) (R : Wr) (B C : Wn) : RS → Prop
  | nx {e : DEnv} {t : List D} : N e t → WP N R B C (.nx e t)
  | rt {d : D} {t : List D} : R d t → WP N R B C (.rt d t)
  | bk {e : DEnv} {t : List D} : B e t → WP N R B C (.bk e t)
  | ct {e : DEnv} {t : List D} : C e t → WP N R B C (.ct e t)
abbrev At (s : SS) (env : DEnv) (tp : List D) : RS := s env tp
def no : Wn := fun _ _ => False
section
variable {α β γ δ : Type} {e : α → D} {e1 : β → D} {env : DEnv} {tp t1' t2' : List D} {m ma mb mc : SE D} {mi : SE (List D)} {ms : SE (List D)} {c : SE Bool} {N : Wn} {R : Wr} {B C : Wn} {s s1 s2 : SS} {P : Prop} [Decidable P]
theorem wp_seq (h : WP (fun e t => WP N R B C (s2 e t)) R B C (s1 env tp)) : WP N R B C (seqS s1 s2 env tp) := by
  unfold seqS
  cases q : s1 env tp with
  | nx e t => rw [q] at h; cases h with | nx h => exact h
  | rt d t => rw [q] at h; cases h with | rt h => exact .rt h
  | bk e t => rw [q] at h; cases h with | bk h => exact .bk h
  | ct e t => rw [q] at h; cases h with | ct h => exact .ct h
  | exn a b t => rw [q] at h; cases h
  | stuck => rw [q] at h; cases h
theorem wp_skip (h : N env tp) : WP N R B C (skipS env tp) := .nx h
theorem wp_set {i : Nat} {d : D} (h : m env tp = .ok d t1') (hn : N (env.set i (some d)) t1') : WP N R B C (setS i m env tp) := by
  unfold setS; rw [h]; exact .nx hn
theorem wp_setF {i : Nat} {d : D} (h : m env tp = .ok d t1') (hi : decide (i < env.length) = true) (hn : N (env.set i (some d)) t1') : WP N R B C (setFS i m env tp) := by
  unfold setFS; rw [h]
  show WP N R B C (if i < env.length then .nx (env.set i (some d)) t1' else .stuck)
  rw [if_pos (of_decide_eq_true hi)]; exact .nx hn
theorem wp_ret {d : D} (h : m env tp = .ok d t1') (hr : R d t1') : WP N R B C (retS m env tp) := by
  unfold retS; rw [h]; exact .rt hr
theorem wp_drop {d : D} (h : m env tp = .ok d t1') (hn : N env t1') : WP N R B C (dropS m env tp) := by
  unfold dropS; rw [h]; exact .nx hn
theorem wp_if (h : c env tp = .ok (decide P) t1') (hp : P → WP N R B C (s1 env t1')) (hn : ¬P → WP N R B C (s2 env t1')) : WP N R B C (ifS c s1 s2 env tp) := by
  unfold ifS; rw [h]
  show WP N R B C (if decide P = true then s1 env t1' else s2 env t1')
  by_cases q : P
  · rw [if_pos (decide_eq_true q)]; exact hp q
  · rw [if_neg (by simp [q])]; exact hn q
theorem wp_ifJ (J : DEnv → List D → Prop) (h : c env tp = .ok (decide P) t1') (hp : P → WP J R B C (s1 env t1')) (hn : ¬P → WP J R B C (s2 env t1')) (hJ : ∀ e t, J e t → N e t) : WP N R B C (ifS c s1 s2 env tp) := by
  have key : ∀ r : RS, WP J R B C r → WP N R B C r := fun r h => by
    cases h with
    | nx h => exact .nx (hJ _ _ h)
    | rt h => exact .rt h
    | bk h => exact .bk h
    | ct h => exact .ct h
  exact key _ (wp_if h hp hn)
theorem ev_as {x y : α} (h : x = y) {e : α → D} {r : RE D} {t : List D} (p : r = .ok (e y) t) : r = .ok (e x) t := by rw [h]; exact p
theorem ev_tt (h : P) {t : List D} : (RE.ok (eB (decide P)) t : RE D) = .ok (.bl true) t := by rw [decide_eq_true h]
theorem ev_compI {vs is : List Nat} {tgt : D → Option (List D)} {xs : List α} {ds : α → List D} {P : α → Prop} [DecidablePred P] (hi : mi env tp = .ok (xs.map e) t1') (hl : xs.length ≤ 1000000) (ht : ∀ x, tgt (e x) = some (ds x))
    (hc : ∀ x ∈ xs, c (setAll (wipeE env vs) is (ds x)) t1' = .ok (decide (P x)) t1') (hm : ∀ x ∈ xs, P x → m (setAll (wipeE env vs) is (ds x)) t1' = .ok (e x) t1') :
    compE mi vs tgt is c m env tp = .ok (eL e (xs.filter fun x => decide (P x))) t1' := by
  have := ev_comp (g := fun x => x) (e1 := e) (vs := vs) hi hl ht hc hm
  rw [this]
  simp
abbrev ER (m : SE D) (env : DEnv) (tp : List D) (e : α → D) : Prop := ∃ (v : α) (t' : List D), m env tp = .ok (e v) t' ∧ Tape t'
theorem er_pure {v : α} (ht : Tape tp) (h : m env tp = .ok (e v) tp) : ER m env tp e := ⟨v, tp, h, ht⟩
theorem er_post (h : ER m env tp e) : ∃ (v : α) (t' : List D), m env tp = .ok (e v) t' ∧ Tape t' ∧ True := by
  obtain ⟨v, t, a, b⟩ := h
  exact ⟨v, t, a, b, trivial⟩
theorem er_call {n : Nat} {f : List D → List D → RE D} {ds : List D} {p : α → Prop} (hs : ms env tp = .ok ds tp) (hn : ds.length = n) (h : ∃ (r : α) (t' : List D), f ds tp = .ok (e r) t' ∧ Tape t' ∧ p r) : ER (callE n f ms) env tp e := by
  obtain ⟨r, t, a, b, _⟩ := h
  exact ⟨r, t, ev_call hs hn a, b⟩
theorem er_gt {y : Nat} (ha : ER ma env tp eN) (hb : ∀ t, mb env t = .ok (eN y) t) : ER (binE gtD ma mb) env tp eB := by
  obtain ⟨x, t, a, b⟩ := ha
  exact ⟨_, t, ev_gt a (hb t), b⟩
theorem er_andE (ha : ER ma env tp eB) (hb : ∀ t, Tape t → ER mb env t eB) : ER (andE ma mb) env tp eB := by
  obtain ⟨x, t, a, b⟩ := ha
  unfold ER andE
  rw [a]
  cases x with
  | true => exact hb t b
  | false => exact ⟨false, t, rfl, b⟩
theorem er_orE (ha : ER ma env tp eB) (hb : ∀ t, Tape t → ER mb env t eB) : ER (orE ma mb) env tp eB := by
  obtain ⟨x, t, a, b⟩ := ha
  unfold ER orE
  rw [a]
  cases x with
  | false => exact hb t b
  | true => exact ⟨true, t, rfl, b⟩
theorem er_ifE (ht : Tape tp) (hc : c env tp = .ok (decide P) tp) (hp : P → ER ma env tp e) (hn : ¬P → ER mb env tp e) : ER (ifE c ma mb) env tp e := by
  unfold ER ifE
  rw [hc]
  simp only [RE.bind_ok]
  by_cases q : P
  · rw [decide_eq_true q]; exact hp q
  · rw [decide_eq_false q]; exact hn q
theorem wp_app {i : Nat} {xs : List α} {x : α} (he : env[i]? = some (some (eL e xs))) (h : m env tp = .ok (e x) t1') (hl : xs.length < 1000000) (hn : N (env.set i (some (eL e (xs ++ [x])))) t1') : WP N R B C (appS i m env tp) := by
  unfold appS
  rw [he]
  simp only
  rw [h]
  show WP N R B C (if (xs.map e).length < sizeLine then .nx (env.set i (some (.lst (xs.map e ++ [e x])))) t1' else .stuck)
  rw [List.length_map, if_pos (by have := small_line (Nat.le_refl 1000000); omega)]
  rw [show xs.map e ++ [e x] = (xs ++ [x]).map e from by rw [List.map_append]; rfl]
  exact .nx hn
theorem wp_par {is : List Nat} {ds : List D} (h : ms env tp = .ok ds t1') (hi : is.all (fun i => decide (i < env.length)) = true) (hn : N (setAll env is ds) t1') : WP N R B C (parS is ms env tp) := by
  unfold parS; rw [h]
  show WP N R B C (if is.all (fun i => decide (i < env.length)) = true then .nx (setAll env is ds) t1' else .stuck)
  rw [if_pos hi]; exact .nx hn
theorem wp_augN {i : Nat} {x y : Nat} (he : env[i]? = some (some (eN x))) (h : m env tp = .ok (eN y) t1') (hn : N (env.set i (some (eN (x + y)))) t1') : WP N R B C (augS i addD m env tp) := by
  unfold augS
  rw [he]
  simp only
  rw [h]
  show WP N R B C (.nx (env.set i (some (.int ((x : Int) + (y : Int))))) t1')
  rw [← Int.natCast_add]; exact .nx hn
theorem WP.imp {N' : Wn} {R' : Wr} {B' C' : Wn} {r : RS} (h : WP N R B C r) (hn : ∀ e t, N e t → N' e t) (hr : ∀ d t, R d t → R' d t) (hb : ∀ e t, B e t → B' e t) (hc : ∀ e t, C e t → C' e t) : WP N' R' B' C' r := by
  cases h with
  | nx h => exact .nx (hn _ _ h)
  | rt h => exact .rt (hr _ _ h)
  | bk h => exact .bk (hb _ _ h)
  | ct h => exact .ct (hc _ _ h)
theorem wp_forL {tgt : D → Option (List D)} {is : List Nat} {ds : α → List D} (I : Nat → Wn) (ht : ∀ x, tgt (e x) = some (ds x)) : ∀ (xs : List α) (k : Nat) (env : DEnv) (tp : List D), I k env tp →
    (∀ j x env t, xs[j]? = some x → I (k + j) env t → WP (I (k + j + 1)) R N (I (k + j + 1)) (s (setAll env is (ds x)) t)) → (∀ env t, I (k + xs.length) env t → N env t) → WP N R B C (forL tgt is s (xs.map e) env tp)
  | [], k, env, tp, h0, _, he => .nx (he env tp h0)
  | x :: xs, k, env, tp, h0, hs, he => by
    rw [List.map_cons]
    unfold forL
    rw [ht]
    simp only
    have h1 := hs 0 x env tp rfl h0
    have ih : ∀ env tp, I (k + 1) env tp → WP N R B C (forL tgt is s (xs.map e) env tp) := fun env tp hi => wp_forL I ht xs (k + 1) env tp hi (fun j y env t hj hi => by
      have q : k + 1 + j = k + (j + 1) := by omega
      rw [q] at hi ⊢
      exact hs (j + 1) y env t (by simpa using hj) hi) (fun env t hi => he env t (by rw [List.length_cons, show k + (xs.length + 1) = k + 1 + xs.length from by omega]; exact hi))
    cases q : s (setAll env is (ds x)) tp with
    | nx e t => rw [q] at h1; cases h1 with | nx h1 => exact ih e t h1
    | rt d t => rw [q] at h1; cases h1 with | rt h1 => exact .rt h1
    | bk e t => rw [q] at h1; cases h1 with | bk h1 => exact .nx h1
    | ct e t => rw [q] at h1; cases h1 with | ct h1 => exact ih e t h1
    | exn a b t => rw [q] at h1; cases h1
    | stuck => rw [q] at h1; cases h1
theorem wp_for {tgt : D → Option (List D)} {is : List Nat} {xs : List α} {ds : α → List D} (I : Nat → Wn) (hi : mi env tp = .ok (xs.map e) t1') (ht : ∀ x, tgt (e x) = some (ds x)) (h0 : I 0 env t1')
    (hs : ∀ k x env t, xs[k]? = some x → I k env t → WP (I (k + 1)) R N (I (k + 1)) (s (setAll env is (ds x)) t)) (he : ∀ env t, I xs.length env t → N env t) : WP N R B C (forS mi tgt is s env tp) := by
  unfold forS; rw [hi]
  exact wp_forL I ht xs 0 env t1' h0 (fun j x env t hj q => by rw [Nat.zero_add] at q ⊢; exact hs j x env t hj q) (fun env t q => he env t (by rw [Nat.zero_add] at q; exact q))
theorem wp_whileF (I : Nat → Wn) (hs : ∀ n env t, I n env t → ∃ (P : Prop) (dp : Decidable P), c env t = .ok (@decide P dp) t ∧ (P → WP (fun e t => ∃ n', n' < n ∧ I n' e t) R N (fun e t => ∃ n', n' < n ∧ I n' e t) (s env t)) ∧ (¬P → N env t)) : ∀ (f n : Nat) (env : DEnv) (tp : List D), n < f → I n env tp → WP N R B C (whileF c s f env tp)
  | 0, n, env, tp, hf, h0 => by omega
  | f + 1, n, env, tp, hf, h0 => by
    unfold whileF
    obtain ⟨P, dp, e1, e2, e3⟩ := hs n env tp h0
    rw [e1]
    show WP N R B C (if @decide P dp = true then _ else RS.nx env tp)
    by_cases q : P
    · rw [if_pos (decide_eq_true q)]
      have h1 := e2 q
      have ih : ∀ e t, (∃ n', n' < n ∧ I n' e t) → WP N R B C (whileF c s f e t) := fun e t ⟨n', l, i⟩ => wp_whileF I hs f n' e t (by omega) i
      cases q : s env tp with
      | nx e t => rw [q] at h1; cases h1 with | nx h1 => exact ih e t h1
      | rt d t => rw [q] at h1; cases h1 with | rt h1 => exact .rt h1
      | bk e t => rw [q] at h1; cases h1 with | bk h1 => exact .nx h1
      | ct e t => rw [q] at h1; cases h1 with | ct h1 => exact ih e t h1
      | exn a b t => rw [q] at h1; cases h1
      | stuck => rw [q] at h1; cases h1
    · rw [if_neg (by simp [q])]; exact .nx (e3 q)
theorem wp_while {f : Nat} (I : Nat → Wn) (h0 : ∃ n, n < f ∧ I n env tp) (hs : ∀ n env t, I n env t → ∃ (P : Prop) (dp : Decidable P), c env t = .ok (@decide P dp) t ∧ (P → WP (fun e t => ∃ n', n' < n ∧ I n' e t) R N (fun e t => ∃ n', n' < n ∧ I n' e t) (s env t)) ∧ (¬P → N env t)) : WP N R B C (whileS f c s env tp) := by
  obtain ⟨n, l, i⟩ := h0
  exact wp_whileF I hs f n env tp l i
/-- a def of data -/
theorem wp_def {n : Nat} {ds : List D} {Q : D → List D → Prop} (h : WP (fun _ t => Q .non t) Q no no (s (ds.map some ++ List.replicate (n - ds.length) none) tp)) : ∃ d t, defD n s ds tp = .ok d t ∧ Q d t := by
  unfold defD
  cases q : s (ds.map some ++ List.replicate (n - ds.length) none) tp with
  | nx e t => rw [q] at h; cases h with | nx h => exact ⟨.non, t, rfl, h⟩
  | rt d t => rw [q] at h; cases h with | rt h => exact ⟨d, t, rfl, h⟩
  | bk e t => rw [q] at h; cases h with | bk h => exact h.elim
  | ct e t => rw [q] at h; cases h with | ct h => exact h.elim
  | exn a b t => rw [q] at h; cases h
  | stuck => rw [q] at h; cases h
theorem wp_law {ns : List Int} {n : Nat} (h : WP no (fun d t => d = .bl true) no no (s (some (.scr ns) :: some .tape :: List.replicate n none) tp)) : ∃ t, retR (s (some (.scr ns) :: some .tape :: List.replicate n none) tp) = .ok (.bl true) t := by
  cases q : s (some (.scr ns) :: some .tape :: List.replicate n none) tp with
  | nx e t => rw [q] at h; cases h with | nx h => exact h.elim
  | rt d t => rw [q] at h; cases h with | rt h => exact ⟨t, by rw [show d = .bl true from h]; rfl⟩
  | bk e t => rw [q] at h; cases h with | bk h => exact h.elim
  | ct e t => rw [q] at h; cases h with | ct h => exact h.elim
  | exn a b t => rw [q] at h; cases h
  | stuck => rw [q] at h; cases h
end
end T
set_option maxHeartbeats 1000000
namespace T
open PySem L2 G
abbrev eD {β : Type} (e : β → D) (d : List (Nat × β)) : D := .dic (d.map fun p => (eN p.1, e p.2))
abbrev dkeys {β : Type} (d : List (Nat × β)) : List Nat := d.map (·.1)
def dget {β : Type} : List (Nat × β) → Nat → Option β
  | [], _ => none
  | (a, b) :: r, k => if a = k then some b else dget r k
def dput {β : Type} (d : List (Nat × β)) (k : Nat) (v : β) : List (Nat × β) := if (dget d k).isSome = true then d.map (fun p => if p.1 = k then (p.1, v) else p) else d ++ [(k, v)]
def dictOf {β : Type} (ps : List (Nat × β)) : List (Nat × β) := ps.foldl (fun d p => dput d p.1 p.2) []
section
variable {α β γ δ : Type} {e : β → D} {e1 : α → D} {e2 : γ → D} {env : DEnv} {tp t1' t2' t3' : List D} {m ma mb mc mk mv : SE D} {mi mi1 : SE (List D)} {c : SE Bool}
theorem key_eqN {a k : Nat} : (keyOf (eN a) = some (.inl (k : Int))) ↔ a = k := by
  show (some (Sum.inl (a : Int)) = some (Sum.inl (k : Int)) : Prop) ↔ _
  constructor
  · intro h; have := Sum.inl.inj (Option.some.inj h); omega
  · rintro rfl; rfl
theorem find_T (k : Nat) : ∀ d : List (Nat × β), findP keyOf (d.map fun p => (eN p.1, e p.2)) (.inl (k : Int)) = (dget d k).map e
  | [] => rfl
  | (a, b) :: r => by
    rw [List.map_cons]
    unfold findP dget
    by_cases q : a = k
    · rw [if_pos (key_eqN.mpr q), if_pos q]; rfl
    · rw [if_neg (fun z => q (key_eqN.mp z)), if_neg q]; exact find_T k r
theorem dget_isSome {d : List (Nat × β)} {k : Nat} : (dget d k).isSome = true ↔ k ∈ dkeys d := by
  induction d with
  | nil => simp [dget]
  | cons p r ih =>
    unfold dget
    by_cases q : p.1 = k
    · simp [q]
    · rw [if_neg q, ih]; simp [Ne.symm q]
theorem put_T (d : List (Nat × β)) (k : Nat) (v : β) : putP keyOf keyD (d.map fun p => (eN p.1, e p.2)) (.inl (k : Int)) (e v) = (dput d k v).map fun p => (eN p.1, e p.2) := by
  unfold putP dput
  rw [find_T, Option.isSome_map]
  by_cases q : (dget d k).isSome = true
  · rw [if_pos q, if_pos q, List.map_map, List.map_map]
    refine List.map_congr_left fun p _ => ?_
    show (if keyOf (eN p.1) = some (.inl (k : Int)) then (eN p.1, e v) else (eN p.1, e p.2)) = _
    by_cases z : p.1 = k
    · rw [if_pos (key_eqN.mpr z)]; simp [z]
    · rw [if_neg fun y => z (key_eqN.mp y)]; simp [z]
  · rw [if_neg q, if_neg q, List.map_append]; rfl
theorem dget_N (d : List (Nat × β)) (k : Nat) : dgetD (eD e d) (eN k) = some ((dget d k).map e) := by
  show some (findP keyOf (d.map fun p => (eN p.1, e p.2)) (.inl (k : Int))) = _
  rw [find_T]
theorem ev_inK {x : Nat} {d : List (Nat × β)} (ha : ma env tp = .ok (eN x) t1') (hb : mb env t1' = .ok (eD e d) t2') : binE (inKD false) ma mb env tp = .ok (eB (decide (x ∈ dkeys d))) t2' :=
  ev_bin ha hb (by
    unfold inKD
    rw [dget_N]
    show some (D.bl ((dget d x).map e).isSome) = _
    rw [Option.isSome_map]
    congr 2
    by_cases q : x ∈ dkeys d
    · rw [decide_eq_true q]; exact dget_isSome.mpr q
    · rw [decide_eq_false q]
      cases z : (dget d x).isSome with
      | false => rfl
      | true => exact (q (dget_isSome.mp z)).elim)
theorem ev_ninK {x : Nat} {d : List (Nat × β)} (ha : ma env tp = .ok (eN x) t1') (hb : mb env t1' = .ok (eD e d) t2') : binE (inKD true) ma mb env tp = .ok (eB (decide (x ∉ dkeys d))) t2' :=
  ev_bin ha hb (by
    unfold inKD
    rw [dget_N]
    show some (D.bl (!((dget d x).map e).isSome)) = _
    rw [Option.isSome_map]
    congr 2
    by_cases q : x ∈ dkeys d
    · rw [decide_eq_false (by simp [q])]
      rw [dget_isSome.mpr q]; rfl
    · rw [decide_eq_true q]
      cases z : (dget d x).isSome with
      | false => rfl
      | true => exact (q (dget_isSome.mp z)).elim)
theorem len_dput (d : List (Nat × β)) (k : Nat) (v : β) : (dput d k v).length ≤ d.length + 1 := by
  unfold dput
  split
  · rw [List.length_map]; omega
  · rw [List.length_append, List.length_singleton]; omega
theorem fold_T {f : List (D × D) → D → List D → RE (List (D × D))} {h : List (Nat × β) → α → List (Nat × β)} : ∀ {xs : List α} {d : List (Nat × β)},
    (∀ x ∈ xs, ∀ d : List (Nat × β), d.length < 1000000 → f (d.map fun p => (eN p.1, e p.2)) (e1 x) tp = .ok ((h d x).map fun p => (eN p.1, e p.2)) tp) → (∀ x ∈ xs, ∀ d, (h d x).length ≤ d.length + 1) → d.length + xs.length ≤ 1000000 →
    foldR f (xs.map e1) (d.map fun p => (eN p.1, e p.2)) tp = .ok ((xs.foldl h d).map fun p => (eN p.1, e p.2)) tp
  | [], d, _, _, _ => rfl
  | x :: xs, d, hf, hl, hn => by
    rw [List.map_cons]
    unfold foldR
    rw [List.length_cons] at hn
    rw [hf x List.mem_cons_self d (by omega)]
    simp only
    have := hl x List.mem_cons_self d
    exact fold_T (fun y hy => hf y (List.mem_cons_of_mem _ hy)) (fun y hy => hl y (List.mem_cons_of_mem _ hy)) (by omega)
theorem pair_T {k : Nat} {v : β} {d : List (Nat × β)} (hl : d.length < 1000000) (hk : mk env tp = .ok (eN k) tp) (hv : mv env tp = .ok (e v) tp) : pairT mk mv env (d.map fun p => (eN p.1, e p.2)) tp = .ok ((dput d k v).map fun p => (eN p.1, e p.2)) tp := by
  unfold pairT
  rw [hk]; simp only
  rw [hv]; simp only
  unfold putR
  rw [List.length_map, if_pos (by have := small_line (Nat.le_refl 1000000); omega)]
  show RE.ok (putP keyOf keyD (d.map fun p => (eN p.1, e p.2)) (.inl (k : Int)) (e v)) tp = _
  rw [put_T]
theorem dictOf_map (g : α → Nat × β) (xs : List α) : dictOf (xs.map g) = xs.foldl (fun d x => dput d (g x).1 (g x).2) [] := by
  unfold dictOf; rw [List.foldl_map]
theorem ev_dc {vs is : List Nat} {tgt : D → Option (List D)} {xs : List α} {ds : α → List D} {k : α → Nat} {v : α → β} (hi : mi env tp = .ok (xs.map e1) t1') (hl : xs.length ≤ 1000000) (ht : ∀ x, tgt (e1 x) = some (ds x))
    (hk : ∀ x ∈ xs, mk (setAll (wipeE env vs) is (ds x)) t1' = .ok (eN (k x)) t1') (hv : ∀ x ∈ xs, mv (setAll (wipeE env vs) is (ds x)) t1' = .ok (e (v x)) t1') :
    dcE mi vs tgt is mk mv env tp = .ok (eD e (dictOf (xs.map fun x => (k x, v x)))) t1' := by
  unfold dcE
  rw [hi]
  simp only [RE.bind_ok]
  have := fold_T (f := dcTurn tgt is mk mv (wipeE env vs)) (e := e) (e1 := e1) (tp := t1') (h := fun d x => dput d (k x) (v x)) (xs := xs) (d := []) (fun x hx d hd => by
    unfold dcTurn
    rw [ht]
    exact pair_T hd (hk x hx) (hv x hx)) (fun x _ d => len_dput _ _ _) (by simpa using hl)
  rw [show ([] : List (D × D)) = (([] : List (Nat × β)).map fun p => (eN p.1, e p.2)) from rfl, this]
  simp only
  rw [dictOf_map]
theorem ev_dc2 {vs is vs1 is1 : List Nat} {tgt tgt1 : D → Option (List D)} {xs : List α} {ds : α → List D} {ys : α → List γ} {ds1 : γ → List D} {k : α → γ → Nat} {v : α → γ → β} (hi : mi env tp = .ok (xs.map e1) t1') (ht : ∀ x, tgt (e1 x) = some (ds x))
    (hi1 : ∀ x ∈ xs, mi1 (setAll (wipeE env vs) is (ds x)) t1' = .ok ((ys x).map e2) t1') (ht1 : ∀ y, tgt1 (e2 y) = some (ds1 y))
    (hk : ∀ x ∈ xs, ∀ y ∈ ys x, mk (setAll (wipeE (setAll (wipeE env vs) is (ds x)) vs1) is1 (ds1 y)) t1' = .ok (eN (k x y)) t1')
    (hv : ∀ x ∈ xs, ∀ y ∈ ys x, mv (setAll (wipeE (setAll (wipeE env vs) is (ds x)) vs1) is1 (ds1 y)) t1' = .ok (e (v x y)) t1')
    (hl : (xs.flatMap ys).length ≤ 1000000) :
    dc2E mi vs tgt is mi1 vs1 tgt1 is1 mk mv env tp = .ok (eD e (dictOf (xs.flatMap fun x => (ys x).map fun y => (k x y, v x y)))) t1' := by
  unfold dc2E
  rw [hi]
  simp only [RE.bind_ok]
  have key : ∀ (zs : List α) (d : List (Nat × β)), (∀ x ∈ zs, x ∈ xs) → d.length + (zs.flatMap ys).length ≤ 1000000 → foldR (dcTurn2 tgt is mi1 vs1 tgt1 is1 mk mv (wipeE env vs)) (zs.map e1) (d.map fun p => (eN p.1, e p.2)) t1' =
      .ok ((zs.foldl (fun d x => (ys x).foldl (fun d y => dput d (k x y) (v x y)) d) d).map fun p => (eN p.1, e p.2)) t1' := by
    intro zs
    induction zs with
    | nil => intro d _ _; rfl
    | cons x zs ih =>
      intro d hz hn
      rw [List.flatMap_cons, List.length_append] at hn
      rw [List.map_cons]
      unfold foldR
      have hx := hz x List.mem_cons_self
      have one : dcTurn2 tgt is mi1 vs1 tgt1 is1 mk mv (wipeE env vs) (d.map fun p => (eN p.1, e p.2)) (e1 x) t1' = .ok (((ys x).foldl (fun d y => dput d (k x y) (v x y)) d).map fun p => (eN p.1, e p.2)) t1' := by
        unfold dcTurn2
        rw [ht]
        simp only
        rw [hi1 x hx]
        simp only
        exact fold_T (e := e) (e1 := e2) (h := fun d y => dput d (k x y) (v x y)) (fun y hy d hd => by
          unfold dcTurn
          rw [ht1]
          exact pair_T hd (hk x hx y hy) (hv x hx y hy)) (fun y _ d => len_dput _ _ _) (by omega)
      rw [one]
      simp only
      have len : ∀ (us : List γ) (d : List (Nat × β)), (us.foldl (fun d y => dput d (k x y) (v x y)) d).length ≤ d.length + us.length := by
        intro us
        induction us with
        | nil => intro d; exact Nat.le_refl _
        | cons u us ih2 =>
          intro d
          rw [List.foldl_cons, List.length_cons]
          have a := ih2 (dput d (k x u) (v x u))
          have b := len_dput d (k x u) (v x u)
          omega
      have := len (ys x) d
      exact ih _ (fun z h => hz z (List.mem_cons_of_mem _ h)) (by omega)
  have := key xs [] (fun _ h => h) (by simpa using hl)
  rw [show ([] : List (D × D)) = (([] : List (Nat × β)).map fun p => (eN p.1, e p.2)) from rfl, this]
  simp only
  congr 2
  unfold dictOf
  rw [List.foldl_flatMap]
  congr 1
  congr 1
  funext d x
  rw [List.foldl_map]
theorem ev_sortK {d : List (Nat × β)} (h : d.length < 64) (hm : m env tp = .ok (eD e d) t1') : callB sortKD (consA m nilA) env tp = .ok (eL eN (sortN (dkeys d))) t1' :=
  ev_callB (ev_cons hm ev_nil) (by
    show (if (d.map fun p => (eN p.1, e p.2)).length < 64 then (unI ((d.map fun p => (eN p.1, e p.2)).map (·.1))).map (fun ns => D.lst ((_root_.G.sortI ns).map .int)) else none) = _
    rw [List.length_map, if_pos h, List.map_map]
    have : ((fun p : D × D => p.1) ∘ fun p : Nat × β => (eN p.1, e p.2)) = eN ∘ (·.1) := rfl
    rw [this, ← List.map_map, unI_mapN]
    show some (D.lst ((_root_.G.sortI ((dkeys d).map fun n : Nat => (n : Int))).map .int)) = _
    rw [sortI_N, List.map_map]; rfl)
theorem wp_dset {N : Wn} {R : Wr} {B C : Wn} {i k : Nat} {v : β} {d : List (Nat × β)} (he : env[i]? = some (some (eD e d))) (hv : mv env tp = .ok (e v) t1') (hk : mk env t1' = .ok (eN k) t2') (hl : d.length < 1000000) (hn : N (env.set i (some (eD e (dput d k v)))) t2') : WP N R B C (dsetS i mk mv env tp) := by
  unfold dsetS
  rw [he]
  simp only
  rw [hv]
  show WP N R B C ((mk env t1').bindS fun k tp2 => (match putD (eD e d) k (e v) with
    | some d' => RS.nx (env.set i (some d')) tp2
    | none => RS.stuck))
  rw [hk]
  have : putD (eD e d) (eN k) (e v) = some (eD e (dput d k v)) := by
    show (if (d.map fun p => (eN p.1, e p.2)).length < sizeLine then some (D.dic (putP keyOf keyD (d.map fun p => (eN p.1, e p.2)) (.inl (k : Int)) (e v))) else none) = _
    rw [List.length_map, if_pos (by have := small_line (Nat.le_refl 1000000); omega), put_T]
  show WP N R B C (match putD (eD e d) (eN k) (e v) with
    | some d' => RS.nx (env.set i (some d')) t2'
    | none => RS.stuck)
  rw [this]
  exact .nx hn
theorem dkeys_dput {d : List (Nat × β)} {k x : Nat} {v : β} : x ∈ dkeys (dput d k v) ↔ x ∈ dkeys d ∨ x = k := by
  unfold dput
  by_cases q : (dget d k).isSome = true
  · rw [if_pos q]
    have hk := dget_isSome.mp q
    have e : dkeys (d.map fun p => if p.1 = k then (p.1, v) else p) = dkeys d := by
      unfold dkeys
      rw [List.map_map]
      refine List.map_congr_left fun p _ => ?_
      show (if p.1 = k then (p.1, v) else p).1 = p.1
      split <;> rfl
    rw [e]
    exact ⟨.inl, fun h => h.elim id fun h => h ▸ hk⟩
  · rw [if_neg q]
    unfold dkeys
    rw [List.map_append, List.mem_append]
    simp
theorem dkeys_fold {ps : List (Nat × β)} {x : Nat} : ∀ {d : List (Nat × β)}, x ∈ dkeys (ps.foldl (fun d p => dput d p.1 p.2) d) ↔ x ∈ dkeys d ∨ x ∈ dkeys ps := by
  induction ps with
  | nil => intro d; simp
  | cons p ps ih =>
    intro d
    rw [List.foldl_cons, ih, dkeys_dput]
    simp only [List.map_cons, List.mem_cons]
    exact or_assoc
theorem mem_dictOf {ps : List (Nat × β)} {x : Nat} : x ∈ dkeys (dictOf ps) ↔ x ∈ dkeys ps := by
  unfold dictOf; rw [dkeys_fold]; simp
end
end T
set_option maxHeartbeats 1000000
namespace T
open PySem L2 G
end T
namespace T
open PySem L2 G
structure KeyE {κ : Type} (e1 : κ → D) where
  q : κ → List Key
  of : ∀ k, keysOf (e1 k) = some (q k)
  kd : ∀ k, keyT (q k) = e1 k
  inj : ∀ a b, q a = q b → a = b
section
variable {κ β α : Type} [DecidableEq κ] {e1 : κ → D} {e : β → D} {env : DEnv} {tp t1' t2' t3' : List D} {m ma mb mc mk mv : SE D}
theorem KeyE.eq (h : KeyE e1) {a k : κ} : keysOf (e1 a) = some (h.q k) ↔ a = k := by
  rw [h.of]
  exact ⟨fun z => h.inj _ _ (Option.some.inj z), fun z => by rw [z]⟩
end
end T
namespace T
open PySem L2 G
end T
set_option maxHeartbeats 1000000
namespace T
open PySem L2 G
end T
set_option maxHeartbeats 1000000
namespace T
open PySem L2 G
end T
set_option maxHeartbeats 1000000
namespace T
open PySem L2 G
end T
set_option maxHeartbeats 1000000
namespace T
open PySem L2 G
end T
set_option maxHeartbeats 1000000
namespace T
open PySem L2 G
end T
set_option maxHeartbeats 1000000
namespace T
open PySem L2 G
end T
set_option maxHeartbeats 1000000
namespace T
open PySem L2 G
end T
set_option maxHeartbeats 1000000
namespace T
open PySem L2 G
abbrev eQ {α : Type} (e : α → D) (xs : List α) : D := .tuq (xs.map e)
section
variable {α : Type} {e : α → D} {env : DEnv} {tp t1' t2' : List D} {m ma mb : SE D}
theorem ev_tupleQ {xs : List α} (h : m env tp = .ok (eL e xs) t1') : callB tupleqD (consA m nilA) env tp = .ok (eQ e xs) t1' := ev_callB (ev_cons h ev_nil) rfl
theorem ev_unq {xs : List α} (h : m env tp = .ok (eQ e xs) t1') : unqE m env tp = .ok (eT e xs) t1' := by unfold unqE; rw [h]; rfl
theorem idx_cast (x : Nat) : ∀ xs : List Nat, (xs.map fun n : Nat => (n : Int)).idxOf (x : Int) = xs.idxOf x
  | [] => rfl
  | y :: ys => by
    rw [List.map_cons, List.idxOf_cons, List.idxOf_cons, idx_cast x ys]
    by_cases q : y = x
    · subst q; simp
    · have q1 : (y == x) = false := by simpa using q
      have q2 : ((y : Int) == (x : Int)) = false := by simpa using fun z => q (by omega)
      rw [q1, q2]
theorem ev_indexT {xs : List Nat} {x : Nat} (hx : x ∈ xs) (ha : ma env tp = .ok (eQ eN xs) t1') (hb : mb env t1' = .ok (eN x) t2') : indexTE ma mb env tp = .ok (eN (xs.idxOf x)) t2' := by
  have hi : (x : Int) ∈ (xs.map fun n : Nat => (n : Int)) := List.mem_map.mpr ⟨x, hx, rfl⟩
  have e1 : indexTD (eQ eN xs) (eN x) = some (eN (xs.idxOf x)) := by
    show (unI (xs.map eN)).bind _ = _
    rw [unI_mapN]
    show (if (x : Int) ∈ (xs.map fun n : Nat => (n : Int)) then some (D.int (((xs.map fun n : Nat => (n : Int)).idxOf (x : Int) : Nat) : Int)) else none) = _
    rw [if_pos hi, idx_cast]
  unfold indexTE methE
  rw [ha]
  show (RE.bind (mb env t1') _) = _
  rw [hb]
  show RE.of (indexTD (eQ eN xs) (eN x)) t2' = _
  rw [e1]; rfl
end
end T
set_option maxHeartbeats 4000000
namespace W
open PySem L2 G
/-- what the top leaves -/
structure Tx (K : PySem.W.Frag) (mg : Str → Option Value) : Prop where
  all : mg "all" = none
  any : mg "any" = none
  bool : mg "bool" = none
  enumerate : mg "enumerate" = none
  int : mg "int" = none
  isinstance : mg "isinstance" = none
  len : mg "len" = none
  list : mg "list" = none
  range : mg "range" = none
  sorted : mg "sorted" = none
  str : mg "str" = none
  sum : mg "sum" = none
  tuple : mg "tuple" = none
  zip : mg "zip" = none
  MOST_SIDE : ∃ t, mg "MOST_SIDE" = some (.int 30 t)
  BLACK : ∃ t, mg "BLACK" = some (.str "#" t)
  WHITE : ∃ t, mg "WHITE" = some (.str "." t)
  f_is_int : ∃ f fd, FunD K "is_int" "is_int" (defArgs (top 11)) (defBody (top 11)) (defScope (top 11)) [] [] f fd ∧ mg "is_int" = some (.ref f)
  f_is_in : ∃ f fd, FunD K "is_in" "is_in" (defArgs (top 12)) (defBody (top 12)) (defScope (top 12)) [] [] f fd ∧ mg "is_in" = some (.ref f)
  f_is_picture : ∃ f fd, FunD K "is_picture" "is_picture" (defArgs (top 13)) (defBody (top 13)) (defScope (top 13)) [] [] f fd ∧ mg "is_picture" = some (.ref f)
  f_need_picture : ∃ f fd, FunD K "need_picture" "need_picture" (defArgs (top 14)) (defBody (top 14)) (defScope (top 14)) [] [] f fd ∧ mg "need_picture" = some (.ref f)
  f_need_two : ∃ f fd, FunD K "need_two" "need_two" (defArgs (top 15)) (defBody (top 15)) (defScope (top 15)) [] [] f fd ∧ mg "need_two" = some (.ref f)
  f_lines_of : ∃ f fd, FunD K "lines_of" "lines_of" (defArgs (top 16)) (defBody (top 16)) (defScope (top 16)) [] [] f fd ∧ mg "lines_of" = some (.ref f)
  f_need_line : ∃ f fd, FunD K "need_line" "need_line" (defArgs (top 17)) (defBody (top 17)) (defScope (top 17)) [] [] f fd ∧ mg "need_line" = some (.ref f)
  f_are_lines : ∃ f fd, FunD K "are_lines" "are_lines" (defArgs (top 18)) (defBody (top 18)) (defScope (top 18)) [] [] f fd ∧ mg "are_lines" = some (.ref f)
  f_need_lines : ∃ f fd, FunD K "need_lines" "need_lines" (defArgs (top 19)) (defBody (top 19)) (defScope (top 19)) [] [] f fd ∧ mg "need_lines" = some (.ref f)
  f_differing : ∃ f fd, FunD K "differing" "differing" (defArgs (top 20)) (defBody (top 20)) (defScope (top 20)) [] [] f fd ∧ mg "differing" = some (.ref f)
  f_differences : ∃ f fd, FunD K "differences" "differences" (defArgs (top 21)) (defBody (top 21)) (defScope (top 21)) [] [] f fd ∧ mg "differences" = some (.ref f)
  f_part_of : ∃ f fd, FunD K "part_of" "part_of" (defArgs (top 22)) (defBody (top 22)) (defScope (top 22)) [] [] f fd ∧ mg "part_of" = some (.ref f)
  f_part : ∃ f fd, FunD K "part" "part" (defArgs (top 23)) (defBody (top 23)) (defScope (top 23)) [] [] f fd ∧ mg "part" = some (.ref f)
  f_leads_to : ∃ f fd, FunD K "leads_to" "leads_to" (defArgs (top 25)) (defBody (top 25)) (defScope (top 25)) [] [] f fd ∧ mg "leads_to" = some (.ref f)
  f_layers_of : ∃ f fd, FunD K "layers_of" "layers_of" (defArgs (top 26)) (defBody (top 26)) (defScope (top 26)) [] [] f fd ∧ mg "layers_of" = some (.ref f)
  f_core_of : ∃ f fd, FunD K "core_of" "core_of" (defArgs (top 27)) (defBody (top 27)) (defScope (top 27)) [] [] f fd ∧ mg "core_of" = some (.ref f)
  f_core : ∃ f fd, FunD K "core" "core" (defArgs (top 28)) (defBody (top 28)) (defScope (top 28)) [] [] f fd ∧ mg "core" = some (.ref f)
  f_is_free_of : ∃ f fd, FunD K "is_free_of" "is_free_of" (defArgs (top 29)) (defBody (top 29)) (defScope (top 29)) [] [] f fd ∧ mg "is_free_of" = some (.ref f)
  f_is_free : ∃ f fd, FunD K "is_free" "is_free" (defArgs (top 30)) (defBody (top 30)) (defScope (top 30)) [] [] f fd ∧ mg "is_free" = some (.ref f)
  f_level : ∃ f fd, FunD K "level" "level" (defArgs (top 31)) (defBody (top 31)) (defScope (top 31)) [] [] f fd ∧ mg "level" = some (.ref f)
  f_round_of_four : ∃ f fd, FunD K "round_of_four" "round_of_four" (defArgs (top 32)) (defBody (top 32)) (defScope (top 32)) [] [] f fd ∧ mg "round_of_four" = some (.ref f)
  f_meets : ∃ f fd, FunD K "meets" "meets" (defArgs (top 34)) (defBody (top 34)) (defScope (top 34)) [] [] f fd ∧ mg "meets" = some (.ref f)
  f_least_of : ∃ f fd, FunD K "least_of" "least_of" (defArgs (top 35)) (defBody (top 35)) (defScope (top 35)) [] [] f fd ∧ mg "least_of" = some (.ref f)
  f_trimmed : ∃ f fd, FunD K "trimmed" "trimmed" (defArgs (top 36)) (defBody (top 36)) (defScope (top 36)) [] [] f fd ∧ mg "trimmed" = some (.ref f)
  f_comes : ∃ f fd, FunD K "comes" "comes" (defArgs (top 37)) (defBody (top 37)) (defScope (top 37)) [] [] f fd ∧ mg "comes" = some (.ref f)
  f_need_way : ∃ f fd, FunD K "need_way" "need_way" (defArgs (top 38)) (defBody (top 38)) (defScope (top 38)) [] [] f fd ∧ mg "need_way" = some (.ref f)
  f_least_lines : ∃ f fd, FunD K "least_lines" "least_lines" (defArgs (top 39)) (defBody (top 39)) (defScope (top 39)) [] [] f fd ∧ mg "least_lines" = some (.ref f)
  f_fewest : ∃ f fd, FunD K "fewest" "fewest" (defArgs (top 40)) (defBody (top 40)) (defScope (top 40)) [] [] f fd ∧ mg "fewest" = some (.ref f)
  f_count_rounds : ∃ f fd, FunD K "count_rounds" "count_rounds" (defArgs (top 42)) (defBody (top 42)) (defScope (top 42)) [] [] f fd ∧ mg "count_rounds" = some (.ref f)
  f_mended_start : ∃ f fd, FunD K "mended_start" "mended_start" (defArgs (top 43)) (defBody (top 43)) (defScope (top 43)) [] [] f fd ∧ mg "mended_start" = some (.ref f)
  f_cells_to_mend : ∃ f fd, FunD K "cells_to_mend" "cells_to_mend" (defArgs (top 44)) (defBody (top 44)) (defScope (top 44)) [] [] f fd ∧ mg "cells_to_mend" = some (.ref f)
  f_law_taken : ∃ f fd, FunD K "_law_taken" "_law_taken" (defArgs (top 46)) (defBody (top 46)) (defScope (top 46)) [] [] f fd ∧ mg "_law_taken" = some (.ref f)
  f_law_pick : ∃ f fd, FunD K "_law_pick" "_law_pick" (defArgs (top 47)) (defBody (top 47)) (defScope (top 47)) [] [] f fd ∧ mg "_law_pick" = some (.ref f)
  f_law_mixed : ∃ f fd, FunD K "_law_mixed" "_law_mixed" (defArgs (top 48)) (defBody (top 48)) (defScope (top 48)) [] [] f fd ∧ mg "_law_mixed" = some (.ref f)
  f_law_any : ∃ f fd, FunD K "_law_any" "_law_any" (defArgs (top 49)) (defBody (top 49)) (defScope (top 49)) [] [] f fd ∧ mg "_law_any" = some (.ref f)
  f_law_paint : ∃ f fd, FunD K "_law_paint" "_law_paint" (defArgs (top 50)) (defBody (top 50)) (defScope (top 50)) [] [] f fd ∧ mg "_law_paint" = some (.ref f)
  f_law_painted : ∃ f fd, FunD K "_law_painted" "_law_painted" (defArgs (top 51)) (defBody (top 51)) (defScope (top 51)) [] [] f fd ∧ mg "_law_painted" = some (.ref f)
  f_law_deeds : ∃ f fd, FunD K "_law_deeds" "_law_deeds" (defArgs (top 52)) (defBody (top 52)) (defScope (top 52)) [] [] f fd ∧ mg "_law_deeds" = some (.ref f)
  f_law_picture : ∃ f fd, FunD K "_law_picture" "_law_picture" (defArgs (top 53)) (defBody (top 53)) (defScope (top 53)) [] [] f fd ∧ mg "_law_picture" = some (.ref f)
  f_law_start : ∃ f fd, FunD K "_law_start" "_law_start" (defArgs (top 54)) (defBody (top 54)) (defScope (top 54)) [] [] f fd ∧ mg "_law_start" = some (.ref f)
  f_law_layers : ∃ f fd, FunD K "_law_layers" "_law_layers" (defArgs (top 55)) (defBody (top 55)) (defScope (top 55)) [] [] f fd ∧ mg "_law_layers" = some (.ref f)
  f_law_core : ∃ f fd, FunD K "_law_core" "_law_core" (defArgs (top 56)) (defBody (top 56)) (defScope (top 56)) [] [] f fd ∧ mg "_law_core" = some (.ref f)
section
variable {P : Program} {w : World} {K : PySem.W.Frag} {mg : Str → Option Value} {base : Heap} {r : Addr}
abbrev s_is_int : Stmt := top 11
theorem sc_is_int : FnScope ["value"] ["value"] (defScope s_is_int) := ⟨rfl, rfl, rfl, by decide +kernel, rfl, by decide +kernel, by decide +kernel⟩
def b_is_int : SS := retS (andE (callB isiD (consA (vE 0) (consA (cE (.ty "int")) (nilA)))) (notE (callB isiD (consA (vE 0) (consA (cE (.ty "bool")) (nilA))))))
def m_is_int : List D → List D → RE D := defD 1 b_is_int
theorem d_is_int (T : Tx K mg) : DefOk P w K mg base CX0 r "is_int" 1 1 m_is_int := by
  obtain ⟨f, fd, F, hm⟩ := T.f_is_int
  refine fn_def (k := 0) F sc_is_int hm (fun _ _ _ _ _ _ us hl => match us, hl with | [_], _ => rfl) (fun cdv A outer s H E hr => ?_) (m := b_is_int)
  exact ⟨_, _, (gss_one (gs_ret (On := []) (ge_and (ge_isi T.isinstance (gao_cons ((ge_var 0)).go (gao_cons ((ge_ty T.int)).go gao_nil))) (ge_one (ge_not (ge_isi T.isinstance (gao_cons ((ge_var 0)).go (gao_cons ((ge_ty T.bool)).go gao_nil))))))))⟩
abbrev s_is_picture : Stmt := top 13
theorem sc_is_picture : FnScope ["value", "row", "sign"] ["value"] (defScope s_is_picture) := ⟨rfl, rfl, rfl, by decide +kernel, rfl, by decide +kernel, by decide +kernel⟩
def b_is_picture : SS := seqS (ifS (orT (notT (boolE (callB isiD (consA (vE 0) (consA (cE (.ty "tuple")) (nilA)))))) (notT (boolE (chainE leD leD (cE (.int 1)) (callB lenD (consA (vE 0) (nilA))) (cE (.int 30)))))) (retS (cE (.bl false))) (skipS)) (seqS (ifS (orT (notT (boolE (callB allD (consA (compE (seqI (vE 0)) [1] t1 [1] (yesT) (callB isiD (consA (vE 1) (consA (cE (.ty "str")) (nilA))))) (nilA))))) (notT (boolE (chainE leD leD (cE (.int 1)) (callB lenD (consA (binE ixD (vE 0) (cE (.int 0))) (nilA))) (cE (.int 30)))))) (retS (cE (.bl false))) (skipS)) (retS (callB allD (consA (compE (seqI (vE 0)) [1] t1 [1] (yesT) (andE (binE eqD (callB lenD (consA (vE 1) (nilA))) (callB lenD (consA (binE ixD (vE 0) (cE (.int 0))) (nilA)))) (callB allD (consA (compE (seqI (vE 1)) [2] t1 [2] (yesT) (binE inD (vE 2) (tupE (consA (cE (.str "#")) (consA (cE (.str ".")) (nilA)))))) (nilA))))) (nilA)))))
def m_is_picture : List D → List D → RE D := defD 3 b_is_picture
theorem d_is_picture (T : Tx K mg) : DefOk P w K mg base CX0 r "is_picture" 1 1 m_is_picture := by
  obtain ⟨f, fd, F, hm⟩ := T.f_is_picture
  refine fn_def (k := 0) F sc_is_picture hm (fun _ _ _ _ _ _ us hl => match us, hl with | [_], _ => rfl) (fun cdv A outer s H E hr => ?_) (m := b_is_picture)
  exact ⟨_, _, (gss_cons (gs_if ((gw_or (gt_not (gt_val (ge_isi T.isinstance (gao_cons ((ge_var 0)).go (gao_cons ((ge_ty T.tuple)).go gao_nil))))) (gw_or1 (gt_not (gt_leLe (ge_int).go ((ge_len T.len (gao_cons ((ge_var 0)).go gao_nil))).go ((ge_gint T.MOST_SIDE)).go))))).gt (gss_one (gs_ret (On := []) ge_bl)) (GSs.post (On' := []) (by decide) gss_nil)) (gss_cons (gs_if ((gw_or (gt_not (gt_val (ge_all rfl T.all (gao_cons (((gf_lc (own := [("row", 1)]) rfl sc_is_picture.nd (gi_seq (ge_var 0)) (blkOk_by (by kernel_rfl)) (fun _ _ _ _ _ => (gg_name 1 sc_is_picture.nd)) (fun _ _ _ _ _ => gts_nil) (fun _ _ _ _ _ => (ge_isi T.isinstance (gao_cons ((ge_var 1)).go (gao_cons ((ge_ty T.str)).go gao_nil)))) (by decide) (by decide))).ge).go gao_nil)))) (gw_or1 (gt_not (gt_leLe (ge_int).go ((ge_len T.len (gao_cons ((ge_sub1 ((ge_var 0)).go (ge_int).go)).go gao_nil))).go ((ge_gint T.MOST_SIDE)).go))))).gt (gss_one (gs_ret (On := []) ge_bl)) (GSs.post (On' := []) (by decide) gss_nil)) (gss_one (gs_ret (On := []) (ge_all rfl T.all (gao_cons (((gf_lc (own := [("row", 1)]) rfl sc_is_picture.nd (gi_seq (ge_var 0)) (blkOk_by (by kernel_rfl)) (fun _ _ _ _ _ => (gg_name 1 sc_is_picture.nd)) (fun _ _ _ _ _ => gts_nil) (fun _ _ _ _ _ => (ge_and (ge_eq hr.units ((ge_len T.len (gao_cons ((ge_var 1)).go gao_nil))).go ((ge_len T.len (gao_cons ((ge_sub1 ((ge_var 0)).go (ge_int).go)).go gao_nil))).go) (ge_one (ge_all rfl T.all (gao_cons (((gf_lc (own := [("sign", 2)]) rfl sc_is_picture.nd (gi_seq (ge_var 1)) (blkOk_by (by kernel_rfl)) (fun _ _ _ _ _ => (gg_name 2 sc_is_picture.nd)) (fun _ _ _ _ _ => gts_nil) (fun _ _ _ _ _ => (ge_in hr.units ((ge_var 2)).go ((ge_tup (ga_cons (ge_gstr T.BLACK) (ga_cons (ge_gstr T.WHITE) ga_nil)))).go)) (by decide) (by decide))).ge).go gao_nil))))) (by decide) (by decide))).ge).go gao_nil))))))⟩
abbrev s_lines_of : Stmt := top 16
theorem sc_lines_of : FnScope ["picture"] ["picture"] (defScope s_lines_of) := ⟨rfl, rfl, rfl, by decide +kernel, rfl, by decide +kernel, by decide +kernel⟩
def b_lines_of : SS := retS (binE addD (callB lenD (consA (vE 0) (nilA))) (callB lenD (consA (binE ixD (vE 0) (cE (.int 0))) (nilA))))
def m_lines_of : List D → List D → RE D := defD 1 b_lines_of
theorem d_lines_of (T : Tx K mg) : DefOk P w K mg base CX0 r "lines_of" 1 1 m_lines_of := by
  obtain ⟨f, fd, F, hm⟩ := T.f_lines_of
  refine fn_def (k := 0) F sc_lines_of hm (fun _ _ _ _ _ _ us hl => match us, hl with | [_], _ => rfl) (fun cdv A outer s H E hr => ?_) (m := b_lines_of)
  exact ⟨_, _, (gss_one (gs_ret (On := []) (ge_add ((ge_len T.len (gao_cons ((ge_var 0)).go gao_nil))).go ((ge_len T.len (gao_cons ((ge_sub1 ((ge_var 0)).go (ge_int).go)).go gao_nil))).go)))⟩
abbrev s_differing : Stmt := top 20
theorem sc_differing : FnScope ["start", "goal", "at", "row", "spot", "sign"] ["start", "goal"] (defScope s_differing) := ⟨rfl, rfl, rfl, by decide +kernel, rfl, by decide +kernel, by decide +kernel⟩
def b_differing : SS := retS (comp2E (rangeI enumD (consA (vE 0) (nilA))) [2, 3, 4, 5] (tN 2) [2, 3] (yesT) (rangeI enumD (consA (vE 3) (nilA))) [4, 5] (tN 2) [4, 5] (boolE (binE neD (binE ixD (binE ixD (vE 1) (vE 2)) (vE 4)) (vE 5))) (tupE (consA (vE 2) (consA (vE 4) (nilA)))))
def m_differing : List D → List D → RE D := defD 6 b_differing
theorem d_differing (T : Tx K mg) : DefOk P w K mg base CX0 r "differing" 1 2 m_differing := by
  obtain ⟨f, fd, F, hm⟩ := T.f_differing
  refine fn_def (k := 0) F sc_differing hm (fun _ _ _ _ _ _ us hl => match us, hl with | [_, _], _ => rfl) (fun cdv A outer s H E hr => ?_) (m := b_differing)
  exact ⟨_, _, (gss_one (gs_ret (On := []) ((gf_lc2 (own := [("at", 2), ("row", 3), ("spot", 4), ("sign", 5)]) (vs1 := [4, 5]) rfl sc_differing.nd (gi_enum T.enumerate (ga_cons (ge_var 0) ga_nil)) (blkOk_by (by kernel_rfl)) (fun _ _ _ _ _ => (gg_tup rfl (ggs_cons 2 sc_differing.nd (ggs_cons 3 sc_differing.nd ggs_nil)) rfl)) (fun _ _ _ _ _ => gts_nil) (fun _ _ _ _ _ => (gi_enum T.enumerate (ga_cons (ge_var 3) ga_nil))) (fun _ _ _ _ _ => (gg_tup rfl (ggs_cons 4 sc_differing.nd (ggs_cons 5 sc_differing.nd ggs_nil)) rfl)) (fun _ _ _ _ _ => (gts_one (gt_ne hr.units ((ge_sub1 ((ge_sub1 ((ge_var 1)).go ((ge_var 2)).go)).go ((ge_var 4)).go)).go ((ge_var 5)).go))) (fun _ _ _ _ _ => (ge_tup (ga_cons (ge_var 2) (ga_cons (ge_var 4) ga_nil)))) (by decide) (by decide) (by decide) (by decide))).ge))⟩
abbrev s_part_of : Stmt := top 22
theorem sc_part_of : FnScope ["picture", "rows", "columns", "spot", "at"] ["picture", "rows", "columns"] (defScope s_part_of) := ⟨rfl, rfl, rfl, by decide +kernel, rfl, by decide +kernel, by decide +kernel⟩
def b_part_of : SS := retS (callB tupleD (consA (compE (seqI (vE 1)) [4] t1 [4] (yesT) (methE isStrD joinD (cE (.str "")) (compE (seqI (vE 2)) [3] t1 [3] (yesT) (binE ixD (binE ixD (vE 0) (vE 4)) (vE 3))))) (nilA)))
def m_part_of : List D → List D → RE D := defD 5 b_part_of
theorem d_part_of (T : Tx K mg) : DefOk P w K mg base CX0 r "part_of" 1 3 m_part_of := by
  obtain ⟨f, fd, F, hm⟩ := T.f_part_of
  refine fn_def (k := 0) F sc_part_of hm (fun _ _ _ _ _ _ us hl => match us, hl with | [_, _, _], _ => rfl) (fun cdv A outer s H E hr => ?_) (m := b_part_of)
  exact ⟨_, _, (gss_one (gs_ret (On := []) (ge_tuple T.tuple (gao_cons (((gf_lc (own := [("at", 4)]) rfl sc_part_of.nd (gi_seq (ge_var 1)) (blkOk_by (by kernel_rfl)) (fun _ _ _ _ _ => (gg_name 4 sc_part_of.nd)) (fun _ _ _ _ _ => gts_nil) (fun _ _ _ _ _ => (ge_join (ge_str).go (((gf_lc (own := [("spot", 3)]) rfl sc_part_of.nd (gi_seq (ge_var 2)) (blkOk_by (by kernel_rfl)) (fun _ _ _ _ _ => (gg_name 3 sc_part_of.nd)) (fun _ _ _ _ _ => gts_nil) (fun _ _ _ _ _ => (ge_sub1 ((ge_sub1 ((ge_var 0)).go ((ge_var 4)).go)).go ((ge_var 3)).go)) (by decide) (by decide))).ge).go)) (by decide) (by decide))).ge).go gao_nil))))⟩
abbrev s_leads_to : Stmt := top 25
theorem sc_leads_to : FnScope ["picture", "line", "high", "at", "sign", "row"] ["picture", "line"] (defScope s_leads_to) := ⟨rfl, rfl, rfl, by decide +kernel, rfl, by decide +kernel, by decide +kernel⟩
def b_leads_to : SS := seqS (setS 2 (callB lenD (consA (vE 0) (nilA)))) (seqS (ifS (boolE (binE ltD (vE 1) (vE 2))) (retS (compE (rangeI enumD (consA (binE ixD (vE 0) (vE 1)) (nilA))) [3, 4] (tN 2) [3, 4] (boolE (binE neD (vE 4) (cE (.str "#")))) (binE addD (vE 2) (vE 3)))) (skipS)) (retS (compE (rangeI enumD (consA (vE 0) (nilA))) [3, 5] (tN 2) [3, 5] (boolE (binE eqD (binE ixD (vE 5) (binE subD (vE 1) (vE 2))) (cE (.str "#")))) (vE 3))))
def m_leads_to : List D → List D → RE D := defD 6 b_leads_to
theorem d_leads_to (T : Tx K mg) : DefOk P w K mg base CX0 r "leads_to" 1 2 m_leads_to := by
  obtain ⟨f, fd, F, hm⟩ := T.f_leads_to
  refine fn_def (k := 0) F sc_leads_to hm (fun _ _ _ _ _ _ us hl => match us, hl with | [_, _], _ => rfl) (fun cdv A outer s H E hr => ?_) (m := b_leads_to)
  exact ⟨_, _, (gss_cons (GS.post (On' := []) (by decide) (gs_set 2 sc_leads_to.nd (ge_len T.len (gao_cons ((ge_var 0)).go gao_nil)))) (gss_cons (gs_if (gt_lt ((ge_var 1)).go ((ge_var 2)).go) (gss_one (gs_ret (On := []) ((gf_lc (own := [("at", 3), ("sign", 4)]) rfl sc_leads_to.nd (gi_enum T.enumerate (ga_cons (ge_sub1 ((ge_var 0)).go ((ge_var 1)).go) ga_nil)) (blkOk_by (by kernel_rfl)) (fun _ _ _ _ _ => (gg_tup rfl (ggs_cons 3 sc_leads_to.nd (ggs_cons 4 sc_leads_to.nd ggs_nil)) rfl)) (fun _ _ _ _ _ => (gts_one (gt_ne hr.units ((ge_var 4)).go ((ge_gstr T.BLACK)).go))) (fun _ _ _ _ _ => (ge_add ((ge_var 2)).go ((ge_var 3)).go)) (by decide) (by decide))).ge)) (GSs.post (On' := []) (by decide) gss_nil)) (gss_one (gs_ret (On := []) ((gf_lc (own := [("at", 3), ("row", 5)]) rfl sc_leads_to.nd (gi_enum T.enumerate (ga_cons (ge_var 0) ga_nil)) (blkOk_by (by kernel_rfl)) (fun _ _ _ _ _ => (gg_tup rfl (ggs_cons 3 sc_leads_to.nd (ggs_cons 5 sc_leads_to.nd ggs_nil)) rfl)) (fun _ _ _ _ _ => (gts_one (gt_eq hr.units ((ge_sub1 ((ge_var 5)).go ((ge_sub ((ge_var 1)).go ((ge_var 2)).go)).go)).go ((ge_gstr T.BLACK)).go))) (fun _ _ _ _ _ => (ge_var 3)) (by decide) (by decide))).ge))))⟩
abbrev s_meets : Stmt := top 34
theorem sc_meets : FnScope ["picture", "cell", "lines"] ["picture", "cell", "lines"] (defScope s_meets) := ⟨rfl, rfl, rfl, by decide +kernel, rfl, by decide +kernel, by decide +kernel⟩
def b_meets : SS := retS (orE (binE (inKD false) (binE ixD (vE 1) (cE (.int 0))) (vE 2)) (binE (inKD false) (binE addD (callB lenD (consA (vE 0) (nilA))) (binE ixD (vE 1) (cE (.int 1)))) (vE 2)))
def m_meets : List D → List D → RE D := defD 3 b_meets
theorem d_meets (T : Tx K mg) : DefOk P w K mg base CX0 r "meets" 1 3 m_meets := by
  obtain ⟨f, fd, F, hm⟩ := T.f_meets
  refine fn_def (k := 0) F sc_meets hm (fun _ _ _ _ _ _ us hl => match us, hl with | [_, _, _], _ => rfl) (fun cdv A outer s H E hr => ?_) (m := b_meets)
  exact ⟨_, _, (gss_one (gs_ret (On := []) (ge_or (ge_inK hr.units ((ge_sub1 ((ge_var 1)).go (ge_int).go)).go ((ge_var 2)).go) (ge_one (ge_inK hr.units ((ge_add ((ge_len T.len (gao_cons ((ge_var 0)).go gao_nil))).go ((ge_sub1 ((ge_var 1)).go (ge_int).go)).go)).go ((ge_var 2)).go)))))⟩
abbrev s_trimmed : Stmt := top 36
theorem sc_trimmed : FnScope ["found", "some", "needed"] ["found"] (defScope s_trimmed) := ⟨rfl, rfl, rfl, by decide +kernel, rfl, by decide +kernel, by decide +kernel⟩
def b_trimmed : SS := seqS (ifS (boolE (binE eqD (vE 0) (lstE (nilA)))) (retS (lstE (nilA))) (skipS)) (retS (binE addD (compE (seqI (sliceE (vE 0) (optI none) (optI (some (unE negD (cE (.int 1))))))) [1, 2] (tN 2) [1, 2] (yesT) (callB listD (consA (vE 1) (nilA)))) (lstE (consA (binE ixD (binE ixD (vE 0) (unE negD (cE (.int 1)))) (cE (.int 1))) (nilA)))))
def m_trimmed : List D → List D → RE D := defD 3 b_trimmed
theorem d_trimmed (T : Tx K mg) : DefOk P w K mg base CX0 r "trimmed" 1 1 m_trimmed := by
  obtain ⟨f, fd, F, hm⟩ := T.f_trimmed
  refine fn_def (k := 0) F sc_trimmed hm (fun _ _ _ _ _ _ us hl => match us, hl with | [_], _ => rfl) (fun cdv A outer s H E hr => ?_) (m := b_trimmed)
  exact ⟨_, _, (gss_cons (gs_if (gt_eq hr.units ((ge_var 0)).go (((gf_lst ga_nil)).ge).go) (gss_one (gs_ret (On := []) ((gf_lst ga_nil)).ge)) (GSs.post (On' := []) (by decide) gss_nil)) (gss_one (gs_ret (On := []) (ge_add (((gf_lc (own := [("some", 1), ("needed", 2)]) rfl sc_trimmed.nd (gi_seq (ge_slice ((ge_var 0)).go gp_none (gp_some (ge_neg (ge_int).go)))) (blkOk_by (by kernel_rfl)) (fun _ _ _ _ _ => (gg_tup rfl (ggs_cons 1 sc_trimmed.nd (ggs_cons 2 sc_trimmed.nd ggs_nil)) rfl)) (fun _ _ _ _ _ => gts_nil) (fun _ _ _ _ _ => ((gf_list1 T.list (gao_cons ((ge_var 1)).go gao_nil))).ge) (by decide) (by decide))).ge).go (((gf_lst (ga_cons (ge_sub1 ((ge_sub1 ((ge_var 0)).go ((ge_neg (ge_int).go)).go)).go (ge_int).go) ga_nil))).ge).go))))⟩
abbrev s_law_taken : Stmt := top 46
theorem sc_law_taken : FnScope ["_law_row", "_law_many", "_law_found", "_law_cell"] ["_law_row", "_law_many"] (defScope s_law_taken) := ⟨rfl, rfl, rfl, by decide +kernel, rfl, by decide +kernel, by decide +kernel⟩
def b_law_taken : SS := seqS (ifS (boolE (binE gtD (tixE (vE 0) (cE (.int 3))) (cE (.int 0)))) (seqS (setS 2 (binE modD (callB intD (consA (tixE (vE 0) (cE (.int 3))) (nilA))) (vE 1))) (seqS (tsetS 3 (vE 0) (cE (.int 3)) (binE fdivD (tixE (vE 0) (cE (.int 3))) (vE 1))) (retS (vE 2)))) (skipS)) (seqS (tsetS 1 (vE 0) (cE (.int 1)) (binE addD (tixE (vE 0) (cE (.int 1))) (cE (.int 1)))) (seqS (ifS (boolE (binE gtD (tixE (vE 0) (cE (.int 1))) (callB lenD (consA (tixE (vE 0) (cE (.int 0))) (nilA))))) (seqS (tsetS 2 (vE 0) (cE (.int 2)) (binE modD (callB intD (consA (binE addD (binE mulD (tixE (vE 0) (cE (.int 2))) (cE (.int 48271))) (cE (.int 11))) (nilA))) (cE (.int 2147483647)))) (retS (binE modD (callB intD (consA (binE fdivD (tixE (vE 0) (cE (.int 2))) (cE (.int 7))) (nilA))) (vE 1)))) (skipS)) (seqS (setS 3 (binE ixD (tixE (vE 0) (cE (.int 0))) (binE subD (tixE (vE 0) (cE (.int 1))) (cE (.int 1))))) (seqS (tsetS 2 (vE 0) (cE (.int 2)) (binE modD (callB intD (consA (binE addD (binE addD (binE mulD (tixE (vE 0) (cE (.int 2))) (cE (.int 48271))) (vE 3)) (cE (.int 11))) (nilA))) (cE (.int 2147483647)))) (seqS (ifS (boolE (binE geD (vE 3) (binE powD (cE (.int 10)) (cE (.int 18))))) (tsetS 3 (vE 0) (cE (.int 3)) (binE fdivD (vE 3) (vE 1))) (skipS)) (retS (binE modD (callB intD (consA (vE 3) (nilA))) (vE 1))))))))
def m_law_taken : List D → List D → RE D := defD 4 b_law_taken
theorem d_law_taken (T : Tx K mg) : DefOk P w K mg base CX0 r "_law_taken" 1 2 m_law_taken := by
  obtain ⟨f, fd, F, hm⟩ := T.f_law_taken
  refine fn_def (k := 0) F sc_law_taken hm (fun _ _ _ _ _ _ us hl => match us, hl with | [_, _], _ => rfl) (fun cdv A outer s H E hr => ?_) (m := b_law_taken)
  exact ⟨_, _, (gss_cons (gs_if (gt_gt ((ge_tix ((ge_var 0)).go (ge_int).go)).go (ge_int).go) (gss_cons (GS.post (On' := []) (by decide) (gs_set 2 sc_law_taken.nd (ge_mod ((ge_int1 T.int (gao_cons ((ge_tix ((ge_var 0)).go (ge_int).go)).go gao_nil))).go ((ge_var 1)).go))) (gss_cons (gs_tset 3 (ge_fdiv ((ge_tix ((ge_var 0)).go (ge_int).go)).go ((ge_var 1)).go) ((ge_var 0)).go (ge_int).go) (gss_one (gs_ret (On := []) (ge_var 2))))) (GSs.post (On' := []) (by decide) gss_nil)) (gss_cons (gs_tset 1 (ge_add ((ge_tix ((ge_var 0)).go (ge_int).go)).go (ge_int).go) ((ge_var 0)).go (ge_int).go) (gss_cons (gs_if (gt_gt ((ge_tix ((ge_var 0)).go (ge_int).go)).go ((ge_len T.len (gao_cons ((ge_tix ((ge_var 0)).go (ge_int).go)).go gao_nil))).go) (gss_cons (gs_tset 2 (ge_mod ((ge_int1 T.int (gao_cons ((ge_add ((ge_mul ((ge_tix ((ge_var 0)).go (ge_int).go)).go (ge_int).go)).go (ge_int).go)).go gao_nil))).go (ge_int).go) ((ge_var 0)).go (ge_int).go) (gss_one (gs_ret (On := []) (ge_mod ((ge_int1 T.int (gao_cons ((ge_fdiv ((ge_tix ((ge_var 0)).go (ge_int).go)).go (ge_int).go)).go gao_nil))).go ((ge_var 1)).go)))) (GSs.post (On' := []) (by decide) gss_nil)) (gss_cons (GS.post (On' := []) (by decide) (gs_set 3 sc_law_taken.nd (ge_sub1 ((ge_tix ((ge_var 0)).go (ge_int).go)).go ((ge_sub ((ge_tix ((ge_var 0)).go (ge_int).go)).go (ge_int).go)).go))) (gss_cons (gs_tset 2 (ge_mod ((ge_int1 T.int (gao_cons ((ge_add ((ge_add ((ge_mul ((ge_tix ((ge_var 0)).go (ge_int).go)).go (ge_int).go)).go ((ge_var 3)).go)).go (ge_int).go)).go gao_nil))).go (ge_int).go) ((ge_var 0)).go (ge_int).go) (gss_cons (gs_if (gt_ge ((ge_var 3)).go ((ge_pow (ge_int).go (ge_int).go)).go) (GSs.post (On' := []) (by decide) (gss_one (gs_tset 3 (ge_fdiv ((ge_var 3)).go ((ge_var 1)).go) ((ge_var 0)).go (ge_int).go))) (GSs.post (On' := []) (by decide) gss_nil)) (gss_one (gs_ret (On := []) (ge_mod ((ge_int1 T.int (gao_cons ((ge_var 3)).go gao_nil))).go ((ge_var 1)).go)))))))))⟩
abbrev s_law_paint : Stmt := top 50
theorem sc_law_paint : FnScope ["_law_picture_here", "_law_line", "_law_found", "_law_at", "_law_told", "_law_spot"] ["_law_picture_here", "_law_line"] (defScope s_law_paint) := ⟨rfl, rfl, rfl, by decide +kernel, rfl, by decide +kernel, by decide +kernel⟩
def b_law_paint : SS := seqS (setFS 2 (lstE (nilA))) (seqS (forS (rangeI range1D (consA (callB lenD (consA (vE 0) (nilA))) (nilA))) t1 [3] (seqS (setS 4 (cE (.str ""))) (seqS (forS (rangeI range1D (consA (callB lenD (consA (binE ixD (vE 0) (cE (.int 0))) (nilA))) (nilA))) t1 [5] (setS 4 (binE addD (vE 4) (ifE (boolE (binE eqD (vE 1) (vE 3))) (cE (.str "#")) (ifE (boolE (binE eqD (vE 1) (binE addD (callB lenD (consA (vE 0) (nilA))) (vE 5)))) (cE (.str ".")) (binE ixD (binE ixD (vE 0) (vE 3)) (vE 5))))))) (appS 2 (vE 4))))) (retS (callB tupleD (consA (vE 2) (nilA)))))
def m_law_paint : List D → List D → RE D := defD 6 b_law_paint
theorem d_law_paint (T : Tx K mg) : DefOk P w K mg base CX0 r "_law_paint" 1 2 m_law_paint := by
  obtain ⟨f, fd, F, hm⟩ := T.f_law_paint
  refine fn_def (k := 0) F sc_law_paint hm (fun _ _ _ _ _ _ us hl => match us, hl with | [_, _], _ => rfl) (fun cdv A outer s H E hr => ?_) (m := b_law_paint)
  exact ⟨_, _, (gss_cons (GS.post (On' := [2]) (by decide) (gs_setF 2 sc_law_paint.nd (gf_lst ga_nil))) (gss_cons (gs_for .never rfl (gi_range1 T.range (gao_cons ((ge_len T.len (gao_cons ((ge_var 0)).go gao_nil))).go gao_nil)) (gg_name 3 sc_law_paint.nd) (GSs.post (On' := [2]) (by decide) (gss_cons (GS.post (On' := [2]) (by decide) (gs_set 4 sc_law_paint.nd ge_str)) (gss_cons (gs_for .never rfl (gi_range1 T.range (gao_cons ((ge_len T.len (gao_cons ((ge_sub1 ((ge_var 0)).go (ge_int).go)).go gao_nil))).go gao_nil)) (gg_name 5 sc_law_paint.nd) (GSs.post (On' := [2]) (by decide) (gss_one (GS.post (On' := [2]) (by decide) (gs_set 4 sc_law_paint.nd (ge_add ((ge_var 4)).go ((ge_ifExp (gt_eq hr.units ((ge_var 1)).go ((ge_var 3)).go) ge_str (ge_ifExp (gt_eq hr.units ((ge_var 1)).go ((ge_add ((ge_len T.len (gao_cons ((ge_var 0)).go gao_nil))).go ((ge_var 5)).go)).go) ge_str (ge_sub1 ((ge_sub1 ((ge_var 0)).go ((ge_var 3)).go)).go ((ge_var 5)).go)))).go))))) (by decide) (fun d ds h => by cases h; rfl)) (gss_one (gs_append 2 (by decide) (ge_var 4)))))) (by decide) (fun d ds h => by cases h; rfl)) (gss_one (gs_ret (On := []) (ge_tuple T.tuple (gao_cons (go_own 2) gao_nil))))))⟩
abbrev s_law_layers : Stmt := top 55
theorem sc_law_layers : FnScope ["_law_picture_here", "_law_high", "_law_wide", "_law_found", "_law_rows", "_law_columns", "_law_turn", "_law_full", "_law_at", "_law_spot", "_law_empty"] ["_law_picture_here"] (defScope s_law_layers) := ⟨rfl, rfl, rfl, by decide +kernel, rfl, by decide +kernel, by decide +kernel⟩
def b_law_layers : SS := seqS (parS [1, 2, 3] (consA (callB lenD (consA (vE 0) (nilA))) (consA (callB lenD (consA (binE ixD (vE 0) (cE (.int 0))) (nilA))) (consA (lstE (nilA)) (nilA))))) (seqS (parS [4, 5] (consA (rg1E .lst (vE 1)) (consA (rg1E .lst (vE 2)) (nilA)))) (seqS (forS (rangeI range1D (consA (binE addD (vE 1) (vE 2)) (nilA))) t1 [6] (seqS (setS 7 (compE (seqI (vE 4)) [8] t1 [8] (boolE (binE eqD (compE (seqI (vE 5)) [9] t1 [9] (boolE (binE eqD (binE ixD (binE ixD (vE 0) (vE 8)) (vE 9)) (cE (.str ".")))) (cE (.int 1))) (lstE (nilA)))) (vE 8))) (seqS (setS 10 (compE (seqI (vE 5)) [9] t1 [9] (boolE (binE eqD (compE (seqI (vE 4)) [8] t1 [8] (boolE (binE eqD (binE ixD (binE ixD (vE 0) (vE 8)) (vE 9)) (cE (.str "#")))) (cE (.int 1))) (lstE (nilA)))) (vE 9))) (ifS (boolE (binE neD (vE 7) (lstE (nilA)))) (seqS (appS 3 (vE 7)) (setS 4 (compE (seqI (vE 4)) [8] t1 [8] (boolE (binE notInD (vE 8) (vE 7))) (vE 8)))) (ifS (boolE (binE neD (vE 10) (lstE (nilA)))) (seqS (appS 3 (compE (seqI (vE 10)) [9] t1 [9] (yesT) (binE addD (vE 1) (vE 9)))) (setS 5 (compE (seqI (vE 5)) [9] t1 [9] (boolE (binE notInD (vE 9) (vE 10))) (vE 9)))) (skipS)))))) (retS (vE 3))))
def m_law_layers : List D → List D → RE D := defD 11 b_law_layers
theorem d_law_layers (T : Tx K mg) : DefOk P w K mg base CX0 r "_law_layers" 1 1 m_law_layers := by
  obtain ⟨f, fd, F, hm⟩ := T.f_law_layers
  refine fn_def (k := 0) F sc_law_layers hm (fun _ _ _ _ _ _ us hl => match us, hl with | [_], _ => rfl) (fun cdv A outer s H E hr => ?_) (m := b_law_layers)
  exact ⟨_, _, (gss_cons (GS.post (On' := [3]) (by decide) (gs_tup (gak_st (ge_len T.len (gao_cons ((ge_var 0)).go gao_nil)) (gak_st (ge_len T.len (gao_cons ((ge_sub1 ((ge_var 0)).go (ge_int).go)).go gao_nil)) (gak_fr (gf_lst ga_nil) gak_nil))) (ggs_cons 1 sc_law_layers.nd (ggs_cons 2 sc_law_layers.nd (ggs_cons 3 sc_law_layers.nd ggs_nil))))) (gss_cons (GS.post (On' := [3]) (by decide) (gs_tup (gak_st ((gf_listRg1 T.list T.range ((ge_var 1)).go)).ge (gak_st ((gf_listRg1 T.list T.range ((ge_var 2)).go)).ge gak_nil)) (ggs_cons 4 sc_law_layers.nd (ggs_cons 5 sc_law_layers.nd ggs_nil)))) (gss_cons (gs_for .never rfl (gi_range1 T.range (gao_cons ((ge_add ((ge_var 1)).go ((ge_var 2)).go)).go gao_nil)) (gg_name 6 sc_law_layers.nd) (GSs.post (On' := [3]) (by decide) (gss_cons (GS.post (On' := [3]) (by decide) (gs_set 7 sc_law_layers.nd ((gf_lc (own := [("_law_at", 8)]) rfl sc_law_layers.nd (gi_seq (ge_var 4)) (blkOk_by (by kernel_rfl)) (fun _ _ _ _ _ => (gg_name 8 sc_law_layers.nd)) (fun _ _ _ _ _ => (gts_one (gt_eq hr.units (((gf_lc (own := [("_law_spot", 9)]) rfl sc_law_layers.nd (gi_seq (ge_var 5)) (blkOk_by (by kernel_rfl)) (fun _ _ _ _ _ => (gg_name 9 sc_law_layers.nd)) (fun _ _ _ _ _ => (gts_one (gt_eq hr.units ((ge_sub1 ((ge_sub1 ((ge_var 0)).go ((ge_var 8)).go)).go ((ge_var 9)).go)).go (ge_str).go))) (fun _ _ _ _ _ => ge_int) (by decide) (by decide))).ge).go (((gf_lst ga_nil)).ge).go))) (fun _ _ _ _ _ => (ge_var 8)) (by decide) (by decide))).ge)) (gss_cons (GS.post (On' := [3]) (by decide) (gs_set 10 sc_law_layers.nd ((gf_lc (own := [("_law_spot", 9)]) rfl sc_law_layers.nd (gi_seq (ge_var 5)) (blkOk_by (by kernel_rfl)) (fun _ _ _ _ _ => (gg_name 9 sc_law_layers.nd)) (fun _ _ _ _ _ => (gts_one (gt_eq hr.units (((gf_lc (own := [("_law_at", 8)]) rfl sc_law_layers.nd (gi_seq (ge_var 4)) (blkOk_by (by kernel_rfl)) (fun _ _ _ _ _ => (gg_name 8 sc_law_layers.nd)) (fun _ _ _ _ _ => (gts_one (gt_eq hr.units ((ge_sub1 ((ge_sub1 ((ge_var 0)).go ((ge_var 8)).go)).go ((ge_var 9)).go)).go (ge_str).go))) (fun _ _ _ _ _ => ge_int) (by decide) (by decide))).ge).go (((gf_lst ga_nil)).ge).go))) (fun _ _ _ _ _ => (ge_var 9)) (by decide) (by decide))).ge)) (gss_one (gs_if (gt_ne hr.units ((ge_var 7)).go (((gf_lst ga_nil)).ge).go) (GSs.post (On' := [3]) (by decide) (gss_cons (gs_append 3 (by decide) (ge_var 7)) (gss_one (GS.post (On' := [3]) (by decide) (gs_set 4 sc_law_layers.nd ((gf_lc (own := [("_law_at", 8)]) rfl sc_law_layers.nd (gi_seq (ge_var 4)) (blkOk_by (by kernel_rfl)) (fun _ _ _ _ _ => (gg_name 8 sc_law_layers.nd)) (fun _ _ _ _ _ => (gts_one (gt_notIn hr.units ((ge_var 8)).go ((ge_var 7)).go))) (fun _ _ _ _ _ => (ge_var 8)) (by decide) (by decide))).ge))))) (GSs.post (On' := [3]) (by decide) (gss_one (gs_if (gt_ne hr.units ((ge_var 10)).go (((gf_lst ga_nil)).ge).go) (GSs.post (On' := [3]) (by decide) (gss_cons (gs_append 3 (by decide) ((gf_lc (own := [("_law_spot", 9)]) rfl sc_law_layers.nd (gi_seq (ge_var 10)) (blkOk_by (by kernel_rfl)) (fun _ _ _ _ _ => (gg_name 9 sc_law_layers.nd)) (fun _ _ _ _ _ => gts_nil) (fun _ _ _ _ _ => (ge_add ((ge_var 1)).go ((ge_var 9)).go)) (by decide) (by decide))).ge) (gss_one (GS.post (On' := [3]) (by decide) (gs_set 5 sc_law_layers.nd ((gf_lc (own := [("_law_spot", 9)]) rfl sc_law_layers.nd (gi_seq (ge_var 5)) (blkOk_by (by kernel_rfl)) (fun _ _ _ _ _ => (gg_name 9 sc_law_layers.nd)) (fun _ _ _ _ _ => (gts_one (gt_notIn hr.units ((ge_var 9)).go ((ge_var 10)).go))) (fun _ _ _ _ _ => (ge_var 9)) (by decide) (by decide))).ge))))) (GSs.post (On' := [3]) (by decide) gss_nil))))))))) (by decide) (fun d ds h => by cases h; rfl)) (gss_one (gs_retO (On := []) 3 (by decide))))))⟩
abbrev s_is_in : Stmt := top 12
theorem sc_is_in : FnScope ["value", "least", "most"] ["value", "least", "most"] (defScope s_is_in) := ⟨rfl, rfl, rfl, by decide +kernel, rfl, by decide +kernel, by decide +kernel⟩
def b_is_in : SS := retS (andE (callE 1 m_is_int (consA (vE 0) (nilA))) (chainE leD leD (vE 1) (vE 0) (vE 2)))
def m_is_in : List D → List D → RE D := defD 3 b_is_in
theorem d_is_in (T : Tx K mg) : DefOk P w K mg base CX0 r "is_in" 2 3 m_is_in := by
  obtain ⟨f, fd, F, hm⟩ := T.f_is_in
  refine fn_def (k := 1) F sc_is_in hm (fun _ _ _ _ _ _ us hl => match us, hl with | [_, _, _], _ => rfl) (fun cdv A outer s H E hr => ?_) (m := b_is_in)
  exact ⟨_, _, (gss_one (gs_ret (On := []) (ge_and (ge_call (d_is_int T) (hr.mono (by decide)) pass0 (ga_cons (ge_var 0) ga_nil)) (ge_one (ge_leLe ((ge_var 1)).go ((ge_var 0)).go ((ge_var 2)).go)))))⟩
abbrev s_need_picture : Stmt := top 14
theorem sc_need_picture : FnScope ["value"] ["value"] (defScope s_need_picture) := ⟨rfl, rfl, rfl, by decide +kernel, rfl, by decide +kernel, by decide +kernel⟩
def b_need_picture : SS := ifS (notT (boolE (callE 1 m_is_picture (consA (vE 0) (nilA))))) ((fun _ _ => .stuck)) (skipS)
def m_need_picture : List D → List D → RE D := defD 1 b_need_picture
theorem d_need_picture (T : Tx K mg) : DefOk P w K mg base CX0 r "need_picture" 2 1 m_need_picture := by
  obtain ⟨f, fd, F, hm⟩ := T.f_need_picture
  refine fn_def (k := 1) F sc_need_picture hm (fun _ _ _ _ _ _ us hl => match us, hl with | [_], _ => rfl) (fun cdv A outer s H E hr => ?_) (m := b_need_picture)
  exact ⟨_, _, (gss_one (gs_if (gt_not (gt_val (ge_call (d_is_picture T) (hr.mono (by decide)) pass0 (ga_cons (ge_var 0) ga_nil)))) (gss_one (gs_never (On := []))) (GSs.post (On' := []) (by decide) gss_nil)))⟩
abbrev s_layers_of : Stmt := top 26
theorem sc_layers_of : FnScope ["picture", "left", "found", "ways", "line", "told", "some", "other", "gone"] ["picture"] (defScope s_layers_of) := ⟨rfl, rfl, rfl, by decide +kernel, rfl, by decide +kernel, by decide +kernel⟩
def b_layers_of : SS := seqS (parS [1, 2] (consA (rg1E .lst (callE 1 m_lines_of (consA (vE 0) (nilA)))) (consA (lstE (nilA)) (nilA)))) (seqS (setS 3 (compE (seqI (vE 1)) [4] t1 [4] (yesT) (callE 2 m_leads_to (consA (vE 0) (consA (vE 4) (nilA)))))) (whileS 1000000 (boolE (cE (.bl true))) (seqS (setS 5 (dcE (seqI (vE 1)) [4] t1 [4] (vE 4) (cE (.bl true)))) (seqS (setS 6 (compE (seqI (vE 1)) [4] t1 [4] (notT (boolE (callB anyD (consA (compE (seqI (binE ixD (vE 3) (vE 4))) [7] t1 [7] (yesT) (binE (inKD false) (vE 7) (vE 5))) (nilA))))) (vE 4))) (seqS (ifS (boolE (binE eqD (vE 6) (lstE (nilA)))) (retS (vE 2)) (skipS)) (seqS (appS 2 (vE 6)) (seqS (setS 8 (dcE (seqI (vE 6)) [4] t1 [4] (vE 4) (cE (.bl true)))) (setS 1 (compE (seqI (vE 1)) [4] t1 [4] (boolE (binE (inKD true) (vE 4) (vE 8))) (vE 4))))))))))
def m_layers_of : List D → List D → RE D := defD 9 b_layers_of
theorem d_layers_of (T : Tx K mg) : DefOk P w K mg base CX0 r "layers_of" 2 1 m_layers_of := by
  obtain ⟨f, fd, F, hm⟩ := T.f_layers_of
  refine fn_def (k := 1) F sc_layers_of hm (fun _ _ _ _ _ _ us hl => match us, hl with | [_], _ => rfl) (fun cdv A outer s H E hr => ?_) (m := b_layers_of)
  exact ⟨_, _, (gss_cons (GS.post (On' := [2]) (by decide) (gs_par2 1 2 sc_layers_of.nd (gak_st ((gf_listRg1 T.list T.range ((ge_call (d_lines_of T) (hr.mono (by decide)) pass0 (ga_cons (ge_var 0) ga_nil))).go)).ge (gak_fr (gf_lst ga_nil) gak_nil)))) (gss_cons (GS.post (On' := [2]) (by decide) (gs_set 3 sc_layers_of.nd ((gf_lc (own := [("line", 4)]) rfl sc_layers_of.nd (gi_seq (ge_var 1)) (blkOk_by (by kernel_rfl)) (fun _ _ _ _ _ => (gg_name 4 sc_layers_of.nd)) (fun _ _ _ _ _ => gts_nil) (fun _ _ _ _ _ => (ge_call (d_leads_to T) (hr.mono (by decide)) pass0 (ga_cons (ge_var 0) (ga_cons (ge_var 4) ga_nil)))) (by decide) (by decide))).ge)) (gss_one (gs_while 1000000 .never (gt_val ge_bl) (GSs.post (On' := [2]) (by decide) (gss_cons (GS.post (On' := [2]) (by decide) (gs_set 5 sc_layers_of.nd ((gf_dc (own := [("line", 4)]) rfl sc_layers_of.nd (gi_seq (ge_var 1)) (blkOk_by (by kernel_rfl)) (fun _ _ _ _ _ => (gg_name 4 sc_layers_of.nd)) (fun _ _ _ _ _ => gts_nil) (fun _ _ _ _ _ => (ge_var 4)) (fun _ _ _ _ _ => ge_bl) (by decide) (by decide))).ge)) (gss_cons (GS.post (On' := [2]) (by decide) (gs_setLc (i := 6) (lc_stmt (own := [("line", 4)]) rfl sc_layers_of.nd (gi_seq (ge_var 1)) (blkOk_by (by kernel_rfl)) (fun _ _ _ _ _ => (gg_name 4 sc_layers_of.nd)) (fun _ _ _ _ _ => (gts_one (gt_not (gt_val (ge_any rfl T.any (gao_cons (((gf_lc (own := [("other", 7)]) rfl sc_layers_of.nd (gi_seq (ge_sub1 ((ge_var 3)).go ((ge_var 4)).go)) (blkOk_by (by kernel_rfl)) (fun _ _ _ _ _ => (gg_name 7 sc_layers_of.nd)) (fun _ _ _ _ _ => gts_nil) (fun _ _ _ _ _ => (ge_inK hr.units ((ge_var 7)).go ((ge_var 5)).go)) (by decide) (by decide))).ge).go gao_nil)))))) (fun _ _ _ _ _ => (ge_var 4)) (by decide) (by decide)))) (gss_cons (gs_if (gt_eq hr.units ((ge_var 6)).go (((gf_lst ga_nil)).ge).go) (gss_one (gs_retO (On := [2]) 2 (by decide))) (GSs.post (On' := [2]) (by decide) gss_nil)) (gss_cons (gs_append 2 (by decide) (ge_var 6)) (gss_cons (GS.post (On' := [2]) (by decide) (gs_set 8 sc_layers_of.nd ((gf_dc (own := [("line", 4)]) rfl sc_layers_of.nd (gi_seq (ge_var 6)) (blkOk_by (by kernel_rfl)) (fun _ _ _ _ _ => (gg_name 4 sc_layers_of.nd)) (fun _ _ _ _ _ => gts_nil) (fun _ _ _ _ _ => (ge_var 4)) (fun _ _ _ _ _ => ge_bl) (by decide) (by decide))).ge)) (gss_one (GS.post (On' := [2]) (by decide) (gs_setLc (i := 1) (lc_stmt (own := [("line", 4)]) rfl sc_layers_of.nd (gi_seq (ge_var 1)) (blkOk_by (by kernel_rfl)) (fun _ _ _ _ _ => (gg_name 4 sc_layers_of.nd)) (fun _ _ _ _ _ => (gts_one (gt_notInK hr.units ((ge_var 4)).go ((ge_var 8)).go))) (fun _ _ _ _ _ => (ge_var 4)) (by decide) (by decide)))))))))))))))⟩
abbrev s_law_pick : Stmt := top 47
theorem sc_law_pick : FnScope ["_law_row", "_law_things"] ["_law_row", "_law_things"] (defScope s_law_pick) := ⟨rfl, rfl, rfl, by decide +kernel, rfl, by decide +kernel, by decide +kernel⟩
def b_law_pick : SS := retS (binE ixD (vE 1) (callE 2 m_law_taken (consA (vE 0) (consA (callB lenD (consA (vE 1) (nilA))) (nilA)))))
def m_law_pick : List D → List D → RE D := defD 2 b_law_pick
theorem d_law_pick (T : Tx K mg) : DefOk P w K mg base CX0 r "_law_pick" 2 2 m_law_pick := by
  obtain ⟨f, fd, F, hm⟩ := T.f_law_pick
  refine fn_def (k := 1) F sc_law_pick hm (fun _ _ _ _ _ _ us hl => match us, hl with | [_, _], _ => rfl) (fun cdv A outer s H E hr => ?_) (m := b_law_pick)
  exact ⟨_, _, (gss_one (gs_ret (On := []) (ge_sub1 ((ge_var 1)).go ((ge_call (d_law_taken T) (hr.mono (by decide)) pass0 (ga_cons (ge_var 0) (ga_cons (ge_len T.len (gao_cons ((ge_var 1)).go gao_nil)) ga_nil)))).go)))⟩
abbrev s_law_mixed : Stmt := top 48
theorem sc_law_mixed : FnScope ["_law_row", "_law_some", "_law_left", "_law_found", "_law_turn"] ["_law_row", "_law_some"] (defScope s_law_mixed) := ⟨rfl, rfl, rfl, by decide +kernel, rfl, by decide +kernel, by decide +kernel⟩
def b_law_mixed : SS := seqS (parS [2, 3] (consA (callB listD (consA (vE 1) (nilA))) (consA (lstE (nilA)) (nilA)))) (seqS (forS (rangeI range1D (consA (callB lenD (consA (vE 2) (nilA))) (nilA))) t1 [4] (appPopS 3 2 (callE 2 m_law_taken (consA (vE 0) (consA (callB lenD (consA (vE 2) (nilA))) (nilA)))))) (retS (vE 3)))
def m_law_mixed : List D → List D → RE D := defD 5 b_law_mixed
theorem d_law_mixed (T : Tx K mg) : DefOk P w K mg base CX0 r "_law_mixed" 2 2 m_law_mixed := by
  obtain ⟨f, fd, F, hm⟩ := T.f_law_mixed
  refine fn_def (k := 1) F sc_law_mixed hm (fun _ _ _ _ _ _ us hl => match us, hl with | [_, _], _ => rfl) (fun cdv A outer s H E hr => ?_) (m := b_law_mixed)
  exact ⟨_, _, (gss_cons (GS.post (On' := [2, 3]) (by decide) (gs_par2 2 3 sc_law_mixed.nd (gak_fr (gf_list1 T.list (gao_cons ((ge_var 1)).go gao_nil)) (gak_fr (gf_lst ga_nil) gak_nil)))) (gss_cons (gs_for .never rfl (gi_range1 T.range (gao_cons ((ge_len T.len (gao_cons (go_own 2) gao_nil))).go gao_nil)) (gg_name 4 sc_law_mixed.nd) (GSs.post (On' := [2, 3]) (by decide) (gss_one (gs_appPop 3 2 (by decide) (by decide) (by decide) (ge_call (d_law_taken T) (hr.mono (by decide)) pass0 (ga_cons (ge_var 0) (ga_cons (ge_len T.len (gao_cons (go_own 2) gao_nil)) ga_nil)))))) (by decide) (fun d ds h => by cases h; rfl)) (gss_one (gs_retO (On := []) 3 (by decide)))))⟩
abbrev s_law_painted : Stmt := top 51
theorem sc_law_painted : FnScope ["_law_picture_here", "_law_deeds_here", "_law_line"] ["_law_picture_here", "_law_deeds_here"] (defScope s_law_painted) := ⟨rfl, rfl, rfl, by decide +kernel, rfl, by decide +kernel, by decide +kernel⟩
def b_law_painted : SS := seqS (forS (seqI (vE 1)) t1 [2] (setS 0 (callE 2 m_law_paint (consA (vE 0) (consA (vE 2) (nilA)))))) (retS (vE 0))
def m_law_painted : List D → List D → RE D := defD 3 b_law_painted
theorem d_law_painted (T : Tx K mg) : DefOk P w K mg base CX0 r "_law_painted" 2 2 m_law_painted := by
  obtain ⟨f, fd, F, hm⟩ := T.f_law_painted
  refine fn_def (k := 1) F sc_law_painted hm (fun _ _ _ _ _ _ us hl => match us, hl with | [_, _], _ => rfl) (fun cdv A outer s H E hr => ?_) (m := b_law_painted)
  exact ⟨_, _, (gss_cons (gs_for .never rfl (gi_seq (ge_var 1)) (gg_name 2 sc_law_painted.nd) (GSs.post (On' := []) (by decide) (gss_one (GS.post (On' := []) (by decide) (gs_set 0 sc_law_painted.nd (ge_call (d_law_paint T) (hr.mono (by decide)) pass0 (ga_cons (ge_var 0) (ga_cons (ge_var 2) ga_nil))))))) (by decide) (fun d ds h => by cases h; rfl)) (gss_one (gs_ret (On := []) (ge_var 0))))⟩
abbrev s_law_deeds : Stmt := top 52
theorem sc_law_deeds : FnScope ["_law_row", "_law_picture_here", "_law_most", "_law_turn"] ["_law_row", "_law_picture_here", "_law_most"] (defScope s_law_deeds) := ⟨rfl, rfl, rfl, by decide +kernel, rfl, by decide +kernel, by decide +kernel⟩
def b_law_deeds : SS := retS (compE (rangeI range1D (consA (callE 2 m_law_taken (consA (vE 0) (consA (binE addD (vE 2) (cE (.int 1))) (nilA)))) (nilA))) [3] t1 [3] (yesT) (callE 2 m_law_taken (consA (vE 0) (consA (binE addD (callB lenD (consA (vE 1) (nilA))) (callB lenD (consA (binE ixD (vE 1) (cE (.int 0))) (nilA)))) (nilA)))))
def m_law_deeds : List D → List D → RE D := defD 4 b_law_deeds
theorem d_law_deeds (T : Tx K mg) : DefOk P w K mg base CX0 r "_law_deeds" 2 3 m_law_deeds := by
  obtain ⟨f, fd, F, hm⟩ := T.f_law_deeds
  refine fn_def (k := 1) F sc_law_deeds hm (fun _ _ _ _ _ _ us hl => match us, hl with | [_, _, _], _ => rfl) (fun cdv A outer s H E hr => ?_) (m := b_law_deeds)
  exact ⟨_, _, (gss_one (gs_ret (On := []) ((gf_lc (own := [("_law_turn", 3)]) rfl sc_law_deeds.nd (gi_range1 T.range (gao_cons ((ge_call (d_law_taken T) (hr.mono (by decide)) pass0 (ga_cons (ge_var 0) (ga_cons (ge_add ((ge_var 2)).go (ge_int).go) ga_nil)))).go gao_nil)) (blkOk_by (by kernel_rfl)) (fun _ _ _ _ _ => (gg_name 3 sc_law_deeds.nd)) (fun _ _ _ _ _ => gts_nil) (fun _ _ _ _ _ => (ge_call (d_law_taken T) (hr.mono (by decide)) pass0 (ga_cons (ge_var 0) (ga_cons (ge_add ((ge_len T.len (gao_cons ((ge_var 1)).go gao_nil))).go ((ge_len T.len (gao_cons ((ge_sub1 ((ge_var 1)).go (ge_int).go)).go gao_nil))).go) ga_nil)))) (by decide) (by decide))).ge))⟩
abbrev s_law_core : Stmt := top 56
theorem sc_law_core : FnScope ["_law_picture_here", "_law_told", "_law_some", "_law_line"] ["_law_picture_here"] (defScope s_law_core) := ⟨rfl, rfl, rfl, by decide +kernel, rfl, by decide +kernel, by decide +kernel⟩
def b_law_core : SS := seqS (setS 1 (lstE (nilA))) (seqS (forS (seqI (callE 1 m_law_layers (consA (vE 0) (nilA)))) t1 [2] (setS 1 (binE addD (vE 1) (vE 2)))) (retS (compE (rangeI range1D (consA (binE addD (callB lenD (consA (vE 0) (nilA))) (callB lenD (consA (binE ixD (vE 0) (cE (.int 0))) (nilA)))) (nilA))) [3] t1 [3] (boolE (binE notInD (vE 3) (vE 1))) (vE 3))))
def m_law_core : List D → List D → RE D := defD 4 b_law_core
theorem d_law_core (T : Tx K mg) : DefOk P w K mg base CX0 r "_law_core" 2 1 m_law_core := by
  obtain ⟨f, fd, F, hm⟩ := T.f_law_core
  refine fn_def (k := 1) F sc_law_core hm (fun _ _ _ _ _ _ us hl => match us, hl with | [_], _ => rfl) (fun cdv A outer s H E hr => ?_) (m := b_law_core)
  exact ⟨_, _, (gss_cons (GS.post (On' := []) (by decide) (gs_set 1 sc_law_core.nd ((gf_lst ga_nil)).ge)) (gss_cons (gs_for .never rfl (gi_seq (ge_call (d_law_layers T) (hr.mono (by decide)) pass0 (ga_cons (ge_var 0) ga_nil))) (gg_name 2 sc_law_core.nd) (GSs.post (On' := []) (by decide) (gss_one (GS.post (On' := []) (by decide) (gs_set 1 sc_law_core.nd (ge_add ((ge_var 1)).go ((ge_var 2)).go))))) (by decide) (fun d ds h => by cases h; rfl)) (gss_one (gs_ret (On := []) ((gf_lc (own := [("_law_line", 3)]) rfl sc_law_core.nd (gi_range1 T.range (gao_cons ((ge_add ((ge_len T.len (gao_cons ((ge_var 0)).go gao_nil))).go ((ge_len T.len (gao_cons ((ge_sub1 ((ge_var 0)).go (ge_int).go)).go gao_nil))).go)).go gao_nil)) (blkOk_by (by kernel_rfl)) (fun _ _ _ _ _ => (gg_name 3 sc_law_core.nd)) (fun _ _ _ _ _ => (gts_one (gt_notIn hr.units ((ge_var 3)).go ((ge_var 1)).go))) (fun _ _ _ _ _ => (ge_var 3)) (by decide) (by decide))).ge))))⟩
abbrev s_need_two : Stmt := top 15
theorem sc_need_two : FnScope ["start", "goal"] ["start", "goal"] (defScope s_need_two) := ⟨rfl, rfl, rfl, by decide +kernel, rfl, by decide +kernel, by decide +kernel⟩
def b_need_two : SS := seqS (dropS (callE 1 m_need_picture (consA (vE 0) (nilA)))) (seqS (dropS (callE 1 m_need_picture (consA (vE 1) (nilA)))) (ifS (orT (boolE (binE neD (callB lenD (consA (vE 0) (nilA))) (callB lenD (consA (vE 1) (nilA))))) (boolE (binE neD (callB lenD (consA (binE ixD (vE 0) (cE (.int 0))) (nilA))) (callB lenD (consA (binE ixD (vE 1) (cE (.int 0))) (nilA)))))) ((fun _ _ => .stuck)) (skipS)))
def m_need_two : List D → List D → RE D := defD 2 b_need_two
theorem d_need_two (T : Tx K mg) : DefOk P w K mg base CX0 r "need_two" 3 2 m_need_two := by
  obtain ⟨f, fd, F, hm⟩ := T.f_need_two
  refine fn_def (k := 2) F sc_need_two hm (fun _ _ _ _ _ _ us hl => match us, hl with | [_, _], _ => rfl) (fun cdv A outer s H E hr => ?_) (m := b_need_two)
  exact ⟨_, _, (gss_cons (gs_drop (ge_call (d_need_picture T) (hr.mono (by decide)) pass0 (ga_cons (ge_var 0) ga_nil))) (gss_cons (gs_drop (ge_call (d_need_picture T) (hr.mono (by decide)) pass0 (ga_cons (ge_var 1) ga_nil))) (gss_one (gs_if ((gw_or (gt_ne hr.units ((ge_len T.len (gao_cons ((ge_var 0)).go gao_nil))).go ((ge_len T.len (gao_cons ((ge_var 1)).go gao_nil))).go) (gw_or1 (gt_ne hr.units ((ge_len T.len (gao_cons ((ge_sub1 ((ge_var 0)).go (ge_int).go)).go gao_nil))).go ((ge_len T.len (gao_cons ((ge_sub1 ((ge_var 1)).go (ge_int).go)).go gao_nil))).go)))).gt (gss_one (gs_never (On := []))) (GSs.post (On' := []) (by decide) gss_nil)))))⟩
abbrev s_need_line : Stmt := top 17
theorem sc_need_line : FnScope ["picture", "value"] ["picture", "value"] (defScope s_need_line) := ⟨rfl, rfl, rfl, by decide +kernel, rfl, by decide +kernel, by decide +kernel⟩
def b_need_line : SS := ifS (notT (boolE (callE 3 m_is_in (consA (vE 1) (consA (cE (.int 0)) (consA (binE subD (callE 1 m_lines_of (consA (vE 0) (nilA))) (cE (.int 1))) (nilA))))))) ((fun _ _ => .stuck)) (skipS)
def m_need_line : List D → List D → RE D := defD 2 b_need_line
theorem d_need_line (T : Tx K mg) : DefOk P w K mg base CX0 r "need_line" 3 2 m_need_line := by
  obtain ⟨f, fd, F, hm⟩ := T.f_need_line
  refine fn_def (k := 2) F sc_need_line hm (fun _ _ _ _ _ _ us hl => match us, hl with | [_, _], _ => rfl) (fun cdv A outer s H E hr => ?_) (m := b_need_line)
  exact ⟨_, _, (gss_one (gs_if (gt_not (gt_val (ge_call (d_is_in T) (hr.mono (by decide)) pass0 (ga_cons (ge_var 1) (ga_cons ge_int (ga_cons (ge_sub ((ge_call (d_lines_of T) (hr.mono (by decide)) pass0 (ga_cons (ge_var 0) ga_nil))).go (ge_int).go) ga_nil)))))) (gss_one (gs_never (On := []))) (GSs.post (On' := []) (by decide) gss_nil)))⟩
abbrev s_are_lines : Stmt := top 18
theorem sc_are_lines : FnScope ["picture", "value", "line", "one", "other"] ["picture", "value"] (defScope s_are_lines) := ⟨rfl, rfl, rfl, by decide +kernel, rfl, by decide +kernel, by decide +kernel⟩
def b_are_lines : SS := seqS (ifS (orT (notT (boolE (callB isiD (consA (vE 1) (consA (cE (.ty "tuple")) (nilA)))))) (notT (boolE (callB allD (consA (compE (seqI (vE 1)) [2] t1 [2] (yesT) (callE 3 m_is_in (consA (vE 2) (consA (cE (.int 0)) (consA (binE subD (callE 1 m_lines_of (consA (vE 0) (nilA))) (cE (.int 1))) (nilA)))))) (nilA)))))) (retS (cE (.bl false))) (skipS)) (retS (callB allD (consA (compE (rangeI zipD (consA (vE 1) (consA (sliceE (vE 1) (optI (some (cE (.int 1)))) (optI none)) (nilA)))) [3, 4] (tN 2) [3, 4] (yesT) (binE ltD (vE 3) (vE 4))) (nilA))))
def m_are_lines : List D → List D → RE D := defD 5 b_are_lines
theorem d_are_lines (T : Tx K mg) : DefOk P w K mg base CX0 r "are_lines" 3 2 m_are_lines := by
  obtain ⟨f, fd, F, hm⟩ := T.f_are_lines
  refine fn_def (k := 2) F sc_are_lines hm (fun _ _ _ _ _ _ us hl => match us, hl with | [_, _], _ => rfl) (fun cdv A outer s H E hr => ?_) (m := b_are_lines)
  exact ⟨_, _, (gss_cons (gs_if ((gw_or (gt_not (gt_val (ge_isi T.isinstance (gao_cons ((ge_var 1)).go (gao_cons ((ge_ty T.tuple)).go gao_nil))))) (gw_or1 (gt_not (gt_val (ge_all rfl T.all (gao_cons (((gf_lc (own := [("line", 2)]) rfl sc_are_lines.nd (gi_seq (ge_var 1)) (blkOk_by (by kernel_rfl)) (fun _ _ _ _ _ => (gg_name 2 sc_are_lines.nd)) (fun _ _ _ _ _ => gts_nil) (fun _ _ _ _ _ => (ge_call (d_is_in T) (hr.mono (by decide)) pass0 (ga_cons (ge_var 2) (ga_cons ge_int (ga_cons (ge_sub ((ge_call (d_lines_of T) (hr.mono (by decide)) pass0 (ga_cons (ge_var 0) ga_nil))).go (ge_int).go) ga_nil))))) (by decide) (by decide))).ge).go gao_nil))))))).gt (gss_one (gs_ret (On := []) ge_bl)) (GSs.post (On' := []) (by decide) gss_nil)) (gss_one (gs_ret (On := []) (ge_all rfl T.all (gao_cons (((gf_lc (own := [("one", 3), ("other", 4)]) rfl sc_are_lines.nd (gi_zip T.zip (ga_cons (ge_var 1) (ga_cons (ge_slice ((ge_var 1)).go (gp_some ge_int) gp_none) ga_nil))) (blkOk_by (by kernel_rfl)) (fun _ _ _ _ _ => (gg_tup rfl (ggs_cons 3 sc_are_lines.nd (ggs_cons 4 sc_are_lines.nd ggs_nil)) rfl)) (fun _ _ _ _ _ => gts_nil) (fun _ _ _ _ _ => (ge_lt ((ge_var 3)).go ((ge_var 4)).go)) (by decide) (by decide))).ge).go gao_nil)))))⟩
abbrev s_core_of : Stmt := top 27
theorem sc_core_of : FnScope ["picture", "told", "some", "line"] ["picture"] (defScope s_core_of) := ⟨rfl, rfl, rfl, by decide +kernel, rfl, by decide +kernel, by decide +kernel⟩
def b_core_of : SS := seqS (setS 1 (dc2E (seqI (callE 1 m_layers_of (consA (vE 0) (nilA)))) [2, 3] t1 [2] (seqI (vE 2)) [3] t1 [3] (vE 3) (cE (.bl true)))) (retS (compE (rangeI range1D (consA (callE 1 m_lines_of (consA (vE 0) (nilA))) (nilA))) [3] t1 [3] (boolE (binE (inKD true) (vE 3) (vE 1))) (vE 3)))
def m_core_of : List D → List D → RE D := defD 4 b_core_of
theorem d_core_of (T : Tx K mg) : DefOk P w K mg base CX0 r "core_of" 3 1 m_core_of := by
  obtain ⟨f, fd, F, hm⟩ := T.f_core_of
  refine fn_def (k := 2) F sc_core_of hm (fun _ _ _ _ _ _ us hl => match us, hl with | [_], _ => rfl) (fun cdv A outer s H E hr => ?_) (m := b_core_of)
  exact ⟨_, _, (gss_cons (GS.post (On' := []) (by decide) (gs_set 1 sc_core_of.nd ((gf_dc2 (own := [("some", 2), ("line", 3)]) (vs1 := [3]) rfl sc_core_of.nd (gi_seq (ge_call (d_layers_of T) (hr.mono (by decide)) pass0 (ga_cons (ge_var 0) ga_nil))) (blkOk_by (by kernel_rfl)) (fun _ _ _ _ _ => (gg_name 2 sc_core_of.nd)) (fun _ _ _ _ _ => (gi_seq (ge_var 2))) (fun _ _ _ _ _ => (gg_name 3 sc_core_of.nd)) (fun _ _ _ _ _ => (ge_var 3)) (fun _ _ _ _ _ => ge_bl) (by decide) (by decide) (by decide) (by decide))).ge)) (gss_one (gs_ret (On := []) ((gf_lc (own := [("line", 3)]) rfl sc_core_of.nd (gi_range1 T.range (gao_cons ((ge_call (d_lines_of T) (hr.mono (by decide)) pass0 (ga_cons (ge_var 0) ga_nil))).go gao_nil)) (blkOk_by (by kernel_rfl)) (fun _ _ _ _ _ => (gg_name 3 sc_core_of.nd)) (fun _ _ _ _ _ => (gts_one (gt_notInK hr.units ((ge_var 3)).go ((ge_var 1)).go))) (fun _ _ _ _ _ => (ge_var 3)) (by decide) (by decide))).ge)))⟩
abbrev s_round_of_four : Stmt := top 32
theorem sc_round_of_four : FnScope ["picture", "one", "other", "down", "at", "up"] ["picture"] (defScope s_round_of_four) := ⟨rfl, rfl, rfl, by decide +kernel, rfl, by decide +kernel, by decide +kernel⟩
def b_round_of_four : SS := seqS (dropS (callE 1 m_need_picture (consA (vE 0) (nilA)))) (seqS (forS (rangeI range1D (consA (callB lenD (consA (vE 0) (nilA))) (nilA))) t1 [1] (forS (rangeI range1D (consA (callB lenD (consA (vE 0) (nilA))) (nilA))) t1 [2] (seqS (setS 3 (compE (rangeI range1D (consA (callB lenD (consA (binE ixD (vE 0) (cE (.int 0))) (nilA))) (nilA))) [4] t1 [4] (andT (boolE (binE eqD (binE ixD (binE ixD (vE 0) (vE 1)) (vE 4)) (cE (.str "#")))) (boolE (binE neD (binE ixD (binE ixD (vE 0) (vE 2)) (vE 4)) (cE (.str "#"))))) (vE 4))) (seqS (setS 5 (compE (rangeI range1D (consA (callB lenD (consA (binE ixD (vE 0) (cE (.int 0))) (nilA))) (nilA))) [4] t1 [4] (andT (boolE (binE neD (binE ixD (binE ixD (vE 0) (vE 1)) (vE 4)) (cE (.str "#")))) (boolE (binE eqD (binE ixD (binE ixD (vE 0) (vE 2)) (vE 4)) (cE (.str "#"))))) (vE 4))) (ifS (andT (boolE (binE neD (vE 3) (lstE (nilA)))) (boolE (binE neD (vE 5) (lstE (nilA))))) (retS (tupE (consA (vE 1) (consA (vE 2) (consA (binE ixD (vE 3) (cE (.int 0))) (consA (binE ixD (vE 5) (cE (.int 0))) (nilA))))))) (skipS)))))) (retS (cE .non)))
def m_round_of_four : List D → List D → RE D := defD 6 b_round_of_four
theorem d_round_of_four (T : Tx K mg) : DefOk P w K mg base CX0 r "round_of_four" 3 1 m_round_of_four := by
  obtain ⟨f, fd, F, hm⟩ := T.f_round_of_four
  refine fn_def (k := 2) F sc_round_of_four hm (fun _ _ _ _ _ _ us hl => match us, hl with | [_], _ => rfl) (fun cdv A outer s H E hr => ?_) (m := b_round_of_four)
  exact ⟨_, _, (gss_cons (gs_drop (ge_call (d_need_picture T) (hr.mono (by decide)) pass0 (ga_cons (ge_var 0) ga_nil))) (gss_cons (gs_for .never rfl (gi_range1 T.range (gao_cons ((ge_len T.len (gao_cons ((ge_var 0)).go gao_nil))).go gao_nil)) (gg_name 1 sc_round_of_four.nd) (GSs.post (On' := []) (by decide) (gss_one (gs_for .never rfl (gi_range1 T.range (gao_cons ((ge_len T.len (gao_cons ((ge_var 0)).go gao_nil))).go gao_nil)) (gg_name 2 sc_round_of_four.nd) (GSs.post (On' := []) (by decide) (gss_cons (GS.post (On' := []) (by decide) (gs_setLc (i := 3) (lc_stmt (own := [("at", 4)]) rfl sc_round_of_four.nd (gi_range1 T.range (gao_cons ((ge_len T.len (gao_cons ((ge_sub1 ((ge_var 0)).go (ge_int).go)).go gao_nil))).go gao_nil)) (blkOk_by (by kernel_rfl)) (fun _ _ _ _ _ => (gg_name 4 sc_round_of_four.nd)) (fun _ _ _ _ _ => (gts_one ((gw_and (gt_eq hr.units ((ge_sub1 ((ge_sub1 ((ge_var 0)).go ((ge_var 1)).go)).go ((ge_var 4)).go)).go ((ge_gstr T.BLACK)).go) (gw_and1 (gt_ne hr.units ((ge_sub1 ((ge_sub1 ((ge_var 0)).go ((ge_var 2)).go)).go ((ge_var 4)).go)).go ((ge_gstr T.BLACK)).go)))).gt)) (fun _ _ _ _ _ => (ge_var 4)) (by decide) (by decide)))) (gss_cons (GS.post (On' := []) (by decide) (gs_setLc (i := 5) (lc_stmt (own := [("at", 4)]) rfl sc_round_of_four.nd (gi_range1 T.range (gao_cons ((ge_len T.len (gao_cons ((ge_sub1 ((ge_var 0)).go (ge_int).go)).go gao_nil))).go gao_nil)) (blkOk_by (by kernel_rfl)) (fun _ _ _ _ _ => (gg_name 4 sc_round_of_four.nd)) (fun _ _ _ _ _ => (gts_one ((gw_and (gt_ne hr.units ((ge_sub1 ((ge_sub1 ((ge_var 0)).go ((ge_var 1)).go)).go ((ge_var 4)).go)).go ((ge_gstr T.BLACK)).go) (gw_and1 (gt_eq hr.units ((ge_sub1 ((ge_sub1 ((ge_var 0)).go ((ge_var 2)).go)).go ((ge_var 4)).go)).go ((ge_gstr T.BLACK)).go)))).gt)) (fun _ _ _ _ _ => (ge_var 4)) (by decide) (by decide)))) (gss_one (gs_if ((gw_and (gt_ne hr.units ((ge_var 3)).go (((gf_lst ga_nil)).ge).go) (gw_and1 (gt_ne hr.units ((ge_var 5)).go (((gf_lst ga_nil)).ge).go)))).gt (gss_one (gs_ret (On := []) (ge_tup (ga_cons (ge_var 1) (ga_cons (ge_var 2) (ga_cons (ge_sub1 ((ge_var 3)).go (ge_int).go) (ga_cons (ge_sub1 ((ge_var 5)).go (ge_int).go) ga_nil))))))) (GSs.post (On' := []) (by decide) gss_nil)))))) (by decide) (fun d ds h => by cases h; rfl)))) (by decide) (fun d ds h => by cases h; rfl)) (gss_one (gs_ret (On := []) ge_non))))⟩
abbrev s_least_of : Stmt := top 35
theorem sc_least_of : FnScope ["start", "goal", "left", "found", "some", "told", "line", "needed", "at", "spot", "cell"] ["start", "goal"] (defScope s_least_of) := ⟨rfl, rfl, rfl, by decide +kernel, rfl, by decide +kernel, by decide +kernel⟩
def b_least_of : SS := seqS (parS [2, 3] (consA (callE 2 m_differing (consA (vE 0) (consA (vE 1) (nilA)))) (consA (lstE (nilA)) (nilA)))) (seqS (forS (seqI (callE 1 m_layers_of (consA (vE 1) (nilA)))) t1 [4] (seqS (ifS (boolE (binE eqD (vE 2) (lstE (nilA)))) (retS (callE 1 m_trimmed (consA (vE 3) (nilA)))) (skipS)) (seqS (setS 5 (dcE (seqI (vE 4)) [6] t1 [6] (vE 6) (cE (.bl true)))) (seqS (setFS 7 (cE (.dic []))) (seqS (forS (seqI (vE 2)) (tN 2) [8, 9] (forS (seqI (tupE (consA (vE 8) (consA (binE addD (callB lenD (consA (vE 0) (nilA))) (vE 9)) (nilA))))) t1 [6] (ifS (boolE (binE (inKD false) (vE 6) (vE 5))) (dsetS 7 (vE 6) (cE (.bl true))) (skipS)))) (seqS (appS 3 (tupE (consA (vE 4) (consA (callB sortKD (consA (vE 7) (nilA))) (nilA))))) (setS 2 (compE (seqI (vE 2)) [10] t1 [10] (notT (boolE (callE 3 m_meets (consA (vE 0) (consA (vE 10) (consA (vE 5) (nilA))))))) (vE 10))))))))) (retS (ifE (boolE (binE eqD (vE 2) (lstE (nilA)))) (callE 1 m_trimmed (consA (vE 3) (nilA))) (cE .non))))
def m_least_of : List D → List D → RE D := defD 11 b_least_of
theorem d_least_of (T : Tx K mg) : DefOk P w K mg base CX0 r "least_of" 3 2 m_least_of := by
  obtain ⟨f, fd, F, hm⟩ := T.f_least_of
  refine fn_def (k := 2) F sc_least_of hm (fun _ _ _ _ _ _ us hl => match us, hl with | [_, _], _ => rfl) (fun cdv A outer s H E hr => ?_) (m := b_least_of)
  exact ⟨_, _, (gss_cons (GS.post (On' := [3]) (by decide) (gs_par2 2 3 sc_least_of.nd (gak_st (ge_call (d_differing T) (hr.mono (by decide)) pass0 (ga_cons (ge_var 0) (ga_cons (ge_var 1) ga_nil))) (gak_fr (gf_lst ga_nil) gak_nil)))) (gss_cons (gs_for .never rfl (gi_seq (ge_call (d_layers_of T) (hr.mono (by decide)) pass0 (ga_cons (ge_var 1) ga_nil))) (gg_name 4 sc_least_of.nd) (GSs.post (On' := [3]) (by decide) (gss_cons (gs_if (gt_eq hr.units ((ge_var 2)).go (((gf_lst ga_nil)).ge).go) (gss_one (GS.pre (O' := []) (by decide) (gs_ret (On := [3]) (ge_call (d_trimmed T) (hr.mono (by decide)) pass0 (ga_cons (ge_var 3) ga_nil))))) (GSs.post (On' := [3]) (by decide) gss_nil)) (gss_cons (GS.post (On' := [3]) (by decide) (gs_set 5 sc_least_of.nd ((gf_dc (own := [("line", 6)]) rfl sc_least_of.nd (gi_seq (ge_var 4)) (blkOk_by (by kernel_rfl)) (fun _ _ _ _ _ => (gg_name 6 sc_least_of.nd)) (fun _ _ _ _ _ => gts_nil) (fun _ _ _ _ _ => (ge_var 6)) (fun _ _ _ _ _ => ge_bl) (by decide) (by decide))).ge)) (gss_cons (GS.post (On' := [3, 7]) (by decide) (gs_setF 7 sc_least_of.nd gf_dnew)) (gss_cons (gs_for .never rfl (gi_seq (ge_var 2)) (gg_tup rfl (ggs_cons 8 sc_least_of.nd (ggs_cons 9 sc_least_of.nd ggs_nil)) rfl) (GSs.post (On' := [3, 7]) (by decide) (gss_one (gs_for .never rfl (gi_seq (ge_tup (ga_cons (ge_var 8) (ga_cons (ge_add ((ge_len T.len (gao_cons ((ge_var 0)).go gao_nil))).go ((ge_var 9)).go) ga_nil)))) (gg_name 6 sc_least_of.nd) (GSs.post (On' := [3, 7]) (by decide) (gss_one (gs_if (gt_inK hr.units ((ge_var 6)).go ((ge_var 5)).go) (GSs.post (On' := [3, 7]) (by decide) (gss_one (gs_dset 7 hr.units (by decide) (ge_var 6) ge_bl))) (GSs.post (On' := [3, 7]) (by decide) gss_nil)))) (by decide) (fun d ds h => by cases h; rfl)))) (by decide) (fun d ds h => tN_len h)) (gss_cons (gs_append 3 (by decide) (ge_tup (ga_cons (ge_var 4) (ga_cons ((gf_sortedK rfl T.sorted (gao_cons (go_own 7) gao_nil))).ge ga_nil)))) (gss_one (GS.post (On' := [3, 7]) (by decide) (gs_setLc (i := 2) (lc_stmt (own := [("cell", 10)]) rfl sc_least_of.nd (gi_seq (ge_var 2)) (blkOk_by (by kernel_rfl)) (fun _ _ _ _ _ => (gg_name 10 sc_least_of.nd)) (fun _ _ _ _ _ => (gts_one (gt_not (gt_val (ge_call (d_meets T) (hr.mono (by decide)) pass0 (ga_cons (ge_var 0) (ga_cons (ge_var 10) (ga_cons (ge_var 5) ga_nil)))))))) (fun _ _ _ _ _ => (ge_var 10)) (by decide) (by decide))))))))))) (by decide) (fun d ds h => by cases h; rfl)) (gss_one (GS.pre (O' := []) (by decide) (gs_ret (On := []) (ge_ifExp (gt_eq hr.units ((ge_var 2)).go (((gf_lst ga_nil)).ge).go) (ge_call (d_trimmed T) (hr.mono (by decide)) pass0 (ga_cons (ge_var 3) ga_nil)) ge_non))))))⟩
abbrev s_count_rounds : Stmt := top 42
theorem sc_count_rounds : FnScope ["picture", "found", "at", "one", "other", "down", "spot", "sign", "up"] ["picture"] (defScope s_count_rounds) := ⟨rfl, rfl, rfl, by decide +kernel, rfl, by decide +kernel, by decide +kernel⟩
def b_count_rounds : SS := seqS (dropS (callE 1 m_need_picture (consA (vE 0) (nilA)))) (seqS (setS 1 (cE (.int 0))) (seqS (forS (rangeI enumD (consA (vE 0) (nilA))) (tN 2) [2, 3] (forS (seqI (sliceE (vE 0) (optI none) (optI (some (vE 2))))) t1 [4] (seqS (setS 5 (callB lenD (consA (compE (rangeI enumD (consA (vE 3) (nilA))) [6, 7] (tN 2) [6, 7] (andT (boolE (binE eqD (vE 7) (cE (.str "#")))) (boolE (binE neD (binE ixD (vE 4) (vE 6)) (cE (.str "#"))))) (cE (.int 1))) (nilA)))) (seqS (setS 8 (callB lenD (consA (compE (rangeI enumD (consA (vE 3) (nilA))) [6, 7] (tN 2) [6, 7] (andT (boolE (binE neD (vE 7) (cE (.str "#")))) (boolE (binE eqD (binE ixD (vE 4) (vE 6)) (cE (.str "#"))))) (cE (.int 1))) (nilA)))) (augS 1 addD (binE mulD (vE 5) (vE 8))))))) (retS (vE 1))))
def m_count_rounds : List D → List D → RE D := defD 9 b_count_rounds
theorem d_count_rounds (T : Tx K mg) : DefOk P w K mg base CX0 r "count_rounds" 3 1 m_count_rounds := by
  obtain ⟨f, fd, F, hm⟩ := T.f_count_rounds
  refine fn_def (k := 2) F sc_count_rounds hm (fun _ _ _ _ _ _ us hl => match us, hl with | [_], _ => rfl) (fun cdv A outer s H E hr => ?_) (m := b_count_rounds)
  exact ⟨_, _, (gss_cons (gs_drop (ge_call (d_need_picture T) (hr.mono (by decide)) pass0 (ga_cons (ge_var 0) ga_nil))) (gss_cons (GS.post (On' := []) (by decide) (gs_set 1 sc_count_rounds.nd ge_int)) (gss_cons (gs_for .never rfl (gi_enum T.enumerate (ga_cons (ge_var 0) ga_nil)) (gg_tup rfl (ggs_cons 2 sc_count_rounds.nd (ggs_cons 3 sc_count_rounds.nd ggs_nil)) rfl) (GSs.post (On' := []) (by decide) (gss_one (gs_for .never rfl (gi_seq (ge_slice ((ge_var 0)).go gp_none (gp_some (ge_var 2)))) (gg_name 4 sc_count_rounds.nd) (GSs.post (On' := []) (by decide) (gss_cons (GS.post (On' := []) (by decide) (gs_set 5 sc_count_rounds.nd (ge_len T.len (gao_cons (((gf_lc (own := [("spot", 6), ("sign", 7)]) rfl sc_count_rounds.nd (gi_enum T.enumerate (ga_cons (ge_var 3) ga_nil)) (blkOk_by (by kernel_rfl)) (fun _ _ _ _ _ => (gg_tup rfl (ggs_cons 6 sc_count_rounds.nd (ggs_cons 7 sc_count_rounds.nd ggs_nil)) rfl)) (fun _ _ _ _ _ => (gts_one ((gw_and (gt_eq hr.units ((ge_var 7)).go ((ge_gstr T.BLACK)).go) (gw_and1 (gt_ne hr.units ((ge_sub1 ((ge_var 4)).go ((ge_var 6)).go)).go ((ge_gstr T.BLACK)).go)))).gt)) (fun _ _ _ _ _ => ge_int) (by decide) (by decide))).ge).go gao_nil)))) (gss_cons (GS.post (On' := []) (by decide) (gs_set 8 sc_count_rounds.nd (ge_len T.len (gao_cons (((gf_lc (own := [("spot", 6), ("sign", 7)]) rfl sc_count_rounds.nd (gi_enum T.enumerate (ga_cons (ge_var 3) ga_nil)) (blkOk_by (by kernel_rfl)) (fun _ _ _ _ _ => (gg_tup rfl (ggs_cons 6 sc_count_rounds.nd (ggs_cons 7 sc_count_rounds.nd ggs_nil)) rfl)) (fun _ _ _ _ _ => (gts_one ((gw_and (gt_ne hr.units ((ge_var 7)).go ((ge_gstr T.BLACK)).go) (gw_and1 (gt_eq hr.units ((ge_sub1 ((ge_var 4)).go ((ge_var 6)).go)).go ((ge_gstr T.BLACK)).go)))).gt)) (fun _ _ _ _ _ => ge_int) (by decide) (by decide))).ge).go gao_nil)))) (gss_one (gs_augAdd 1 sc_count_rounds.nd (ge_mul ((ge_var 5)).go ((ge_var 8)).go)))))) (by decide) (fun d ds h => by cases h; rfl)))) (by decide) (fun d ds h => tN_len h)) (gss_one (gs_ret (On := []) (ge_var 1))))))⟩
abbrev s_law_any : Stmt := top 49
theorem sc_law_any : FnScope ["_law_row", "_law_high", "_law_wide", "_law_often", "_law_found", "_law_at", "_law_spot"] ["_law_row", "_law_high", "_law_wide"] (defScope s_law_any) := ⟨rfl, rfl, rfl, by decide +kernel, rfl, by decide +kernel, by decide +kernel⟩
def b_law_any : SS := seqS (parS [3, 4] (consA (callE 2 m_law_pick (consA (vE 0) (consA (lstE (consA (cE (.int 2)) (consA (cE (.int 2)) (consA (cE (.int 3)) (consA (cE (.int 4)) (nilA)))))) (nilA)))) (consA (lstE (nilA)) (nilA)))) (seqS (forS (rangeI range1D (consA (vE 1) (nilA))) t1 [5] (appS 4 (methE isStrD joinD (cE (.str "")) (compE (rangeI range1D (consA (vE 2) (nilA))) [6] t1 [6] (yesT) (ifE (boolE (binE eqD (callE 2 m_law_taken (consA (vE 0) (consA (vE 3) (nilA)))) (cE (.int 0)))) (cE (.str "#")) (cE (.str "."))))))) (retS (callB tupleD (consA (vE 4) (nilA)))))
def m_law_any : List D → List D → RE D := defD 7 b_law_any
theorem d_law_any (T : Tx K mg) : DefOk P w K mg base CX0 r "_law_any" 3 3 m_law_any := by
  obtain ⟨f, fd, F, hm⟩ := T.f_law_any
  refine fn_def (k := 2) F sc_law_any hm (fun _ _ _ _ _ _ us hl => match us, hl with | [_, _, _], _ => rfl) (fun cdv A outer s H E hr => ?_) (m := b_law_any)
  exact ⟨_, _, (gss_cons (GS.post (On' := [4]) (by decide) (gs_tup (gak_st (ge_call (d_law_pick T) (hr.mono (by decide)) pass0 (ga_cons (ge_var 0) (ga_cons ((gf_lst (ga_cons ge_int (ga_cons ge_int (ga_cons ge_int (ga_cons ge_int ga_nil)))))).ge ga_nil))) (gak_fr (gf_lst ga_nil) gak_nil)) (ggs_cons 3 sc_law_any.nd (ggs_cons 4 sc_law_any.nd ggs_nil)))) (gss_cons (gs_for .never rfl (gi_range1 T.range (gao_cons ((ge_var 1)).go gao_nil)) (gg_name 5 sc_law_any.nd) (GSs.post (On' := [4]) (by decide) (gss_one (gs_append 4 (by decide) (ge_join (ge_str).go (((gf_lc (own := [("_law_spot", 6)]) rfl sc_law_any.nd (gi_range1 T.range (gao_cons ((ge_var 2)).go gao_nil)) (blkOk_by (by kernel_rfl)) (fun _ _ _ _ _ => (gg_name 6 sc_law_any.nd)) (fun _ _ _ _ _ => gts_nil) (fun _ _ _ _ _ => (ge_ifExp (gt_eq hr.units ((ge_call (d_law_taken T) (hr.mono (by decide)) pass0 (ga_cons (ge_var 0) (ga_cons (ge_var 3) ga_nil)))).go (ge_int).go) ge_str ge_str)) (by decide) (by decide))).ge).go)))) (by decide) (fun d ds h => by cases h; rfl)) (gss_one (gs_ret (On := []) (ge_tuple T.tuple (gao_cons (go_own 4) gao_nil))))))⟩
abbrev s_need_lines : Stmt := top 19
theorem sc_need_lines : FnScope ["picture", "value"] ["picture", "value"] (defScope s_need_lines) := ⟨rfl, rfl, rfl, by decide +kernel, rfl, by decide +kernel, by decide +kernel⟩
def b_need_lines : SS := ifS (notT (boolE (callE 2 m_are_lines (consA (vE 0) (consA (vE 1) (nilA)))))) ((fun _ _ => .stuck)) (skipS)
def m_need_lines : List D → List D → RE D := defD 2 b_need_lines
theorem d_need_lines (T : Tx K mg) : DefOk P w K mg base CX0 r "need_lines" 4 2 m_need_lines := by
  obtain ⟨f, fd, F, hm⟩ := T.f_need_lines
  refine fn_def (k := 3) F sc_need_lines hm (fun _ _ _ _ _ _ us hl => match us, hl with | [_, _], _ => rfl) (fun cdv A outer s H E hr => ?_) (m := b_need_lines)
  exact ⟨_, _, (gss_one (gs_if (gt_not (gt_val (ge_call (d_are_lines T) (hr.mono (by decide)) pass0 (ga_cons (ge_var 0) (ga_cons (ge_var 1) ga_nil))))) (gss_one (gs_never (On := []))) (GSs.post (On' := []) (by decide) gss_nil)))⟩
abbrev s_differences : Stmt := top 21
theorem sc_differences : FnScope ["start", "goal"] ["start", "goal"] (defScope s_differences) := ⟨rfl, rfl, rfl, by decide +kernel, rfl, by decide +kernel, by decide +kernel⟩
def b_differences : SS := seqS (dropS (callE 2 m_need_two (consA (vE 0) (consA (vE 1) (nilA))))) (retS (callE 2 m_differing (consA (vE 0) (consA (vE 1) (nilA)))))
def m_differences : List D → List D → RE D := defD 2 b_differences
theorem d_differences (T : Tx K mg) : DefOk P w K mg base CX0 r "differences" 4 2 m_differences := by
  obtain ⟨f, fd, F, hm⟩ := T.f_differences
  refine fn_def (k := 3) F sc_differences hm (fun _ _ _ _ _ _ us hl => match us, hl with | [_, _], _ => rfl) (fun cdv A outer s H E hr => ?_) (m := b_differences)
  exact ⟨_, _, (gss_cons (gs_drop (ge_call (d_need_two T) (hr.mono (by decide)) pass0 (ga_cons (ge_var 0) (ga_cons (ge_var 1) ga_nil)))) (gss_one (gs_ret (On := []) (ge_call (d_differing T) (hr.mono (by decide)) pass0 (ga_cons (ge_var 0) (ga_cons (ge_var 1) ga_nil))))))⟩
abbrev s_core : Stmt := top 28
theorem sc_core : FnScope ["picture"] ["picture"] (defScope s_core) := ⟨rfl, rfl, rfl, by decide +kernel, rfl, by decide +kernel, by decide +kernel⟩
def b_core : SS := seqS (dropS (callE 1 m_need_picture (consA (vE 0) (nilA)))) (retS (callB tupleD (consA (callE 1 m_core_of (consA (vE 0) (nilA))) (nilA))))
def m_core : List D → List D → RE D := defD 1 b_core
theorem d_core (T : Tx K mg) : DefOk P w K mg base CX0 r "core" 4 1 m_core := by
  obtain ⟨f, fd, F, hm⟩ := T.f_core
  refine fn_def (k := 3) F sc_core hm (fun _ _ _ _ _ _ us hl => match us, hl with | [_], _ => rfl) (fun cdv A outer s H E hr => ?_) (m := b_core)
  exact ⟨_, _, (gss_cons (gs_drop (ge_call (d_need_picture T) (hr.mono (by decide)) pass0 (ga_cons (ge_var 0) ga_nil))) (gss_one (gs_ret (On := []) (ge_tuple T.tuple (gao_cons ((ge_call (d_core_of T) (hr.mono (by decide)) pass0 (ga_cons (ge_var 0) ga_nil))).go gao_nil)))))⟩
abbrev s_is_free_of : Stmt := top 29
theorem sc_is_free_of : FnScope ["picture"] ["picture"] (defScope s_is_free_of) := ⟨rfl, rfl, rfl, by decide +kernel, rfl, by decide +kernel, by decide +kernel⟩
def b_is_free_of : SS := retS (binE eqD (callE 1 m_core_of (consA (vE 0) (nilA))) (lstE (nilA)))
def m_is_free_of : List D → List D → RE D := defD 1 b_is_free_of
theorem d_is_free_of (T : Tx K mg) : DefOk P w K mg base CX0 r "is_free_of" 4 1 m_is_free_of := by
  obtain ⟨f, fd, F, hm⟩ := T.f_is_free_of
  refine fn_def (k := 3) F sc_is_free_of hm (fun _ _ _ _ _ _ us hl => match us, hl with | [_], _ => rfl) (fun cdv A outer s H E hr => ?_) (m := b_is_free_of)
  exact ⟨_, _, (gss_one (gs_ret (On := []) (ge_eq hr.units ((ge_call (d_core_of T) (hr.mono (by decide)) pass0 (ga_cons (ge_var 0) ga_nil))).go (((gf_lst ga_nil)).ge).go)))⟩
abbrev s_level : Stmt := top 31
theorem sc_level : FnScope ["picture", "line", "at", "some"] ["picture", "line"] (defScope s_level) := ⟨rfl, rfl, rfl, by decide +kernel, rfl, by decide +kernel, by decide +kernel⟩
def b_level : SS := seqS (dropS (callE 1 m_need_picture (consA (vE 0) (nilA)))) (seqS (dropS (callE 2 m_need_line (consA (vE 0) (consA (vE 1) (nilA))))) (seqS (forS (rangeI enumD (consA (callE 1 m_layers_of (consA (vE 0) (nilA))) (nilA))) (tN 2) [2, 3] (ifS (boolE (binE inD (vE 1) (vE 3))) (retS (binE addD (vE 2) (cE (.int 1)))) (skipS))) (retS (cE .non))))
def m_level : List D → List D → RE D := defD 4 b_level
theorem d_level (T : Tx K mg) : DefOk P w K mg base CX0 r "level" 4 2 m_level := by
  obtain ⟨f, fd, F, hm⟩ := T.f_level
  refine fn_def (k := 3) F sc_level hm (fun _ _ _ _ _ _ us hl => match us, hl with | [_, _], _ => rfl) (fun cdv A outer s H E hr => ?_) (m := b_level)
  exact ⟨_, _, (gss_cons (gs_drop (ge_call (d_need_picture T) (hr.mono (by decide)) pass0 (ga_cons (ge_var 0) ga_nil))) (gss_cons (gs_drop (ge_call (d_need_line T) (hr.mono (by decide)) pass0 (ga_cons (ge_var 0) (ga_cons (ge_var 1) ga_nil)))) (gss_cons (gs_for .never rfl (gi_enum T.enumerate (ga_cons (ge_call (d_layers_of T) (hr.mono (by decide)) pass0 (ga_cons (ge_var 0) ga_nil)) ga_nil)) (gg_tup rfl (ggs_cons 2 sc_level.nd (ggs_cons 3 sc_level.nd ggs_nil)) rfl) (GSs.post (On' := []) (by decide) (gss_one (gs_if (gt_in hr.units ((ge_var 1)).go ((ge_var 3)).go) (gss_one (gs_ret (On := []) (ge_add ((ge_var 2)).go (ge_int).go))) (GSs.post (On' := []) (by decide) gss_nil)))) (by decide) (fun d ds h => tN_len h)) (gss_one (gs_ret (On := []) ge_non)))))⟩
abbrev s_comes : Stmt := top 37
theorem sc_comes : FnScope ["start", "goal"] ["start", "goal"] (defScope s_comes) := ⟨rfl, rfl, rfl, by decide +kernel, rfl, by decide +kernel, by decide +kernel⟩
def b_comes : SS := seqS (dropS (callE 2 m_need_two (consA (vE 0) (consA (vE 1) (nilA))))) (retS (binE isNotNoneD (callE 2 m_least_of (consA (vE 0) (consA (vE 1) (nilA)))) (cE .non)))
def m_comes : List D → List D → RE D := defD 2 b_comes
theorem d_comes (T : Tx K mg) : DefOk P w K mg base CX0 r "comes" 4 2 m_comes := by
  obtain ⟨f, fd, F, hm⟩ := T.f_comes
  refine fn_def (k := 3) F sc_comes hm (fun _ _ _ _ _ _ us hl => match us, hl with | [_, _], _ => rfl) (fun cdv A outer s H E hr => ?_) (m := b_comes)
  exact ⟨_, _, (gss_cons (gs_drop (ge_call (d_need_two T) (hr.mono (by decide)) pass0 (ga_cons (ge_var 0) (ga_cons (ge_var 1) ga_nil)))) (gss_one (gs_ret (On := []) (ge_isNot ((ge_call (d_least_of T) (hr.mono (by decide)) pass0 (ga_cons (ge_var 0) (ga_cons (ge_var 1) ga_nil)))).go (ge_non).go))))⟩
abbrev s_need_way : Stmt := top 38
theorem sc_need_way : FnScope ["start", "goal", "told"] ["start", "goal"] (defScope s_need_way) := ⟨rfl, rfl, rfl, by decide +kernel, rfl, by decide +kernel, by decide +kernel⟩
def b_need_way : SS := seqS (dropS (callE 2 m_need_two (consA (vE 0) (consA (vE 1) (nilA))))) (seqS (setS 2 (callE 2 m_least_of (consA (vE 0) (consA (vE 1) (nilA))))) (seqS (ifS (boolE (binE isNoneD (vE 2) (cE .non))) ((fun _ _ => .stuck)) (skipS)) (retS (vE 2))))
def m_need_way : List D → List D → RE D := defD 3 b_need_way
theorem d_need_way (T : Tx K mg) : DefOk P w K mg base CX0 r "need_way" 4 2 m_need_way := by
  obtain ⟨f, fd, F, hm⟩ := T.f_need_way
  refine fn_def (k := 3) F sc_need_way hm (fun _ _ _ _ _ _ us hl => match us, hl with | [_, _], _ => rfl) (fun cdv A outer s H E hr => ?_) (m := b_need_way)
  exact ⟨_, _, (gss_cons (gs_drop (ge_call (d_need_two T) (hr.mono (by decide)) pass0 (ga_cons (ge_var 0) (ga_cons (ge_var 1) ga_nil)))) (gss_cons (GS.post (On' := []) (by decide) (gs_set 2 sc_need_way.nd (ge_call (d_least_of T) (hr.mono (by decide)) pass0 (ga_cons (ge_var 0) (ga_cons (ge_var 1) ga_nil))))) (gss_cons (gs_if (gt_is ((ge_var 2)).go (ge_non).go) (gss_one (gs_never (On := []))) (GSs.post (On' := []) (by decide) gss_nil)) (gss_one (gs_ret (On := []) (ge_var 2))))))⟩
abbrev s_fewest : Stmt := top 40
theorem sc_fewest : FnScope ["start", "goal", "told", "some"] ["start", "goal"] (defScope s_fewest) := ⟨rfl, rfl, rfl, by decide +kernel, rfl, by decide +kernel, by decide +kernel⟩
def b_fewest : SS := seqS (dropS (callE 2 m_need_two (consA (vE 0) (consA (vE 1) (nilA))))) (seqS (setS 2 (callE 2 m_least_of (consA (vE 0) (consA (vE 1) (nilA))))) (retS (ifE (boolE (binE isNotNoneD (vE 2) (cE .non))) (callB sum2D (consA (compE (seqI (vE 2)) [3] t1 [3] (yesT) (callB lenD (consA (vE 3) (nilA)))) (nilA))) (cE .non))))
def m_fewest : List D → List D → RE D := defD 4 b_fewest
theorem d_fewest (T : Tx K mg) : DefOk P w K mg base CX0 r "fewest" 4 2 m_fewest := by
  obtain ⟨f, fd, F, hm⟩ := T.f_fewest
  refine fn_def (k := 3) F sc_fewest hm (fun _ _ _ _ _ _ us hl => match us, hl with | [_, _], _ => rfl) (fun cdv A outer s H E hr => ?_) (m := b_fewest)
  exact ⟨_, _, (gss_cons (gs_drop (ge_call (d_need_two T) (hr.mono (by decide)) pass0 (ga_cons (ge_var 0) (ga_cons (ge_var 1) ga_nil)))) (gss_cons (GS.post (On' := []) (by decide) (gs_set 2 sc_fewest.nd (ge_call (d_least_of T) (hr.mono (by decide)) pass0 (ga_cons (ge_var 0) (ga_cons (ge_var 1) ga_nil))))) (gss_one (gs_ret (On := []) (ge_ifExp (gt_isNot ((ge_var 2)).go (ge_non).go) (ge_sum2 rfl T.sum (gao_cons (((gf_lc (own := [("some", 3)]) rfl sc_fewest.nd (gi_seq (ge_var 2)) (blkOk_by (by kernel_rfl)) (fun _ _ _ _ _ => (gg_name 3 sc_fewest.nd)) (fun _ _ _ _ _ => gts_nil) (fun _ _ _ _ _ => (ge_len T.len (gao_cons ((ge_var 3)).go gao_nil))) (by decide) (by decide))).ge).go gao_nil)) ge_non)))))⟩
abbrev s_mended_start : Stmt := top 43
theorem sc_mended_start : FnScope ["start", "goal", "told", "line", "high", "found", "at", "row", "spot", "sign"] ["start", "goal"] (defScope s_mended_start) := ⟨rfl, rfl, rfl, by decide +kernel, rfl, by decide +kernel, by decide +kernel⟩
def b_mended_start : SS := seqS (dropS (callE 2 m_need_two (consA (vE 0) (consA (vE 1) (nilA))))) (seqS (setS 2 (dcE (seqI (callE 1 m_core_of (consA (vE 1) (nilA)))) [3] t1 [3] (vE 3) (cE (.bl true)))) (seqS (parS [4, 5] (consA (callB lenD (consA (vE 1) (nilA))) (consA (lstE (nilA)) (nilA)))) (seqS (forS (rangeI enumD (consA (vE 0) (nilA))) (tN 2) [6, 7] (seqS (setS 3 (cE (.str ""))) (seqS (forS (rangeI enumD (consA (vE 7) (nilA))) (tN 2) [8, 9] (setS 3 (binE addD (vE 3) (ifE (andT (boolE (binE (inKD false) (vE 6) (vE 2))) (boolE (binE (inKD false) (binE addD (vE 4) (vE 8)) (vE 2)))) (binE ixD (binE ixD (vE 1) (vE 6)) (vE 8)) (vE 9))))) (appS 5 (vE 3))))) (retS (callB tupleD (consA (vE 5) (nilA)))))))
def m_mended_start : List D → List D → RE D := defD 10 b_mended_start
theorem d_mended_start (T : Tx K mg) : DefOk P w K mg base CX0 r "mended_start" 4 2 m_mended_start := by
  obtain ⟨f, fd, F, hm⟩ := T.f_mended_start
  refine fn_def (k := 3) F sc_mended_start hm (fun _ _ _ _ _ _ us hl => match us, hl with | [_, _], _ => rfl) (fun cdv A outer s H E hr => ?_) (m := b_mended_start)
  exact ⟨_, _, (gss_cons (gs_drop (ge_call (d_need_two T) (hr.mono (by decide)) pass0 (ga_cons (ge_var 0) (ga_cons (ge_var 1) ga_nil)))) (gss_cons (GS.post (On' := []) (by decide) (gs_setLc (i := 2) (dc_stmt (own := [("line", 3)]) rfl sc_mended_start.nd (gi_seq (ge_call (d_core_of T) (hr.mono (by decide)) pass0 (ga_cons (ge_var 1) ga_nil))) (blkOk_by (by kernel_rfl)) (fun _ _ _ _ _ => (gg_name 3 sc_mended_start.nd)) (fun _ _ _ _ _ => gts_nil) (fun _ _ _ _ _ => (ge_var 3)) (fun _ _ _ _ _ => ge_bl) (by decide) (by decide)))) (gss_cons (GS.post (On' := [5]) (by decide) (gs_par2 4 5 sc_mended_start.nd (gak_st (ge_len T.len (gao_cons ((ge_var 1)).go gao_nil)) (gak_fr (gf_lst ga_nil) gak_nil)))) (gss_cons (gs_for .never rfl (gi_enum T.enumerate (ga_cons (ge_var 0) ga_nil)) (gg_tup rfl (ggs_cons 6 sc_mended_start.nd (ggs_cons 7 sc_mended_start.nd ggs_nil)) rfl) (GSs.post (On' := [5]) (by decide) (gss_cons (GS.post (On' := [5]) (by decide) (gs_set 3 sc_mended_start.nd ge_str)) (gss_cons (gs_for .never rfl (gi_enum T.enumerate (ga_cons (ge_var 7) ga_nil)) (gg_tup rfl (ggs_cons 8 sc_mended_start.nd (ggs_cons 9 sc_mended_start.nd ggs_nil)) rfl) (GSs.post (On' := [5]) (by decide) (gss_one (GS.post (On' := [5]) (by decide) (gs_set 3 sc_mended_start.nd (ge_add ((ge_var 3)).go ((ge_ifExp ((gw_and (gt_inK hr.units ((ge_var 6)).go ((ge_var 2)).go) (gw_and1 (gt_inK hr.units ((ge_add ((ge_var 4)).go ((ge_var 8)).go)).go ((ge_var 2)).go)))).gt (ge_sub1 ((ge_sub1 ((ge_var 1)).go ((ge_var 6)).go)).go ((ge_var 8)).go) (ge_var 9))).go))))) (by decide) (fun d ds h => tN_len h)) (gss_one (gs_append 5 (by decide) (ge_var 3)))))) (by decide) (fun d ds h => tN_len h)) (gss_one (gs_ret (On := []) (ge_tuple T.tuple (gao_cons (go_own 5) gao_nil))))))))⟩
abbrev s_law_picture : Stmt := top 53
theorem sc_law_picture : FnScope ["_law_row", "_law_most", "_law_high", "_law_wide", "_law_picture_here", "_law_kind"] ["_law_row", "_law_most"] (defScope s_law_picture) := ⟨rfl, rfl, rfl, by decide +kernel, rfl, by decide +kernel, by decide +kernel⟩
def b_law_picture : SS := seqS (parS [2, 3] (consA (binE addD (cE (.int 1)) (callE 2 m_law_taken (consA (vE 0) (consA (vE 1) (nilA))))) (consA (binE addD (cE (.int 1)) (callE 2 m_law_taken (consA (vE 0) (consA (vE 1) (nilA))))) (nilA)))) (seqS (parS [4, 5] (consA (callE 3 m_law_any (consA (vE 0) (consA (vE 2) (consA (vE 3) (nilA))))) (consA (callE 2 m_law_taken (consA (vE 0) (consA (cE (.int 4)) (nilA)))) (nilA)))) (seqS (ifS (boolE (binE eqD (vE 5) (cE (.int 0)))) (retS (vE 4)) (skipS)) (seqS (ifS (boolE (binE eqD (vE 5) (cE (.int 1)))) (retS (callE 2 m_law_painted (consA (vE 4) (consA (callE 3 m_law_deeds (consA (vE 0) (consA (vE 4) (consA (binE addD (vE 2) (vE 3)) (nilA))))) (nilA))))) (skipS)) (retS (callE 2 m_law_painted (consA (vE 4) (consA (callE 2 m_law_mixed (consA (vE 0) (consA (rg1E .lst (binE addD (vE 2) (vE 3))) (nilA)))) (nilA))))))))
def m_law_picture : List D → List D → RE D := defD 6 b_law_picture
theorem d_law_picture (T : Tx K mg) : DefOk P w K mg base CX0 r "_law_picture" 4 2 m_law_picture := by
  obtain ⟨f, fd, F, hm⟩ := T.f_law_picture
  refine fn_def (k := 3) F sc_law_picture hm (fun _ _ _ _ _ _ us hl => match us, hl with | [_, _], _ => rfl) (fun cdv A outer s H E hr => ?_) (m := b_law_picture)
  exact ⟨_, _, (gss_cons (GS.post (On' := []) (by decide) (gs_par2 2 3 sc_law_picture.nd (gak_st (ge_add (ge_int).go ((ge_call (d_law_taken T) (hr.mono (by decide)) pass0 (ga_cons (ge_var 0) (ga_cons (ge_var 1) ga_nil)))).go) (gak_st (ge_add (ge_int).go ((ge_call (d_law_taken T) (hr.mono (by decide)) pass0 (ga_cons (ge_var 0) (ga_cons (ge_var 1) ga_nil)))).go) gak_nil)))) (gss_cons (GS.post (On' := []) (by decide) (gs_par2 4 5 sc_law_picture.nd (gak_st (ge_call (d_law_any T) (hr.mono (by decide)) pass0 (ga_cons (ge_var 0) (ga_cons (ge_var 2) (ga_cons (ge_var 3) ga_nil)))) (gak_st (ge_call (d_law_taken T) (hr.mono (by decide)) pass0 (ga_cons (ge_var 0) (ga_cons ge_int ga_nil))) gak_nil)))) (gss_cons (gs_if (gt_eq hr.units ((ge_var 5)).go (ge_int).go) (gss_one (gs_ret (On := []) (ge_var 4))) (GSs.post (On' := []) (by decide) gss_nil)) (gss_cons (gs_if (gt_eq hr.units ((ge_var 5)).go (ge_int).go) (gss_one (gs_ret (On := []) (ge_call (d_law_painted T) (hr.mono (by decide)) pass0 (ga_cons (ge_var 4) (ga_cons (ge_call (d_law_deeds T) (hr.mono (by decide)) pass0 (ga_cons (ge_var 0) (ga_cons (ge_var 4) (ga_cons (ge_add ((ge_var 2)).go ((ge_var 3)).go) ga_nil)))) ga_nil))))) (GSs.post (On' := []) (by decide) gss_nil)) (gss_one (gs_ret (On := []) (ge_call (d_law_painted T) (hr.mono (by decide)) pass0 (ga_cons (ge_var 4) (ga_cons (ge_call (d_law_mixed T) (hr.mono (by decide)) pass0 (ga_cons (ge_var 0) (ga_cons ((gf_listRg1 T.list T.range ((ge_add ((ge_var 2)).go ((ge_var 3)).go)).go)).ge ga_nil))) ga_nil)))))))))⟩
abbrev s_law_start : Stmt := top 54
theorem sc_law_start : FnScope ["_law_row", "_law_goal", "_law_kind", "_law_shut", "_law_high", "_law_found", "_law_at", "_law_told", "_law_spot", "_law_kept"] ["_law_row", "_law_goal"] (defScope s_law_start) := ⟨rfl, rfl, rfl, by decide +kernel, rfl, by decide +kernel, by decide +kernel⟩
def b_law_start : SS := seqS (setS 2 (callE 2 m_law_taken (consA (vE 0) (consA (cE (.int 4)) (nilA))))) (seqS (ifS (boolE (binE eqD (vE 2) (cE (.int 0)))) (retS (callE 3 m_law_any (consA (vE 0) (consA (callB lenD (consA (vE 1) (nilA))) (consA (callB lenD (consA (binE ixD (vE 1) (cE (.int 0))) (nilA))) (nilA)))))) (skipS)) (seqS (ifS (boolE (binE eqD (vE 2) (cE (.int 1)))) (retS (callE 2 m_law_painted (consA (vE 1) (consA (callE 3 m_law_deeds (consA (vE 0) (consA (vE 1) (consA (cE (.int 4)) (nilA))))) (nilA))))) (skipS)) (seqS (parS [3, 4, 5] (consA (callE 1 m_law_core (consA (vE 1) (nilA))) (consA (callB lenD (consA (vE 1) (nilA))) (consA (lstE (nilA)) (nilA))))) (seqS (forS (rangeI range1D (consA (vE 4) (nilA))) t1 [6] (seqS (setS 7 (cE (.str ""))) (seqS (forS (rangeI range1D (consA (callB lenD (consA (binE ixD (vE 1) (cE (.int 0))) (nilA))) (nilA))) t1 [8] (seqS (setS 9 (orE (andE (binE inD (vE 6) (vE 3)) (binE inD (binE addD (vE 4) (vE 8)) (vE 3))) (andE (binE eqD (vE 2) (cE (.int 3))) (binE gtD (callE 2 m_law_taken (consA (vE 0) (consA (cE (.int 5)) (nilA)))) (cE (.int 0)))))) (setS 7 (binE addD (vE 7) (ifE (boolE (vE 9)) (binE ixD (binE ixD (vE 1) (vE 6)) (vE 8)) (callE 2 m_law_pick (consA (vE 0) (consA (cE (.str "#.")) (nilA))))))))) (appS 5 (vE 7))))) (retS (callB tupleD (consA (vE 5) (nilA))))))))
def m_law_start : List D → List D → RE D := defD 10 b_law_start
theorem d_law_start (T : Tx K mg) : DefOk P w K mg base CX0 r "_law_start" 4 2 m_law_start := by
  obtain ⟨f, fd, F, hm⟩ := T.f_law_start
  refine fn_def (k := 3) F sc_law_start hm (fun _ _ _ _ _ _ us hl => match us, hl with | [_, _], _ => rfl) (fun cdv A outer s H E hr => ?_) (m := b_law_start)
  exact ⟨_, _, (gss_cons (GS.post (On' := []) (by decide) (gs_set 2 sc_law_start.nd (ge_call (d_law_taken T) (hr.mono (by decide)) pass0 (ga_cons (ge_var 0) (ga_cons ge_int ga_nil))))) (gss_cons (gs_if (gt_eq hr.units ((ge_var 2)).go (ge_int).go) (gss_one (gs_ret (On := []) (ge_call (d_law_any T) (hr.mono (by decide)) pass0 (ga_cons (ge_var 0) (ga_cons (ge_len T.len (gao_cons ((ge_var 1)).go gao_nil)) (ga_cons (ge_len T.len (gao_cons ((ge_sub1 ((ge_var 1)).go (ge_int).go)).go gao_nil)) ga_nil)))))) (GSs.post (On' := []) (by decide) gss_nil)) (gss_cons (gs_if (gt_eq hr.units ((ge_var 2)).go (ge_int).go) (gss_one (gs_ret (On := []) (ge_call (d_law_painted T) (hr.mono (by decide)) pass0 (ga_cons (ge_var 1) (ga_cons (ge_call (d_law_deeds T) (hr.mono (by decide)) pass0 (ga_cons (ge_var 0) (ga_cons (ge_var 1) (ga_cons ge_int ga_nil)))) ga_nil))))) (GSs.post (On' := []) (by decide) gss_nil)) (gss_cons (GS.post (On' := [5]) (by decide) (gs_par3 3 4 5 sc_law_start.nd (gak_st (ge_call (d_law_core T) (hr.mono (by decide)) pass0 (ga_cons (ge_var 1) ga_nil)) (gak_st (ge_len T.len (gao_cons ((ge_var 1)).go gao_nil)) (gak_fr (gf_lst ga_nil) gak_nil))))) (gss_cons (gs_for .never rfl (gi_range1 T.range (gao_cons ((ge_var 4)).go gao_nil)) (gg_name 6 sc_law_start.nd) (GSs.post (On' := [5]) (by decide) (gss_cons (GS.post (On' := [5]) (by decide) (gs_set 7 sc_law_start.nd ge_str)) (gss_cons (gs_for .never rfl (gi_range1 T.range (gao_cons ((ge_len T.len (gao_cons ((ge_sub1 ((ge_var 1)).go (ge_int).go)).go gao_nil))).go gao_nil)) (gg_name 8 sc_law_start.nd) (GSs.post (On' := [5]) (by decide) (gss_cons (GS.post (On' := [5]) (by decide) (gs_set 9 sc_law_start.nd (ge_or (ge_and (ge_in hr.units ((ge_var 6)).go ((ge_var 3)).go) (ge_one (ge_in hr.units ((ge_add ((ge_var 4)).go ((ge_var 8)).go)).go ((ge_var 3)).go))) (ge_one (ge_and (ge_eq hr.units ((ge_var 2)).go (ge_int).go) (ge_one (ge_gt ((ge_call (d_law_taken T) (hr.mono (by decide)) pass0 (ga_cons (ge_var 0) (ga_cons ge_int ga_nil)))).go (ge_int).go))))))) (gss_one (GS.post (On' := [5]) (by decide) (gs_set 7 sc_law_start.nd (ge_add ((ge_var 7)).go ((ge_ifExp (gt_val (ge_var 9)) (ge_sub1 ((ge_sub1 ((ge_var 1)).go ((ge_var 6)).go)).go ((ge_var 8)).go) (ge_call (d_law_pick T) (hr.mono (by decide)) pass0 (ga_cons (ge_var 0) (ga_cons ge_str ga_nil))))).go)))))) (by decide) (fun d ds h => by cases h; rfl)) (gss_one (gs_append 5 (by decide) (ge_var 7)))))) (by decide) (fun d ds h => by cases h; rfl)) (gss_one (gs_ret (On := []) (ge_tuple T.tuple (gao_cons (go_own 5) gao_nil)))))))))⟩
abbrev s_part : Stmt := top 23
theorem sc_part : FnScope ["picture", "lines", "rows", "line", "columns"] ["picture", "lines"] (defScope s_part) := ⟨rfl, rfl, rfl, by decide +kernel, rfl, by decide +kernel, by decide +kernel⟩
def b_part : SS := seqS (dropS (callE 1 m_need_picture (consA (vE 0) (nilA)))) (seqS (dropS (callE 2 m_need_lines (consA (vE 0) (consA (vE 1) (nilA))))) (seqS (setS 2 (compE (seqI (vE 1)) [3] t1 [3] (boolE (binE ltD (vE 3) (callB lenD (consA (vE 0) (nilA))))) (vE 3))) (seqS (setS 4 (compE (seqI (vE 1)) [3] t1 [3] (boolE (binE geD (vE 3) (callB lenD (consA (vE 0) (nilA))))) (binE subD (vE 3) (callB lenD (consA (vE 0) (nilA)))))) (seqS (ifS (orT (boolE (binE eqD (vE 2) (lstE (nilA)))) (boolE (binE eqD (vE 4) (lstE (nilA))))) ((fun _ _ => .stuck)) (skipS)) (retS (callE 3 m_part_of (consA (vE 0) (consA (vE 2) (consA (vE 4) (nilA))))))))))
def m_part : List D → List D → RE D := defD 5 b_part
theorem d_part (T : Tx K mg) : DefOk P w K mg base CX0 r "part" 5 2 m_part := by
  obtain ⟨f, fd, F, hm⟩ := T.f_part
  refine fn_def (k := 4) F sc_part hm (fun _ _ _ _ _ _ us hl => match us, hl with | [_, _], _ => rfl) (fun cdv A outer s H E hr => ?_) (m := b_part)
  exact ⟨_, _, (gss_cons (gs_drop (ge_call (d_need_picture T) (hr.mono (by decide)) pass0 (ga_cons (ge_var 0) ga_nil))) (gss_cons (gs_drop (ge_call (d_need_lines T) (hr.mono (by decide)) pass0 (ga_cons (ge_var 0) (ga_cons (ge_var 1) ga_nil)))) (gss_cons (GS.post (On' := []) (by decide) (gs_setLc (i := 2) (lc_stmt (own := [("line", 3)]) rfl sc_part.nd (gi_seq (ge_var 1)) (blkOk_by (by kernel_rfl)) (fun _ _ _ _ _ => (gg_name 3 sc_part.nd)) (fun _ _ _ _ _ => (gts_one (gt_lt ((ge_var 3)).go ((ge_len T.len (gao_cons ((ge_var 0)).go gao_nil))).go))) (fun _ _ _ _ _ => (ge_var 3)) (by decide) (by decide)))) (gss_cons (GS.post (On' := []) (by decide) (gs_setLc (i := 4) (lc_stmt (own := [("line", 3)]) rfl sc_part.nd (gi_seq (ge_var 1)) (blkOk_by (by kernel_rfl)) (fun _ _ _ _ _ => (gg_name 3 sc_part.nd)) (fun _ _ _ _ _ => (gts_one (gt_ge ((ge_var 3)).go ((ge_len T.len (gao_cons ((ge_var 0)).go gao_nil))).go))) (fun _ _ _ _ _ => (ge_sub ((ge_var 3)).go ((ge_len T.len (gao_cons ((ge_var 0)).go gao_nil))).go)) (by decide) (by decide)))) (gss_cons (gs_if ((gw_or (gt_eq hr.units ((ge_var 2)).go (((gf_lst ga_nil)).ge).go) (gw_or1 (gt_eq hr.units ((ge_var 4)).go (((gf_lst ga_nil)).ge).go)))).gt (gss_one (gs_never (On := []))) (GSs.post (On' := []) (by decide) gss_nil)) (gss_one (gs_ret (On := []) (ge_call (d_part_of T) (hr.mono (by decide)) pass0 (ga_cons (ge_var 0) (ga_cons (ge_var 2) (ga_cons (ge_var 4) ga_nil)))))))))))⟩
abbrev s_is_free : Stmt := top 30
theorem sc_is_free : FnScope ["picture"] ["picture"] (defScope s_is_free) := ⟨rfl, rfl, rfl, by decide +kernel, rfl, by decide +kernel, by decide +kernel⟩
def b_is_free : SS := seqS (dropS (callE 1 m_need_picture (consA (vE 0) (nilA)))) (retS (callE 1 m_is_free_of (consA (vE 0) (nilA))))
def m_is_free : List D → List D → RE D := defD 1 b_is_free
theorem d_is_free (T : Tx K mg) : DefOk P w K mg base CX0 r "is_free" 5 1 m_is_free := by
  obtain ⟨f, fd, F, hm⟩ := T.f_is_free
  refine fn_def (k := 4) F sc_is_free hm (fun _ _ _ _ _ _ us hl => match us, hl with | [_], _ => rfl) (fun cdv A outer s H E hr => ?_) (m := b_is_free)
  exact ⟨_, _, (gss_cons (gs_drop (ge_call (d_need_picture T) (hr.mono (by decide)) pass0 (ga_cons (ge_var 0) ga_nil))) (gss_one (gs_ret (On := []) (ge_call (d_is_free_of T) (hr.mono (by decide)) pass0 (ga_cons (ge_var 0) ga_nil)))))⟩
abbrev s_least_lines : Stmt := top 39
theorem sc_least_lines : FnScope ["start", "goal", "told", "some", "line"] ["start", "goal"] (defScope s_least_lines) := ⟨rfl, rfl, rfl, by decide +kernel, rfl, by decide +kernel, by decide +kernel⟩
def b_least_lines : SS := seqS (setS 2 (callE 2 m_need_way (consA (vE 0) (consA (vE 1) (nilA))))) (retS (callB tupleD (consA (callB sortD (consA (comp2E (seqI (vE 2)) [3, 4] t1 [3] (yesT) (seqI (vE 3)) [4] t1 [4] (yesT) (vE 4)) (nilA))) (nilA))))
def m_least_lines : List D → List D → RE D := defD 5 b_least_lines
theorem d_least_lines (T : Tx K mg) : DefOk P w K mg base CX0 r "least_lines" 5 2 m_least_lines := by
  obtain ⟨f, fd, F, hm⟩ := T.f_least_lines
  refine fn_def (k := 4) F sc_least_lines hm (fun _ _ _ _ _ _ us hl => match us, hl with | [_, _], _ => rfl) (fun cdv A outer s H E hr => ?_) (m := b_least_lines)
  exact ⟨_, _, (gss_cons (GS.post (On' := []) (by decide) (gs_set 2 sc_least_lines.nd (ge_call (d_need_way T) (hr.mono (by decide)) pass0 (ga_cons (ge_var 0) (ga_cons (ge_var 1) ga_nil))))) (gss_one (gs_ret (On := []) (ge_tuple T.tuple (gao_cons (((gf_sorted T.sorted (gao_cons (((gf_lc2 (own := [("some", 3), ("line", 4)]) (vs1 := [4]) rfl sc_least_lines.nd (gi_seq (ge_var 2)) (blkOk_by (by kernel_rfl)) (fun _ _ _ _ _ => (gg_name 3 sc_least_lines.nd)) (fun _ _ _ _ _ => gts_nil) (fun _ _ _ _ _ => (gi_seq (ge_var 3))) (fun _ _ _ _ _ => (gg_name 4 sc_least_lines.nd)) (fun _ _ _ _ _ => gts_nil) (fun _ _ _ _ _ => (ge_var 4)) (by decide) (by decide) (by decide) (by decide))).ge).go gao_nil))).ge).go gao_nil)))))⟩
abbrev s_cells_to_mend : Stmt := top 44
theorem sc_cells_to_mend : FnScope ["start", "goal"] ["start", "goal"] (defScope s_cells_to_mend) := ⟨rfl, rfl, rfl, by decide +kernel, rfl, by decide +kernel, by decide +kernel⟩
def b_cells_to_mend : SS := seqS (dropS (callE 2 m_need_two (consA (vE 0) (consA (vE 1) (nilA))))) (retS (callB lenD (consA (callE 2 m_differing (consA (vE 0) (consA (callE 2 m_mended_start (consA (vE 0) (consA (vE 1) (nilA)))) (nilA)))) (nilA))))
def m_cells_to_mend : List D → List D → RE D := defD 2 b_cells_to_mend
theorem d_cells_to_mend (T : Tx K mg) : DefOk P w K mg base CX0 r "cells_to_mend" 5 2 m_cells_to_mend := by
  obtain ⟨f, fd, F, hm⟩ := T.f_cells_to_mend
  refine fn_def (k := 4) F sc_cells_to_mend hm (fun _ _ _ _ _ _ us hl => match us, hl with | [_, _], _ => rfl) (fun cdv A outer s H E hr => ?_) (m := b_cells_to_mend)
  exact ⟨_, _, (gss_cons (gs_drop (ge_call (d_need_two T) (hr.mono (by decide)) pass0 (ga_cons (ge_var 0) (ga_cons (ge_var 1) ga_nil)))) (gss_one (gs_ret (On := []) (ge_len T.len (gao_cons ((ge_call (d_differing T) (hr.mono (by decide)) pass0 (ga_cons (ge_var 0) (ga_cons (ge_call (d_mended_start T) (hr.mono (by decide)) pass0 (ga_cons (ge_var 0) (ga_cons (ge_var 1) ga_nil))) ga_nil)))).go gao_nil)))))⟩
abbrev s_law : Stmt := top 57
theorem sc_law : FnScope ["_law_script", "_law_row", "_law_goal", "_law_start_here", "_law_high", "_law_wide", "_law_some", "_law_side", "_law_lines", "_law_spot", "_law_one", "_law_other", "_law_inside", "_law_line", "_law_at", "_law_whole", "_law_less"] ["_law_script"] (defScope s_law) := ⟨rfl, rfl, rfl, by decide +kernel, rfl, by decide +kernel, by decide +kernel⟩
def b_law : SS := seqS (setS 2 (callE 2 m_law_picture (consA (vE 1) (consA (cE (.int 10)) (nilA))))) (seqS (parS [3, 4, 5] (consA (callE 2 m_law_start (consA (vE 1) (consA (vE 2) (nilA)))) (consA (callB lenD (consA (vE 2) (nilA))) (consA (callB lenD (consA (binE ixD (vE 2) (cE (.int 0))) (nilA))) (nilA))))) (seqS (setS 6 (callB sortD (consA (sliceE (callE 2 m_law_mixed (consA (vE 1) (consA (rg1E .lst (vE 4)) (nilA)))) (optI none) (optI (some (binE addD (cE (.int 1)) (callE 2 m_law_taken (consA (vE 1) (consA (vE 4) (nilA)))))))) (nilA)))) (seqS (setS 7 (callB sortD (consA (sliceE (callE 2 m_law_mixed (consA (vE 1) (consA (rg1E .lst (vE 5)) (nilA)))) (optI none) (optI (some (binE addD (cE (.int 1)) (callE 2 m_law_taken (consA (vE 1) (consA (vE 5) (nilA)))))))) (nilA)))) (seqS (setS 8 (callB tupleqD (consA (binE addD (vE 6) (compE (seqI (vE 7)) [9] t1 [9] (yesT) (binE addD (vE 4) (vE 9)))) (nilA)))) (seqS (parS [10, 11] (consA (callE 2 m_part (consA (vE 3) (consA (unqE (vE 8)) (nilA)))) (consA (callE 2 m_part (consA (vE 2) (consA (unqE (vE 8)) (nilA)))) (nilA)))) (seqS (ifS (orT (boolE (binE gtD (callB lenD (consA (callE 2 m_differences (consA (vE 10) (consA (vE 11) (nilA)))) (nilA))) (callB lenD (consA (callE 2 m_differences (consA (vE 3) (consA (vE 2) (nilA)))) (nilA))))) (boolE (binE gtD (callE 1 m_count_rounds (consA (vE 11) (nilA))) (callE 1 m_count_rounds (consA (vE 2) (nilA)))))) (retS (cE (.bl false))) (skipS)) (seqS (ifS (andT (boolE (callE 1 m_is_free (consA (vE 2) (nilA)))) (orT (boolE (binE isNotNoneD (callE 1 m_is_free (consA (vE 11) (nilA))) (cE (.bl true)))) (boolE (binE isNotNoneD (callE 1 m_round_of_four (consA (vE 11) (nilA))) (cE .non))))) (retS (cE (.bl false))) (skipS)) (seqS (ifS (boolE (callE 2 m_comes (consA (vE 3) (consA (vE 2) (nilA))))) (seqS (ifS (orT (boolE (binE isNotNoneD (callE 2 m_comes (consA (vE 10) (consA (vE 11) (nilA)))) (cE (.bl true)))) (boolE (binE gtD (callE 2 m_fewest (consA (vE 10) (consA (vE 11) (nilA)))) (callE 2 m_fewest (consA (vE 3) (consA (vE 2) (nilA))))))) (retS (cE (.bl false))) (skipS)) (seqS (setS 12 (compE (seqI (callE 2 m_least_lines (consA (vE 3) (consA (vE 2) (nilA))))) [13] t1 [13] (boolE (binE inD (vE 13) (unqE (vE 8)))) (indexTE (vE 8) (vE 13)))) (ifS (boolE (binE neD (compE (seqI (callE 2 m_least_lines (consA (vE 10) (consA (vE 11) (nilA))))) [13] t1 [13] (boolE (binE notInD (vE 13) (vE 12))) (vE 13)) (lstE (nilA)))) (retS (cE (.bl false))) (skipS)))) (skipS)) (seqS (ifS (orT (boolE (binE gtD (callE 2 m_cells_to_mend (consA (vE 10) (consA (vE 11) (nilA)))) (callE 2 m_cells_to_mend (consA (vE 3) (consA (vE 2) (nilA)))))) (boolE (binE neD (compE (seqI (callE 1 m_core (consA (vE 11) (nilA)))) [14] t1 [14] (boolE (binE notInD (binE ixD (unqE (vE 8)) (vE 14)) (callE 1 m_core (consA (vE 2) (nilA))))) (vE 14)) (lstE (nilA))))) (retS (cE (.bl false))) (skipS)) (seqS (forS (rangeI range1D (consA (callB lenD (consA (unqE (vE 8)) (nilA))) (nilA))) t1 [14] (seqS (parS [15, 16] (consA (callE 2 m_level (consA (vE 2) (consA (binE ixD (unqE (vE 8)) (vE 14)) (nilA)))) (consA (callE 2 m_level (consA (vE 11) (consA (vE 14) (nilA)))) (nilA)))) (ifS (andT (boolE (binE isNotNoneD (vE 15) (cE .non))) (orT (boolE (binE isNoneD (vE 16) (cE .non))) (boolE (binE gtD (vE 16) (vE 15))))) (retS (cE (.bl false))) (skipS)))) (retS (andE (binE eqD (callE 2 m_part (consA (vE 10) (consA (rg1E .tup (callB lenD (consA (unqE (vE 8)) (nilA)))) (nilA)))) (vE 10)) (binE isNoneD (callE 2 m_comes (consA (vE 11) (consA (vE 11) (nilA)))) (cE (.bl true)))))))))))))))
theorem law_body (T : Tx K mg) {f : Addr} {qual : Str} (r : Addr) (cdv : Value) (A : Around) (outer : List Env) (s : Shared) (H : Hp) (E : XK) (hr : Room 5 (A.deeper (PyProof.Rows.envOfC qual (defScope s_law) s.heap.objs.size f cdv))) : ∃ On u, GSs K mg r (cxOf CX0 P w K mg base ["_law_script", "_law_row", "_law_goal", "_law_start_here", "_law_high", "_law_wide", "_law_some", "_law_side", "_law_lines", "_law_spot", "_law_one", "_law_other", "_law_inside", "_law_line", "_law_at", "_law_whole", "_law_less"] qual (defScope s_law) f cdv A outer s H E).nox E0 [] On [] (defBody s_law).tail u b_law := by
  exact ⟨_, _, (gss_cons (GS.post (On' := []) (by decide) (gs_set 2 sc_law.nd (ge_call (d_law_picture T) (hr.mono (by decide)) pass0 (ga_cons (ge_var 1) (ga_cons ge_int ga_nil))))) (gss_cons (GS.post (On' := []) (by decide) (gs_tup (gak_st (ge_call (d_law_start T) (hr.mono (by decide)) pass0 (ga_cons (ge_var 1) (ga_cons (ge_var 2) ga_nil))) (gak_st (ge_len T.len (gao_cons ((ge_var 2)).go gao_nil)) (gak_st (ge_len T.len (gao_cons ((ge_sub1 ((ge_var 2)).go (ge_int).go)).go gao_nil)) gak_nil))) (ggs_cons 3 sc_law.nd (ggs_cons 4 sc_law.nd (ggs_cons 5 sc_law.nd ggs_nil))))) (gss_cons (GS.post (On' := []) (by decide) (gs_set 6 sc_law.nd ((gf_sorted T.sorted (gao_cons ((ge_slice ((ge_call (d_law_mixed T) (hr.mono (by decide)) pass0 (ga_cons (ge_var 1) (ga_cons ((gf_listRg1 T.list T.range ((ge_var 4)).go)).ge ga_nil)))).go gp_none (gp_some (ge_add (ge_int).go ((ge_call (d_law_taken T) (hr.mono (by decide)) pass0 (ga_cons (ge_var 1) (ga_cons (ge_var 4) ga_nil)))).go)))).go gao_nil))).ge)) (gss_cons (GS.post (On' := []) (by decide) (gs_set 7 sc_law.nd ((gf_sorted T.sorted (gao_cons ((ge_slice ((ge_call (d_law_mixed T) (hr.mono (by decide)) pass0 (ga_cons (ge_var 1) (ga_cons ((gf_listRg1 T.list T.range ((ge_var 5)).go)).ge ga_nil)))).go gp_none (gp_some (ge_add (ge_int).go ((ge_call (d_law_taken T) (hr.mono (by decide)) pass0 (ga_cons (ge_var 1) (ga_cons (ge_var 5) ga_nil)))).go)))).go gao_nil))).ge)) (gss_cons (GS.post (On' := []) (by decide) (gs_set 8 sc_law.nd (ge_tupleQ T.tuple (gao_cons ((ge_add ((ge_var 6)).go (((gf_lc (own := [("_law_spot", 9)]) rfl sc_law.nd (gi_seq (ge_var 7)) (blkOk_by (by kernel_rfl)) (fun _ _ _ _ _ => (gg_name 9 sc_law.nd)) (fun _ _ _ _ _ => gts_nil) (fun _ _ _ _ _ => (ge_add ((ge_var 4)).go ((ge_var 9)).go)) (by decide) (by decide))).ge).go)).go gao_nil)))) (gss_cons (GS.post (On' := []) (by decide) (gs_par2 10 11 sc_law.nd (gak_st (ge_call (d_part T) (hr.mono (by decide)) pass0 (ga_cons (ge_var 3) (ga_cons (ge_unq (ge_var 8).go) ga_nil))) (gak_st (ge_call (d_part T) (hr.mono (by decide)) pass0 (ga_cons (ge_var 2) (ga_cons (ge_unq (ge_var 8).go) ga_nil))) gak_nil)))) (gss_cons (gs_if ((gw_or (gt_gt ((ge_len T.len (gao_cons ((ge_call (d_differences T) (hr.mono (by decide)) pass0 (ga_cons (ge_var 10) (ga_cons (ge_var 11) ga_nil)))).go gao_nil))).go ((ge_len T.len (gao_cons ((ge_call (d_differences T) (hr.mono (by decide)) pass0 (ga_cons (ge_var 3) (ga_cons (ge_var 2) ga_nil)))).go gao_nil))).go) (gw_or1 (gt_gt ((ge_call (d_count_rounds T) (hr.mono (by decide)) pass0 (ga_cons (ge_var 11) ga_nil))).go ((ge_call (d_count_rounds T) (hr.mono (by decide)) pass0 (ga_cons (ge_var 2) ga_nil))).go)))).gt (gss_one (gs_ret (On := []) ge_bl)) (GSs.post (On' := []) (by decide) gss_nil)) (gss_cons (gs_if ((gw_and (gt_val (ge_call (d_is_free T) (hr.mono (by decide)) pass0 (ga_cons (ge_var 2) ga_nil))) (gw_and1 ((gw_or (gt_isNot ((ge_call (d_is_free T) (hr.mono (by decide)) pass0 (ga_cons (ge_var 11) ga_nil))).go (ge_bl).go) (gw_or1 (gt_isNot ((ge_call (d_round_of_four T) (hr.mono (by decide)) pass0 (ga_cons (ge_var 11) ga_nil))).go (ge_non).go)))).gt))).gt (gss_one (gs_ret (On := []) ge_bl)) (GSs.post (On' := []) (by decide) gss_nil)) (gss_cons (gs_if (gt_val (ge_call (d_comes T) (hr.mono (by decide)) pass0 (ga_cons (ge_var 3) (ga_cons (ge_var 2) ga_nil)))) (GSs.post (On' := []) (by decide) (gss_cons (gs_if ((gw_or (gt_isNot ((ge_call (d_comes T) (hr.mono (by decide)) pass0 (ga_cons (ge_var 10) (ga_cons (ge_var 11) ga_nil)))).go (ge_bl).go) (gw_or1 (gt_gt ((ge_call (d_fewest T) (hr.mono (by decide)) pass0 (ga_cons (ge_var 10) (ga_cons (ge_var 11) ga_nil)))).go ((ge_call (d_fewest T) (hr.mono (by decide)) pass0 (ga_cons (ge_var 3) (ga_cons (ge_var 2) ga_nil)))).go)))).gt (gss_one (gs_ret (On := []) ge_bl)) (GSs.post (On' := []) (by decide) gss_nil)) (gss_cons (GS.post (On' := []) (by decide) (gs_set 12 sc_law.nd ((gf_lc (own := [("_law_line", 13)]) rfl sc_law.nd (gi_seq (ge_call (d_least_lines T) (hr.mono (by decide)) pass0 (ga_cons (ge_var 3) (ga_cons (ge_var 2) ga_nil)))) (blkOk_by (by kernel_rfl)) (fun _ _ _ _ _ => (gg_name 13 sc_law.nd)) (fun _ _ _ _ _ => (gts_one (gt_in hr.units ((ge_var 13)).go ((ge_unq (ge_var 8).go)).go))) (fun _ _ _ _ _ => (ge_indexT ((ge_var 8)).go ((ge_var 13)).go)) (by decide) (by decide))).ge)) (gss_one (gs_if (gt_ne hr.units (((gf_lc (own := [("_law_line", 13)]) rfl sc_law.nd (gi_seq (ge_call (d_least_lines T) (hr.mono (by decide)) pass0 (ga_cons (ge_var 10) (ga_cons (ge_var 11) ga_nil)))) (blkOk_by (by kernel_rfl)) (fun _ _ _ _ _ => (gg_name 13 sc_law.nd)) (fun _ _ _ _ _ => (gts_one (gt_notIn hr.units ((ge_var 13)).go ((ge_var 12)).go))) (fun _ _ _ _ _ => (ge_var 13)) (by decide) (by decide))).ge).go (((gf_lst ga_nil)).ge).go) (gss_one (gs_ret (On := []) ge_bl)) (GSs.post (On' := []) (by decide) gss_nil)))))) (GSs.post (On' := []) (by decide) gss_nil)) (gss_cons (gs_if ((gw_or (gt_gt ((ge_call (d_cells_to_mend T) (hr.mono (by decide)) pass0 (ga_cons (ge_var 10) (ga_cons (ge_var 11) ga_nil)))).go ((ge_call (d_cells_to_mend T) (hr.mono (by decide)) pass0 (ga_cons (ge_var 3) (ga_cons (ge_var 2) ga_nil)))).go) (gw_or1 (gt_ne hr.units (((gf_lc (own := [("_law_at", 14)]) rfl sc_law.nd (gi_seq (ge_call (d_core T) (hr.mono (by decide)) pass0 (ga_cons (ge_var 11) ga_nil))) (blkOk_by (by kernel_rfl)) (fun _ _ _ _ _ => (gg_name 14 sc_law.nd)) (fun _ _ _ _ _ => (gts_one (gt_notIn hr.units ((ge_sub1 ((ge_unq (ge_var 8).go)).go ((ge_var 14)).go)).go ((ge_call (d_core T) (hr.mono (by decide)) pass0 (ga_cons (ge_var 2) ga_nil))).go))) (fun _ _ _ _ _ => (ge_var 14)) (by decide) (by decide))).ge).go (((gf_lst ga_nil)).ge).go)))).gt (gss_one (gs_ret (On := []) ge_bl)) (GSs.post (On' := []) (by decide) gss_nil)) (gss_cons (gs_for .never rfl (gi_range1 T.range (gao_cons ((ge_len T.len (gao_cons ((ge_unq (ge_var 8).go)).go gao_nil))).go gao_nil)) (gg_name 14 sc_law.nd) (GSs.post (On' := []) (by decide) (gss_cons (GS.post (On' := []) (by decide) (gs_par2 15 16 sc_law.nd (gak_st (ge_call (d_level T) (hr.mono (by decide)) pass0 (ga_cons (ge_var 2) (ga_cons (ge_sub1 ((ge_unq (ge_var 8).go)).go ((ge_var 14)).go) ga_nil))) (gak_st (ge_call (d_level T) (hr.mono (by decide)) pass0 (ga_cons (ge_var 11) (ga_cons (ge_var 14) ga_nil))) gak_nil)))) (gss_one (gs_if ((gw_and (gt_isNot ((ge_var 15)).go (ge_non).go) (gw_and1 ((gw_or (gt_is ((ge_var 16)).go (ge_non).go) (gw_or1 (gt_gt ((ge_var 16)).go ((ge_var 15)).go)))).gt))).gt (gss_one (gs_ret (On := []) ge_bl)) (GSs.post (On' := []) (by decide) gss_nil))))) (by decide) (fun d ds h => by cases h; rfl)) (gss_one (gs_ret (On := []) (ge_and (ge_eq hr.units ((ge_call (d_part T) (hr.mono (by decide)) pass0 (ga_cons (ge_var 10) (ga_cons (ge_tupRg1 T.tuple T.range ((ge_len T.len (gao_cons ((ge_unq (ge_var 8).go)).go gao_nil))).go) ga_nil)))).go ((ge_var 10)).go) (ge_one (ge_is ((ge_call (d_comes T) (hr.mono (by decide)) pass0 (ga_cons (ge_var 11) (ga_cons (ge_var 11) ga_nil)))).go (ge_bl).go))))))))))))))))⟩
end
end W
set_option maxHeartbeats 1000000
namespace W
open PySem L2 G
theorem log_small {m : Int} (h : m ≤ 2 ^ 30) (h1 : 1 ≤ m) : cDiv m = true := by
  unfold cDiv
  have : m.natAbs.log2 < 9000 := by
    have : m.natAbs.log2 < 31 := (Nat.log2_lt (by omega)).mpr (by omega)
    omega
  simp [this]; omega
theorem mul_small {i j : Int} (hi : 0 ≤ i) (hi2 : i < 2147483648) (hj : 0 ≤ j) (hj2 : j < 2147483648) : cMul i j = true := by
  unfold cMul
  have k : ∀ x : Int, 0 ≤ x → x < 2147483648 → x.natAbs.log2 ≤ 32 := fun x h1 h2 => by
    rcases Nat.eq_zero_or_pos x.natAbs with e | e
    · rw [e]; decide
    · have : x.natAbs.log2 < 32 := (Nat.log2_lt (by omega)).mpr (by omega)
      omega
  have := k i hi hi2
  have := k j hj hj2
  exact decide_eq_true (by omega)
theorem taken_ok {tp : List D} {m : Int} (h : Tape tp) (hm : 1 ≤ m) (hM : m ≤ 2 ^ 30) : ∃ v tp', m_law_taken [.tape, .int m] tp = .ok (.int v) tp' ∧ Tape tp' ∧ 0 ≤ v ∧ v < m := by
  obtain ⟨⟨ns, pos, seed, rest, rfl, p0, s0, s1, nl⟩⟩ := h
  have cd := log_small hM hm
  have cm : cMul seed 48271 = true := mul_small s0 (by omega) (by decide) (by decide)
  have m0 : (0 : Int) < m := by omega
  have c7 : cDiv 7 = true := by decide +kernel
  have a0 : ∀ a b c d : D, atI [a, b, c, d] 0 = some a := fun _ _ _ _ => rfl
  have a1 : ∀ a b c d : D, atI [a, b, c, d] 1 = some b := fun _ _ _ _ => rfl
  have a2 : ∀ a b c d : D, atI [a, b, c, d] 2 = some c := fun _ _ _ _ => rfl
  have a3 : ∀ a b c d : D, atI [a, b, c, d] 3 = some d := fun _ _ _ _ => rfl
  have i1 : ixN 4 1 = some 1 := rfl
  have i2 : ixN 4 2 = some 2 := rfl
  have i3 : ixN 4 3 = some 3 := rfl
  have b7 : (0 : Int) < 2147483647 := by decide
  by_cases c1 : 0 < rest
  · refine ⟨rest % m, [.scr ns, .int pos, .int seed, .int (rest / m)], ?_, ⟨⟨ns, pos, seed, _, rfl, p0, s0, s1, nl⟩⟩, Int.emod_nonneg _ (by omega), Int.emod_lt_of_pos _ m0⟩
    simp -implicitDefEqProofs only [m_law_taken, b_law_taken, defD, retR, seqS, ifS, setS, retS, skipS, dropS, parS, setAll, vE, cE, binE, chainE, callB, consA, nilA, tupE, lstE, boolE, isB, notT, orT, andT, andE, orE, notE, callE, tixE, tsetS, sliceE, optI, methE, seqI, rangeI, RE.bind_ok, RE.bindS, RE.of_some, RE.of_none, List.map_cons, List.map_nil, List.length_cons, List.length_nil, List.replicate, List.cons_append, List.nil_append, List.getElem?_cons_zero, List.getElem?_cons_succ, List.set_cons_zero, List.set_cons_succ, if_true, if_false, Nat.zero_add, Nat.reduceAdd, Nat.reduceSub, decide_true, decide_false, Bool.false_eq_true, Option.map_some, Option.bind_some, a0, a1, a2, a3, i1, i2, i3, gtD, modD, fdivD, intD, c1, cd, m0]
  · by_cases c2 : (ns.length : Int) < pos + 1
    · refine ⟨((seed * 48271 + 11) % 2147483647 / 7) % m, [.scr ns, .int (pos + 1), .int ((seed * 48271 + 11) % 2147483647), .int rest], ?_, ⟨⟨ns, _, _, _, rfl, by omega, by omega, by omega, nl⟩⟩, Int.emod_nonneg _ (by omega), Int.emod_lt_of_pos _ m0⟩
      simp -implicitDefEqProofs only [m_law_taken, b_law_taken, defD, retR, seqS, ifS, setS, retS, skipS, dropS, parS, setAll, vE, cE, binE, chainE, callB, consA, nilA, tupE, lstE, boolE, isB, notT, orT, andT, andE, orE, notE, callE, tixE, tsetS, sliceE, optI, methE, seqI, rangeI, RE.bind_ok, RE.bindS, RE.of_some, RE.of_none, List.map_cons, List.map_nil, List.length_cons, List.length_nil, List.replicate, List.cons_append, List.nil_append, List.getElem?_cons_zero, List.getElem?_cons_succ, List.set_cons_zero, List.set_cons_succ, if_true, if_false, Nat.zero_add, Nat.reduceAdd, Nat.reduceSub, decide_true, decide_false, Bool.false_eq_true, Option.map_some, Option.bind_some, a0, a1, a2, a3, i1, i2, i3, gtD, modD, fdivD, intD, c1, cd, m0, addD, mulD, lenD, c2, cm, b7, c7]
    · have hp : pos.toNat < ns.length := by omega
      have e : atI ns (pos + 1 - 1) = some (ns[pos.toNat]) := by
        have : pos + 1 - 1 = pos := by omega
        rw [this, atI_int ns p0, List.getElem?_eq_getElem hp]
      have cp : cPow 10 18 = true := by decide +kernel
      generalize hc : ns[pos.toNat] = c at e
      have ev : ∀ q : Prop, ∀ [Decidable q], q = ((10 : Int) ^ (Int.toNat 18) ≤ c) → True := fun _ _ _ => trivial
      by_cases c3 : (10 : Int) ^ (Int.toNat 18) ≤ c
      · refine ⟨c % m, [.scr ns, .int (pos + 1), .int ((seed * 48271 + c + 11) % 2147483647), .int (c / m)], ?_, ⟨⟨ns, _, _, _, rfl, by omega, by omega, by omega, nl⟩⟩, Int.emod_nonneg _ (by omega), Int.emod_lt_of_pos _ m0⟩
        simp -implicitDefEqProofs only [m_law_taken, b_law_taken, defD, retR, seqS, ifS, setS, retS, skipS, dropS, parS, setAll, vE, cE, binE, chainE, callB, consA, nilA, tupE, lstE, boolE, isB, notT, orT, andT, andE, orE, notE, callE, tixE, tsetS, sliceE, optI, methE, seqI, rangeI, RE.bind_ok, RE.bindS, RE.of_some, RE.of_none, List.map_cons, List.map_nil, List.length_cons, List.length_nil, List.replicate, List.cons_append, List.nil_append, List.getElem?_cons_zero, List.getElem?_cons_succ, List.set_cons_zero, List.set_cons_succ, if_true, if_false, Nat.zero_add, Nat.reduceAdd, Nat.reduceSub, decide_true, decide_false, Bool.false_eq_true, Option.map_some, Option.bind_some, a0, a1, a2, a3, i1, i2, i3, gtD, geD, modD, fdivD, intD, c1, cd, m0, addD, subD, mulD, powD, lenD, ixD, c2, cm, b7, c7, e, cp, c3]
      · refine ⟨c % m, [.scr ns, .int (pos + 1), .int ((seed * 48271 + c + 11) % 2147483647), .int rest], ?_, ⟨⟨ns, _, _, _, rfl, by omega, by omega, by omega, nl⟩⟩, Int.emod_nonneg _ (by omega), Int.emod_lt_of_pos _ m0⟩
        simp -implicitDefEqProofs only [m_law_taken, b_law_taken, defD, retR, seqS, ifS, setS, retS, skipS, dropS, parS, setAll, vE, cE, binE, chainE, callB, consA, nilA, tupE, lstE, boolE, isB, notT, orT, andT, andE, orE, notE, callE, tixE, tsetS, sliceE, optI, methE, seqI, rangeI, RE.bind_ok, RE.bindS, RE.of_some, RE.of_none, List.map_cons, List.map_nil, List.length_cons, List.length_nil, List.replicate, List.cons_append, List.nil_append, List.getElem?_cons_zero, List.getElem?_cons_succ, List.set_cons_zero, List.set_cons_succ, if_true, if_false, Nat.zero_add, Nat.reduceAdd, Nat.reduceSub, decide_true, decide_false, Bool.false_eq_true, Option.map_some, Option.bind_some, a0, a1, a2, a3, i1, i2, i3, gtD, geD, modD, fdivD, intD, c1, cd, m0, addD, subD, mulD, powD, lenD, ixD, c2, cm, b7, c7, e, cp, c3]
end W
set_option maxHeartbeats 1000000
namespace W
open PySem L2 G
theorem eqD_int (a b : Int) : eqD (.int a) (.int b) = some (.bl (decide (a = b))) := by
  show some (D.bl (a == b)) = _
  by_cases h : a = b <;> simp [h]
theorem cRg_small {i : Int} (h0 : 0 ≤ i) (h : i ≤ 2 ^ 30) : cRg i = true := by
  unfold cRg
  have h1 : -(2 ^ 62) ≤ i := by omega
  have h2 : i < 2 ^ 62 := by omega
  rw [decide_eq_true h1, decide_eq_true h2]; rfl
theorem range1_ok {i : Int} (h0 : 0 ≤ i) (h : i ≤ 2 ^ 30) : range1D [.int i] = some (rangeL 0 i) := by
  show (if cRg i then some (rangeL 0 i) else none) = _
  rw [cRg_small h0 h, if_pos rfl]
theorem rangeL_len (n : Nat) : (rangeL 0 (n : Int)).length = n := by unfold rangeL; simp
theorem rangeL_get {n j : Nat} {d : D} (h : (rangeL 0 (n : Int))[j]? = some d) : d = .int j ∧ j < n := by
  unfold rangeL at h
  rw [List.getElem?_map] at h
  obtain ⟨x, h1, h2⟩ := Option.map_eq_some_iff.mp h
  have hl : j < (List.range ((n : Int) - 0).toNat).length := (List.getElem?_eq_some_iff.mp h1).1
  have e := (List.getElem?_eq_some_iff.mp h1).2
  rw [List.getElem_range] at e
  rw [List.length_range] at hl
  subst e
  refine ⟨by rw [← h2]; simp, by omega⟩
theorem paired_all {α β γ : Type} {R : α → β → Prop} {f : γ → β} (h : ∀ x y, R x y → ∃ c, y = f c) : ∀ {xs : List α} {ys : List β}, Paired R xs ys → ∃ cs : List γ, ys = cs.map f ∧ cs.length = xs.length
  | _, _, .nil => ⟨[], rfl, rfl⟩
  | _, _, .cons r q => by
    obtain ⟨c, rfl⟩ := h _ _ r
    obtain ⟨cs, rfl, e⟩ := paired_all h q
    exact ⟨c :: cs, rfl, by simp [e]⟩
theorem paired_allP {α β γ : Type} {R : α → β → Prop} {f : γ → β} {P : γ → Prop} (h : ∀ x y, R x y → ∃ c, y = f c ∧ P c) : ∀ {xs : List α} {ys : List β}, Paired R xs ys → ∃ cs : List γ, ys = cs.map f ∧ cs.length = xs.length ∧ ∀ c ∈ cs, P c
  | _, _, .nil => ⟨[], rfl, rfl, fun _ h => nomatch h⟩
  | _, _, .cons r q => by
    obtain ⟨c, rfl, p⟩ := h _ _ r
    obtain ⟨cs, rfl, e, pp⟩ := paired_allP h q
    exact ⟨c :: cs, rfl, by simp [e], fun z hz => (List.mem_cons.mp hz).elim (fun q => q ▸ p) (pp z)⟩
theorem forS_eq {mi : SE (List D)} {tgt : D → Option (List D)} {is : List Nat} {body : SS} {env : DEnv} {tp tp1 : List D} {items : List D} (h : mi env tp = .ok items tp1) : forS mi tgt is body env tp = forL tgt is body items env tp1 := by
  unfold forS; rw [h]; rfl
theorem seqS_nx {m n : SS} {env env' : DEnv} {tp tp' : List D} (h : m env tp = .nx env' tp') : seqS m n env tp = n env' tp' := by
  unfold seqS; rw [h]
theorem pick_ok {tp : List D} {ds : List D} (h : Tape tp) (h0 : ds ≠ []) (hl : ds.length ≤ 2 ^ 30) : ∃ v tp', m_law_pick [.tape, .lst ds] tp = .ok v tp' ∧ Tape tp' ∧ v ∈ ds := by
  have hp := List.length_pos_iff.mpr h0
  obtain ⟨v, tp', e, t, v0, v1⟩ := taken_ok (m := (ds.length : Int)) h (by omega) (by omega)
  have hv : v.toNat < ds.length := by omega
  have ea : atI ds v = some ds[v.toNat] := by rw [atI_int ds v0, List.getElem?_eq_getElem hv]
  refine ⟨ds[v.toNat], tp', ?_, t, List.getElem_mem hv⟩
  simp -implicitDefEqProofs only [m_law_pick, b_law_pick, defD, retR, seqS, ifS, setS, retS, skipS, dropS, parS, setAll, vE, cE, binE, chainE, callB, consA, nilA, tupE, lstE, boolE, isB, notT, orT, andT, andE, orE, notE, callE, tixE, tsetS, sliceE, optI, methE, seqI, rangeI, RE.bind_ok, RE.bindS, RE.of_some, RE.of_none, List.map_cons, List.map_nil, List.length_cons, List.length_nil, List.replicate, List.cons_append, List.nil_append, List.getElem?_cons_zero, List.getElem?_cons_succ, List.set_cons_zero, List.set_cons_succ, if_true, if_false, Nat.zero_add, Nat.reduceAdd, Nat.reduceSub, decide_true, decide_false, Bool.false_eq_true, Option.map_some, Option.bind_some, lenD, e, ixD, ea]
theorem row_of_bits {bs : List Bool} (h : bs.length ≤ 1000) : joinD (.str "") (.lst (bs.map fun b => D.str (rowS [b]))) = some (.str (rowS bs)) := by
  have e : bs.map (fun b => D.str (rowS [b])) = (bs.map fun b => rowS [b]).map D.str := by rw [List.map_map]; rfl
  have e2 : bs.map (fun b => rowS [b]) = (bs.map fun b => [b]).map rowS := by rw [List.map_map]; rfl
  have sm : ((bs.map fun b => rowS [b]).map (·.length)).sum = bs.length := by
    clear h e e2
    induction bs with
    | nil => rfl
    | cons b bs ih => rw [List.map_cons, List.map_cons, List.sum_cons, ih, List.length_cons, rowS_len]; simp; omega
  rw [e]
  unfold joinD
  simp only [itemsD, Option.bind_some, unS_map, sm, List.length_map]
  rw [str_empty, rowS_len, if_pos (by simp; omega), e2, join_rows]
  have : (bs.map fun b => [b]).flatten = bs := by
    clear h e e2 sm
    induction bs with
    | nil => rfl
    | cons b bs ih => rw [List.map_cons, List.flatten_cons, ih]; rfl
  rw [this]
def signE : SE D := ifE (boolE (binE eqD (callE 2 m_law_taken (consA (vE 0) (consA (vE 3) (nilA)))) (cE (.int 0)))) (cE (.str "#")) (cE (.str "."))
def rowE : SE D := compE (rangeI range1D (consA (vE 2) (nilA))) [6] t1 [6] (yesT) signE
def anyB : SS := appS 4 (methE isStrD joinD (cE (.str "")) rowE)
theorem b_any_eq : b_law_any = seqS (parS [3, 4] (consA (callE 2 m_law_pick (consA (vE 0) (consA (lstE (consA (cE (.int 2)) (consA (cE (.int 2)) (consA (cE (.int 3)) (consA (cE (.int 4)) (nilA)))))) (nilA)))) (consA (lstE (nilA)) (nilA)))) (seqS (forS (rangeI range1D (consA (vE 1) (nilA))) t1 [5] anyB) (retS (callB tupleD (consA (vE 4) (nilA))))) := rfl
theorem sign_ok {a1 a4 a5 a6 : Option D} {tp : List D} {o : Int} (ht : Tape tp) (o1 : 1 ≤ o) (o2 : o ≤ 4) {x7 : Option D} : ∃ x tp', signE [some .tape, a1, a4, some (.int o), a5, a6, x7] tp = .ok x tp' ∧ Tape tp' ∧ ∃ b : Bool, x = .str (rowS [b]) := by
  obtain ⟨v, tp3, e3, t3, v0, v1⟩ := taken_ok (m := o) ht (by omega) (by omega)
  by_cases c : v = 0
  · exact ⟨.str "#", tp3, by simp -implicitDefEqProofs only [signE, ifE, defD, retR, seqS, ifS, setS, retS, skipS, dropS, parS, setAll, vE, cE, binE, chainE, callB, consA, nilA, tupE, lstE, boolE, isB, notT, orT, andT, andE, orE, notE, callE, tixE, tsetS, sliceE, optI, methE, seqI, rangeI, RE.bind_ok, RE.bindS, RE.of_some, RE.of_none, List.map_cons, List.map_nil, List.length_cons, List.length_nil, List.replicate, List.cons_append, List.nil_append, List.getElem?_cons_zero, List.getElem?_cons_succ, List.set_cons_zero, List.set_cons_succ, if_true, if_false, Nat.zero_add, Nat.reduceAdd, Nat.reduceSub, decide_true, decide_false, Bool.false_eq_true, Option.map_some, Option.bind_some, e3, eqD_int, c], t3, true, by rw [str_black]⟩
  · exact ⟨.str ".", tp3, by simp -implicitDefEqProofs only [signE, ifE, defD, retR, seqS, ifS, setS, retS, skipS, dropS, parS, setAll, vE, cE, binE, chainE, callB, consA, nilA, tupE, lstE, boolE, isB, notT, orT, andT, andE, orE, notE, callE, tixE, tsetS, sliceE, optI, methE, seqI, rangeI, RE.bind_ok, RE.bindS, RE.of_some, RE.of_none, List.map_cons, List.map_nil, List.length_cons, List.length_nil, List.replicate, List.cons_append, List.nil_append, List.getElem?_cons_zero, List.getElem?_cons_succ, List.set_cons_zero, List.set_cons_succ, if_true, if_false, Nat.zero_add, Nat.reduceAdd, Nat.reduceSub, decide_true, decide_false, Bool.false_eq_true, Option.map_some, Option.bind_some, e3, eqD_int, c], t3, false, by rw [str_white]⟩
end W
set_option maxHeartbeats 1000000
namespace W
open PySem L2 G
theorem appS_ok {i : Nat} {m : SE D} {env : DEnv} {tp tp1 : List D} {ds : List D} {d : D} (h1 : env[i]? = some (some (.lst ds))) (h2 : m env tp = .ok d tp1) (h3 : ds.length < 1000000) : appS i m env tp = .nx (env.set i (some (.lst (ds ++ [d])))) tp1 := by
  unfold appS
  rw [h1]
  simp only
  rw [h2]
  show (if ds.length < sizeLine then RS.nx (env.set i (some (.lst (ds ++ [d])))) tp1 else .stuck) = _
  exact if_pos (show ds.length < sizeLine from small_line (n := ds.length + 1) h3)
theorem methE_ok {p : D → Bool} {f : D → D → Option D} {ma mb : SE D} {env : DEnv} {tp tp1 tp2 : List D} {d e z : D} (h1 : ma env tp = .ok d tp1) (hp : p d = true) (h2 : mb env tp1 = .ok e tp2) (h3 : f d e = some z) : methE p f ma mb env tp = .ok z tp2 := by
  unfold methE
  rw [h1]
  simp only [RE.bind_ok]
  rw [if_pos hp, h2]
  simp only [RE.bind_ok]
  rw [h3]; rfl
theorem lstE_ok {ms : SE (List D)} {env : DEnv} {tp tp1 : List D} {ds : List D} (h : ms env tp = .ok ds tp1) (hl : ds.length ≤ 1000000) : lstE ms env tp = .ok (.lst ds) tp1 := by
  unfold lstE; rw [h]; simp only [RE.bind_ok]; rw [if_pos (small_line hl)]
theorem if_small {α : Type} {n : Nat} {a b : α} (h : n ≤ 1000000) : (if n ≤ sizeLine then a else b) = a := if_pos (small_line h)
theorem bitrow_ok {a1 a5 a6 : Option D} {tp : List D} {o : Int} {w : Nat} (ht : Tape tp) (o1 : 1 ≤ o) (o2 : o ≤ 4) (w2 : w ≤ 30) : ∃ (bs : List Bool) (tp' : List D), rowE [some .tape, a1, some (.int w), some (.int o), a5, a6, none] tp = .ok (.lst (bs.map fun b => .str (rowS [b]))) tp' ∧ Tape tp' ∧ bs.length = w := by
  have em : rangeI range1D (consA (vE 2) (nilA)) [some .tape, a1, some (.int w), some (.int o), a5, a6, none] tp = .ok (rangeL 0 (w : Int)) tp := by
    simp -implicitDefEqProofs only [defD, retR, seqS, ifS, setS, retS, skipS, dropS, parS, setAll, vE, cE, binE, chainE, callB, consA, nilA, tupE, lstE, boolE, isB, notT, orT, andT, andE, orE, notE, callE, tixE, tsetS, sliceE, optI, methE, seqI, rangeI, RE.bind_ok, RE.bindS, RE.of_some, RE.of_none, List.map_cons, List.map_nil, List.length_cons, List.length_nil, List.replicate, List.cons_append, List.nil_append, List.getElem?_cons_zero, List.getElem?_cons_succ, List.set_cons_zero, List.set_cons_succ, if_true, if_false, Nat.zero_add, Nat.reduceAdd, Nat.reduceSub, decide_true, decide_false, Bool.false_eq_true, Option.map_some, Option.bind_some, range1_ok (i := (w : Int)) (by omega) (by omega)]
  obtain ⟨xs, tp', e, t', pr⟩ := compE_eff (T := Tape) (R := fun d x => ∃ b : Bool, x = .str (rowS [b])) (vs := [6]) (i := 6) (m := signE) em ht (by rw [rangeL_len]; exact small_line (by omega)) (fun d2 hd2 tp2 tt2 => sign_ok tt2 o1 o2)
  obtain ⟨bs, rfl, hl⟩ := paired_all (f := fun b => D.str (rowS [b])) (fun x y hh => hh) pr
  rw [rangeL_len] at hl
  exact ⟨bs, tp', e, t', hl⟩
theorem any_step {a1 x : Option D} {tp : List D} {o : Int} {w : Nat} {rs : List Row} {d : Option D} (ht : Tape tp) (o1 : 1 ≤ o) (o2 : o ≤ 4) (w2 : w ≤ 30) (hk : rs.length ≤ 100) : ∃ (bs : List Bool) (tp' : List D), anyB [some .tape, a1, some (.int w), some (.int o), some (.lst (rs.map fun r => .str (rowS r))), d, none] tp = .nx [some .tape, a1, some (.int w), some (.int o), some (.lst ((rs ++ [bs]).map fun r => .str (rowS r))), d, none] tp' ∧ Tape tp' ∧ bs.length = w := by
  obtain ⟨bs, tp', e, t', hl⟩ := bitrow_ok (a1 := a1) (a5 := some (.lst (rs.map fun r => .str (rowS r)))) (a6 := d) ht o1 o2 w2
  have jn := row_of_bits (bs := bs) (by omega)
  refine ⟨bs, tp', ?_, t', hl⟩
  have q := appS_ok (i := 4) (env := [some .tape, a1, some (.int w), some (.int o), some (.lst (rs.map fun r => .str (rowS r))), d, none]) rfl (methE_ok (p := isStrD) (f := joinD) (ma := cE (.str "")) (tp := tp) rfl rfl e jn) (by rw [List.length_map]; omega)
  rw [List.map_append]
  exact q
theorem any_loop {tp1 : List D} {o : Int} {h w : Nat} (ht : Tape tp1) (o1 : 1 ≤ o) (o2 : o ≤ 4) (h2 : h ≤ 30) (w2 : w ≤ 30) : ∃ (rs : List Row) (x : Option D) (tp' : List D), forS (rangeI range1D (consA (vE 1) (nilA))) t1 [5] anyB [some .tape, some (.int h), some (.int w), some (.int o), some (.lst []), none, none] tp1 = .nx [some .tape, some (.int h), some (.int w), some (.int o), some (.lst (rs.map fun r => .str (rowS r))), x, none] tp' ∧ Tape tp' ∧ rs.length = h ∧ (∀ r ∈ rs, r.length = w) := by
  have ei : rangeI range1D (consA (vE 1) (nilA)) [some .tape, some (.int h), some (.int w), some (.int o), some (.lst []), none, none] tp1 = .ok (rangeL 0 (h : Int)) tp1 := by
    simp -implicitDefEqProofs only [defD, retR, seqS, ifS, setS, retS, skipS, dropS, parS, setAll, vE, cE, binE, chainE, callB, consA, nilA, tupE, lstE, boolE, isB, notT, orT, andT, andE, orE, notE, callE, tixE, tsetS, sliceE, optI, methE, seqI, rangeI, RE.bind_ok, RE.bindS, RE.of_some, RE.of_none, List.map_cons, List.map_nil, List.length_cons, List.length_nil, List.replicate, List.cons_append, List.nil_append, List.getElem?_cons_zero, List.getElem?_cons_succ, List.set_cons_zero, List.set_cons_succ, if_true, if_false, Nat.zero_add, Nat.reduceAdd, Nat.reduceSub, decide_true, decide_false, Bool.false_eq_true, Option.map_some, Option.bind_some, range1_ok (i := (h : Int)) (by omega) (by omega)]
  rw [forS_eq ei]
  obtain ⟨env', tp2, e2, t2, rs, x, hk, hr, rfl⟩ := forL_inv (i := 5) (tp := tp1) (env := [some .tape, some (.int h), some (.int w), some (.int o), some (.lst []), none, none]) (items := rangeL 0 (h : Int)) (body := anyB)
    (fun k env tp => Tape tp ∧ ∃ (rs : List Row) (x : Option D), rs.length = k ∧ (∀ r ∈ rs, r.length = w) ∧ env = [some .tape, some (.int h), some (.int w), some (.int o), some (.lst (rs.map fun r => .str (rowS r))), x, none]) 0
    ⟨ht, [], none, rfl, (fun _ h => nomatch h), rfl⟩ (fun j d env tp hj hI => by
      obtain ⟨tt, rs, x, hk, hr, rfl⟩ := hI
      have hj' := rangeL_get hj
      obtain ⟨bs, tp', e, t', hl⟩ := any_step (a1 := some (.int h)) (x := x) (d := some d) (rs := rs) tt o1 o2 w2 (by omega)
      refine ⟨_, tp', e, t', rs ++ [bs], some d, by simp [hk], ?_, rfl⟩
      intro r hr'
      rcases List.mem_append.mp hr' with q | q
      · exact hr r q
      · rw [List.mem_singleton.mp q]; exact hl)
  rw [rangeL_len] at hk
  exact ⟨rs, x, tp2, e2, t2, by omega, hr⟩
theorem any_pick {tp : List D} (ht : Tape tp) : ∃ (o : Int) (tp' : List D), m_law_pick [.tape, .lst [.int 2, .int 2, .int 3, .int 4]] tp = .ok (.int o) tp' ∧ Tape tp' ∧ 1 ≤ o ∧ o ≤ 4 := by
  obtain ⟨v, tp1, e1, t1', v1⟩ := pick_ok (ds := [.int 2, .int 2, .int 3, .int 4]) ht (by simp) (by simp)
  rcases List.mem_cons.mp v1 with q | q
  · subst q; exact ⟨2, tp1, e1, t1', by decide, by decide⟩
  rcases List.mem_cons.mp q with q | q
  · subst q; exact ⟨2, tp1, e1, t1', by decide, by decide⟩
  rcases List.mem_cons.mp q with q | q
  · subst q; exact ⟨3, tp1, e1, t1', by decide, by decide⟩
  · have q := List.mem_singleton.mp q
    subst q; exact ⟨4, tp1, e1, t1', by decide, by decide⟩
theorem any_ok {tp : List D} {h w : Nat} (ht : Tape tp) (h1 : 1 ≤ h) (h2 : h ≤ 30) (w1 : 1 ≤ w) (w2 : w ≤ 30) : ∃ p tp', m_law_any [.tape, .int h, .int w] tp = .ok (picD p) tp' ∧ Tape tp' ∧ PicOk h w p := by
  obtain ⟨o, tp1, e1, t1', o1, o2⟩ := any_pick ht
  obtain ⟨rs, x, tp2, e2, t2, hk, hr⟩ := any_loop t1' o1 o2 h2 w2
  refine ⟨rs, tp2, ?_, t2, ⟨by omega, hr, h1, h2, w1, w2⟩⟩
  have hp : parS [3, 4] (consA (callE 2 m_law_pick (consA (vE 0) (consA (lstE (consA (cE (.int 2)) (consA (cE (.int 2)) (consA (cE (.int 3)) (consA (cE (.int 4)) (nilA)))))) (nilA)))) (consA (lstE (nilA)) (nilA))) [some .tape, some (.int h), some (.int w), none, none, none, none] tp = .nx [some .tape, some (.int h), some (.int w), some (.int o), some (.lst []), none, none] tp1 := by
    simp -implicitDefEqProofs only [defD, retR, seqS, ifS, setS, retS, skipS, dropS, parS, setAll, vE, cE, binE, chainE, callB, consA, nilA, tupE, lstE, boolE, isB, notT, orT, andT, andE, orE, notE, callE, tixE, tsetS, sliceE, optI, methE, seqI, rangeI, RE.bind_ok, RE.bindS, RE.of_some, RE.of_none, List.map_cons, List.map_nil, List.length_cons, List.length_nil, List.replicate, List.cons_append, List.nil_append, List.getElem?_cons_zero, List.getElem?_cons_succ, List.set_cons_zero, List.set_cons_succ, if_true, if_false, Nat.zero_add, Nat.reduceAdd, Nat.reduceSub, decide_true, decide_false, Bool.false_eq_true, Option.map_some, Option.bind_some, e1, if_small, Nat.reduceLeDiff, Nat.zero_le, List.all_cons, List.all_nil, Bool.and_true, Nat.reduceLT]
  show retR (b_law_any [some .tape, some (.int h), some (.int w), none, none, none, none] tp) = _
  rw [b_any_eq, seqS_nx hp, seqS_nx e2]
  rfl
end W
set_option maxHeartbeats 1000000
namespace W
open PySem L2 G
theorem setS_ok {i : Nat} {m : SE D} {env : DEnv} {tp tp1 : List D} {d : D} (h : m env tp = .ok d tp1) : setS i m env tp = .nx (env.set i (some d)) tp1 := by
  unfold setS; rw [h]; rfl
theorem retS_ok {m : SE D} {env : DEnv} {tp tp1 : List D} {d : D} (h : m env tp = .ok d tp1) : retS m env tp = .rt d tp1 := by
  unfold retS; rw [h]; rfl
theorem callE_ok {n : Nat} {m : List D → List D → RE D} {ms : SE (List D)} {env : DEnv} {tp tp1 tp2 : List D} {ds : List D} {d : D} (h : ms env tp = .ok ds tp1) (hl : ds.length = n) (h2 : m ds tp1 = .ok d tp2) : callE n m ms env tp = .ok d tp2 := by
  unfold callE; rw [h]; simp only [RE.bind_ok]; rw [if_pos hl, h2]
theorem seqS_rt {m n : SS} {env : DEnv} {tp tp' : List D} {d : D} (h : m env tp = .rt d tp') : seqS m n env tp = .rt d tp' := by
  unfold seqS; rw [h]
theorem ifS_t {c : SE Bool} {m n : SS} {env : DEnv} {tp tp' : List D} (h : c env tp = .ok true tp') : ifS c m n env tp = m env tp' := by
  unfold ifS; rw [h]; rfl
theorem ifS_f {c : SE Bool} {m n : SS} {env : DEnv} {tp tp' : List D} (h : c env tp = .ok false tp') : ifS c m n env tp = n env tp' := by
  unfold ifS; rw [h]; rfl
theorem boolE_ok {c : SE D} {env : DEnv} {tp tp' : List D} {b : Bool} (h : c env tp = .ok (.bl b) tp') : boolE c env tp = .ok b tp' := by
  unfold boolE; rw [h]; rfl
theorem consA_ok {c : SE D} {d : SE (List D)} {env : DEnv} {tp tp' tp2 : List D} {x : D} {xs : List D} (h : c env tp = .ok x tp') (h2 : d env tp' = .ok xs tp2) : consA c d env tp = .ok (x :: xs) tp2 := by
  unfold consA; rw [h]; simp only [RE.bind_ok]; rw [h2]; rfl
theorem callB_ok {f : List D → Option D} {ms : SE (List D)} {env : DEnv} {tp tp1 : List D} {ds : List D} {d : D} (h : ms env tp = .ok ds tp1) (h2 : f ds = some d) : callB f ms env tp = .ok d tp1 := by
  unfold callB; rw [h]; simp only [RE.bind_ok]; rw [h2]; rfl
theorem binE_ok {f : D → D → Option D} {ma mb : SE D} {env : DEnv} {tp tp1 tp2 : List D} {d e z : D} (h1 : ma env tp = .ok d tp1) (h2 : mb env tp1 = .ok e tp2) (h3 : f d e = some z) : binE f ma mb env tp = .ok z tp2 := by
  unfold binE; rw [h1]; simp only [RE.bind_ok]; rw [h2]; simp only [RE.bind_ok]; rw [h3]; rfl
theorem len_pic (p : Pic) : lenD [picD p] = some (.int (p.length : Int)) := by
  show some (D.int ((p.map fun r => D.str (rowS r)).length : Int)) = _
  rw [List.length_map]
theorem ix_pic {p : Pic} {i : Nat} {r : Row} (h : p[i]? = some r) : ixD (picD p) (.int (i : Int)) = some (.str (rowS r)) := by
  show atI (p.map fun r => D.str (rowS r)) (i : Int) = _
  rw [atI_nat', List.getElem?_map, h]; rfl
theorem ix_pic0 {p : Pic} {r : Row} (h : p[0]? = some r) : ixD (picD p) (.int 0) = some (.str (rowS r)) := ix_pic (i := 0) h
theorem len_row {r : Row} (h : r.length ≤ 1000000) : lenD [.str (rowS r)] = some (.int (r.length : Int)) := by
  show (if (rowS r).length ≤ sizeLine then some (D.int ((rowS r).length : Int)) else none) = _
  rw [rowS_len, if_small h]
theorem ix_row {r : Row} {j : Nat} {b : Bool} (hl : r.length ≤ 1000000) (h : r[j]? = some b) : ixD (.str (rowS r)) (.int (j : Int)) = some (.str (rowS [b])) := by
  show (if (rowS r).length ≤ sizeLine then (atI (rowS r).cps.toList (j : Int)).map fun c => D.str ⟨#[c]⟩ else none) = _
  rw [rowS_len, if_small hl, row_toList, atI_nat', List.getElem?_map, h]; rfl
theorem add_row {a b : Row} (h : a.length + b.length ≤ 1000000) : addD (.str (rowS a)) (.str (rowS b)) = some (.str (rowS (a ++ b))) := by
  show (if (rowS a).length + (rowS b).length ≤ sizeLine then some (D.str (rowS a ++ rowS b)) else none) = _
  rw [rowS_len, rowS_len, if_small h, rowS_app]
theorem _root_.G.PicOk.row0 {h w : Nat} {p : Pic} (k : PicOk h w p) : ∃ r, p[0]? = some r ∧ r.length = w := by
  have : 0 < p.length := by rw [k.len]; exact k.h1
  exact ⟨p[0], List.getElem?_eq_getElem this, k.row _ (List.getElem_mem this)⟩
theorem _root_.G.PicOk.get {h w : Nat} {p : Pic} (k : PicOk h w p) {i : Nat} (hi : i < h) : ∃ r, p[i]? = some r ∧ r.length = w ∧ p.getD i [] = r := by
  have : i < p.length := by rw [k.len]; exact hi
  exact ⟨p[i], List.getElem?_eq_getElem this, k.row _ (List.getElem_mem this), by rw [List.getD_eq_getElem?_getD, List.getElem?_eq_getElem this]; rfl⟩
/-- a line painted, cell by cell -/
def cellP (h : Nat) (p : Pic) (l i j : Nat) : Bool := if l = i then true else if l = h + j then false else (p.getD i []).getD j false
def lineP (h w : Nat) (p : Pic) (l : Nat) : Pic := (List.range h).map fun i => (List.range w).map fun j => cellP h p l i j
theorem lineP_ok {h w : Nat} {p : Pic} (k : PicOk h w p) (l : Nat) : PicOk h w (lineP h w p l) := by
  refine ⟨by unfold lineP; simp, fun r hr => ?_, k.h1, k.h30, k.w1, k.w30⟩
  obtain ⟨i, _, rfl⟩ := List.mem_map.mp hr
  simp
def lsignE : SE D := ifE (boolE (binE eqD (vE 1) (vE 3))) (cE (.str "#")) (ifE (boolE (binE eqD (vE 1) (binE addD (callB lenD (consA (vE 0) (nilA))) (vE 5)))) (cE (.str ".")) (binE ixD (binE ixD (vE 0) (vE 3)) (vE 5)))
def lspotB : SS := setS 4 (binE addD (vE 4) lsignE)
def lspotI : SE (List D) := rangeI range1D (consA (callB lenD (consA (binE ixD (vE 0) (cE (.int 0))) (nilA))) (nilA))
def lrowB : SS := seqS (setS 4 (cE (.str ""))) (seqS (forS lspotI t1 [5] lspotB) (appS 2 (vE 4)))
def lrowI : SE (List D) := rangeI range1D (consA (callB lenD (consA (vE 0) (nilA))) (nilA))
theorem b_lpaint_eq : b_law_paint = seqS (setFS 2 (lstE (nilA))) (seqS (forS lrowI t1 [3] lrowB) (retS (callB tupleD (consA (vE 2) (nilA))))) := rfl
theorem lsign_ok {h w : Nat} {p : Pic} (k : PicOk h w p) {l i j : Nat} (hi : i < h) (hj : j < w) (tp : List D) (a2 a4 : Option D) : lsignE [some (picD p), some (.int l), a2, some (.int i), a4, some (.int j)] tp = .ok (.str (rowS [cellP h p l i j])) tp := by
  obtain ⟨r, h1, h2, h3⟩ := k.get hi
  have hj' : j < r.length := by omega
  have e1 := ix_pic h1
  have e2 := ix_row (r := r) (j := j) (b := r[j]) (by have := k.w30; omega) (List.getElem?_eq_getElem hj')
  have e3 : r.getD j false = r[j] := by rw [List.getD_eq_getElem?_getD, List.getElem?_eq_getElem hj']; rfl
  unfold cellP
  rw [h3, e3]
  by_cases c1 : l = i
  · rw [if_pos c1, ← str_black]
    have c1' : (l : Int) = i := by omega
    simp -implicitDefEqProofs only [lsignE, ifE, defD, retR, seqS, ifS, setS, retS, skipS, dropS, parS, setAll, vE, cE, binE, chainE, callB, consA, nilA, tupE, lstE, boolE, isB, notT, orT, andT, andE, orE, notE, callE, tixE, tsetS, sliceE, optI, methE, seqI, rangeI, RE.bind_ok, RE.bindS, RE.of_some, RE.of_none, List.map_cons, List.map_nil, List.length_cons, List.length_nil, List.replicate, List.cons_append, List.nil_append, List.getElem?_cons_zero, List.getElem?_cons_succ, List.set_cons_zero, List.set_cons_succ, if_true, if_false, Nat.zero_add, Nat.reduceAdd, Nat.reduceSub, decide_true, decide_false, Bool.false_eq_true, Option.map_some, Option.bind_some, eqD_int, c1']
  · rw [if_neg c1]
    have c1' : ¬ (l : Int) = i := by omega
    by_cases c2 : l = h + j
    · rw [if_pos c2, ← str_white]
      have c2' : (l : Int) = (h : Int) + j := by omega
      simp -implicitDefEqProofs only [lsignE, ifE, defD, retR, seqS, ifS, setS, retS, skipS, dropS, parS, setAll, vE, cE, binE, chainE, callB, consA, nilA, tupE, lstE, boolE, isB, notT, orT, andT, andE, orE, notE, callE, tixE, tsetS, sliceE, optI, methE, seqI, rangeI, RE.bind_ok, RE.bindS, RE.of_some, RE.of_none, List.map_cons, List.map_nil, List.length_cons, List.length_nil, List.replicate, List.cons_append, List.nil_append, List.getElem?_cons_zero, List.getElem?_cons_succ, List.set_cons_zero, List.set_cons_succ, if_true, if_false, Nat.zero_add, Nat.reduceAdd, Nat.reduceSub, decide_true, decide_false, Bool.false_eq_true, Option.map_some, Option.bind_some, eqD_int, c1', len_pic, addD, k.len, c2']
      have : ¬ ((h : Int) + j = i) := by omega
      simp -implicitDefEqProofs only [this, defD, retR, seqS, ifS, setS, retS, skipS, dropS, parS, setAll, vE, cE, binE, chainE, callB, consA, nilA, tupE, lstE, boolE, isB, notT, orT, andT, andE, orE, notE, callE, tixE, tsetS, sliceE, optI, methE, seqI, rangeI, RE.bind_ok, RE.bindS, RE.of_some, RE.of_none, List.map_cons, List.map_nil, List.length_cons, List.length_nil, List.replicate, List.cons_append, List.nil_append, List.getElem?_cons_zero, List.getElem?_cons_succ, List.set_cons_zero, List.set_cons_succ, if_true, if_false, Nat.zero_add, Nat.reduceAdd, Nat.reduceSub, decide_true, decide_false, Bool.false_eq_true, Option.map_some, Option.bind_some]
    · rw [if_neg c2]
      have c2' : ¬ (l : Int) = (h : Int) + j := by omega
      simp -implicitDefEqProofs only [lsignE, ifE, defD, retR, seqS, ifS, setS, retS, skipS, dropS, parS, setAll, vE, cE, binE, chainE, callB, consA, nilA, tupE, lstE, boolE, isB, notT, orT, andT, andE, orE, notE, callE, tixE, tsetS, sliceE, optI, methE, seqI, rangeI, RE.bind_ok, RE.bindS, RE.of_some, RE.of_none, List.map_cons, List.map_nil, List.length_cons, List.length_nil, List.replicate, List.cons_append, List.nil_append, List.getElem?_cons_zero, List.getElem?_cons_succ, List.set_cons_zero, List.set_cons_succ, if_true, if_false, Nat.zero_add, Nat.reduceAdd, Nat.reduceSub, decide_true, decide_false, Bool.false_eq_true, Option.map_some, Option.bind_some, eqD_int, c1', len_pic, addD, k.len, c2', e1, e2]
theorem lspots_ok {h w : Nat} {p : Pic} (k : PicOk h w p) {l i : Nat} (hi : i < h) (tp : List D) (a2 a5 : Option D) : ∃ x, forS lspotI t1 [5] lspotB [some (picD p), some (.int l), a2, some (.int i), some (.str ""), a5] tp = .nx [some (picD p), some (.int l), a2, some (.int i), some (.str (rowS ((List.range w).map fun j => cellP h p l i j))), x] tp := by
  obtain ⟨r, h1, h2⟩ := k.row0
  have w30 := k.w30
  have ei : lspotI [some (picD p), some (.int l), a2, some (.int i), some (.str ""), a5] tp = .ok (rangeL 0 (w : Int)) tp := by
    simp -implicitDefEqProofs only [lspotI, defD, retR, seqS, ifS, setS, retS, skipS, dropS, parS, setAll, vE, cE, binE, chainE, callB, consA, nilA, tupE, lstE, boolE, isB, notT, orT, andT, andE, orE, notE, callE, tixE, tsetS, sliceE, optI, methE, seqI, rangeI, RE.bind_ok, RE.bindS, RE.of_some, RE.of_none, List.map_cons, List.map_nil, List.length_cons, List.length_nil, List.replicate, List.cons_append, List.nil_append, List.getElem?_cons_zero, List.getElem?_cons_succ, List.set_cons_zero, List.set_cons_succ, if_true, if_false, Nat.zero_add, Nat.reduceAdd, Nat.reduceSub, decide_true, decide_false, Bool.false_eq_true, Option.map_some, Option.bind_some, ix_pic0 h1, len_row (r := r) (by omega), h2, range1_ok (i := (w : Int)) (by omega) (by omega)]
  rw [forS_eq ei]
  obtain ⟨env', tp2, e2, rfl, x, rfl⟩ := forL_inv (i := 5) (tp := tp) (env := [some (picD p), some (.int l), a2, some (.int i), some (.str ""), a5]) (items := rangeL 0 (w : Int)) (body := lspotB)
    (fun n env tp' => tp' = tp ∧ ∃ x : Option D, env = [some (picD p), some (.int l), a2, some (.int i), some (.str (rowS ((List.range n).map fun j => cellP h p l i j))), x]) 0
    ⟨rfl, a5, by rw [str_empty]; rfl⟩ (fun j d env tp' hj hI => by
      obtain ⟨rfl, x, rfl⟩ := hI
      obtain ⟨rfl, hjw⟩ := rangeL_get hj
      rw [Nat.zero_add]
      refine ⟨_, tp', ?_, rfl, some (.int j), rfl⟩
      have es := lsign_ok k (l := l) hi hjw tp' a2 (some (.str (rowS ((List.range j).map fun j => cellP h p l i j))))
      have ea := add_row (a := (List.range j).map fun j => cellP h p l i j) (b := [cellP h p l i j]) (by simp; omega)
      simp -implicitDefEqProofs only [lspotB, defD, retR, seqS, ifS, setS, retS, skipS, dropS, parS, setAll, vE, cE, binE, chainE, callB, consA, nilA, tupE, lstE, boolE, isB, notT, orT, andT, andE, orE, notE, callE, tixE, tsetS, sliceE, optI, methE, seqI, rangeI, RE.bind_ok, RE.bindS, RE.of_some, RE.of_none, List.map_cons, List.map_nil, List.length_cons, List.length_nil, List.replicate, List.cons_append, List.nil_append, List.getElem?_cons_zero, List.getElem?_cons_succ, List.set_cons_zero, List.set_cons_succ, if_true, if_false, Nat.zero_add, Nat.reduceAdd, Nat.reduceSub, decide_true, decide_false, Bool.false_eq_true, Option.map_some, Option.bind_some, es, ea]
      rw [List.range_succ, List.map_append]; rfl)
  rw [rangeL_len, Nat.zero_add] at e2
  exact ⟨x, e2⟩
theorem lrows_ok {h w : Nat} {p : Pic} (k : PicOk h w p) {l : Nat} (tp : List D) : ∃ x3 x4 x5, forS lrowI t1 [3] lrowB [some (picD p), some (.int l), some (.lst []), none, none, none] tp = .nx [some (picD p), some (.int l), some (.lst ((lineP h w p l).map fun r => .str (rowS r))), x3, x4, x5] tp := by
  have h30 := k.h30
  have ei : lrowI [some (picD p), some (.int l), some (.lst []), none, none, none] tp = .ok (rangeL 0 (h : Int)) tp := by
    simp -implicitDefEqProofs only [lrowI, defD, retR, seqS, ifS, setS, retS, skipS, dropS, parS, setAll, vE, cE, binE, chainE, callB, consA, nilA, tupE, lstE, boolE, isB, notT, orT, andT, andE, orE, notE, callE, tixE, tsetS, sliceE, optI, methE, seqI, rangeI, RE.bind_ok, RE.bindS, RE.of_some, RE.of_none, List.map_cons, List.map_nil, List.length_cons, List.length_nil, List.replicate, List.cons_append, List.nil_append, List.getElem?_cons_zero, List.getElem?_cons_succ, List.set_cons_zero, List.set_cons_succ, if_true, if_false, Nat.zero_add, Nat.reduceAdd, Nat.reduceSub, decide_true, decide_false, Bool.false_eq_true, Option.map_some, Option.bind_some, len_pic, k.len, range1_ok (i := (h : Int)) (by omega) (by omega)]
  rw [forS_eq ei]
  obtain ⟨env', tp2, e2, rfl, x3, x4, x5, rfl⟩ := forL_inv (i := 3) (tp := tp) (env := [some (picD p), some (.int l), some (.lst []), none, none, none]) (items := rangeL 0 (h : Int)) (body := lrowB)
    (fun n env tp' => tp' = tp ∧ ∃ x3 x4 x5 : Option D, env = [some (picD p), some (.int l), some (.lst (((List.range n).map fun i => (List.range w).map fun j => cellP h p l i j).map fun r => .str (rowS r))), x3, x4, x5]) 0
    ⟨rfl, none, none, none, rfl⟩ (fun i d env tp' hj hI => by
      obtain ⟨rfl, x3, x4, x5, rfl⟩ := hI
      obtain ⟨rfl, hi⟩ := rangeL_get hj
      rw [Nat.zero_add]
      obtain ⟨x, es⟩ := lspots_ok k (l := l) hi tp' (some (.lst (((List.range i).map fun i => (List.range w).map fun j => cellP h p l i j).map fun r => .str (rowS r)))) x5
      have eq := appS_ok (i := 2) (m := vE 4) (tp := tp') (tp1 := tp') (env := [some (picD p), some (.int l), some (.lst (((List.range i).map fun i => (List.range w).map fun j => cellP h p l i j).map fun r => .str (rowS r))), some (.int i), some (.str (rowS ((List.range w).map fun j => cellP h p l i j))), x]) rfl rfl (by rw [List.length_map, List.length_map, List.length_range]; omega)
      refine ⟨_, tp', ?_, rfl, some (.int i), some (.str (rowS ((List.range w).map fun j => cellP h p l i j))), x, rfl⟩
      have e0 : setS 4 (cE (.str "")) [some (picD p), some (.int l), some (.lst (((List.range i).map fun i => (List.range w).map fun j => cellP h p l i j).map fun r => .str (rowS r))), some (.int i), x4, x5] tp' = .nx [some (picD p), some (.int l), some (.lst (((List.range i).map fun i => (List.range w).map fun j => cellP h p l i j).map fun r => .str (rowS r))), some (.int i), some (.str ""), x5] tp' := rfl
      show lrowB [some (picD p), some (.int l), some (.lst (((List.range i).map fun i => (List.range w).map fun j => cellP h p l i j).map fun r => .str (rowS r))), some (.int i), x4, x5] tp' = _
      unfold lrowB
      rw [seqS_nx e0, seqS_nx es, eq, List.range_succ, List.map_append, List.map_append]
      rfl)
  rw [rangeL_len, Nat.zero_add] at e2
  exact ⟨x3, x4, x5, e2⟩
theorem lpaint_ok {h w : Nat} {p : Pic} (k : PicOk h w p) (l : Nat) (tp : List D) : m_law_paint [picD p, .int l] tp = .ok (picD (lineP h w p l)) tp := by
  obtain ⟨x3, x4, x5, e⟩ := lrows_ok k (l := l) tp
  have e0 : setFS 2 (lstE (nilA)) [some (picD p), some (.int l), none, none, none, none] tp = .nx [some (picD p), some (.int l), some (.lst []), none, none, none] tp := by
    unfold setFS
    rw [lstE_ok (ds := []) (tp1 := tp) rfl (by decide)]
    rfl
  show retR (b_law_paint [some (picD p), some (.int l), none, none, none, none] tp) = _
  rw [b_lpaint_eq, seqS_nx e0, seqS_nx e]
  rfl
def linesP (h w : Nat) (p : Pic) (ls : List Nat) : Pic := ls.foldl (lineP h w) p
theorem linesP_ok {h w : Nat} : ∀ (ls : List Nat) {p : Pic}, PicOk h w p → PicOk h w (linesP h w p ls)
  | [], _, k => k
  | l :: ls, _, k => linesP_ok ls (lineP_ok k l)
def linesD (ls : List Nat) : D := .lst (ls.map fun l : Nat => .int (l : Int))
theorem lpainted_loop {h w : Nat} {b : SS} {x1 : Option D} (hb : ∀ (p : Pic) (l : Nat) (tp : List D), PicOk h w p → l < h + w → b [some (picD p), x1, some (.int l)] tp = .nx [some (picD (lineP h w p l)), x1, some (.int l)] tp) :
    ∀ (ls : List Nat) (p : Pic) (x : Option D) (tp : List D), PicOk h w p → (∀ l ∈ ls, l < h + w) → ∃ x', forL t1 [2] b (ls.map fun l : Nat => .int (l : Int)) [some (picD p), x1, x] tp = .nx [some (picD (linesP h w p ls)), x1, x'] tp
  | [], p, x, tp, k, _ => ⟨x, rfl⟩
  | l :: ls, p, x, tp, k, hl => by
    obtain ⟨x', e⟩ := lpainted_loop hb ls (lineP h w p l) (some (.int l)) tp (lineP_ok k l) fun l' h' => hl l' (List.mem_cons_of_mem _ h')
    refine ⟨x', ?_⟩
    have hb' := hb p l tp k (hl l List.mem_cons_self)
    rw [List.map_cons]
    unfold forL t1
    simp only [setAll, List.set_cons_succ, List.set_cons_zero]
    rw [hb']
    exact e
theorem lpainted_ok {h w : Nat} {p : Pic} (k : PicOk h w p) {ls : List Nat} (hl : ∀ l ∈ ls, l < h + w) (tp : List D) : m_law_painted [picD p, linesD ls] tp = .ok (picD (linesP h w p ls)) tp := by
  obtain ⟨x', e⟩ := lpainted_loop (b := setS 0 (callE 2 m_law_paint (consA (vE 0) (consA (vE 2) (nilA))))) (x1 := some (linesD ls)) (fun p l tp k hl => setS_ok (callE_ok (ds := [picD p, .int l]) rfl rfl (lpaint_ok k l tp))) ls p none tp k hl
  have ei : seqI (vE 1) [some (picD p), some (linesD ls), none] tp = .ok (ls.map fun l : Nat => .int (l : Int)) tp := rfl
  show retR (b_law_painted [some (picD p), some (linesD ls), none] tp) = _
  unfold b_law_painted
  rw [seqS_nx ((forS_eq ei).trans e)]
  rfl
end W
set_option maxHeartbeats 1000000
namespace W
open PySem L2 G
theorem taken_nat {tp : List D} {m : Nat} (h : Tape tp) (hm : 1 ≤ m) (hM : m ≤ 2 ^ 30) : ∃ (n : Nat) (tp' : List D), m_law_taken [.tape, .int (m : Int)] tp = .ok (.int (n : Int)) tp' ∧ Tape tp' ∧ n < m := by
  obtain ⟨v, tp', e, t, v0, v1⟩ := taken_ok (m := (m : Int)) h (by omega) (by omega)
  exact ⟨v.toNat, tp', by rw [e]; congr 2; omega, t, by omega⟩
theorem taken_e {tp : List D} {m : Nat} {ms : SE (List D)} {env : DEnv} {tp0 : List D} (h : Tape tp) (hm : 1 ≤ m) (hM : m ≤ 2 ^ 30) (e : ms env tp0 = .ok [.tape, .int (m : Int)] tp) : ∃ (n : Nat) (tp' : List D), callE 2 m_law_taken ms env tp0 = .ok (.int (n : Int)) tp' ∧ Tape tp' ∧ n < m := by
  obtain ⟨n, tp', e1, t, l⟩ := taken_nat h hm hM
  exact ⟨n, tp', callE_ok e rfl e1, t, l⟩
theorem compE_of {T : List D → Prop} {R : D → D → Prop} {mi : SE (List D)} {vs : List Nat} {i : Nat} {m : SE D} {env : DEnv} {tp tp1 : List D} {items : List D} (h1 : mi env tp = .ok items tp1) (ht : T tp1) (hl : items.length ≤ 1000000)
    (h : ∀ d ∈ items, ∀ tp, T tp → ∃ x tp', m ((wipeE env vs).set i (some d)) tp = .ok x tp' ∧ T tp' ∧ R d x) : ∃ xs tp', compE mi vs t1 [i] yesT m env tp = .ok (.lst xs) tp' ∧ T tp' ∧ Paired R items xs := compE_eff h1 ht (small_line hl) h
theorem rangeI_ok {f : List D → Option (List D)} {ms : SE (List D)} {env : DEnv} {tp tp1 : List D} {ds items : List D} (h : ms env tp = .ok ds tp1) (h2 : f ds = some items) : rangeI f ms env tp = .ok items tp1 := by
  unfold rangeI; rw [h]; simp only [RE.bind_ok]; rw [h2]; rfl
/-- lines + columns -/
theorem sides_e {h w : Nat} {p : Pic} (k : PicOk h w p) {i : Nat} {env : DEnv} {tp : List D} (e : env[i]? = some (some (picD p))) : binE addD (callB lenD (consA (vE i) (nilA))) (callB lenD (consA (binE ixD (vE i) (cE (.int 0))) (nilA))) env tp = .ok (.int ((h + w : Nat) : Int)) tp := by
  obtain ⟨r, h1, h2⟩ := k.row0
  have w30 := k.w30
  have ev : vE i env tp = .ok (picD p) tp := by unfold vE; rw [e]
  refine binE_ok (callB_ok (consA_ok ev rfl) (len_pic p)) (callB_ok (consA_ok (binE_ok ev rfl (ix_pic0 h1)) rfl) (len_row (by omega))) ?_
  show some (D.int _) = _
  rw [k.len, h2]
  rfl
theorem deeds_ok {tp : List D} {h w : Nat} {p : Pic} (ht : Tape tp) (k : PicOk h w p) {most : Nat} (hm : most ≤ 1000) : ∃ (ls : List Nat) (tp' : List D), m_law_deeds [.tape, picD p, .int (most : Int)] tp = .ok (linesD ls) tp' ∧ Tape tp' ∧ ls.length ≤ most ∧ ∀ l ∈ ls, l < h + w := by
  have h30 := k.h30
  have w30 := k.w30
  have h1 := k.h1
  obtain ⟨n, tp1, e1, t1', hn⟩ := taken_e (m := most + 1) (ms := consA (vE 0) (consA (binE addD (vE 2) (cE (.int 1))) (nilA))) (env := [some .tape, some (picD p), some (.int (most : Int)), none]) (tp0 := tp) ht (by omega) (by omega) rfl
  have ei : rangeI range1D (consA (callE 2 m_law_taken (consA (vE 0) (consA (binE addD (vE 2) (cE (.int 1))) (nilA)))) (nilA)) [some .tape, some (picD p), some (.int (most : Int)), none] tp = .ok (rangeL 0 (n : Int)) tp1 := by
    exact rangeI_ok (consA_ok e1 rfl) (range1_ok (by omega) (by omega))
  obtain ⟨xs, tp2, e2, t2, pr⟩ := compE_of (T := Tape) (R := fun d x => ∃ l : Nat, x = .int (l : Int) ∧ l < h + w) (vs := [3]) (i := 3) (m := callE 2 m_law_taken (consA (vE 0) (consA (binE addD (callB lenD (consA (vE 1) (nilA))) (callB lenD (consA (binE ixD (vE 1) (cE (.int 0))) (nilA)))) (nilA)))) ei t1' (by rw [rangeL_len]; omega)
    (fun d hd tp3 t3 => by
      obtain ⟨l, tp4, e4, t4, l4⟩ := taken_e (m := h + w) (ms := consA (vE 0) (consA (binE addD (callB lenD (consA (vE 1) (nilA))) (callB lenD (consA (binE ixD (vE 1) (cE (.int 0))) (nilA)))) (nilA))) (env := (wipeE [some .tape, some (picD p), some (.int (most : Int)), none] [3]).set 3 (some d)) (tp0 := tp3) t3 (by omega) (by omega) (consA_ok rfl (consA_ok (sides_e k rfl) rfl))
      exact ⟨_, tp4, e4, t4, l, rfl, l4⟩)
  obtain ⟨ls, rfl, hl, hall⟩ := paired_allP (f := fun l : Nat => D.int (l : Int)) (P := fun l => l < h + w) (fun x y hh => hh) pr
  rw [rangeL_len] at hl
  refine ⟨ls, tp2, ?_, t2, by omega, hall⟩
  show retR (b_law_deeds [some .tape, some (picD p), some (.int (most : Int)), none] tp) = _
  unfold b_law_deeds
  rw [retS_ok e2]
  rfl
theorem appPop_z {i j : Nat} {m : SE D} {env : DEnv} {tp tp1 : List D} {ds es : List D} {z : Int} {y : D} (h1 : env[i]? = some (some (.lst ds))) (h2 : env[j]? = some (some (.lst es))) (h3 : m env tp = .ok (.int z) tp1) (hz : 0 ≤ z) (h4 : es[z.toNat]? = some y) (h5 : ds.length < 1000000) (h6 : es.length ≤ 1000000) :
    appPopS i j m env tp = .nx ((env.set j (some (.lst (es.eraseIdx z.toNat)))).set i (some (.lst (ds ++ [y])))) tp1 := by
  have hq : z.toNat < es.length := (List.getElem?_eq_some_iff.mp h4).1
  have c : (decide (-(2 ^ 63) ≤ z) && (decide (z < 2 ^ 63) && decide (ds.length < sizeLine))) = true := by
    have a1 : -(2 ^ 63) ≤ z := by omega
    have a2 : z < 2 ^ 63 := by omega
    have a3 : ds.length < sizeLine := small_line (n := ds.length + 1) h5
    rw [decide_eq_true a1, decide_eq_true a2, decide_eq_true a3]; rfl
  have cx : ixN es.length z = some z.toNat := by
    unfold ixN
    rw [if_pos hz, if_pos (by omega)]
  unfold appPopS
  rw [h1, h2]
  simp -implicitDefEqProofs only []
  rw [h3]
  simp -implicitDefEqProofs only [RE.bindS]
  rw [if_pos c, cx]
  simp -implicitDefEqProofs only []
  rw [h4]
theorem appPop_ok {i j : Nat} {m : SE D} {env : DEnv} {tp tp1 : List D} {ds es : List D} {q : Nat} {y : D} (h1 : env[i]? = some (some (.lst ds))) (h2 : env[j]? = some (some (.lst es))) (h3 : m env tp = .ok (.int (q : Int)) tp1) (h4 : es[q]? = some y) (h5 : ds.length < 1000000) (h6 : es.length ≤ 1000000) :
    appPopS i j m env tp = .nx ((env.set j (some (.lst (es.eraseIdx q)))).set i (some (.lst (ds ++ [y])))) tp1 := by
  have e : ((q : Int)).toNat = q := Int.toNat_natCast q
  have := appPop_z (z := (q : Int)) h1 h2 h3 (by omega) (by rw [e]; exact h4) h5 h6
  rw [e] at this
  exact this
theorem perm_erase {α : Type} : ∀ (es : List α) (q : Nat) (y : α), es[q]? = some y → (y :: es.eraseIdx q).Perm es
  | [], q, y, h => by simp at h
  | e :: es, 0, y, h => by simp at h; subst h; exact List.Perm.refl _
  | e :: es, q + 1, y, h => by
    have h' : es[q]? = some y := by simpa using h
    show (y :: e :: es.eraseIdx q).Perm (e :: es)
    exact (List.Perm.swap _ _ _).trans ((perm_erase es q y h').cons _)
theorem mixed_ok {tp : List D} {ds : List D} (ht : Tape tp) (hl : ds.length ≤ 10000) : ∃ (xs : List D) (tp' : List D), m_law_mixed [.tape, .lst ds] tp = .ok (.lst xs) tp' ∧ Tape tp' ∧ xs.Perm ds := by
  have e0 : parS [2, 3] (consA (callB listD (consA (vE 1) (nilA))) (consA (lstE (nilA)) (nilA))) [some .tape, some (.lst ds), none, none, none] tp = .nx [some .tape, some (.lst ds), some (.lst ds), some (.lst []), none] tp := by
    unfold parS
    rw [consA_ok (callB_ok (consA_ok rfl rfl) rfl) (consA_ok (lstE_ok (ds := []) rfl (by decide)) rfl)]
    rfl
  have ei : rangeI range1D (consA (callB lenD (consA (vE 2) (nilA))) (nilA)) [some .tape, some (.lst ds), some (.lst ds), some (.lst []), none] tp = .ok (rangeL 0 (ds.length : Int)) tp := by
    exact rangeI_ok (consA_ok (callB_ok (consA_ok rfl rfl) rfl) rfl) (range1_ok (by omega) (by omega))
  obtain ⟨env', tp2, e2, t2, left, found, x, hle, hp, rfl⟩ := forL_inv (i := 4) (tp := tp) (env := [some .tape, some (.lst ds), some (.lst ds), some (.lst []), none]) (items := rangeL 0 (ds.length : Int)) (body := appPopS 3 2 (callE 2 m_law_taken (consA (vE 0) (consA (callB lenD (consA (vE 2) (nilA))) (nilA)))))
    (fun n env tp' => Tape tp' ∧ ∃ (left found : List D) (x : Option D), left.length + n = ds.length ∧ (found ++ left).Perm ds ∧ env = [some .tape, some (.lst ds), some (.lst left), some (.lst found), x]) 0
    ⟨ht, ds, [], none, by omega, by rw [List.nil_append], rfl⟩ (fun i d env tp' hj hI => by
      obtain ⟨tt, left, found, x, hle, hp, rfl⟩ := hI
      obtain ⟨_, hi⟩ := rangeL_get hj
      obtain ⟨q, tp3, e3, t3, hq⟩ := taken_e (m := left.length) (ms := consA (vE 0) (consA (callB lenD (consA (vE 2) (nilA))) (nilA))) (env := [some .tape, some (.lst ds), some (.lst left), some (.lst found), some d]) (tp0 := tp') tt (by omega) (by omega) rfl
      have hf : found.length + left.length = ds.length := by rw [← hp.length_eq, List.length_append]
      refine ⟨_, tp3, appPop_ok (ds := found) (es := left) (y := left[q]) rfl rfl e3 (List.getElem?_eq_getElem hq) (by omega) (by omega), t3, left.eraseIdx q, found ++ [left[q]], some d, ?_, ?_, rfl⟩
      · rw [List.length_eraseIdx, if_pos hq]; omega
      · rw [List.append_assoc]
        exact ((perm_erase left q _ (List.getElem?_eq_getElem hq)).append_left found).trans hp)
  rw [rangeL_len, Nat.zero_add] at hle
  have : left = [] := List.eq_nil_of_length_eq_zero (by omega)
  subst this
  rw [List.append_nil] at hp
  refine ⟨found, tp2, ?_, t2, hp⟩
  show retR (b_law_mixed [some .tape, some (.lst ds), none, none, none] tp) = _
  unfold b_law_mixed
  rw [seqS_nx e0, seqS_nx ((forS_eq ei).trans e2)]
  rfl
end W
set_option maxHeartbeats 1000000
namespace W
open PySem L2 G
theorem list_nats {n : Nat} {xs : List D} (hp : xs.Perm (rangeL 0 (n : Int))) : ∃ ls : List Nat, xs = ls.map (fun l : Nat => D.int (l : Int)) ∧ ls.Perm (List.range n) := by
  have e : rangeL 0 (n : Int) = (List.range n).map (fun l : Nat => D.int (l : Int)) := by
    unfold rangeL
    rw [Int.sub_zero, Int.toNat_natCast]
    refine List.map_congr_left fun a _ => ?_
    rw [Int.zero_add]
  rw [e] at hp
  have hinj : ∀ xs ys : List D, xs.Perm ys → ∀ ls : List Nat, ys = ls.map (fun l : Nat => D.int (l : Int)) → ∃ ks : List Nat, xs = ks.map (fun l : Nat => D.int (l : Int)) ∧ ks.Perm ls := by
    intro xs ys h
    induction h with
    | nil => intro ls h; cases ls with
      | nil => exact ⟨[], rfl, .refl _⟩
      | cons a as => cases h
    | cons x h ih => intro ls h; cases ls with
      | nil => cases h
      | cons a as =>
        rw [List.map_cons] at h
        cases h
        obtain ⟨ks, rfl, p⟩ := ih as rfl
        exact ⟨a :: ks, rfl, p.cons a⟩
    | swap x y l => intro ls h; match ls, h with
      | [], h => cases h
      | [a], h => cases h
      | a :: b :: as, h =>
        rw [List.map_cons, List.map_cons] at h
        cases h
        exact ⟨b :: a :: as, rfl, .swap _ _ _⟩
    | trans h1 h2 ih1 ih2 =>
      intro ls h
      obtain ⟨ks, rfl, p⟩ := ih2 ls h
      obtain ⟨js, rfl, q⟩ := ih1 ks rfl
      exact ⟨js, rfl, q.trans p⟩
  exact hinj xs _ hp _ rfl
theorem cRgOk_small {n : Nat} (h : n ≤ 1000000) : cRgOk 0 (n : Int) = true := by
  unfold cRgOk
  rw [cRg_small (i := 0) (by decide) (by decide), cRg_small (i := (n : Int)) (by omega) (by omega), Bool.true_and, Bool.true_and]
  exact decide_eq_true (by omega)
theorem rg1E_ok {k : List D → D} {ma : SE D} {env : DEnv} {tp tp1 : List D} {n : Nat} (h : ma env tp = .ok (.int (n : Int)) tp1) (hn : n ≤ 1000000) : rg1E k ma env tp = .ok (k (rangeL 0 (n : Int))) tp1 := by
  have := cRgOk_small hn
  generalize (n : Int) = z at *
  unfold rg1E
  rw [h]
  simp -implicitDefEqProofs only [RE.bind_ok]
  rw [if_pos this]
theorem parS2_ok {i j : Nat} {ms : SE (List D)} {env : DEnv} {tp tp1 : List D} {a b : D} (h : ms env tp = .ok [a, b] tp1) (hi : i < env.length) (hj : j < env.length) : parS [i, j] ms env tp = .nx ((env.set i (some a)).set j (some b)) tp1 := by
  unfold parS
  rw [h]
  simp only [RE.bindS]
  rw [if_pos (by simp [hi, hj])]
  rfl
theorem eqI_e {i : Nat} {k c : Nat} {env : DEnv} {tp : List D} (e : env[i]? = some (some (.int (k : Int)))) : boolE (binE eqD (vE i) (cE (.int (c : Int)))) env tp = .ok (decide (k = c)) tp := by
  have ev : vE i env tp = .ok (.int (k : Int)) tp := by unfold vE; rw [e]
  refine boolE_ok (binE_ok (mb := cE (.int (c : Int))) (tp2 := tp) ev rfl ?_)
  rw [eqD_int]
  by_cases q : k = c
  · rw [decide_eq_true q, decide_eq_true (by omega)]
  · rw [decide_eq_false q, decide_eq_false (by omega)]
theorem picture_ok {tp : List D} {most : Nat} (ht : Tape tp) (m1 : 1 ≤ most) (m30 : most ≤ 30) : ∃ (h w : Nat) (p : Pic) (tp' : List D), m_law_picture [.tape, .int (most : Int)] tp = .ok (picD p) tp' ∧ Tape tp' ∧ PicOk h w p ∧ h ≤ most ∧ w ≤ most := by
  obtain ⟨a, tp1, e1, t1', ha⟩ := taken_e (m := most) (ms := consA (vE 0) (consA (vE 1) (nilA))) (env := [some .tape, some (.int (most : Int)), none, none, none, none]) (tp0 := tp) ht m1 (by omega) rfl
  obtain ⟨b, tp2, e2, t2, hb⟩ := taken_e (m := most) (ms := consA (vE 0) (consA (vE 1) (nilA))) (env := [some .tape, some (.int (most : Int)), none, none, none, none]) (tp0 := tp1) t1' m1 (by omega) rfl
  have a1 : addD (.int 1) (.int (a : Int)) = some (.int ((a + 1 : Nat) : Int)) := by show some (D.int (1 + (a : Int))) = _; congr 2; omega
  have b1 : addD (.int 1) (.int (b : Int)) = some (.int ((b + 1 : Nat) : Int)) := by show some (D.int (1 + (b : Int))) = _; congr 2; omega
  have s1 := parS2_ok (i := 2) (j := 3) (consA_ok (binE_ok (ma := cE (.int 1)) (tp1 := tp) rfl e1 a1) (consA_ok (binE_ok (ma := cE (.int 1)) (tp1 := tp1) rfl e2 b1) (rfl : nilA _ tp2 = .ok [] tp2))) (by simp) (by simp)
  obtain ⟨p, tp3, e3, t3, k⟩ := any_ok (h := a + 1) (w := b + 1) t2 (by omega) (by omega) (by omega) (by omega)
  have e3' : callE 3 m_law_any (consA (vE 0) (consA (vE 2) (consA (vE 3) (nilA)))) [some .tape, some (.int (most : Int)), some (.int ((a + 1 : Nat) : Int)), some (.int ((b + 1 : Nat) : Int)), none, none] tp2 = .ok (picD p) tp3 := callE_ok rfl rfl e3
  obtain ⟨c, tp4, e4, t4, hc⟩ := taken_e (m := 4) (ms := consA (vE 0) (consA (cE (.int 4)) (nilA))) (env := [some .tape, some (.int (most : Int)), some (.int ((a + 1 : Nat) : Int)), some (.int ((b + 1 : Nat) : Int)), none, none]) (tp0 := tp3) t3 (by omega) (by omega) rfl
  have s2 := parS2_ok (i := 4) (j := 5) (consA_ok e3' (consA_ok e4 (rfl : nilA _ tp4 = .ok [] tp4))) (by simp) (by simp)
  have g0 := eqI_e (i := 5) (k := c) (c := 0) (env := [some .tape, some (.int (most : Int)), some (.int ((a + 1 : Nat) : Int)), some (.int ((b + 1 : Nat) : Int)), some (picD p), some (.int (c : Int))]) (tp := tp4) rfl
  have g1 := eqI_e (i := 5) (k := c) (c := 1) (env := [some .tape, some (.int (most : Int)), some (.int ((a + 1 : Nat) : Int)), some (.int ((b + 1 : Nat) : Int)), some (picD p), some (.int (c : Int))]) (tp := tp4) rfl
  have ab : addD (.int ((a + 1 : Nat) : Int)) (.int ((b + 1 : Nat) : Int)) = some (.int ((a + 1 + (b + 1) : Nat) : Int)) := rfl
  have hm := binE_ok (f := addD) (ma := vE 2) (mb := vE 3) (env := [some .tape, some (.int (most : Int)), some (.int ((a + 1 : Nat) : Int)), some (.int ((b + 1 : Nat) : Int)), some (picD p), some (.int (c : Int))]) (tp := tp4) (tp1 := tp4) (tp2 := tp4) rfl rfl ab
  by_cases c0 : c = 0
  · rw [decide_eq_true c0] at g0
    refine ⟨_, _, p, tp4, ?_, t4, k, by omega, by omega⟩
    show retR (b_law_picture [some .tape, some (.int (most : Int)), none, none, none, none] tp) = _
    unfold b_law_picture
    rw [seqS_nx s1]
    refine (congrArg retR (seqS_nx s2)).trans ?_
    refine (congrArg retR (seqS_rt ((ifS_t g0).trans (retS_ok rfl)))).trans ?_
    rfl
  rw [decide_eq_false c0] at g0
  by_cases c1 : c = 1
  · rw [decide_eq_true c1] at g1
    obtain ⟨ls, tp5, e5, t5, _, hls⟩ := deeds_ok t4 k (most := a + 1 + (b + 1)) (by omega)
    have e6 := lpainted_ok k hls tp5
    refine ⟨_, _, _, tp5, ?_, t5, linesP_ok ls k, by omega, by omega⟩
    show retR (b_law_picture [some .tape, some (.int (most : Int)), none, none, none, none] tp) = _
    unfold b_law_picture
    rw [seqS_nx s1]
    refine (congrArg retR (seqS_nx s2)).trans ?_
    refine (congrArg retR (seqS_nx ((ifS_f g0).trans rfl))).trans ?_
    refine (congrArg retR (seqS_rt ((ifS_t g1).trans (retS_ok (callE_ok (consA_ok rfl (consA_ok (callE_ok (consA_ok rfl (consA_ok rfl (consA_ok hm rfl))) rfl e5) rfl)) rfl e6))))).trans ?_
    rfl
  · rw [decide_eq_false c1] at g1
    obtain ⟨xs, tp5, e5, t5, hp⟩ := mixed_ok (ds := rangeL 0 ((a + 1 + (b + 1) : Nat) : Int)) t4 (by rw [rangeL_len]; omega)
    obtain ⟨ls, rfl, hpl⟩ := list_nats hp
    have hls : ∀ l ∈ ls, l < a + 1 + (b + 1) := fun l hl => List.mem_range.mp (hpl.mem_iff.mp hl)
    have e6 := lpainted_ok k hls tp5
    refine ⟨_, _, _, tp5, ?_, t5, linesP_ok ls k, by omega, by omega⟩
    show retR (b_law_picture [some .tape, some (.int (most : Int)), none, none, none, none] tp) = _
    unfold b_law_picture
    rw [seqS_nx s1]
    refine (congrArg retR (seqS_nx s2)).trans ?_
    refine (congrArg retR (seqS_nx ((ifS_f g0).trans rfl))).trans ?_
    refine (congrArg retR (seqS_nx ((ifS_f g1).trans rfl))).trans ?_
    refine (congrArg retR (retS_ok (callE_ok (consA_ok rfl (consA_ok (callE_ok (consA_ok rfl (consA_ok (rg1E_ok hm (by omega)) rfl)) rfl e5) rfl)) rfl e6))).trans ?_
    rfl
end W
set_option maxHeartbeats 1000000
namespace W
open PySem L2 G
end W
set_option maxHeartbeats 1000000
namespace W
open PySem L2 G
theorem pdAll_map : ∀ xs : List D, pdAll xs = xs.map D.pd
  | [] => rfl
  | x :: xs => by
    show x.pd :: pdAll xs = _
    rw [pdAll_map xs]; rfl
end W
set_option maxHeartbeats 1000000
namespace W
open PySem L2 G
end W
set_option maxHeartbeats 1000000
namespace W
open PySem L2 G
end W
set_option maxHeartbeats 1000000
namespace W
open PySem L2 G T
/-- a picture by itself -/
structure PicP (p : Pic) : Prop where
  row : ∀ r ∈ p, r.length = p[0]!.length
  h1 : 1 ≤ p.length
  h30 : p.length ≤ 30
  w1 : 1 ≤ p[0]!.length
  w30 : p[0]!.length ≤ 30
theorem PicOk_pp {h w : Nat} {p : Pic} (k : PicOk h w p) : PicP p ∧ p.length = h ∧ p[0]!.length = w := by
  have h1 := k.h1
  have l := k.len
  have e : p[0]!.length = w := by
    rw [getElem!_pos p 0 (by omega)]
    exact k.row _ (List.getElem_mem _)
  exact ⟨⟨fun r hr => by rw [e]; exact k.row r hr, by omega, by have := k.h30; omega, by have := k.w1; omega, by have := k.w30; omega⟩, l, e⟩
theorem PicP.ok {p : Pic} (k : PicP p) : PicOk p.length p[0]!.length p := ⟨rfl, k.row, k.h1, k.h30, k.w1, k.w30⟩
abbrev P_law_taken (many : Nat) : Prop := 1 ≤ many ∧ many ≤ 1073741824
abbrev D_law_taken (many r : Nat) : Prop := r < many
theorem t_law_taken {many : Nat} {tp : List D} (ht : Tape tp) (hP : P_law_taken many) : ∃ (r : Nat) (tp' : List D), m_law_taken [.tape, eN many] tp = .ok (eN r) tp' ∧ Tape tp' ∧ D_law_taken many r :=
  taken_nat ht hP.1 hP.2
theorem t_law_pickR {xs : Row} {tp : List D} (ht : Tape tp) (hP : xs ≠ [] ∧ xs.length ≤ 1000000) : ∃ (r : Bool) (tp' : List D), m_law_pick [.tape, eR xs] tp = .ok (eG r) tp' ∧ Tape tp' ∧ r ∈ xs := by
  have hp := List.length_pos_iff.mpr hP.1
  have hl := hP.2
  obtain ⟨v, tp', e, t, hv⟩ := taken_nat (m := xs.length) ht (by omega) (by omega)
  have e1 : lenD [eR xs] = some (eN xs.length) := by
    show (if (rowS xs).length ≤ sizeLine then some (D.int ((rowS xs).length : Int)) else none) = _
    rw [rowS_len, if_pos (small_line hl)]
  have e2 := get!_row hl hv
  refine ⟨xs[v]!, tp', ?_, t, by rw [getElem!_pos xs v hv]; exact List.getElem_mem hv⟩
  simp -implicitDefEqProofs only [m_law_pick, b_law_pick, defD, retR, seqS, ifS, setS, retS, skipS, dropS, parS, setAll, vE, cE, binE, chainE, callB, consA, nilA, tupE, lstE, boolE, isB, notT, orT, andT, andE, orE, notE, callE, tixE, tsetS, sliceE, optI, methE, seqI, rangeI, RE.bind_ok, RE.bindS, RE.of_some, RE.of_none, List.map_cons, List.map_nil, List.length_cons, List.length_nil, List.replicate, List.cons_append, List.nil_append, List.getElem?_cons_zero, List.getElem?_cons_succ, List.set_cons_zero, List.set_cons_succ, if_true, if_false, Nat.zero_add, Nat.reduceAdd, Nat.reduceSub, decide_true, decide_false, Bool.false_eq_true, Option.map_some, Option.bind_some, e1, e, e2]
theorem perm_map {α : Type} {e : α → D} : ∀ {xs ys : List D}, xs.Perm ys → ∀ ls : List α, ys = ls.map e → ∃ ks : List α, xs = ks.map e ∧ ks.Perm ls := by
  intro xs ys h
  induction h with
  | nil => intro ls h; cases ls with
    | nil => exact ⟨[], rfl, .refl _⟩
    | cons a as => cases h
  | cons x h ih => intro ls h; cases ls with
    | nil => cases h
    | cons a as =>
      rw [List.map_cons] at h
      cases h
      obtain ⟨ks, rfl, p⟩ := ih as rfl
      exact ⟨a :: ks, rfl, p.cons a⟩
  | swap x y l => intro ls h; match ls, h with
    | [], h => cases h
    | [a], h => cases h
    | a :: b :: as, h =>
      rw [List.map_cons, List.map_cons] at h
      cases h
      exact ⟨b :: a :: as, rfl, .swap _ _ _⟩
  | trans h1 h2 ih1 ih2 =>
    intro ls h
    obtain ⟨ks, rfl, p⟩ := ih2 ls h
    obtain ⟨js, rfl, q⟩ := ih1 ks rfl
    exact ⟨js, rfl, q.trans p⟩
theorem t_law_mixedL {α : Type} {e : α → D} {xs : List α} {tp : List D} (ht : Tape tp) (hP : xs.length ≤ 10000) : ∃ (r : List α) (tp' : List D), m_law_mixed [.tape, eL e xs] tp = .ok (eL e r) tp' ∧ Tape tp' ∧ r.Perm xs := by
  obtain ⟨zs, tp', e1, t, hp⟩ := mixed_ok (ds := xs.map e) ht (by rw [List.length_map]; exact hP)
  obtain ⟨ks, rfl, q⟩ := perm_map hp xs rfl
  exact ⟨ks, tp', e1, t, q⟩
abbrev P_law_any (h w : Nat) : Prop := (1 ≤ h ∧ h ≤ 30) ∧ 1 ≤ w ∧ w ≤ 30
abbrev D_law_any (h w : Nat) (p : Pic) : Prop := PicP p ∧ p.length = h ∧ p[0]!.length = w
theorem t_law_any {h w : Nat} {tp : List D} (ht : Tape tp) (hP : P_law_any h w) : ∃ (r : Pic) (tp' : List D), m_law_any [.tape, eN h, eN w] tp = .ok (ePic r) tp' ∧ Tape tp' ∧ D_law_any h w r := by
  obtain ⟨p, tp', e, t, k⟩ := any_ok (h := h) (w := w) ht hP.1.1 hP.1.2 hP.2.1 hP.2.2
  exact ⟨p, tp', e, t, PicOk_pp k⟩
abbrev P_law_deeds (p : Pic) (most : Nat) : Prop := PicP p ∧ most ≤ 1000
abbrev D_law_deeds (p : Pic) (most : Nat) (r : List Nat) : Prop := r.length ≤ most ∧ ∀ l ∈ r, l < p.length + p[0]!.length
theorem t_law_deeds {p : Pic} {most : Nat} {tp : List D} (ht : Tape tp) (hP : P_law_deeds p most) : ∃ (r : List Nat) (tp' : List D), m_law_deeds [.tape, ePic p, eN most] tp = .ok (eL eN r) tp' ∧ Tape tp' ∧ D_law_deeds p most r :=
  deeds_ok ht hP.1.ok hP.2
abbrev P_law_picture (most : Nat) : Prop := 1 ≤ most ∧ most ≤ 30
abbrev D_law_picture (most : Nat) (p : Pic) : Prop := PicP p ∧ p.length ≤ most ∧ p[0]!.length ≤ most
theorem t_law_picture {most : Nat} {tp : List D} (ht : Tape tp) (hP : P_law_picture most) : ∃ (r : Pic) (tp' : List D), m_law_picture [.tape, eN most] tp = .ok (ePic r) tp' ∧ Tape tp' ∧ D_law_picture most r := by
  obtain ⟨h, w, p, tp', e, t, k, a, b⟩ := picture_ok ht hP.1 hP.2
  obtain ⟨k1, k2, k3⟩ := PicOk_pp k
  exact ⟨p, tp', e, t, k1, by omega, by omega⟩
end W
set_option maxHeartbeats 1000000
namespace W
open PySem L2 G T
theorem take_snoc {α : Type} {xs : List α} {k : Nat} {x : α} (h : xs[k]? = some x) : xs.take (k + 1) = xs.take k ++ [x] := by
  rw [List.take_succ, h]; rfl
theorem range_get {n k x : Nat} (h : (List.range n)[k]? = some x) : x = k ∧ k < n := by
  obtain ⟨h1, h2⟩ := List.getElem?_eq_some_iff.mp h
  rw [List.getElem_range] at h2
  rw [List.length_range] at h1
  exact ⟨h2.symm, h1⟩
theorem enumP_eq {α : Type} [Inhabited α] (xs : List α) : enumP xs = (List.range xs.length).map fun i => (i, xs[i]!) := by
  unfold enumP
  refine List.ext_getElem (by simp) fun i h1 h2 => ?_
  rw [List.getElem_mapIdx, List.getElem_map, List.getElem_range, getElem!_pos xs i (by simpa using h1)]
theorem mem_enumP {α : Type} [Inhabited α] {xs : List α} {x : Nat × α} (h : x ∈ enumP xs) : x.1 < xs.length ∧ x.2 = xs[x.1]! := by
  rw [enumP_eq] at h
  obtain ⟨i, hi, rfl⟩ := List.mem_map.mp h
  exact ⟨List.mem_range.mp hi, rfl⟩
theorem mem_get! {α : Type} [Inhabited α] {xs : List α} {i : Nat} (h : i < xs.length) : xs[i]! ∈ xs := by
  rw [getElem!_pos xs i h]; exact List.getElem_mem h
theorem flatMap_congr' {α β : Type} {xs : List α} {f g : α → List β} (h : ∀ x ∈ xs, f x = g x) : xs.flatMap f = xs.flatMap g := by
  induction xs with
  | nil => rfl
  | cons x xs ih => rw [List.flatMap_cons, List.flatMap_cons, h x List.mem_cons_self, ih fun y hy => h y (List.mem_cons_of_mem _ hy)]
theorem len_filter_le {α : Type} (f : α → Bool) (xs : List α) : (xs.filter f).length ≤ xs.length := List.length_filter_le f xs
theorem get!_map' {α β : Type} [Inhabited α] [Inhabited β] (f : α → β) {xs : List α} {i : Nat} (h : i < xs.length) : (xs.map f)[i]! = f xs[i]! := by
  rw [getElem!_pos (xs.map f) i (by simpa using h), List.getElem_map, getElem!_pos xs i h]
theorem get!_range {n i : Nat} (h : i < n) : (List.range n)[i]! = i := by
  rw [getElem!_pos (List.range n) i (by simpa using h), List.getElem_range]
theorem get!_cons_succ {α : Type} [Inhabited α] (x : α) (xs : List α) (i : Nat) : (x :: xs)[i + 1]! = xs[i]! := rfl
theorem get!_append_left {α : Type} [Inhabited α] {xs ys : List α} {i : Nat} (h : i < xs.length) : (xs ++ ys)[i]! = xs[i]! := by
  rw [getElem!_pos _ i (by rw [List.length_append]; omega), getElem!_pos xs i h, List.getElem_append_left h]
theorem get!_append_right {α : Type} [Inhabited α] {xs ys : List α} {i : Nat} (h : xs.length ≤ i) (h2 : i < xs.length + ys.length) : (xs ++ ys)[i]! = ys[i - xs.length]! := by
  rw [getElem!_pos _ i (by rw [List.length_append]; omega), getElem!_pos ys _ (by omega), List.getElem_append_right h]
theorem ext_get! {α : Type} [Inhabited α] {xs ys : List α} (hl : xs.length = ys.length) (h : ∀ i, i < xs.length → xs[i]! = ys[i]!) : xs = ys := by
  refine List.ext_getElem hl fun i h1 h2 => ?_
  have := h i h1
  rwa [getElem!_pos xs i h1, getElem!_pos ys i h2] at this
section
variable {p q : Pic}
theorem PicP.get (k : PicP p) {i : Nat} (h : i < p.length) : (p[i]!).length = p[0]!.length := k.row _ (mem_get! h)
theorem PicP.pos (k : PicP p) : 0 < p.length := k.h1
/-- the sides of a picture -/
structure Sides (h w : Nat) (p : Pic) : Prop where
  pp : PicP p
  hh : p.length = h
  ww : p[0]!.length = w
theorem PicP.sd (k : PicP p) : Sides p.length p[0]!.length p := ⟨k, rfl, rfl⟩
/-- two pictures of the same sides are the same if all cells are -/
theorem pic_ext (k : PicP p) (l : PicP q) (h : p.length = q.length) (w : p[0]!.length = q[0]!.length) (e : ∀ i j, i < p.length → j < p[0]!.length → (p[i]!)[j]! = (q[i]!)[j]!) : p = q := by
  refine ext_get! h fun i hi => ?_
  have a := k.get hi
  have b := l.get (i := i) (by omega)
  exact ext_get! (by omega) fun j hj => e i j hi (by omega)
/-- a picture told by its cells -/
def mkP (h w : Nat) (f : Nat → Nat → Bool) : Pic := (List.range h).map fun i => (List.range w).map fun j => f i j
theorem mkP_len (h w : Nat) (f : Nat → Nat → Bool) : (mkP h w f).length = h := by simp [mkP]
theorem mkP_row {h w : Nat} {f : Nat → Nat → Bool} {i : Nat} (hi : i < h) : (mkP h w f)[i]! = (List.range w).map fun j => f i j := by
  unfold mkP
  rw [get!_map' _ (by simpa using hi), get!_range hi]
theorem mkP_get {h w : Nat} {f : Nat → Nat → Bool} {i j : Nat} (hi : i < h) (hj : j < w) : ((mkP h w f)[i]!)[j]! = f i j := by
  rw [mkP_row hi, get!_map' _ (by simpa using hj), get!_range hj]
theorem mkP_wid {h w : Nat} {f : Nat → Nat → Bool} {i : Nat} (hi : i < h) : ((mkP h w f)[i]!).length = w := by rw [mkP_row hi]; simp
theorem mkP_pp {h w : Nat} {f : Nat → Nat → Bool} (h1 : 1 ≤ h) (h30 : h ≤ 30) (w1 : 1 ≤ w) (w30 : w ≤ 30) : PicP (mkP h w f) := by
  have e := mkP_wid (f := f) (w := w) (show 0 < h by omega)
  refine ⟨fun r hr => ?_, by rw [mkP_len]; exact h1, by rw [mkP_len]; exact h30, by rw [e]; exact w1, by rw [e]; exact w30⟩
  rw [e]
  obtain ⟨i, hi, rfl⟩ := List.mem_map.mp hr
  simp
def lineQ (p : Pic) (l : Nat) : Pic := mkP p.length p[0]!.length fun i j => if l = i then true else if l = p.length + j then false else (p[i]!)[j]!
def linesQ (p : Pic) (ls : List Nat) : Pic := ls.foldl lineQ p
theorem lineQ_pp (k : PicP p) (l : Nat) : PicP (lineQ p l) := mkP_pp k.h1 k.h30 k.w1 k.w30
theorem lineQ_len (p : Pic) (l : Nat) : (lineQ p l).length = p.length := mkP_len _ _ _
theorem lineQ_wid (k : PicP p) (l : Nat) : (lineQ p l)[0]!.length = p[0]!.length := mkP_wid k.h1
theorem lineQ_get {l i j : Nat} (hi : i < p.length) (hj : j < p[0]!.length) : ((lineQ p l)[i]!)[j]! = if l = i then true else if l = p.length + j then false else (p[i]!)[j]! := mkP_get hi hj
theorem linesQ_pp (k : PicP p) (ls : List Nat) : PicP (linesQ p ls) ∧ (linesQ p ls).length = p.length ∧ (linesQ p ls)[0]!.length = p[0]!.length := by
  induction ls generalizing p with
  | nil => exact ⟨k, rfl, rfl⟩
  | cons l ls ih =>
    obtain ⟨a, b, c⟩ := ih (lineQ_pp k l)
    exact ⟨a, b.trans (lineQ_len p l), c.trans (lineQ_wid k l)⟩
theorem linesQ_snoc (p : Pic) (ls : List Nat) (l : Nat) : linesQ p (ls ++ [l]) = lineQ (linesQ p ls) l := by
  unfold linesQ; rw [List.foldl_append]; rfl
end
end W
set_option maxHeartbeats 1000000
namespace W
open PySem L2 G T
/-- the rows that are full among the columns left, and the columns that are empty -/
def fullQ (p : Pic) (rs cs : List Nat) : List Nat := rs.filter fun i => decide (∀ j ∈ cs, (p[i]!)[j]! = true)
def empQ (p : Pic) (rs cs : List Nat) : List Nat := cs.filter fun j => decide (∀ i ∈ rs, (p[i]!)[j]! = false)
/-- what a turn does: layers found, rows left, columns left -/
def lstep (p : Pic) (s : List (List Nat) × List Nat × List Nat) : List (List Nat) × List Nat × List Nat :=
  if fullQ p s.2.1 s.2.2 ≠ [] then (s.1 ++ [fullQ p s.2.1 s.2.2], s.2.1.filter fun i => decide (i ∉ fullQ p s.2.1 s.2.2), s.2.2)
  else if empQ p s.2.1 s.2.2 ≠ [] then (s.1 ++ [(empQ p s.2.1 s.2.2).map fun j => p.length + j], s.2.1, s.2.2.filter fun j => decide (j ∉ empQ p s.2.1 s.2.2))
  else s
def liter (p : Pic) : Nat → List (List Nat) × List Nat × List Nat
  | 0 => ([], List.range p.length, List.range p[0]!.length)
  | n + 1 => lstep p (liter p n)
def layersQ (p : Pic) : List (List Nat) := (liter p (p.length + p[0]!.length)).1
def coreQ (p : Pic) : List Nat := (List.range (p.length + p[0]!.length)).filter fun l => decide (l ∉ (layersQ p).flatten)
theorem ones_full (p : Pic) (rs cs : List Nat) : (rs.filter fun i => decide (((cs.filter fun j => decide ((p[i]!)[j]! = false)).map fun _ => 1) = [])) = fullQ p rs cs := by
  unfold fullQ
  refine List.filter_congr fun i _ => decide_eq_decide.mpr ?_
  rw [List.map_eq_nil_iff, List.filter_eq_nil_iff]
  exact forall_congr' fun j => forall_congr' fun _ => by cases (p[i]!)[j]! <;> simp
theorem ones_emp (p : Pic) (rs cs : List Nat) : (cs.filter fun j => decide (((rs.filter fun i => decide ((p[i]!)[j]! = true)).map fun _ => 1) = [])) = empQ p rs cs := by
  unfold empQ
  refine List.filter_congr fun i _ => decide_eq_decide.mpr ?_
  rw [List.map_eq_nil_iff, List.filter_eq_nil_iff]
  exact forall_congr' fun j => forall_congr' fun _ => by cases (p[j]!)[i]! <;> simp
theorem liter_sub (p : Pic) : ∀ n, (liter p n).2.1.Sublist (List.range p.length) ∧ (liter p n).2.2.Sublist (List.range p[0]!.length) ∧ (liter p n).1.length ≤ n
  | 0 => ⟨.refl _, .refl _, Nat.le_refl _⟩
  | n + 1 => by
    obtain ⟨a, b, c⟩ := liter_sub p n
    unfold liter lstep
    split
    · exact ⟨(List.filter_sublist).trans a, b, by simp; omega⟩
    · split
      · exact ⟨a, (List.filter_sublist).trans b, by simp; omega⟩
      · exact ⟨a, b, by omega⟩
theorem sub_len {α : Type} {n : Nat} : ∀ {xs : List (List α)}, (∀ x ∈ xs, x.length ≤ n) → xs.flatten.length ≤ xs.length * n
  | [], _ => by simp
  | x :: xs, h => by
    rw [List.flatten_cons, List.length_append, List.length_cons, Nat.add_mul]
    have := h x List.mem_cons_self
    have := sub_len fun y hy => h y (List.mem_cons_of_mem _ hy)
    omega
theorem liter_row {p : Pic} {n i : Nat} (h : i ∈ (liter p n).2.1) : i < p.length := List.mem_range.mp ((liter_sub p n).1.subset h)
theorem liter_col {p : Pic} {n j : Nat} (h : j ∈ (liter p n).2.2) : j < p[0]!.length := List.mem_range.mp ((liter_sub p n).2.1.subset h)
/-- what a layer is -/
theorem liter_layer {p : Pic} : ∀ n, ∀ x ∈ (liter p n).1, x ≠ [] ∧ x.Pairwise (· < ·) ∧ ((∀ l ∈ x, l < p.length) ∨ ∀ l ∈ x, p.length ≤ l ∧ l < p.length + p[0]!.length)
  | 0, x, hx => by cases hx
  | n + 1, x, hx => by
    obtain ⟨s1, s2, s3⟩ := liter_sub p n
    unfold liter lstep at hx
    split at hx
    · rename_i ne
      rcases List.mem_append.mp hx with hx | hx
      · exact liter_layer n x hx
      · have := List.mem_singleton.mp hx
        subst this
        exact ⟨ne, (List.pairwise_lt_range.sublist s1).sublist List.filter_sublist, .inl fun l hl => liter_row (List.mem_filter.mp hl).1⟩
    · split at hx
      · rename_i ne
        rcases List.mem_append.mp hx with hx | hx
        · exact liter_layer n x hx
        · have := List.mem_singleton.mp hx
          subst this
          refine ⟨fun e => ne (List.map_eq_nil_iff.mp e), List.pairwise_map.mpr (((List.pairwise_lt_range.sublist s2).sublist List.filter_sublist).imp fun h => by omega), .inr fun l hl => ?_⟩
          obtain ⟨j, hj, rfl⟩ := List.mem_map.mp hl
          have := liter_col (List.mem_filter.mp hj).1
          omega
      · exact liter_layer n x hx
theorem liter_len {p : Pic} (k : PicP p) (n : Nat) : ∀ x ∈ (liter p n).1, x.length ≤ 30 := by
  induction n with
  | zero => intro x hx; cases hx
  | succ n ih =>
    intro x hx
    obtain ⟨s1, s2, s3⟩ := liter_sub p n
    have l1 := s1.length_le
    have l2 := s2.length_le
    rw [List.length_range] at l1 l2
    have := k.h30; have := k.w30
    unfold liter lstep at hx
    split at hx
    · rcases List.mem_append.mp hx with hx | hx
      · exact ih x hx
      · have := List.mem_singleton.mp hx
        subst this
        have : (fullQ p (liter p n).2.1 (liter p n).2.2).length ≤ (liter p n).2.1.length := len_filter_le _ _
        omega
    · split at hx
      · rcases List.mem_append.mp hx with hx | hx
        · exact ih x hx
        · have := List.mem_singleton.mp hx
          subst this
          rw [List.length_map]
          have : (empQ p (liter p n).2.1 (liter p n).2.2).length ≤ (liter p n).2.2.length := len_filter_le _ _
          omega
      · exact ih x hx
theorem layersQ_len {p : Pic} (k : PicP p) : (layersQ p).length ≤ 60 ∧ ∀ x ∈ layersQ p, x.length ≤ 30 := by
  have := k.h30; have := k.w30
  exact ⟨Nat.le_trans (liter_sub p _).2.2 (by omega), liter_len k _⟩
theorem layersQ_flat {p : Pic} (k : PicP p) : (layersQ p).flatten.length ≤ 1800 := by
  obtain ⟨a, b⟩ := layersQ_len k
  exact Nat.le_trans (sub_len b) (Nat.le_trans (Nat.mul_le_mul_right 30 a) (by omega))
theorem layersQ_layer {p : Pic} : ∀ x ∈ layersQ p, x ≠ [] ∧ x.Pairwise (· < ·) ∧ ((∀ l ∈ x, l < p.length) ∨ ∀ l ∈ x, p.length ≤ l ∧ l < p.length + p[0]!.length) := liter_layer _
theorem coreQ_lt {p : Pic} {l : Nat} (h : l ∈ coreQ p) : l < p.length + p[0]!.length := List.mem_range.mp (List.mem_filter.mp h).1
theorem coreQ_len {p : Pic} (k : PicP p) : (coreQ p).length ≤ 60 := by
  have := k.h30; have := k.w30
  have h := len_filter_le (fun l => decide (l ∉ (layersQ p).flatten)) (List.range (p.length + p[0]!.length))
  rw [List.length_range] at h
  unfold coreQ
  omega
def leadsQ (p : Pic) (l : Nat) : List Nat := if l < p.length then ((List.range p[0]!.length).filter fun j => decide ((p[l]!)[j]! = false)).map fun j => p.length + j else (List.range p.length).filter fun i => decide ((p[i]!)[l - p.length]! = true)
/-- the lines left -/
def lv (p : Pic) (s : List (List Nat) × List Nat × List Nat) : List Nat := s.2.1 ++ s.2.2.map fun j => p.length + j
/-- the lines left without arrows to lines left -/
def freeQ (p : Pic) (s : List (List Nat) × List Nat × List Nat) : List Nat := (lv p s).filter fun l => decide (¬∃ o ∈ leadsQ p l, o ∈ lv p s)
theorem mem_lv {p : Pic} {s : List (List Nat) × List Nat × List Nat} (hr : ∀ i ∈ s.2.1, i < p.length) (l : Nat) : l ∈ lv p s ↔ (l < p.length ∧ l ∈ s.2.1) ∨ (p.length ≤ l ∧ l - p.length ∈ s.2.2) := by
  unfold lv
  rw [List.mem_append, List.mem_map]
  constructor
  · rintro (h | ⟨j, hj, rfl⟩)
    · exact .inl ⟨hr l h, h⟩
    · exact .inr ⟨by omega, by rw [Nat.add_sub_cancel_left]; exact hj⟩
  · rintro (⟨_, h⟩ | ⟨h1, h2⟩)
    · exact .inl h
    · exact .inr ⟨_, h2, by omega⟩
theorem freeQ_eq {p : Pic} {s : List (List Nat) × List Nat × List Nat} (hr : ∀ i ∈ s.2.1, i < p.length) (hc : ∀ j ∈ s.2.2, j < p[0]!.length) : freeQ p s = fullQ p s.2.1 s.2.2 ++ (empQ p s.2.1 s.2.2).map fun j => p.length + j := by
  unfold freeQ
  have e : lv p s = s.2.1 ++ s.2.2.map fun j => p.length + j := rfl
  conv => lhs; arg 2; rw [e]
  rw [List.filter_append]
  congr 1
  · unfold fullQ
    refine List.filter_congr fun i hi => decide_eq_decide.mpr ?_
    have hi' := hr i hi
    unfold leadsQ
    rw [if_pos hi']
    constructor
    · intro h j hj
      cases q : (p[i]!)[j]! with
      | true => rfl
      | false => exact (h ⟨p.length + j, List.mem_map.mpr ⟨j, List.mem_filter.mpr ⟨List.mem_range.mpr (hc j hj), decide_eq_true q⟩, rfl⟩, (mem_lv hr _).mpr (.inr ⟨by omega, by rw [Nat.add_sub_cancel_left]; exact hj⟩)⟩).elim
    · rintro h ⟨o, ho, hl⟩
      obtain ⟨j, hj, rfl⟩ := List.mem_map.mp ho
      have q := of_decide_eq_true (List.mem_filter.mp hj).2
      rcases (mem_lv hr _).mp hl with ⟨a, _⟩ | ⟨_, b⟩
      · omega
      · rw [Nat.add_sub_cancel_left] at b
        rw [h j b] at q; cases q
  · rw [List.filter_map]
    congr 1
    unfold empQ
    refine List.filter_congr fun j hj => decide_eq_decide.mpr ?_
    show (¬∃ o ∈ leadsQ p (p.length + j), o ∈ lv p s) ↔ _
    unfold leadsQ
    rw [if_neg (by omega), Nat.add_sub_cancel_left]
    constructor
    · intro h i hi
      cases q : (p[i]!)[j]! with
      | false => rfl
      | true => exact (h ⟨i, List.mem_filter.mpr ⟨List.mem_range.mpr (hr i hi), decide_eq_true q⟩, (mem_lv hr _).mpr (.inl ⟨hr i hi, hi⟩)⟩).elim
    · rintro h ⟨o, ho, hl⟩
      obtain ⟨a, b⟩ := List.mem_filter.mp ho
      have q := of_decide_eq_true b
      have a := List.mem_range.mp a
      rcases (mem_lv hr _).mp hl with ⟨_, y⟩ | ⟨y, _⟩
      · rw [h o y] at q; cases q
      · omega
/-- a full row and an empty column are not both there -/
theorem full_emp {p : Pic} {rs cs : List Nat} (h : fullQ p rs cs ≠ []) : empQ p rs cs = [] := by
  obtain ⟨i, hi⟩ := List.exists_mem_of_ne_nil _ h
  obtain ⟨i1, i2⟩ := List.mem_filter.mp hi
  have i2 := of_decide_eq_true i2
  refine List.filter_eq_nil_iff.mpr fun j hj q => ?_
  have q := of_decide_eq_true q i i1
  rw [i2 j hj] at q; cases q
/-- the turn by the free lines -/
theorem lstep_free {p : Pic} {s : List (List Nat) × List Nat × List Nat} (hr : ∀ i ∈ s.2.1, i < p.length) (hc : ∀ j ∈ s.2.2, j < p[0]!.length) (h : freeQ p s ≠ []) :
    (lstep p s).1 = s.1 ++ [freeQ p s] ∧ lv p (lstep p s) = (lv p s).filter fun l => decide (l ∉ freeQ p s) := by
  have e := freeQ_eq hr hc
  by_cases q : fullQ p s.2.1 s.2.2 ≠ []
  · have z := full_emp q
    rw [z, List.map_nil, List.append_nil] at e
    rw [e]
    unfold lstep
    rw [if_pos q]
    refine ⟨rfl, ?_⟩
    unfold lv
    rw [List.filter_append]
    congr 1
    refine (List.filter_eq_self.mpr fun l hl => ?_).symm
    obtain ⟨j, hj, rfl⟩ := List.mem_map.mp hl
    refine decide_eq_true fun y => ?_
    have := hr _ (List.mem_filter.mp y).1
    omega
  · have z : fullQ p s.2.1 s.2.2 = [] := Classical.not_not.mp q
    rw [z, List.nil_append] at e
    have q2 : empQ p s.2.1 s.2.2 ≠ [] := fun y => h (by rw [e, y]; rfl)
    rw [e]
    unfold lstep
    rw [if_neg q, if_pos q2]
    refine ⟨rfl, ?_⟩
    unfold lv
    rw [List.filter_append]
    have a : s.2.1.filter (fun l => decide (l ∉ (empQ p s.2.1 s.2.2).map fun j => p.length + j)) = s.2.1 := List.filter_eq_self.mpr fun l hl => by
      refine decide_eq_true fun y => ?_
      obtain ⟨j, _, rfl⟩ := List.mem_map.mp y
      have := hr _ hl
      omega
    rw [a]
    congr 1
    rw [List.filter_map]
    congr 1
    refine List.filter_congr fun j hj => decide_eq_decide.mpr ?_
    constructor
    · intro y y2
      obtain ⟨j', h1, h2⟩ := List.mem_map.mp y2
      have h2 : p.length + j' = p.length + j := h2
      have : j' = j := by omega
      exact y (this ▸ h1)
    · intro y y2
      exact y (List.mem_map.mpr ⟨j, y2, rfl⟩)
theorem lstep_stop {p : Pic} {s : List (List Nat) × List Nat × List Nat} (hr : ∀ i ∈ s.2.1, i < p.length) (hc : ∀ j ∈ s.2.2, j < p[0]!.length) (h : freeQ p s = []) : lstep p s = s := by
  have e := freeQ_eq hr hc
  rw [h] at e
  have e := (List.append_eq_nil_iff.mp e.symm)
  have e2 := List.map_eq_nil_iff.mp e.2
  unfold lstep
  rw [if_neg (by simp [e.1]), if_neg (by simp [e2])]
theorem liter_stop {p : Pic} {n : Nat} (h : freeQ p (liter p n) = []) : ∀ m, liter p (n + m) = liter p n
  | 0 => rfl
  | m + 1 => by
    show lstep p (liter p (n + m)) = _
    rw [liter_stop h m]
    exact lstep_stop (fun i hi => liter_row hi) (fun j hj => liter_col hj) h
end W
set_option maxHeartbeats 1000000
namespace W
open PySem L2 G T
section
variable {q : Pic}
theorem lv_lt {n l : Nat} (h : l ∈ lv q (liter q n)) : l < q.length + q[0]!.length := by
  rcases (mem_lv (fun i hi => liter_row hi) l).mp h with ⟨a, _⟩ | ⟨_, b⟩
  · omega
  · have := liter_col b; omega
/-- what a turn adds -/
theorem liter_succ (n : Nat) : (freeQ q (liter q n) = [] ∧ liter q (n + 1) = liter q n) ∨ (freeQ q (liter q n) ≠ [] ∧ (liter q (n + 1)).1 = (liter q n).1 ++ [freeQ q (liter q n)] ∧ lv q (liter q (n + 1)) = (lv q (liter q n)).filter fun l => decide (l ∉ freeQ q (liter q n))) := by
  have hr : ∀ i ∈ (liter q n).2.1, i < q.length := fun i hi => liter_row hi
  have hc : ∀ j ∈ (liter q n).2.2, j < q[0]!.length := fun j hj => liter_col hj
  by_cases h : freeQ q (liter q n) = []
  · exact .inl ⟨h, lstep_stop hr hc h⟩
  · obtain ⟨a, b⟩ := lstep_free hr hc h
    exact .inr ⟨h, a, b⟩
/-- a line is left, or it is in a layer -/
theorem lv_flat : ∀ (n : Nat) (l : Nat), l < q.length + q[0]!.length → (l ∈ lv q (liter q n) ↔ l ∉ (liter q n).1.flatten)
  | 0, l, hl => by
    refine ⟨fun _ h => (by cases h), fun _ => ?_⟩
    refine (mem_lv (fun i hi => liter_row (n := 0) hi) l).mpr ?_
    by_cases h : l < q.length
    · exact .inl ⟨h, List.mem_range.mpr h⟩
    · exact .inr ⟨by omega, List.mem_range.mpr (by omega)⟩
  | n + 1, l, hl => by
    have ih := lv_flat n l hl
    rcases liter_succ (q := q) n with ⟨_, e⟩ | ⟨_, e1, e2⟩
    · rw [e]; exact ih
    · rw [e1, e2, List.mem_filter, decide_eq_true_iff, ih, List.flatten_append, List.mem_append]
      simp
theorem nodup_flat : ∀ n : Nat, (liter q n).1.flatten.Nodup ∧ (lv q (liter q n)).Nodup
  | 0 => by
    refine ⟨.nil, ?_⟩
    show (List.range q.length ++ (List.range q[0]!.length).map fun j => q.length + j).Nodup
    rw [← List.range_add]
    exact List.nodup_range
  | n + 1 => by
    obtain ⟨a, b⟩ := nodup_flat n
    rcases liter_succ (q := q) n with ⟨_, e⟩ | ⟨_, e1, e2⟩
    · rw [e]; exact ⟨a, b⟩
    · rw [e1, e2]
      refine ⟨?_, b.sublist List.filter_sublist⟩
      rw [List.flatten_append]
      refine List.nodup_append.mpr ⟨a, ?_, fun x hx y hy e => ?_⟩
      · simp only [List.flatten_cons, List.flatten_nil, List.append_nil]
        exact b.sublist List.filter_sublist
      · simp only [List.flatten_cons, List.flatten_nil, List.append_nil] at hy
        subst e
        have hy := (List.mem_filter.mp hy).1
        exact (lv_flat n x (lv_lt hy)).mp hy hx
theorem free_end : freeQ q (liter q (q.length + q[0]!.length)) = [] := by
  refine Classical.byContradiction fun h => ?_
  have all : ∀ n, n ≤ q.length + q[0]!.length → freeQ q (liter q n) ≠ [] := fun n hn e => by
    obtain ⟨m, hm⟩ : ∃ m, q.length + q[0]!.length = n + m := ⟨_, (Nat.add_sub_cancel' hn).symm⟩
    rw [hm, liter_stop e m] at h
    exact h e
  have len : ∀ n, n ≤ q.length + q[0]!.length → (lv q (liter q n)).length + n ≤ q.length + q[0]!.length := by
    intro n
    induction n with
    | zero =>
      intro _
      show (List.range q.length ++ (List.range q[0]!.length).map fun j => q.length + j).length + 0 ≤ _
      rw [← List.range_add, List.length_range]; exact Nat.le_refl _
    | succ n ih =>
      intro hn
      have ih := ih (by omega)
      have ne := all n (by omega)
      rcases liter_succ (q := q) n with ⟨e, _⟩ | ⟨_, _, e2⟩
      · exact (ne e).elim
      · rw [e2]
        obtain ⟨z, hz⟩ := List.exists_mem_of_ne_nil _ ne
        have hz2 : z ∈ lv q (liter q n) := (List.mem_filter.mp hz).1
        have : ((lv q (liter q n)).filter fun l => decide (l ∉ freeQ q (liter q n))).length < (lv q (liter q n)).length := by
          refine Nat.lt_of_le_of_ne (len_filter_le _ _) fun e => ?_
          have := List.length_filter_eq_length_iff.mp e z hz2
          exact of_decide_eq_true this hz
        omega
  have z := len _ (Nat.le_refl _)
  have : lv q (liter q (q.length + q[0]!.length)) = [] := List.eq_nil_of_length_eq_zero (by omega)
  unfold freeQ at h
  rw [this] at h
  exact h rfl
theorem core_lv (l : Nat) : l ∈ coreQ q ↔ l ∈ lv q (liter q (q.length + q[0]!.length)) := by
  unfold coreQ
  rw [List.mem_filter, List.mem_range, decide_eq_true_iff]
  constructor
  · rintro ⟨a, b⟩; exact (lv_flat _ l a).mpr b
  · intro h; exact ⟨lv_lt h, (lv_flat _ l (lv_lt h)).mp h⟩
/-- a line of the core leads to one -/
theorem core_leads {l : Nat} (h : l ∈ coreQ q) : ∃ o ∈ leadsQ q l, o ∈ coreQ q := by
  refine Classical.byContradiction fun z => ?_
  have hl := (core_lv l).mp h
  have : l ∈ freeQ q (liter q (q.length + q[0]!.length)) := by
    refine List.mem_filter.mpr ⟨hl, decide_eq_true ?_⟩
    rintro ⟨o, ho, h2⟩
    exact z ⟨o, ho, (core_lv o).mpr h2⟩
  rw [free_end] at this
  cases this
theorem layer_or_core {l : Nat} (h : l < q.length + q[0]!.length) : l ∈ coreQ q ∨ l ∈ (layersQ q).flatten := by
  by_cases z : l ∈ (layersQ q).flatten
  · exact .inr z
  · exact .inl ((core_lv l).mpr ((lv_flat _ l h).mpr z))
theorem mem_flat {l : Nat} {L : List (List Nat)} (h : l ∈ L.flatten) : ∃ k, k < L.length ∧ l ∈ L[k]! := by
  obtain ⟨s, h1, h2⟩ := List.mem_flatten.mp h
  obtain ⟨k, hk, e⟩ := List.getElem_of_mem h1
  exact ⟨k, hk, by rw [getElem!_pos L k hk, e]; exact h2⟩
theorem flat_mem {l k : Nat} {L : List (List Nat)} (hk : k < L.length) (h : l ∈ L[k]!) : l ∈ L.flatten := List.mem_flatten.mpr ⟨L[k]!, mem_get! hk, h⟩
/-- the colour of a line against one of the other kind that is in no layer up to its own -/
theorem liter_color : ∀ (n k : Nat), k < (liter q n).1.length →
    (∀ i ∈ (liter q n).1[k]!, i < q.length → ∀ j, j < q[0]!.length → (∀ m ≤ k, q.length + j ∉ (liter q n).1[m]!) → (q[i]!)[j]! = true) ∧
    (∀ j, q.length + j ∈ (liter q n).1[k]! → ∀ i, i < q.length → (∀ m ≤ k, i ∉ (liter q n).1[m]!) → (q[i]!)[j]! = false)
  | 0, k, hk => by cases hk
  | n + 1, k, hk => by
    rcases liter_succ (q := q) n with ⟨_, e⟩ | ⟨ne, e1, e2⟩
    · rw [e] at hk ⊢; exact liter_color n k hk
    · rw [e1] at hk ⊢
      rw [List.length_append, List.length_singleton] at hk
      by_cases hlt : k < (liter q n).1.length
      · obtain ⟨a, b⟩ := liter_color n k hlt
        have eq : ∀ m ≤ k, ((liter q n).1 ++ [freeQ q (liter q n)])[m]! = (liter q n).1[m]! := fun m hm => get!_append_left (by omega)
        rw [eq k (Nat.le_refl _)]
        exact ⟨fun i hi h1 j h2 hm => a i hi h1 j h2 fun m h => by rw [← eq m h]; exact hm m h, fun j hj i h1 hm => b j hj i h1 fun m h => by rw [← eq m h]; exact hm m h⟩
      · have ek : k = (liter q n).1.length := by omega
        have hr : ∀ i ∈ (liter q n).2.1, i < q.length := fun i hi => liter_row hi
        have hc : ∀ j ∈ (liter q n).2.2, j < q[0]!.length := fun j hj => liter_col hj
        have gk : ((liter q n).1 ++ [freeQ q (liter q n)])[k]! = freeQ q (liter q n) := by
          rw [get!_append_right (by omega) (by rw [List.length_singleton]; omega), ek, Nat.sub_self]; rfl
        rw [gk]
        -- a line in no list so far is left
        have left : ∀ o, o < q.length + q[0]!.length → (∀ m ≤ k, o ∉ ((liter q n).1 ++ [freeQ q (liter q n)])[m]!) → o ∈ lv q (liter q n) := fun o ho hm => by
          refine (lv_flat n o ho).mpr fun z => ?_
          obtain ⟨m, h1, h2⟩ := mem_flat z
          refine hm m (by omega) ?_
          rw [get!_append_left h1]; exact h2
        rw [freeQ_eq hr hc] at gk ⊢
        refine ⟨fun i hi h1 j h2 hm => ?_, fun j hj i h1 hm => ?_⟩
        · have hl := left (q.length + j) (by omega) (by rw [freeQ_eq hr hc]; exact hm)
          have hj : j ∈ (liter q n).2.2 := by
            rcases (mem_lv hr _).mp hl with ⟨y, _⟩ | ⟨_, y⟩
            · omega
            · rwa [Nat.add_sub_cancel_left] at y
          rcases List.mem_append.mp hi with hi | hi
          · exact of_decide_eq_true (List.mem_filter.mp hi).2 j hj
          · obtain ⟨j', _, rfl⟩ := List.mem_map.mp hi
            omega
        · have hl := left i (by omega) (by rw [freeQ_eq hr hc]; exact hm)
          have hi : i ∈ (liter q n).2.1 := by
            rcases (mem_lv hr _).mp hl with ⟨_, y⟩ | ⟨y, _⟩
            · exact y
            · omega
          rcases List.mem_append.mp hj with hj | hj
          · have := hr _ (List.mem_filter.mp hj).1
            omega
          · obtain ⟨j', h3, h4⟩ := List.mem_map.mp hj
            have h4 : q.length + j' = q.length + j := h4
            have : j' = j := by omega
            subst this
            exact of_decide_eq_true (List.mem_filter.mp h3).2 i hi
/-- layers go by turns: the lists of a kind that was told last are used up -/
theorem liter_turn : ∀ n : Nat, ((liter q n).1 ≠ [] → ((∀ l ∈ (liter q n).1[(liter q n).1.length - 1]!, l < q.length) → fullQ q (liter q n).2.1 (liter q n).2.2 = []) ∧ ((∀ l ∈ (liter q n).1[(liter q n).1.length - 1]!, q.length ≤ l) → empQ q (liter q n).2.1 (liter q n).2.2 = [])) ∧
    ∀ k, k + 1 < (liter q n).1.length → ((∀ l ∈ (liter q n).1[k]!, l < q.length) ∧ ∀ l ∈ (liter q n).1[k + 1]!, q.length ≤ l) ∨ ((∀ l ∈ (liter q n).1[k]!, q.length ≤ l) ∧ ∀ l ∈ (liter q n).1[k + 1]!, l < q.length)
  | 0 => ⟨fun h => (h rfl).elim, fun k hk => by simp [liter] at hk⟩
  | n + 1 => by
    obtain ⟨a, b⟩ := liter_turn n
    have hr : ∀ i ∈ (liter q n).2.1, i < q.length := fun i hi => liter_row hi
    by_cases f : fullQ q (liter q n).2.1 (liter q n).2.2 ≠ []
    · have e : liter q (n + 1) = ((liter q n).1 ++ [fullQ q (liter q n).2.1 (liter q n).2.2], (liter q n).2.1.filter fun i => decide (i ∉ fullQ q (liter q n).2.1 (liter q n).2.2), (liter q n).2.2) := by
        show lstep q (liter q n) = _
        unfold lstep; rw [if_pos f]
      rw [e]
      have g : ((liter q n).1 ++ [fullQ q (liter q n).2.1 (liter q n).2.2])[(liter q n).1.length]! = fullQ q (liter q n).2.1 (liter q n).2.2 := by
        rw [get!_append_right (Nat.le_refl _) (by rw [List.length_singleton]; omega), Nat.sub_self]; rfl
      have rows : ∀ l ∈ fullQ q (liter q n).2.1 (liter q n).2.2, l < q.length := fun l hl => hr l (List.mem_filter.mp hl).1
      refine ⟨fun _ => ⟨fun _ => ?_, fun h => ?_⟩, fun k hk => ?_⟩
      · refine List.filter_eq_nil_iff.mpr fun i hi z => ?_
        obtain ⟨h1, h2⟩ := List.mem_filter.mp hi
        exact of_decide_eq_true h2 (List.mem_filter.mpr ⟨h1, z⟩)
      · simp only [List.length_append, List.length_singleton, Nat.add_sub_cancel] at h
        rw [g] at h
        obtain ⟨z, hz⟩ := List.exists_mem_of_ne_nil _ f
        have := h z hz; have := rows z hz; omega
      · simp only [List.length_append, List.length_singleton] at hk
        by_cases hlt : k + 1 < (liter q n).1.length
        · rw [get!_append_left (by omega), get!_append_left hlt]; exact b k hlt
        · have ek : k + 1 = (liter q n).1.length := by omega
          have kk : k = (liter q n).1.length - 1 := by omega
          have ne : (liter q n).1 ≠ [] := fun z => by rw [z] at ek; simp at ek
          rw [ek, g, get!_append_left (by omega), kk]
          refine .inr ⟨?_, rows⟩
          have hm := mem_get! (xs := (liter q n).1) (i := (liter q n).1.length - 1) (by omega)
          rcases (liter_layer n _ hm).2.2 with h | h
          · exact (f ((a ne).1 h)).elim
          · exact fun l hl => (h l hl).1
    · have f0 : fullQ q (liter q n).2.1 (liter q n).2.2 = [] := Classical.not_not.mp f
      by_cases m : empQ q (liter q n).2.1 (liter q n).2.2 ≠ []
      · have e : liter q (n + 1) = ((liter q n).1 ++ [(empQ q (liter q n).2.1 (liter q n).2.2).map fun j => q.length + j], (liter q n).2.1, (liter q n).2.2.filter fun j => decide (j ∉ empQ q (liter q n).2.1 (liter q n).2.2)) := by
          show lstep q (liter q n) = _
          unfold lstep; rw [if_neg f, if_pos m]
        rw [e]
        have g : ((liter q n).1 ++ [(empQ q (liter q n).2.1 (liter q n).2.2).map fun j => q.length + j])[(liter q n).1.length]! = (empQ q (liter q n).2.1 (liter q n).2.2).map fun j => q.length + j := by
          rw [get!_append_right (Nat.le_refl _) (by rw [List.length_singleton]; omega), Nat.sub_self]; rfl
        have cols : ∀ l ∈ (empQ q (liter q n).2.1 (liter q n).2.2).map (fun j => q.length + j), q.length ≤ l := fun l hl => by
          obtain ⟨j, _, rfl⟩ := List.mem_map.mp hl; omega
        have mne : (empQ q (liter q n).2.1 (liter q n).2.2).map (fun j => q.length + j) ≠ [] := fun z => m (List.map_eq_nil_iff.mp z)
        refine ⟨fun _ => ⟨fun h => ?_, fun _ => ?_⟩, fun k hk => ?_⟩
        · simp only [List.length_append, List.length_singleton, Nat.add_sub_cancel] at h
          rw [g] at h
          obtain ⟨z, hz⟩ := List.exists_mem_of_ne_nil _ mne
          have := h z hz; have := cols z hz; omega
        · refine List.filter_eq_nil_iff.mpr fun i hi z => ?_
          obtain ⟨h1, h2⟩ := List.mem_filter.mp hi
          exact of_decide_eq_true h2 (List.mem_filter.mpr ⟨h1, z⟩)
        · simp only [List.length_append, List.length_singleton] at hk
          by_cases hlt : k + 1 < (liter q n).1.length
          · rw [get!_append_left (by omega), get!_append_left hlt]; exact b k hlt
          · have ek : k + 1 = (liter q n).1.length := by omega
            have kk : k = (liter q n).1.length - 1 := by omega
            have ne : (liter q n).1 ≠ [] := fun z => by rw [z] at ek; simp at ek
            rw [ek, g, get!_append_left (by omega), kk]
            refine .inl ⟨?_, cols⟩
            have hm := mem_get! (xs := (liter q n).1) (i := (liter q n).1.length - 1) (by omega)
            rcases (liter_layer n _ hm).2.2 with h | h
            · exact h
            · exact (m ((a ne).2 fun l hl => (h l hl).1)).elim
      · have e : liter q (n + 1) = liter q n := by
          show lstep q (liter q n) = _
          unfold lstep; rw [if_neg f, if_neg m]
        rw [e]; exact ⟨a, b⟩
theorem color_row {i j k : Nat} (hk : k < (layersQ q).length) (hi : i ∈ (layersQ q)[k]!) (h1 : i < q.length) (h2 : j < q[0]!.length) (hm : ∀ m ≤ k, q.length + j ∉ (layersQ q)[m]!) : (q[i]!)[j]! = true := (liter_color _ k hk).1 i hi h1 j h2 hm
theorem color_col {i j k : Nat} (hk : k < (layersQ q).length) (hj : q.length + j ∈ (layersQ q)[k]!) (h1 : i < q.length) (hm : ∀ m ≤ k, i ∉ (layersQ q)[m]!) : (q[i]!)[j]! = false := (liter_color _ k hk).2 j hj i h1 hm
theorem layers_turn {k : Nat} (hk : k + 1 < (layersQ q).length) : ((∀ l ∈ (layersQ q)[k]!, l < q.length) ∧ ∀ l ∈ (layersQ q)[k + 1]!, q.length ≤ l) ∨ ((∀ l ∈ (layersQ q)[k]!, q.length ≤ l) ∧ ∀ l ∈ (layersQ q)[k + 1]!, l < q.length) := (liter_turn _).2 k hk
theorem layers_nodup : (layersQ q).flatten.Nodup := (nodup_flat _).1
theorem layers_lt {l : Nat} (h : l ∈ (layersQ q).flatten) : l < q.length + q[0]!.length := by
  obtain ⟨s, h1, h2⟩ := List.mem_flatten.mp h
  rcases (layersQ_layer s h1).2.2 with z | z
  · have := z l h2; omega
  · exact (z l h2).2
theorem nodup_idx {L : List (List Nat)} (h : L.flatten.Nodup) {a b l : Nat} (ha : a < L.length) (hb : b < L.length) (h1 : l ∈ L[a]!) (h2 : l ∈ L[b]!) : a = b := by
  induction L generalizing a b with
  | nil => cases ha
  | cons s L ih =>
    rw [List.flatten_cons] at h
    obtain ⟨n1, n2, n3⟩ := List.nodup_append.mp h
    cases a with
    | zero =>
      cases b with
      | zero => rfl
      | succ b => exact (n3 l h1 l (flat_mem (by simpa using hb) h2) rfl).elim
    | succ a =>
      cases b with
      | zero => exact (n3 l h2 l (flat_mem (by simpa using ha) h1) rfl).elim
      | succ b => rw [ih n2 (by simpa using ha) (by simpa using hb) h1 h2]
end
end W
set_option maxHeartbeats 1000000
namespace W
open PySem L2 G T
/-- the last deed that meets a cell: its colour -/
def hit (h i j : Nat) : List Nat → Option Bool
  | [] => none
  | l :: ls => (hit h i j ls).or (if l = i then some true else if l = h + j then some false else none)
theorem hit_cons (h i j l : Nat) (ls : List Nat) : hit h i j (l :: ls) = (hit h i j ls).or (if l = i then some true else if l = h + j then some false else none) := rfl
theorem hit_app (h i j : Nat) (a b : List Nat) : hit h i j (a ++ b) = (hit h i j b).or (hit h i j a) := by
  induction a with
  | nil => simp [hit]
  | cons l a ih =>
    rw [List.cons_append, hit_cons, hit_cons, ih, Option.or_assoc]
theorem hit_none {h i j : Nat} : ∀ {ls : List Nat}, i ∉ ls → h + j ∉ ls → hit h i j ls = none
  | [], _, _ => rfl
  | l :: ls, h1, h2 => by
    rw [hit_cons]
    rw [hit_none (fun z => h1 (List.mem_cons_of_mem _ z)) (fun z => h2 (List.mem_cons_of_mem _ z)), if_neg (fun e => h1 (by rw [e]; exact List.mem_cons_self)), if_neg (fun e => h2 (by rw [e]; exact List.mem_cons_self))]; rfl
theorem hit_true {h i j : Nat} : ∀ {ls : List Nat}, hit h i j ls = some true → i ∈ ls
  | l :: ls, e => by
    rw [hit_cons] at e
    cases q : hit h i j ls with
    | some b =>
      rw [q] at e
      have e : some b = some true := e
      exact List.mem_cons_of_mem _ (hit_true (q.trans e))
    | none =>
      rw [q] at e
      have e : (if l = i then some true else if l = h + j then some false else none) = some true := e
      split at e
      · rename_i z; rw [z]; exact List.mem_cons_self
      · split at e <;> cases e
theorem hit_false {h i j : Nat} : ∀ {ls : List Nat}, hit h i j ls = some false → h + j ∈ ls
  | l :: ls, e => by
    rw [hit_cons] at e
    cases q : hit h i j ls with
    | some b =>
      rw [q] at e
      have e : some b = some false := e
      exact List.mem_cons_of_mem _ (hit_false (q.trans e))
    | none =>
      rw [q] at e
      have e : (if l = i then some true else if l = h + j then some false else none) = some false := e
      split at e
      · cases e
      · split at e
        · rename_i z; rw [← z]; exact List.mem_cons_self
        · cases e
theorem hit_some {h i j : Nat} : ∀ {ls : List Nat}, (i ∈ ls ∨ h + j ∈ ls) → ∃ b, hit h i j ls = some b
  | [], e => by simp at e
  | l :: ls, e => by
    rw [hit_cons]
    cases q : hit h i j ls with
    | some b => exact ⟨b, rfl⟩
    | none =>
      by_cases z : l = i
      · rw [if_pos z]; exact ⟨true, rfl⟩
      · rw [if_neg z]
        by_cases y : l = h + j
        · rw [if_pos y]; exact ⟨false, rfl⟩
        · have : i ∈ ls ∨ h + j ∈ ls := e.imp (fun e => (List.mem_cons.mp e).resolve_left fun x => z x.symm) (fun e => (List.mem_cons.mp e).resolve_left fun x => y x.symm)
          obtain ⟨b, hb⟩ := hit_some (ls := ls) this
          rw [hb] at q; cases q
section
variable {p q : Pic}
theorem linesQ_get (k : PicP p) {i j : Nat} (hi : i < p.length) (hj : j < p[0]!.length) (ls : List Nat) : ((linesQ p ls)[i]!)[j]! = (hit p.length i j ls).getD ((p[i]!)[j]!) := by
  induction ls generalizing p with
  | nil => rfl
  | cons l ls ih =>
    have e := ih (p := lineQ p l) (lineQ_pp k l) (by rw [lineQ_len]; exact hi) (by rw [lineQ_wid k]; exact hj)
    show ((linesQ (lineQ p l) ls)[i]!)[j]! = _
    rw [e, lineQ_len, lineQ_get hi hj]
    rw [hit_cons]
    cases hit p.length i j ls with
    | some b => rfl
    | none =>
      show (if l = i then true else if l = p.length + j then false else (p[i]!)[j]!) = _
      by_cases z : l = i
      · rw [if_pos z, if_pos z]; rfl
      · rw [if_neg z, if_neg z]
        by_cases y : l = p.length + j
        · rw [if_pos y, if_pos y]; rfl
        · rw [if_neg y, if_neg y]; rfl
/-- the cells where two pictures differ, row by row -/
def diffQ (p q : Pic) : List (Nat × Nat) := (List.range p.length).flatMap fun i => ((List.range p[0]!.length).filter fun j => decide ((p[i]!)[j]! ≠ (q[i]!)[j]!)).map fun j => (i, j)
/-- both pictures are on one board -/
structure Like (p q : Pic) : Prop where
  pp : PicP p
  qq : PicP q
  hh : p.length = q.length
  ww : p[0]!.length = q[0]!.length
theorem mem_diff {c : Nat × Nat} : c ∈ diffQ p q ↔ c.1 < p.length ∧ c.2 < p[0]!.length ∧ (p[c.1]!)[c.2]! ≠ (q[c.1]!)[c.2]! := by
  unfold diffQ
  rw [List.mem_flatMap]
  constructor
  · rintro ⟨i, hi, h⟩
    obtain ⟨j, hj, rfl⟩ := List.mem_map.mp h
    obtain ⟨a, b⟩ := List.mem_filter.mp hj
    exact ⟨List.mem_range.mp hi, List.mem_range.mp a, of_decide_eq_true b⟩
  · rintro ⟨a, b, c'⟩
    exact ⟨c.1, List.mem_range.mpr a, List.mem_map.mpr ⟨c.2, List.mem_filter.mpr ⟨List.mem_range.mpr b, decide_eq_true c'⟩, rfl⟩⟩
/-- a cell lies in one of some lines -/
abbrev Touch (h : Nat) (c : Nat × Nat) (s : List Nat) : Prop := c.1 ∈ s ∨ h + c.2 ∈ s
def leastL (h : Nat) : List (List Nat) → List (Nat × Nat) → Option (List (List Nat))
  | [], left => if left = [] then some [] else none
  | s :: ls, left => if left = [] then some [] else
    if left.filter (fun c => decide (¬Touch h c s)) = [] then some [s.filter fun l => decide (∃ c ∈ left, l = c.1 ∨ l = h + c.2)]
    else (leastL h ls (left.filter fun c => decide (¬Touch h c s))).map (s :: ·)
def leastQ (p q : Pic) : Option (List (List Nat)) := leastL p.length (layersQ q) (diffQ p q)
/-- the cells of difference in no layer ahead of the n-th -/
def leftQ (p q : Pic) (n : Nat) : List (Nat × Nat) := (diffQ p q).filter fun c => decide (∀ m < n, ¬Touch p.length c (layersQ q)[m]!)
theorem leftQ_zero (p q : Pic) : leftQ p q 0 = diffQ p q := List.filter_eq_self.mpr fun c _ => decide_eq_true fun m hm => by omega
theorem leftQ_succ (p q : Pic) (n : Nat) : (leftQ p q n).filter (fun c => decide (¬Touch p.length c (layersQ q)[n]!)) = leftQ p q (n + 1) := by
  unfold leftQ
  rw [List.filter_filter]
  refine List.filter_congr fun c _ => ?_
  rw [← Bool.decide_and]
  refine decide_eq_decide.mpr ⟨fun ⟨a, b⟩ m hm => ?_, fun a => ⟨a n (by omega), fun m hm => a m (by omega)⟩⟩
  by_cases e : m = n
  · rw [e]; exact a
  · exact b m (by omega)
theorem drop_cons {α : Type} [Inhabited α] {L : List α} {n : Nat} {s : α} {ls : List α} (h : L.drop n = s :: ls) : n < L.length ∧ s = L[n]! ∧ ls = L.drop (n + 1) := by
  have hn : n < L.length := by
    refine Classical.byContradiction fun z => ?_
    rw [List.drop_of_length_le (by omega)] at h; cases h
  rw [List.drop_eq_getElem_cons hn] at h
  injection h with h1 h2
  exact ⟨hn, by rw [getElem!_pos L n hn, h1], h2.symm⟩
theorem drop_nil {α : Type} {L : List α} {n : Nat} (h : L.drop n = []) : L.length ≤ n := by
  have := congrArg List.length h
  rw [List.length_drop] at this
  simp at this; omega
/-- the least set, told from the n-th layer on, makes the goal at the cells in no layer ahead of it -/
theorem least_makes (k : Like p q) : ∀ (ls : List (List Nat)) (n : Nat) (told : List (List Nat)), (layersQ q).drop n = ls → leastL p.length ls (leftQ p q n) = some told →
    ∀ i j, i < p.length → j < p[0]!.length → (∀ m < n, ¬Touch p.length (i, j) (layersQ q)[m]!) → (hit p.length i j told.reverse.flatten).getD ((p[i]!)[j]!) = (q[i]!)[j]! := by
  have same : ∀ n i j, leftQ p q n = [] → i < p.length → j < p[0]!.length → (∀ m < n, ¬Touch p.length (i, j) (layersQ q)[m]!) → (p[i]!)[j]! = (q[i]!)[j]! := fun n i j e hi hj hm => by
    refine Classical.byContradiction fun z => ?_
    have : (i, j) ∈ leftQ p q n := List.mem_filter.mpr ⟨mem_diff.mpr ⟨hi, hj, z⟩, decide_eq_true hm⟩
    rw [e] at this; cases this
  intro ls
  induction ls with
  | nil =>
    intro n told hd he i j hi hj hm
    unfold leastL at he
    split at he
    · rename_i e
      cases he
      exact same n i j e hi hj hm
    · cases he
  | cons s ls ih =>
    intro n told hd he i j hi hj hm
    obtain ⟨hn, es, el⟩ := drop_cons hd
    subst es
    unfold leastL at he
    split at he
    · rename_i e
      cases he
      exact same n i j e hi hj hm
    · rename_i ne
      rw [leftQ_succ] at he
      -- the layer's own colour
      have row : i ∈ (layersQ q)[n]! → (q[i]!)[j]! = true := fun h => by
        refine color_row hn h (by rw [← k.hh]; exact hi) (by rw [← k.ww]; exact hj) fun m hmn z => ?_
        rw [← k.hh] at z
        by_cases e : m = n
        · subst e
          rcases (layersQ_layer _ (mem_get! hn)).2.2 with y | y
          · have := y _ z; rw [← k.hh] at this; omega
          · have := (y _ h).1; rw [← k.hh] at this; omega
        · exact hm m (by omega) (.inr z)
      have col : p.length + j ∈ (layersQ q)[n]! → (q[i]!)[j]! = false := fun h => by
        rw [k.hh] at h
        refine color_col hn h (by rw [← k.hh]; exact hi) fun m hmn z => ?_
        by_cases e : m = n
        · subst e
          rcases (layersQ_layer _ (mem_get! hn)).2.2 with y | y
          · have := y _ h; omega
          · have := (y _ z).1; rw [← k.hh] at this; omega
        · exact hm m (by omega) (.inl z)
      -- what a list of lines of the layer does
      have one : ∀ s', (∀ l ∈ s', l ∈ (layersQ q)[n]!) → (i ∈ s' ∨ p.length + j ∈ s') → hit p.length i j s' = some ((q[i]!)[j]!) := fun s' hs' h => by
        obtain ⟨b, hb⟩ := hit_some h
        rw [hb]
        cases b with
        | true => rw [row (hs' _ (hit_true hb))]
        | false => rw [col (hs' _ (hit_false hb))]
      split at he
      · rename_i e
        cases he
        simp only [List.reverse_cons, List.reverse_nil, List.nil_append, List.flatten_cons, List.flatten_nil, List.append_nil]
        by_cases t : i ∈ ((layersQ q)[n]!).filter (fun l => decide (∃ c ∈ leftQ p q n, l = c.1 ∨ l = p.length + c.2)) ∨ p.length + j ∈ ((layersQ q)[n]!).filter (fun l => decide (∃ c ∈ leftQ p q n, l = c.1 ∨ l = p.length + c.2))
        · rw [one _ (fun l hl => (List.mem_filter.mp hl).1) t]; rfl
        · rw [hit_none (fun z => t (.inl z)) (fun z => t (.inr z))]
          show (p[i]!)[j]! = _
          refine Classical.byContradiction fun z => ?_
          have hc : (i, j) ∈ leftQ p q n := List.mem_filter.mpr ⟨mem_diff.mpr ⟨hi, hj, z⟩, decide_eq_true hm⟩
          by_cases u : Touch p.length (i, j) (layersQ q)[n]!
          · rcases u with u | u
            · exact t (.inl (List.mem_filter.mpr ⟨u, decide_eq_true ⟨_, hc, .inl rfl⟩⟩))
            · exact t (.inr (List.mem_filter.mpr ⟨u, decide_eq_true ⟨_, hc, .inr rfl⟩⟩))
          · have : (i, j) ∈ leftQ p q (n + 1) := by rw [← leftQ_succ]; exact List.mem_filter.mpr ⟨hc, decide_eq_true u⟩
            rw [e] at this; cases this
      · obtain ⟨told', ht, rfl⟩ := Option.map_eq_some_iff.mp he
        rw [List.reverse_cons, List.flatten_append, hit_app]
        simp only [List.flatten_cons, List.flatten_nil, List.append_nil]
        by_cases t : i ∈ (layersQ q)[n]! ∨ p.length + j ∈ (layersQ q)[n]!
        · rw [one _ (fun l hl => hl) t]; rfl
        · rw [hit_none (fun z => t (.inl z)) (fun z => t (.inr z)), Option.none_or]
          refine ih (n + 1) told' el.symm ht i j hi hj fun m hmn => ?_
          by_cases e : m = n
          · rw [e]; exact t
          · exact hm m (by omega)
theorem Like.sd (k : Like p q) (ls : List Nat) : Like (linesQ p ls) q := by
  obtain ⟨a, b, c⟩ := linesQ_pp k.pp ls
  exact ⟨a, k.qq, by rw [b, k.hh], by rw [c, k.ww]⟩
/-- painting the least set, the last layers first, makes the goal -/
theorem least_way (k : Like p q) {told : List (List Nat)} (h : leastQ p q = some told) : linesQ p told.reverse.flatten = q := by
  have s := k.sd told.reverse.flatten
  obtain ⟨a, b, c⟩ := linesQ_pp k.pp told.reverse.flatten
  refine pic_ext s.pp s.qq s.hh s.ww fun i j hi hj => ?_
  rw [b] at hi
  rw [c] at hj
  rw [linesQ_get k.pp hi hj]
  refine least_makes k (layersQ q) 0 told rfl ?_ i j hi hj fun m hm => by omega
  rw [leftQ_zero]; exact h
theorem made_closed (k : Like p q) {ds : List Nat} (h : linesQ p ds = q) {i j : Nat} (hi : i < p.length) (hj : j < p[0]!.length) :
    (i ∈ ds → (q[i]!)[j]! = false → p.length + j ∈ ds) ∧ (p.length + j ∈ ds → (q[i]!)[j]! = true → i ∈ ds) ∧ ((p[i]!)[j]! ≠ (q[i]!)[j]! → ((q[i]!)[j]! = true → i ∈ ds) ∧ ((q[i]!)[j]! = false → p.length + j ∈ ds)) := by
  have e : (q[i]!)[j]! = (hit p.length i j ds).getD ((p[i]!)[j]!) := by rw [← linesQ_get k.pp hi hj, h]
  refine ⟨fun a b => ?_, fun a b => ?_, fun ne => ?_⟩
  · obtain ⟨c, hc⟩ := hit_some (h := p.length) (j := j) (.inl a)
    rw [hc] at e
    have e : (q[i]!)[j]! = c := e
    rw [b] at e; subst e
    exact hit_false hc
  · obtain ⟨c, hc⟩ := hit_some (h := p.length) (i := i) (j := j) (.inr a)
    rw [hc] at e
    have e : (q[i]!)[j]! = c := e
    rw [b] at e; subst e
    exact hit_true hc
  · cases hc : hit p.length i j ds with
    | none => rw [hc] at e; exact (ne e.symm).elim
    | some c =>
      rw [hc] at e
      have e : (q[i]!)[j]! = c := e
      rw [e]
      exact ⟨fun y => by subst y; exact hit_true hc, fun y => by subst y; exact hit_false hc⟩
/-- no line that is painted is in the core of what it makes -/
theorem made_core (k : Like p q) {ds : List Nat} (h : linesQ p ds = q) {l : Nat} (hl : l ∈ ds) : l ∉ coreQ q := by
  -- the last line of the core that is painted
  have key : ∀ (b a : List Nat), ds = a ++ b → (∀ x ∈ b, x ∉ coreQ q) → ∀ x ∈ a, x ∉ coreQ q := by
    intro b a
    induction hn : a.length generalizing a b with
    | zero => intro _ _ x hx; rw [List.length_eq_zero_iff.mp hn] at hx; cases hx
    | succ n ih =>
      rcases List.eq_nil_or_concat a with ea | ⟨a', x, ea⟩
      · rw [ea] at hn; cases hn
      rw [List.concat_eq_append] at ea
      subst ea
      have hn' : a'.length = n := by simp at hn; exact hn
      generalize a' = a at hn' ⊢
      have ih := fun b => ih b a hn'
      intro e hb y hy
      have hx : x ∉ coreQ q := fun hx => by
        obtain ⟨o, ho, hoc⟩ := core_leads hx
        have e2 : ds = a ++ ([x] ++ b) := by rw [e, List.append_assoc]
        have xl := coreQ_lt hx
        unfold leadsQ at ho
        split at ho
        · rename_i lt
          obtain ⟨j, hj, rfl⟩ := List.mem_map.mp ho
          obtain ⟨j1, j2⟩ := List.mem_filter.mp hj
          have j1 := List.mem_range.mp j1
          have j2 := of_decide_eq_true j2
          have c := linesQ_get k.pp (i := x) (j := j) (by rw [k.hh]; exact lt) (by rw [k.ww]; exact j1) ds
          rw [h, j2, e2, hit_app, hit_app, hit_none (fun z => hb _ z hx) (fun z => hb _ z (by rw [k.hh]; exact hoc))] at c
          have c2 : hit p.length x j [x] = some true := by rw [hit_cons, if_pos rfl]; rfl
          rw [c2] at c
          have c : false = true := c
          cases c
        · rename_i nlt
          obtain ⟨j1, j2⟩ := List.mem_filter.mp ho
          have j1 := List.mem_range.mp j1
          have j2 := of_decide_eq_true j2
          have c := linesQ_get k.pp (i := o) (j := x - q.length) (by rw [k.hh]; exact j1) (by rw [k.ww]; omega) ds
          have ex : p.length + (x - q.length) = x := by rw [k.hh]; omega
          rw [h, j2, e2, hit_app, hit_app, hit_none (fun z => hb _ z hoc) (fun z => hb _ z (by rw [ex]; exact hx))] at c
          have c2 : hit p.length o (x - q.length) [x] = some false := by
            rw [hit_cons, if_neg (by omega), if_pos ex.symm]; rfl
          rw [c2] at c
          have c : true = false := c
          cases c
      rcases List.mem_append.mp hy with hy | hy
      · exact ih ([x] ++ b) (by rw [e, List.append_assoc]) (fun z hz => by
          rcases List.mem_append.mp hz with hz | hz
          · rw [List.mem_singleton.mp hz]; exact hx
          · exact hb z hz) y hy
      · rw [List.mem_singleton.mp hy]; exact hx
  exact key [] ds (by simp) (fun x hx => by cases hx) l hl
/-- the least set, told from the n-th layer on: it is there, and all of it is painted -/
theorem least_in (k : Like p q) {ds : List Nat} (h : linesQ p ds = q) (hds : ∀ l ∈ ds, l < p.length + p[0]!.length) : ∀ (ls : List (List Nat)) (n : Nat), (layersQ q).drop n = ls →
    ∃ told, leastL p.length ls (leftQ p q n) = some told ∧ (∀ l ∈ told.flatten, l ∈ ds) ∧ (leftQ p q n ≠ [] → ∃ x, x ∈ told.flatten ∧ x ∈ (layersQ q)[n]!) := by
  intro ls
  induction ls with
  | nil =>
    intro n hd
    have e : leftQ p q n = [] := by
      refine List.filter_eq_nil_iff.mpr fun c hc z => ?_
      have z := of_decide_eq_true z
      obtain ⟨c1, c2, c3⟩ := mem_diff.mp hc
      obtain ⟨m1, m2⟩ := (made_closed k h c1 c2).2.2 c3
      have : ∃ x, x ∈ ds ∧ (x = c.1 ∨ x = p.length + c.2) := by
        cases y : (q[c.1]!)[c.2]! with
        | true => exact ⟨_, m1 y, .inl rfl⟩
        | false => exact ⟨_, m2 y, .inr rfl⟩
      obtain ⟨x, hx, hxc⟩ := this
      have hl := hds x hx
      rw [k.hh, k.ww] at hl
      rcases layer_or_core hl with y | y
      · exact made_core k h hx y
      · obtain ⟨m, hm, hxm⟩ := mem_flat y
        have := drop_nil hd
        refine z m (by omega) ?_
        rcases hxc with e | e
        · exact .inl (e ▸ hxm)
        · exact .inr (e ▸ hxm)
    refine ⟨[], ?_, (fun l hl => (by cases hl)), fun ne => (ne e).elim⟩
    unfold leastL; rw [if_pos e]
  | cons s ls ih =>
    intro n hd
    obtain ⟨hn, es, el⟩ := drop_cons hd
    subst es
    by_cases e : leftQ p q n = []
    · refine ⟨[], ?_, (fun l hl => (by cases hl)), fun ne => (ne e).elim⟩
      unfold leastL; rw [if_pos e]
    -- a cell left, met by a line of this layer, makes that line painted
    have need : ∀ c ∈ leftQ p q n, ∀ l ∈ (layersQ q)[n]!, (l = c.1 ∨ l = p.length + c.2) → l ∈ ds := fun c hc l hl hlc => by
      obtain ⟨c0, z⟩ := List.mem_filter.mp hc
      have z := of_decide_eq_true z
      obtain ⟨c1, c2, c3⟩ := mem_diff.mp c0
      obtain ⟨m1, m2⟩ := (made_closed k h c1 c2).2.2 c3
      have kind := (layersQ_layer _ (mem_get! hn)).2.2
      rcases hlc with rfl | rfl
      · refine m1 (color_row hn hl (by rw [← k.hh]; exact c1) (by rw [← k.ww]; exact c2) fun m hm y => ?_)
        rw [← k.hh] at y
        by_cases e : m = n
        · subst e
          rcases kind with u | u
          · have := u _ y; rw [← k.hh] at this; omega
          · have := (u _ hl).1; rw [← k.hh] at this; omega
        · exact z m (by omega) (.inr y)
      · refine m2 (color_col hn (by rw [← k.hh]; exact hl) (by rw [← k.hh]; exact c1) fun m hm y => ?_)
        by_cases e : m = n
        · subst e
          rcases kind with u | u
          · have := u _ hl; rw [← k.hh] at this; omega
          · have := (u _ y).1; rw [← k.hh] at this; omega
        · exact z m (by omega) (.inl y)
    by_cases e2 : leftQ p q (n + 1) = []
    · refine ⟨_, by unfold leastL; rw [if_neg e, leftQ_succ, if_pos e2], fun l hl => ?_, fun _ => ?_⟩
      · simp only [List.flatten_cons, List.flatten_nil, List.append_nil] at hl
        obtain ⟨l1, l2⟩ := List.mem_filter.mp hl
        obtain ⟨c, hc, hlc⟩ := of_decide_eq_true l2
        exact need c hc l l1 hlc
      · obtain ⟨c, hc⟩ := List.exists_mem_of_ne_nil _ e
        have t : Touch p.length c (layersQ q)[n]! := Classical.byContradiction fun y => by
          have : c ∈ leftQ p q (n + 1) := by rw [← leftQ_succ]; exact List.mem_filter.mpr ⟨hc, decide_eq_true y⟩
          rw [e2] at this; cases this
        simp only [List.flatten_cons, List.flatten_nil, List.append_nil]
        rcases t with t | t
        · exact ⟨_, List.mem_filter.mpr ⟨t, decide_eq_true ⟨c, hc, .inl rfl⟩⟩, t⟩
        · exact ⟨_, List.mem_filter.mpr ⟨t, decide_eq_true ⟨c, hc, .inr rfl⟩⟩, t⟩
    · obtain ⟨told', h1, h2, h3⟩ := ih (n + 1) el.symm
      obtain ⟨x, hx, hxl⟩ := h3 e2
      have xd := h2 x hx
      have hn1 : n + 1 < (layersQ q).length := by
        refine Classical.byContradiction fun y => ?_
        have : (layersQ q)[n + 1]! = [] := by
          rw [List.getElem!_eq_getElem?_getD, List.getElem?_eq_none (by omega)]; rfl
        rw [this] at hxl; cases hxl
      -- the next layer's line leads to all of this layer
      have all : ∀ l ∈ (layersQ q)[n]!, l ∈ ds := fun l hl => by
        have xl := hds x xd
        have no : ∀ m ≤ n, x ∉ (layersQ q)[m]! := fun m hm y => by
          have := nodup_idx layers_nodup (show m < (layersQ q).length by omega) hn1 y hxl
          omega
        have ll := layers_lt (flat_mem hn hl)
        rw [← k.hh, ← k.ww] at ll
        rcases layers_turn hn1 with ⟨a, b⟩ | ⟨a, b⟩
        · -- rows, then columns
          have l1 := a l hl
          have x1 := b x hxl
          rw [← k.hh] at l1 x1
          have ex : p.length + (x - p.length) = x := by omega
          have c := color_row hn hl (j := x - p.length) (by rw [← k.hh]; exact l1) (by rw [← k.ww]; omega) (by rw [← k.hh, ex]; exact no)
          exact (made_closed k h l1 (show x - p.length < p[0]!.length by omega)).2.1 (by rw [ex]; exact xd) c
        · have l1 := a l hl
          have x1 := b x hxl
          rw [← k.hh] at l1 x1
          have ex : p.length + (l - p.length) = l := by omega
          have c := color_col hn (j := l - p.length) (i := x) (by rw [← k.hh, ex]; exact hl) (by rw [← k.hh]; exact x1) no
          have := (made_closed k h x1 (show l - p.length < p[0]!.length by omega)).1 xd c
          rwa [ex] at this
      refine ⟨(layersQ q)[n]! :: told', by unfold leastL; rw [if_neg e, leftQ_succ, if_neg e2, h1]; rfl, fun l hl => ?_, fun _ => ?_⟩
      · rw [List.flatten_cons] at hl
        rcases List.mem_append.mp hl with hl | hl
        · exact all l hl
        · exact h2 l hl
      · obtain ⟨z, hz⟩ := List.exists_mem_of_ne_nil _ (layersQ_layer _ (mem_get! hn)).1
        exact ⟨z, by rw [List.flatten_cons]; exact List.mem_append_left _ hz, hz⟩
/-- what deeds make comes, and all lines of the least set are among them -/
theorem least_made (k : Like p q) {ds : List Nat} (h : linesQ p ds = q) (hds : ∀ l ∈ ds, l < p.length + p[0]!.length) : ∃ told, leastQ p q = some told ∧ ∀ l ∈ told.flatten, l ∈ ds := by
  obtain ⟨told, a, b, _⟩ := least_in k h hds (layersQ q) 0 rfl
  rw [leftQ_zero] at a
  exact ⟨told, a, b⟩
/-- the least set's lists are parts of the layers, in their order -/
inductive Parts : List (List Nat) → List (List Nat) → Prop
  | nil {L : List (List Nat)} : Parts [] L
  | last {s t : List Nat} {L : List (List Nat)} : t.Sublist s → Parts [t] (s :: L)
  | cons {s : List Nat} {T L : List (List Nat)} : Parts T L → Parts (s :: T) (s :: L)
theorem least_parts {h : Nat} : ∀ {ls : List (List Nat)} {left : List (Nat × Nat)} {told : List (List Nat)}, leastL h ls left = some told → Parts told ls
  | [], left, told, e => by
    unfold leastL at e
    split at e
    · cases e; exact .nil
    · cases e
  | s :: ls, left, told, e => by
    unfold leastL at e
    split at e
    · cases e; exact .nil
    · split at e
      · cases e; exact .last List.filter_sublist
      · obtain ⟨t, h1, rfl⟩ := Option.map_eq_some_iff.mp e
        exact .cons (least_parts h1)
theorem Parts.sub {T L : List (List Nat)} (h : Parts T L) : T.flatten.Sublist L.flatten := by
  induction h with
  | nil => exact List.nil_sublist _
  | last h =>
    simp only [List.flatten_cons, List.flatten_nil, List.append_nil]
    exact h.trans (List.sublist_append_left _ _)
  | cons _ ih =>
    rw [List.flatten_cons, List.flatten_cons]
    exact (List.Sublist.refl _).append ih
theorem least_nodup {told : List (List Nat)} (h : leastQ p q = some told) : told.flatten.Nodup := layers_nodup.sublist (least_parts h).sub
end
end W
set_option maxHeartbeats 1000000
namespace W
open PySem L2 G T
theorem enumP_get {α : Type} [Inhabited α] {xs : List α} {i : Nat} {x : Nat × α} (h : (enumP xs)[i]? = some x) : x = (i, xs[i]!) ∧ xs[i]? = some xs[i]! ∧ i < xs.length := by
  rw [enumP_eq] at h
  have hi : i < xs.length := by
    have := (List.getElem?_eq_some_iff.mp h).1
    simpa using this
  rw [List.getElem?_map, List.getElem?_range hi] at h
  exact ⟨(Option.some.inj h).symm, by rw [List.getElem?_eq_getElem hi, getElem!_pos xs i hi], hi⟩
theorem get?_get! {α : Type} [Inhabited α] {xs : List α} {i : Nat} {x : α} (h : xs[i]? = some x) : x = xs[i]! ∧ i < xs.length := by
  obtain ⟨h1, h2⟩ := List.getElem?_eq_some_iff.mp h
  exact ⟨by rw [getElem!_pos xs i h1, h2], h1⟩
theorem len_sub {a b : List Nat} (nd : a.Nodup) (h : ∀ x ∈ a, x ∈ b) : a.length ≤ b.length := by
  induction a generalizing b with
  | nil => exact Nat.zero_le _
  | cons x a ih =>
    obtain ⟨n1, n2⟩ := List.nodup_cons.mp nd
    have hx := h x List.mem_cons_self
    have := ih (b := b.erase x) n2 fun y hy => (List.mem_erase_of_ne (fun e => n1 (by rw [← e]; exact hy))).mpr (h y (List.mem_cons_of_mem _ hy))
    rw [List.length_erase_of_mem hx] at this
    have : 0 < b.length := List.length_pos_of_mem hx
    rw [List.length_cons]; omega
theorem leastL_empty (h : Nat) (ls : List (List Nat)) : leastL h ls [] = some [] := by
  cases ls <;> · unfold leastL; rw [if_pos rfl]
theorem leastL_nil {h : Nat} {ls : List (List Nat)} {left : List (Nat × Nat)} (e : leastL h ls left = some []) : left = [] := by
  cases ls with
  | nil =>
    unfold leastL at e
    split at e
    · assumption
    · cases e
  | cons s ls =>
    unfold leastL at e
    split at e
    · assumption
    · split at e
      · cases e
      · obtain ⟨t, _, z⟩ := Option.map_eq_some_iff.mp e
        cases z
theorem leastL_cons {h : Nat} {s : List Nat} {ls : List (List Nat)} {left : List (Nat × Nat)} (ne : left ≠ []) : leastL h (s :: ls) left = if left.filter (fun c => decide (¬Touch h c s)) = [] then some [s.filter fun l => decide (∃ c ∈ left, l = c.1 ∨ l = h + c.2)] else (leastL h ls (left.filter fun c => decide (¬Touch h c s))).map (s :: ·) := by
  show (if left = [] then some [] else _) = _
  rw [if_neg ne]
theorem drop_at {α : Type} [Inhabited α] {L : List α} {i : Nat} {x : α} (h : L[i]? = some x) : L.drop i = x :: L.drop (i + 1) := by
  obtain ⟨h1, h2⟩ := List.getElem?_eq_some_iff.mp h
  rw [List.drop_eq_getElem_cons h1, h2]
theorem dput_nodup {d : List (Nat × Bool)} {k : Nat} {v : Bool} (h : (dkeys d).Nodup) : (dkeys (dput d k v)).Nodup := by
  unfold dput
  split
  · have e : dkeys (d.map fun p => if p.1 = k then (p.1, v) else p) = dkeys d := by
      unfold dkeys
      rw [List.map_map]
      refine List.map_congr_left fun p _ => ?_
      show (if p.1 = k then (p.1, v) else p).1 = p.1
      split <;> rfl
    rw [e]; exact h
  · rename_i n
    have n : k ∉ dkeys d := fun z => n (dget_isSome.mpr z)
    unfold dkeys
    rw [List.map_append]
    refine List.nodup_append.mpr ⟨h, by simp, fun a ha b hb e => ?_⟩
    have : b = k := by simpa using hb
    exact n (this ▸ e ▸ ha)
end W
set_option maxHeartbeats 1000000
namespace T
open PySem L2 G
end T
namespace W
open PySem L2 G T
theorem keys_true (xs : List Nat) (x : Nat) : x ∈ dkeys (dictOf (xs.map fun x => (x, true))) ↔ x ∈ xs := by
  rw [mem_dictOf]
  unfold dkeys
  rw [List.map_map]
  have : ((fun p : Nat × Bool => p.1) ∘ fun x => (x, true)) = id := rfl
  rw [this, List.map_id]
theorem keys_flat (xs : List (List Nat)) (x : Nat) : x ∈ dkeys (dictOf (xs.flatMap fun s => s.map fun y => (y, true))) ↔ x ∈ xs.flatten := by
  rw [mem_dictOf]
  unfold dkeys
  rw [List.map_flatMap]
  have : (fun s : List Nat => (s.map fun y => (y, true)).map (fun p : Nat × Bool => p.1)) = fun s => s := by
    funext s
    rw [List.map_map]
    exact List.map_id _
  rw [this]
  exact Iff.of_eq (congrArg (x ∈ ·) (List.flatMap_id'))
theorem flat_id (xs : List (List Nat)) : (xs.flatMap fun x => x.map fun y => y) = xs.flatten := by
  have : (fun x : List Nat => x.map fun y => y) = fun x => x := by funext x; exact List.map_id' x
  rw [this, List.flatMap_id']
theorem sum_len (T : List (List Nat)) : (T.map fun x => x.length).sum = T.flatten.length := by rw [List.length_flatten]
section
variable {p q : Pic}
theorem least_lt (k : Like p q) {told : List (List Nat)} (h : leastQ p q = some told) : ∀ l ∈ told.flatten, l < p.length + p[0]!.length := fun l hl => by
  have := layers_lt ((least_parts h).sub.subset hl)
  rw [← k.hh, ← k.ww] at this; exact this
theorem least_len (k : Like p q) {told : List (List Nat)} (h : leastQ p q = some told) : told.flatten.length ≤ p.length + p[0]!.length := by
  have := len_sub (b := List.range (p.length + p[0]!.length)) (least_nodup h) fun l hl => List.mem_range.mpr (least_lt k h l hl)
  rwa [List.length_range] at this
theorem Parts.len {T L : List (List Nat)} (h : Parts T L) : T.length ≤ L.length := by
  induction h with
  | nil => exact Nat.zero_le _
  | last _ => simp
  | cons _ ih => rw [List.length_cons, List.length_cons]; omega
end
end W
set_option maxHeartbeats 1000000
namespace T
open PySem L2 G
end T
set_option maxHeartbeats 1000000
namespace T
open PySem L2 G
end T
set_option maxHeartbeats 1000000
namespace T
open PySem L2 G
end T
set_option maxHeartbeats 1000000
namespace T
open PySem L2 G
end T
set_option maxHeartbeats 1000000
namespace T
open PySem L2 G
end T
set_option maxHeartbeats 1000000
namespace W
open PySem L2 G T
abbrev one (b : Bool) : Nat := if b then 1 else 0
end W
set_option maxHeartbeats 1000000
namespace W
def Lg (x : Int) (n : Nat) : Prop := x.natAbs < 2 ^ n
theorem log_lt {x k : Nat} (h : x < 2 ^ k) (hk : 0 < k) : x.log2 < k := by
  by_cases q : x = 0
  · subst q; simpa using hk
  · exact (Nat.log2_lt q).mpr h
theorem Lg.mono {x : Int} {n m : Nat} (a : Lg x n) (h : n ≤ m) : Lg x m := Nat.lt_of_lt_of_le a (Nat.pow_le_pow_right (by decide) h)
theorem Lg.mul {x y : Int} {n m : Nat} (a : Lg x n) (b : Lg y m) : Lg (x * y) (n + m) := by
  unfold Lg at *; rw [Int.natAbs_mul, Nat.pow_add]; exact Nat.mul_lt_mul'' a b
theorem Lg.le {x y : Int} {n : Nat} (a : Lg y n) (h : x.natAbs ≤ y.natAbs) : Lg x n := Nat.lt_of_le_of_lt h a
/-- the lowest terms -/
def low (a b : Int) : Int × Int := (a / (Int.gcd a b : Int), b / (Int.gcd a b : Int))
theorem gcd_pos {a b : Int} (h : 0 < b) : 0 < (Int.gcd a b : Int) := by
  have : 0 < Int.gcd a b := Int.gcd_pos_of_ne_zero_right a (by omega)
  omega
theorem low_spec {a b : Int} (h : 0 < b) : ∃ g : Int, 0 < g ∧ a = g * (low a b).1 ∧ b = g * (low a b).2 := by
  refine ⟨Int.gcd a b, gcd_pos h, ?_, ?_⟩
  · exact (Int.mul_ediv_cancel' (Int.gcd_dvd_left a b)).symm
  · exact (Int.mul_ediv_cancel' (Int.gcd_dvd_right a b)).symm
theorem low_pos {a b : Int} (h : 0 < b) : 0 < (low a b).2 := by
  obtain ⟨g, h1, _, h3⟩ := low_spec (a := a) h
  have : 0 < g * (low a b).2 := by rw [← h3]; exact h
  rcases Int.lt_or_le 0 (low a b).2 with q | q
  · exact q
  · have := Int.mul_le_mul_of_nonneg_left q (Int.le_of_lt h1)
    omega
theorem low_le {a b : Int} (h : 0 < b) : (low a b).1.natAbs ≤ a.natAbs ∧ (low a b).2.natAbs ≤ b.natAbs := by
  have hp := gcd_pos (a := a) h
  refine ⟨?_, ?_⟩
  · show (a / (Int.gcd a b : Int)).natAbs ≤ _
    rw [Int.natAbs_ediv_of_dvd (Int.gcd_dvd_left a b)]; exact Nat.div_le_self _ _
  · show (b / (Int.gcd a b : Int)).natAbs ≤ _
    rw [Int.natAbs_ediv_of_dvd (Int.gcd_dvd_right a b)]; exact Nat.div_le_self _ _
/-- a ratio that stands for a / b, its size -/
structure Rat' (x : Int × Int) (a b : Int) (n : Nat) : Prop where
  e : x = low a b
  p : 0 < b
  l1 : Lg a n
  l2 : Lg b n
theorem Rat'.pos {x : Int × Int} {a b : Int} {n : Nat} (h : Rat' x a b n) : 0 < x.2 := by rw [h.e]; exact low_pos h.p
theorem Rat'.lg {x : Int × Int} {a b : Int} {n : Nat} (h : Rat' x a b n) : Lg x.1 n ∧ Lg x.2 n := by
  rw [h.e]; exact ⟨h.l1.le (low_le h.p).1, h.l2.le (low_le h.p).2⟩
end W
namespace W
def ch : Nat → Nat → Nat
  | _, 0 => 1
  | 0, _ + 1 => 0
  | n + 1, k + 1 => ch n k + ch n (k + 1)
/-- a sum over 0 .. n - 1 -/
def sm (f : Nat → Int) : Nat → Int
  | 0 => 0
  | n + 1 => sm f n + f n
def sg (j : Nat) : Int := if j % 2 = 0 then 1 else -1
end W
namespace W
/-- the sums of parts -/
def hs : Nat → Int × Int
  | 0 => (0, 1)
  | n + 1 => low ((hs n).1 * ((n + 1 : Nat) : Int) + 1 * (hs n).2) ((hs n).2 * ((n + 1 : Nat) : Int))
def hnum : Nat → Nat
  | 0 => 0
  | n + 1 => hnum n * (n + 1) + fac n
where fac : Nat → Nat
  | 0 => 1
  | n + 1 => fac n * (n + 1)
abbrev hfac := hnum.fac
open PySem L2 G T
theorem cMul_nat {x y n m : Nat} (a : x < 2 ^ n) (b : y < 2 ^ m) (hn : 0 < n) (hm : 0 < m) (h : n + m ≤ 900000) : cMul ((x : Nat) : Int) ((y : Nat) : Int) = true := by
  have h1 := log_lt a hn
  have h2 := log_lt b hm
  refine decide_eq_true ?_
  rw [Int.natAbs_natCast, Int.natAbs_natCast]; omega
theorem Rat'.ok {x : Int × Int} {a b : Int} {n : Nat} (h : Rat' x a b n) (hn : n ≤ 4000) : Lg x.1 4000 ∧ Lg x.2 4000 ∧ 0 < x.2 := ⟨h.lg.1.mono hn, h.lg.2.mono hn, h.pos⟩
end W
set_option maxHeartbeats 1000000
namespace W
open PySem L2 G T
section
variable {p q : Pic}
theorem layer_row {k i : Nat} (hk : k < (layersQ q).length) (hi : i ∈ (layersQ q)[k]!) (h : i < q.length) : ∀ l ∈ (layersQ q)[k]!, l < q.length := by
  obtain ⟨_, _, a | a⟩ := layersQ_layer _ (mem_get! hk)
  · exact a
  · exact absurd (a i hi).1 (by omega)
theorem layer_col {k i : Nat} (hk : k < (layersQ q).length) (hi : i ∈ (layersQ q)[k]!) (h : q.length ≤ i) : ∀ l ∈ (layersQ q)[k]!, q.length ≤ l := by
  obtain ⟨_, _, a | a⟩ := layersQ_layer _ (mem_get! hk)
  · exact absurd (a i hi) (by omega)
  · exact fun l hl => (a l hl).1
theorem mem_layer {k l : Nat} (hk : k < (layersQ q).length) (h : l ∈ (layersQ q)[k]!) : l ∈ (layersQ q).flatten := flat_mem hk h
/-- the lines to which a layer's line leads lie ahead -/
theorem leads_ahead {k l o : Nat} (hk : k < (layersQ q).length) (hl : l ∈ (layersQ q)[k]!) (ho : o ∈ leadsQ q l) : ∃ m, m < k ∧ o ∈ (layersQ q)[m]! := by
  unfold leadsQ at ho
  split at ho
  · rename_i hr
    obtain ⟨j, hj, rfl⟩ := List.mem_map.mp ho
    have hj := List.mem_filter.mp hj
    have jl := List.mem_range.mp hj.1
    have w := of_decide_eq_true hj.2
    rcases Classical.em (∃ m, m ≤ k ∧ q.length + j ∈ (layersQ q)[m]!) with ⟨m, h1, h2⟩ | hno
    · refine ⟨m, ?_, h2⟩
      rcases Nat.lt_or_ge m k with z | z
      · exact z
      · have e : m = k := by omega
        subst e
        have := layer_row hk hl hr _ h2
        omega
    · have := color_row hk hl hr jl fun m hm hc => hno ⟨m, hm, hc⟩
      rw [this] at w; cases w
  · rename_i hr
    have ho := List.mem_filter.mp ho
    have il := List.mem_range.mp ho.1
    have w := of_decide_eq_true ho.2
    have el : l = q.length + (l - q.length) := by omega
    rcases Classical.em (∃ m, m ≤ k ∧ o ∈ (layersQ q)[m]!) with ⟨m, h1, h2⟩ | hno
    · refine ⟨m, ?_, h2⟩
      rcases Nat.lt_or_ge m k with z | z
      · exact z
      · have e : m = k := by omega
        subst e
        have := layer_col hk hl (by omega) _ h2
        omega
    · have := color_col hk (by rw [← el]; exact hl) il fun m hm hc => hno ⟨m, hm, hc⟩
      rw [this] at w; cases w
/-- it does not come just if a cell of the core differs -/
theorem least_none (k : Like p q) : ∀ (ls : List (List Nat)) (n : Nat), (layersQ q).drop n = ls → (leastL p.length ls (leftQ p q n) = none ↔ ∃ c ∈ diffQ p q, ∀ m, m < (layersQ q).length → ¬Touch p.length c (layersQ q)[m]!)
  | [], n, h => by
    have hn := drop_nil h
    unfold leastL
    constructor
    · intro e
      split at e
      · cases e
      · rename_i ne
        obtain ⟨c, hc⟩ := List.exists_mem_of_ne_nil _ ne
        unfold leftQ at hc
        obtain ⟨h1, h2⟩ := List.mem_filter.mp hc
        have h2 := of_decide_eq_true h2
        exact ⟨c, h1, fun m hm => h2 m (by omega)⟩
    · rintro ⟨c, h1, h2⟩
      rw [if_neg]
      intro e
      have : c ∈ leftQ p q n := by
        unfold leftQ
        refine List.mem_filter.mpr ⟨h1, decide_eq_true fun m hm => ?_⟩
        rcases Nat.lt_or_ge m (layersQ q).length with z | z
        · exact h2 m z
        · rw [getElem!_neg _ _ (by omega)]
          rintro (y | y) <;> cases y
      rw [e] at this; cases this
  | s :: ls, n, h => by
    obtain ⟨hn, es, el⟩ := drop_cons h
    have far : ∀ c ∈ diffQ p q, (∀ m, m < (layersQ q).length → ¬Touch p.length c (layersQ q)[m]!) → c ∈ leftQ p q (n + 1) := fun c h1 h2 => by
      unfold leftQ
      refine List.mem_filter.mpr ⟨h1, decide_eq_true fun m hm => h2 m (by omega)⟩
    have ih := least_none k ls (n + 1) el.symm
    have e1 : (leftQ p q n).filter (fun c => decide (¬Touch p.length c s)) = leftQ p q (n + 1) := by rw [es]; exact leftQ_succ p q n
    unfold leastL
    constructor
    · intro e
      split at e
      · cases e
      · split at e
        · cases e
        · rw [e1] at e
          have : leastL p.length ls (leftQ p q (n + 1)) = none := by
            cases z : leastL p.length ls (leftQ p q (n + 1)) with
            | none => rfl
            | some T => rw [z] at e; cases e
          exact ih.mp this
    · rintro ⟨c, h1, h2⟩
      have hc := far c h1 h2
      have ne1 : leftQ p q n ≠ [] := fun e => by
        rw [← e1, e] at hc; cases hc
      rw [if_neg ne1, e1, if_neg (fun e => by rw [e] at hc; cases hc), ih.mpr ⟨c, h1, h2⟩]; rfl
theorem core_iff {l : Nat} (h : l < q.length + q[0]!.length) : l ∈ coreQ q ↔ ∀ m, m < (layersQ q).length → l ∉ (layersQ q)[m]! := by
  unfold coreQ
  rw [List.mem_filter, decide_eq_true_eq]
  constructor
  · rintro ⟨_, h2⟩ m hm hc
    exact h2 (mem_layer hm hc)
  · intro h2
    refine ⟨List.mem_range.mpr h, fun hc => ?_⟩
    obtain ⟨m, h3, h4⟩ := mem_flat hc
    exact h2 m h3 h4
theorem core_or {l : Nat} (h : l < q.length + q[0]!.length) : l ∈ coreQ q ↔ l ∉ (layersQ q).flatten := by
  unfold coreQ
  rw [List.mem_filter, decide_eq_true_eq]
  exact ⟨fun h => h.2, fun h2 => ⟨List.mem_range.mpr h, h2⟩⟩
theorem comes_none (k : Like p q) : leastQ p q = none ↔ ∃ i j, i < p.length ∧ j < p[0]!.length ∧ (p[i]!)[j]! ≠ (q[i]!)[j]! ∧ i ∈ coreQ q ∧ q.length + j ∈ coreQ q := by
  have h := least_none k (layersQ q) 0 rfl
  rw [leftQ_zero] at h
  refine h.trans ⟨?_, ?_⟩
  · rintro ⟨c, h1, h2⟩
    obtain ⟨a, b, ne⟩ := mem_diff.mp h1
    refine ⟨c.1, c.2, a, b, ne, (core_iff ?_).mpr fun m hm hc => h2 m hm (.inl hc), (core_iff ?_).mpr fun m hm hc => h2 m hm (.inr (by rw [k.hh]; exact hc))⟩
    · have := k.hh; omega
    · have := k.ww; omega
  · rintro ⟨i, j, a, b, ne, c1, c2⟩
    refine ⟨(i, j), mem_diff.mpr ⟨a, b, ne⟩, fun m hm ht => ?_⟩
    rcases ht with z | z
    · exact (core_iff (coreQ_lt c1)).mp c1 m hm z
    · rw [k.hh] at z
      exact (core_iff (coreQ_lt c2)).mp c2 m hm z
theorem comes_some (k : Like p q) : (∃ T, leastQ p q = some T) ↔ ∀ i j, i < p.length → j < p[0]!.length → i ∈ coreQ q → q.length + j ∈ coreQ q → (p[i]!)[j]! = (q[i]!)[j]! := by
  have h := comes_none k
  constructor
  · rintro ⟨T, e⟩ i j hi hj c1 c2
    rcases Decidable.em ((p[i]!)[j]! = (q[i]!)[j]!) with z | z
    · exact z
    · rw [h.mpr ⟨i, j, hi, hj, z, c1, c2⟩] at e; cases e
  · intro h2
    cases e : leastQ p q with
    | some T => exact ⟨T, rfl⟩
    | none =>
      obtain ⟨i, j, a, b, ne, c1, c2⟩ := h.mp e
      exact absurd (h2 i j a b c1 c2) ne
end
end W
namespace W
open PySem L2 G T
end W
set_option maxHeartbeats 1000000
namespace W
open PySem L2 G T
/-- ways to put t things into k heaps -/
def st : Nat → Nat → Nat
  | 0, 0 => 1
  | 0, _ + 1 => 0
  | _ + 1, 0 => 0
  | t + 1, k + 1 => (k + 1) * st t (k + 1) + st t k
/-- a sum over 0 .. n - 1 -/
def su (f : Nat → Nat) : Nat → Nat
  | 0 => 0
  | n + 1 => su f n + f n
theorem su_congr {f g : Nat → Nat} : ∀ {n : Nat}, (∀ i, i < n → f i = g i) → su f n = su g n
  | 0, _ => rfl
  | n + 1, h => by show su f n + f n = su g n + g n; rw [su_congr fun i hi => h i (by omega), h n (by omega)]
theorem su_add (f g : Nat → Nat) : ∀ n : Nat, su (fun i => f i + g i) n = su f n + su g n
  | 0 => rfl
  | n + 1 => by show su _ n + (f n + g n) = _; rw [su_add f g n]; show _ = su f n + f n + (su g n + g n); omega
theorem su_range (f : Nat → Nat) : ∀ n : Nat, ((List.range n).map f).sum = su f n
  | 0 => rfl
  | n + 1 => by rw [List.range_succ, List.map_append, List.sum_append, su_range f n]; simp [su]
end W
set_option maxHeartbeats 1000000
namespace W
open PySem L2 G T
theorem Parts.get {T L : List (List Nat)} (h : Parts T L) : ∀ i, i < T.length → i < L.length ∧ (T[i]!).Sublist L[i]! ∧ (i + 1 < T.length → T[i]! = L[i]!) := by
  induction h with
  | nil => intro i hi; cases hi
  | last hs =>
    intro i hi
    have e : i = 0 := by simp at hi; omega
    subst e
    exact ⟨by simp, hs, fun z => by simp at z⟩
  | cons h ih =>
    intro i hi
    cases i with
    | zero => exact ⟨by simp, .refl _, fun _ => rfl⟩
    | succ i =>
      obtain ⟨a, b, c⟩ := ih i (by simpa using hi)
      refine ⟨by simpa using a, ?_, fun z => ?_⟩
      · rw [get!_cons_succ, get!_cons_succ]; exact b
      · rw [get!_cons_succ, get!_cons_succ]; exact c (by simpa using z)
theorem flat_perm {α : Type} {L M : List (List α)} (h : L.Perm M) : L.flatten.Perm M.flatten := by
  induction h with
  | nil => exact .refl _
  | cons x _ ih => exact ih.append_left x
  | swap x y l => 
    simp only [List.flatten_cons, ← List.append_assoc]
    exact List.perm_append_comm.append_right _
  | trans _ _ a b => exact a.trans b
/-- the orders of some layers -/
def fp (T : List (List Nat)) : Nat → Nat
  | 0 => 1
  | n + 1 => fp T n * hfac (T[n]!).length
end W
set_option maxHeartbeats 1000000
namespace W
open PySem L2 G T
/-- far enough -/
theorem far {n t : Nat} (h2 : 2 ≤ n) (h8 : n ≤ 8) (ht : 120 ≤ t) : 9000000 * (n - 1) ^ t ≤ n ^ t := by
  obtain ⟨s, rfl⟩ : ∃ s, t = 120 + s := ⟨t - 120, by omega⟩
  clear ht
  induction s with
  | zero =>
    have : n = 2 ∨ n = 3 ∨ n = 4 ∨ n = 5 ∨ n = 6 ∨ n = 7 ∨ n = 8 := by omega
    rcases this with e | e | e | e | e | e | e <;> subst e <;> decide
  | succ s ih =>
    rw [← Nat.add_assoc, Nat.pow_succ, Nat.pow_succ, ← Nat.mul_assoc]
    exact Nat.mul_le_mul ih (by omega)
end W
set_option maxHeartbeats 1000000
namespace W
open PySem L2 G T
end W
set_option maxHeartbeats 1000000
namespace W
open PySem L2 G T
end W
set_option maxHeartbeats 1000000
set_option exponentiation.threshold 4000
namespace W
open PySem L2 G T
section
variable {q : Pic}
theorem perm_sum {a b : List Nat} (h : a.Perm b) : a.sum = b.sum := by
  induction h with
  | nil => rfl
  | cons x _ ih => rw [List.sum_cons, List.sum_cons, ih]
  | swap x y l => rw [List.sum_cons, List.sum_cons, List.sum_cons, List.sum_cons]; omega
  | trans _ _ a b => exact a.trans b
end
end W
set_option maxHeartbeats 1000000
namespace W
open PySem L2 G T
section
variable {q : Pic}
theorem sum_ite {α : Type} (P : α → Prop) [DecidablePred P] (K : Nat) : ∀ xs : List α, (xs.map fun x => if P x then K else 0).sum = (xs.filter fun x => decide (P x)).length * K
  | [] => by simp
  | x :: xs => by
    rw [List.map_cons, List.sum_cons, sum_ite P K xs, List.filter_cons]
    by_cases h : P x
    · rw [if_pos h, if_pos (decide_eq_true h), List.length_cons, Nat.add_mul, Nat.one_mul]; omega
    · rw [if_neg h, if_neg (by simpa using h)]; omega
end
end W
set_option maxHeartbeats 1000000
namespace W
open PySem L2 G T
end W
set_option maxHeartbeats 1000000
namespace W
open PySem L2 G T
end W
set_option maxHeartbeats 1000000
namespace W
open PySem L2 G T
end W
namespace W
end W
set_option maxHeartbeats 1000000
namespace W
open PySem L2 G T
/-- a list of deeds is made of orders of the blocks -/
inductive Blocks : List (List Nat) → List Nat → Prop
  | nil : Blocks [] []
  | cons {s v w : List Nat} {L : List (List Nat)} : v.Perm s → Blocks L w → Blocks (s :: L) (v ++ w)
end W
set_option maxHeartbeats 1000000
namespace W
open PySem L2 G T
/-- lists of lines, rows and columns by turns -/
def Alt (h : Nat) : Bool → List (List Nat) → Prop
  | _, [] => True
  | k, b :: B => b ≠ [] ∧ (∀ l ∈ b, decide (l < h) = k) ∧ Alt h (!k) B
/-- list by list the same lines -/
def PermL : List (List Nat) → List (List Nat) → Prop
  | [], [] => True
  | a :: A, b :: B => a.Perm b ∧ PermL A B
  | _, _ => False
theorem PermL.get : ∀ {A B : List (List Nat)}, PermL A B → A.length = B.length ∧ ∀ i : Nat, (A[i]!).Perm B[i]!
  | [], [], _ => ⟨rfl, fun _ => .refl _⟩
  | a :: A, b :: B, ⟨p, q⟩ => by
    obtain ⟨l, g⟩ := q.get
    refine ⟨by rw [List.length_cons, List.length_cons, l], fun i => ?_⟩
    cases i with
    | zero => exact p
    | succ i => exact g i
/-- two neighbours of one kind change places -/
theorem Blocks.swap {h : Nat} {M : List (List Nat)} {v : List Nat} (b : Blocks M v) : ∀ {k : Bool} {a c : List Nat} {x y : Nat}, Alt h k M → v = a ++ x :: y :: c → decide (x < h) = decide (y < h) → Blocks M (a ++ y :: x :: c) := by
  induction b with
  | nil => intro k a c x y _ e _; cases a <;> cases e
  | cons p b ih =>
    rename_i s v w L
    intro k a c x y al e hk
    obtain ⟨a1, a2, a3⟩ := al
    rcases List.append_eq_append_iff.mp e with ⟨t, e1, e2⟩ | ⟨t, e1, e2⟩
    · rw [e1, List.append_assoc]
      exact .cons p (ih a3 e2 hk)
    · cases t with
      | nil =>
        rw [List.append_nil] at e1
        have := ih (a := []) a3 e2.symm hk
        rw [← e1]
        exact .cons p this
      | cons x' t =>
        rw [List.cons_append] at e2
        injection e2 with e3 e4
        subst e3
        have xk : decide (x < h) = k := a2 x (p.mem_iff.mp (by rw [e1]; simp))
        cases t with
        | nil =>
          -- y begins the next block
          exfalso
          rw [List.nil_append] at e4
          cases b with
          | nil => cases e4
          | cons p2 b2 =>
            rename_i s2 v2 w2 L2
            obtain ⟨c1, c2, c3⟩ := a3
            cases v2 with
            | nil => exact c1 p2.symm.eq_nil
            | cons z v2 =>
              rw [List.cons_append] at e4
              injection e4 with e5 e6
              have zk := c2 z (p2.mem_iff.mp List.mem_cons_self)
              rw [← e5, ← hk, xk] at zk
              cases k <;> cases zk
        | cons y' t =>
          rw [List.cons_append] at e4
          injection e4 with e5 e6
          subst e5
          rw [e6]
          have : a ++ y :: x :: (t ++ w) = (a ++ y :: x :: t) ++ w := by simp
          rw [this]
          refine .cons (List.Perm.trans ?_ p) b
          rw [e1]
          exact (List.Perm.swap x y t).append_left a
end W
set_option maxHeartbeats 1000000
namespace W
open PySem L2 G T
end W
set_option maxHeartbeats 1000000
namespace W
open PySem L2 G T
/-- each line of Q repeats a line of q, each line of q is repeated -/
structure Pull (Q q : Pic) (ρ γ : Nat → Nat) : Prop where
  kQ : PicP Q
  kq : PicP q
  rmap : ∀ i, i < Q.length → ρ i < q.length
  cmap : ∀ j, j < Q[0]!.length → γ j < q[0]!.length
  rsur : ∀ i, i < q.length → ∃ a, a < Q.length ∧ ρ a = i
  csur : ∀ j, j < q[0]!.length → ∃ b, b < Q[0]!.length ∧ γ b = j
  cell : ∀ i j, i < Q.length → j < Q[0]!.length → (Q[i]!)[j]! = (q[ρ i]!)[γ j]!
  more : q.length + q[0]!.length ≤ Q.length + Q[0]!.length
/-- the line that a line repeats -/
def piL (H h : Nat) (ρ γ : Nat → Nat) (l : Nat) : Nat := if l < H then ρ l else h + γ (l - H)
/-- the lines that repeat some lines -/
def pullL (H W h : Nat) (ρ γ : Nat → Nat) (s : List Nat) : List Nat := (List.range (H + W)).filter fun l => decide (piL H h ρ γ l ∈ s)
section
variable {Q q : Pic} {ρ γ : Nat → Nat}
theorem Pull.full (P : Pull Q q ρ γ) {rs cs : List Nat} (hc : ∀ j ∈ cs, j < q[0]!.length) :
    fullQ Q ((List.range Q.length).filter fun i => decide (ρ i ∈ rs)) ((List.range Q[0]!.length).filter fun j => decide (γ j ∈ cs)) = (List.range Q.length).filter fun i => decide (ρ i ∈ fullQ q rs cs) := by
  unfold fullQ
  rw [List.filter_filter]
  refine List.filter_congr fun i hi => ?_
  have hi := List.mem_range.mp hi
  rw [← Bool.decide_and]
  refine decide_eq_decide.mpr ?_
  rw [List.mem_filter, decide_eq_true_eq]
  refine ⟨fun ⟨a, b⟩ => ⟨b, fun j hj => ?_⟩, fun ⟨a, b⟩ => ⟨fun j hj => ?_, a⟩⟩
  · obtain ⟨c, hc1, hc2⟩ := P.csur j (hc j hj)
    have := a c (List.mem_filter.mpr ⟨List.mem_range.mpr hc1, decide_eq_true (by rw [hc2]; exact hj)⟩)
    rw [P.cell i c hi hc1, hc2] at this
    exact this
  · obtain ⟨h1, h2⟩ := List.mem_filter.mp hj
    rw [P.cell i j hi (List.mem_range.mp h1)]
    exact b _ (of_decide_eq_true h2)
theorem Pull.emp (P : Pull Q q ρ γ) {rs cs : List Nat} (hr : ∀ i ∈ rs, i < q.length) :
    empQ Q ((List.range Q.length).filter fun i => decide (ρ i ∈ rs)) ((List.range Q[0]!.length).filter fun j => decide (γ j ∈ cs)) = (List.range Q[0]!.length).filter fun j => decide (γ j ∈ empQ q rs cs) := by
  unfold empQ
  rw [List.filter_filter]
  refine List.filter_congr fun j hj => ?_
  have hj := List.mem_range.mp hj
  rw [← Bool.decide_and]
  refine decide_eq_decide.mpr ?_
  rw [List.mem_filter, decide_eq_true_eq]
  refine ⟨fun ⟨a, b⟩ => ⟨b, fun i hi => ?_⟩, fun ⟨a, b⟩ => ⟨fun i hi => ?_, a⟩⟩
  · obtain ⟨c, hc1, hc2⟩ := P.rsur i (hr i hi)
    have := a c (List.mem_filter.mpr ⟨List.mem_range.mpr hc1, decide_eq_true (by rw [hc2]; exact hi)⟩)
    rw [P.cell c j hc1 hj, hc2] at this
    exact this
  · obtain ⟨h1, h2⟩ := List.mem_filter.mp hi
    rw [P.cell i j (List.mem_range.mp h1) hj]
    exact b _ (of_decide_eq_true h2)
theorem Pull.rows_ne (P : Pull Q q ρ γ) {s : List Nat} (hs : ∀ i ∈ s, i < q.length) : ((List.range Q.length).filter fun i => decide (ρ i ∈ s)) ≠ [] ↔ s ≠ [] := by
  constructor
  · intro h e
    refine h (List.filter_eq_nil_iff.mpr fun i _ z => ?_)
    have := of_decide_eq_true z
    rw [e] at this; cases this
  · intro h e
    obtain ⟨i, hi⟩ := List.exists_mem_of_ne_nil _ h
    obtain ⟨a, a1, a2⟩ := P.rsur i (hs i hi)
    have : a ∈ (List.range Q.length).filter fun i => decide (ρ i ∈ s) := List.mem_filter.mpr ⟨List.mem_range.mpr a1, decide_eq_true (by rw [a2]; exact hi)⟩
    rw [e] at this; cases this
theorem Pull.cols_ne (P : Pull Q q ρ γ) {s : List Nat} (hs : ∀ j ∈ s, j < q[0]!.length) : ((List.range Q[0]!.length).filter fun j => decide (γ j ∈ s)) ≠ [] ↔ s ≠ [] := by
  constructor
  · intro h e
    refine h (List.filter_eq_nil_iff.mpr fun i _ z => ?_)
    have := of_decide_eq_true z
    rw [e] at this; cases this
  · intro h e
    obtain ⟨i, hi⟩ := List.exists_mem_of_ne_nil _ h
    obtain ⟨a, a1, a2⟩ := P.csur i (hs i hi)
    have : a ∈ (List.range Q[0]!.length).filter fun j => decide (γ j ∈ s) := List.mem_filter.mpr ⟨List.mem_range.mpr a1, decide_eq_true (by rw [a2]; exact hi)⟩
    rw [e] at this; cases this
abbrev Pull.pl (_ : Pull Q q ρ γ) (s : List Nat) : List Nat := pullL Q.length Q[0]!.length q.length ρ γ s
theorem Pull.pl_rows (P : Pull Q q ρ γ) {s : List Nat} (hs : ∀ i ∈ s, i < q.length) : P.pl s = (List.range Q.length).filter fun i => decide (ρ i ∈ s) := by
  unfold Pull.pl pullL
  rw [List.range_add, List.filter_append]
  have a : ((List.range Q[0]!.length).map fun x => Q.length + x).filter (fun l => decide (piL Q.length q.length ρ γ l ∈ s)) = [] := List.filter_eq_nil_iff.mpr fun l hl z => by
    obtain ⟨j, _, rfl⟩ := List.mem_map.mp hl
    have z := of_decide_eq_true z
    unfold piL at z
    rw [if_neg (by omega)] at z
    have := hs _ z
    omega
  rw [a, List.append_nil]
  refine List.filter_congr fun i hi => ?_
  unfold piL
  rw [if_pos (List.mem_range.mp hi)]
theorem Pull.pl_cols (P : Pull Q q ρ γ) (s : List Nat) : P.pl (s.map fun j => q.length + j) = ((List.range Q[0]!.length).filter fun j => decide (γ j ∈ s)).map fun j => Q.length + j := by
  unfold Pull.pl pullL
  rw [List.range_add, List.filter_append]
  have a : (List.range Q.length).filter (fun l => decide (piL Q.length q.length ρ γ l ∈ s.map fun j => q.length + j)) = [] := List.filter_eq_nil_iff.mpr fun l hl z => by
    have hl := List.mem_range.mp hl
    have z := of_decide_eq_true z
    unfold piL at z
    rw [if_pos hl] at z
    obtain ⟨j, _, e⟩ := List.mem_map.mp z
    have := P.rmap l hl
    omega
  rw [a, List.nil_append, List.filter_map]
  congr 1
  refine List.filter_congr fun j _ => decide_eq_decide.mpr ?_
  show piL Q.length q.length ρ γ (Q.length + j) ∈ _ ↔ _
  unfold piL
  rw [if_neg (by omega), show Q.length + j - Q.length = j by omega]
  constructor
  · intro h
    obtain ⟨x, hx, e⟩ := List.mem_map.mp h
    have : x = γ j := by omega
    rw [← this]; exact hx
  · intro h
    exact List.mem_map.mpr ⟨_, h, rfl⟩
/-- the turns, one beside the other -/
theorem Pull.iter (P : Pull Q q ρ γ) : ∀ n, liter Q n = ((liter q n).1.map P.pl, (List.range Q.length).filter (fun i => decide (ρ i ∈ (liter q n).2.1)), (List.range Q[0]!.length).filter fun j => decide (γ j ∈ (liter q n).2.2))
  | 0 => by
    show (([] : List (List Nat)), List.range Q.length, List.range Q[0]!.length) = ([], _, _)
    refine Prod.ext rfl (Prod.ext ?_ ?_)
    · exact (List.filter_eq_self.mpr fun i hi => decide_eq_true (List.mem_range.mpr (P.rmap i (List.mem_range.mp hi)))).symm
    · exact (List.filter_eq_self.mpr fun i hi => decide_eq_true (List.mem_range.mpr (P.cmap i (List.mem_range.mp hi)))).symm
  | n + 1 => by
    have hr : ∀ i ∈ (liter q n).2.1, i < q.length := fun i hi => liter_row hi
    have hc : ∀ j ∈ (liter q n).2.2, j < q[0]!.length := fun j hj => liter_col hj
    have hf : ∀ i ∈ fullQ q (liter q n).2.1 (liter q n).2.2, i < q.length := fun i hi => hr i (List.mem_filter.mp hi).1
    have he : ∀ j ∈ empQ q (liter q n).2.1 (liter q n).2.2, j < q[0]!.length := fun j hj => hc j (List.mem_filter.mp hj).1
    show lstep Q (liter Q n) = _
    rw [P.iter n]
    show (if fullQ Q _ _ ≠ [] then _ else _) = _
    have e1 := P.full (rs := (liter q n).2.1) hc
    have e2 := P.emp (cs := (liter q n).2.2) hr
    have en : liter q (n + 1) = lstep q (liter q n) := rfl
    rw [en]
    unfold lstep
    simp only [e1, e2]
    by_cases f : fullQ q (liter q n).2.1 (liter q n).2.2 ≠ []
    · rw [if_pos ((P.rows_ne hf).mpr f), if_pos f]
      refine Prod.ext ?_ (Prod.ext ?_ rfl)
      · show _ ++ [_] = ((liter q n).1 ++ [_]).map P.pl
        rw [List.map_append, List.map_singleton, P.pl_rows hf]
      · show List.filter _ (List.filter _ _) = List.filter _ _
        rw [List.filter_filter]
        refine List.filter_congr fun i hi => ?_
        rw [← Bool.decide_and]
        refine decide_eq_decide.mpr ?_
        rw [List.mem_filter, List.mem_filter, decide_eq_true_eq, decide_eq_true_eq]
        exact ⟨fun ⟨a, b⟩ => ⟨b, fun z => a ⟨hi, z⟩⟩, fun ⟨a, b⟩ => ⟨fun z => b z.2, a⟩⟩
    · rw [if_neg (fun z => f ((P.rows_ne hf).mp z)), if_neg f]
      by_cases g : empQ q (liter q n).2.1 (liter q n).2.2 ≠ []
      · rw [if_pos ((P.cols_ne he).mpr g), if_pos g]
        refine Prod.ext ?_ (Prod.ext rfl ?_)
        · show _ ++ [_] = ((liter q n).1 ++ [_]).map P.pl
          rw [List.map_append, List.map_singleton, P.pl_cols]
        · show List.filter _ (List.filter _ _) = List.filter _ _
          rw [List.filter_filter]
          refine List.filter_congr fun i hi => ?_
          rw [← Bool.decide_and]
          refine decide_eq_decide.mpr ?_
          rw [List.mem_filter, List.mem_filter, decide_eq_true_eq, decide_eq_true_eq]
          exact ⟨fun ⟨a, b⟩ => ⟨b, fun z => a ⟨hi, z⟩⟩, fun ⟨a, b⟩ => ⟨fun z => b z.2, a⟩⟩
      · rw [if_neg (fun z => g ((P.cols_ne he).mp z)), if_neg g]
theorem Pull.layers (P : Pull Q q ρ γ) : layersQ Q = (layersQ q).map P.pl := by
  obtain ⟨m, hm⟩ : ∃ m, Q.length + Q[0]!.length = q.length + q[0]!.length + m := ⟨Q.length + Q[0]!.length - (q.length + q[0]!.length), by have := P.more; omega⟩
  unfold layersQ
  rw [P.iter, hm, liter_stop free_end]
/-- the places where row a is black and row b is not -/
def downQ (p : Pic) (a b : Nat) : List Nat := (List.range p[0]!.length).filter fun x => decide ((p[a]!)[x]! = true ∧ (p[b]!)[x]! ≠ true)
theorem down_self (p : Pic) (a : Nat) : downQ p a a = [] := List.filter_eq_nil_iff.mpr fun x _ z => (of_decide_eq_true z).2 (of_decide_eq_true z).1
theorem down_len (p : Pic) (a b : Nat) : (downQ p a b).length ≤ p[0]!.length := by
  have := len_filter_le (fun x => decide ((p[a]!)[x]! = true ∧ (p[b]!)[x]! ≠ true)) (List.range p[0]!.length)
  rw [List.length_range] at this
  exact this
/-- how many rounds two rows have -/
def rndQ (p : Pic) (a b : Nat) : Nat := (downQ p a b).length * (downQ p b a).length
theorem rnd_self (p : Pic) (a : Nat) : rndQ p a a = 0 := by unfold rndQ; rw [down_self]; rfl
theorem rnd_comm (p : Pic) (a b : Nat) : rndQ p a b = rndQ p b a := Nat.mul_comm _ _
def roundsQ (p : Pic) : Nat := su (fun a => su (fun b => rndQ p a b) a) p.length
theorem Pull.len (P : Pull Q q ρ γ) : (layersQ Q).length = (layersQ q).length := by rw [P.layers, List.length_map]
variable {p P' : Pic}
/-- the cells left, one beside the other -/
def Beside (Q q : Pic) (ρ γ : Nat → Nat) (B b : List (Nat × Nat)) : Prop := (∀ c, c ∈ B ↔ c.1 < Q.length ∧ c.2 < Q[0]!.length ∧ (ρ c.1, γ c.2) ∈ b) ∧ ∀ c ∈ b, c.1 < q.length ∧ c.2 < q[0]!.length
theorem Pull.last (P : Pull Q q ρ γ) {B b : List (Nat × Nat)} (h : Beside Q q ρ γ B b) (s : List Nat) :
    (P.pl s).filter (fun l => decide (∃ c ∈ B, l = c.1 ∨ l = Q.length + c.2)) = P.pl (s.filter fun l => decide (∃ c ∈ b, l = c.1 ∨ l = q.length + c.2)) := by
  obtain ⟨h1, h2⟩ := h
  unfold Pull.pl pullL
  rw [List.filter_filter]
  refine List.filter_congr fun l hl => ?_
  have hl := List.mem_range.mp hl
  rw [← Bool.decide_and]
  refine decide_eq_decide.mpr ?_
  rw [List.mem_filter, decide_eq_true_eq]
  rw [and_comm]
  refine and_congr_right fun _ => ?_
  constructor
  · rintro ⟨c, hc, e⟩
    obtain ⟨a1, a2, a3⟩ := (h1 c).mp hc
    refine ⟨_, a3, ?_⟩
    unfold piL
    rcases e with e | e
    · left; rw [if_pos (by omega), e]
    · right; rw [if_neg (by omega), e, show Q.length + c.2 - Q.length = c.2 by omega]
  · rintro ⟨c, hc, e⟩
    obtain ⟨a1, a2⟩ := h2 c hc
    unfold piL at e
    by_cases z : l < Q.length
    · rw [if_pos z] at e
      have r := P.rmap l z
      obtain ⟨y, y1, y2⟩ := P.csur c.2 a2
      have e : ρ l = c.1 := e.resolve_right (by omega)
      exact ⟨(l, y), (h1 _).mpr ⟨z, y1, by show (ρ l, γ y) ∈ b; rw [e, y2]; exact hc⟩, .inl rfl⟩
    · rw [if_neg z] at e
      obtain ⟨x, x1, x2⟩ := P.rsur c.1 a1
      have e : γ (l - Q.length) = c.2 := by rcases e with e | e <;> omega
      exact ⟨(x, l - Q.length), (h1 _).mpr ⟨x1, by show l - Q.length < _; omega, by show (ρ x, γ (l - Q.length)) ∈ b; rw [e, x2]; exact hc⟩, .inr (by show l = Q.length + (l - Q.length); omega)⟩
end
end W
set_option maxHeartbeats 1000000
namespace W
open PySem L2 G T
def lsm (l : List Nat) (f : Nat → Nat) : Nat := (l.map f).sum
theorem lsm_cons (x : Nat) (l : List Nat) (f : Nat → Nat) : lsm (x :: l) f = f x + lsm l f := by unfold lsm; rw [List.map_cons, List.sum_cons]
theorem lsm_congr : ∀ {l : List Nat} {f g : Nat → Nat}, (∀ x ∈ l, f x = g x) → lsm l f = lsm l g := fun {l f g} h => by
  unfold lsm; rw [List.map_congr_left h]
theorem lsm_zero : ∀ {l : List Nat} {f : Nat → Nat}, (∀ x ∈ l, f x = 0) → lsm l f = 0
  | [], _, _ => rfl
  | x :: l, f, h => by rw [lsm_cons, h x List.mem_cons_self, lsm_zero fun y hy => h y (List.mem_cons_of_mem _ hy)]
theorem lsm_add (l : List Nat) (f g : Nat → Nat) : lsm l (fun x => f x + g x) = lsm l f + lsm l g := by
  induction l with
  | nil => rfl
  | cons x l ih => rw [lsm_cons, lsm_cons, lsm_cons, ih]; omega
theorem lsm_perm {l m : List Nat} (h : l.Perm m) (f : Nat → Nat) : lsm l f = lsm m f := perm_sum (h.map f)
theorem lsm_map (g : Nat → Nat) (l : List Nat) (f : Nat → Nat) : lsm (l.map g) f = lsm l fun x => f (g x) := by unfold lsm; rw [List.map_map]; rfl
theorem lsm_range (n : Nat) (f : Nat → Nat) : lsm (List.range n) f = su f n := su_range f n
theorem lsm_two (l : List Nat) (f : Nat → Nat) : lsm l (fun x => 2 * f x) = 2 * lsm l f := by
  rw [lsm_congr (g := fun x => f x + f x) fun x _ => by omega, lsm_add]; omega
theorem lsm_sub {l m : List Nat} (nd : l.Nodup) (h : ∀ x ∈ l, x ∈ m) (f : Nat → Nat) : lsm l f ≤ lsm m f := by
  induction l generalizing m with
  | nil => exact Nat.zero_le _
  | cons x l ih =>
    obtain ⟨n1, n2⟩ := List.nodup_cons.mp nd
    have hx := h x List.mem_cons_self
    obtain ⟨s, t, e⟩ := List.append_of_mem hx
    have pm : m.Perm (x :: (s ++ t)) := by rw [e]; exact List.perm_middle
    rw [lsm_perm pm, lsm_cons, lsm_cons]
    have := ih (m := s ++ t) n2 fun y hy => by
      have a := pm.mem_iff.mp (h y (List.mem_cons_of_mem _ hy))
      exact (List.mem_cons.mp a).resolve_left fun z => n1 (z ▸ hy)
    omega
theorem lsm_ind (l : List Nat) (P : Nat → Prop) [DecidablePred P] : lsm l (fun x => if P x then 1 else 0) = (l.filter fun x => decide (P x)).length := by
  unfold lsm; rw [sum_ite P 1 l, Nat.mul_one]
theorem lsm_if (l : List Nat) (P : Nat → Prop) [DecidablePred P] (K : Nat) : lsm l (fun x => if P x then K else 0) = (l.filter fun x => decide (P x)).length * K := sum_ite P K l
/-- a sum over pairs alike both ways -/
theorem su_sym {f : Nat → Nat → Nat} (hs : ∀ a b, f a b = f b a) (hd : ∀ a, f a a = 0) : ∀ n, su (fun a => su (fun b => f a b) n) n = 2 * su (fun a => su (fun b => f a b) a) n
  | 0 => rfl
  | n + 1 => by
    show su (fun a => su (fun b => f a b) n + f a n) n + (su (fun b => f n b) n + f n n) = 2 * (su _ n + su (fun b => f n b) n)
    rw [su_add, su_sym hs hd n, hd, su_congr (f := fun a => f a n) (g := fun b => f n b) fun a _ => hs a n]
    omega
theorem lsm_idx (l : List Nat) (f : Nat → Nat) : lsm l f = lsm (List.range l.length) fun i => f l[i]! := by
  have : l = (List.range l.length).map fun i => l[i]! := by
    refine List.ext_getElem (by simp) fun i h1 h2 => ?_
    rw [List.getElem_map, List.getElem_range, getElem!_pos l i h1]
  conv => lhs; rw [this]
  rw [lsm_map]
theorem ite1 {P Q : Prop} [Decidable P] [Decidable Q] {x y : Nat} (h : P ↔ Q) : (if P then x else y) = if Q then x else y := by
  by_cases z : P
  · rw [if_pos z, if_pos (h.mp z)]
  · rw [if_neg z, if_neg fun w => z (h.mpr w)]
def rX (p : Pic) (a b c d : Nat) : Nat := if (p[a]!)[c]! = (p[b]!)[d]! ∧ (p[a]!)[d]! = (p[b]!)[c]! ∧ (p[a]!)[c]! ≠ (p[a]!)[d]! then 1 else 0
def s4 (p : Pic) (rs cs : List Nat) : Nat := lsm rs fun a => lsm rs fun b => lsm cs fun c => lsm cs fun d => rX p a b c d
theorem rX_cell {p Q : Pic} {a b c d a' b' c' d' : Nat} (h1 : (Q[a]!)[c]! = (p[a']!)[c']!) (h2 : (Q[b]!)[d]! = (p[b']!)[d']!) (h3 : (Q[a]!)[d]! = (p[a']!)[d']!) (h4 : (Q[b]!)[c]! = (p[b']!)[c']!) : rX Q a b c d = rX p a' b' c' d' := by
  unfold rX; rw [h1, h2, h3, h4]
/-- what a cell and a row have together -/
def tX (p : Pic) (a b c : Nat) : Nat := (if c ∈ downQ p a b then (downQ p b a).length else 0) + if c ∈ downQ p b a then (downQ p a b).length else 0
theorem mem_down {p : Pic} {a b c : Nat} : c ∈ downQ p a b ↔ c < p[0]!.length ∧ (p[a]!)[c]! = true ∧ (p[b]!)[c]! = false := by
  unfold downQ
  rw [List.mem_filter, List.mem_range, decide_eq_true_eq]
  exact and_congr_right fun _ => and_congr_right fun _ => by cases (p[b]!)[c]! <;> simp
theorem no_down1 {p : Pic} {a b c : Nat} (h : (p[b]!)[c]! = true) : c ∉ downQ p a b := fun z => by
  have := (mem_down.mp z).2.2
  rw [h] at this; cases this
theorem no_down2 {p : Pic} {a b c : Nat} (h : (p[a]!)[c]! = false) : c ∉ downQ p a b := fun z => by
  have := (mem_down.mp z).2.1
  rw [h] at this; cases this
theorem tX_eq {p : Pic} {a b c : Nat} (hc : c < p[0]!.length) : tX p a b c = lsm (List.range p[0]!.length) fun d => rX p a b c d := by
  unfold tX
  have dl : ∀ a b, (downQ p a b).length = lsm (List.range p[0]!.length) fun d => if (p[a]!)[d]! = true ∧ (p[b]!)[d]! ≠ true then 1 else 0 := fun a b => (lsm_ind _ _).symm
  cases x : (p[a]!)[c]! with
  | true =>
    cases y : (p[b]!)[c]! with
    | true =>
      rw [if_neg (no_down1 y), if_neg (no_down1 x)]
      refine (lsm_zero fun d _ => ?_).symm
      unfold rX; rw [x, y]
      exact if_neg fun h => h.2.2 h.2.1.symm
    | false =>
      rw [if_pos (mem_down.mpr ⟨hc, x, y⟩), if_neg (no_down2 y), Nat.add_zero, dl]
      refine lsm_congr fun d _ => ?_
      unfold rX; rw [x, y]
      refine ite1 ?_
      cases (p[a]!)[d]! <;> cases (p[b]!)[d]! <;> simp
  | false =>
    cases y : (p[b]!)[c]! with
    | true =>
      rw [if_neg (no_down2 x), if_pos (mem_down.mpr ⟨hc, y, x⟩), Nat.zero_add, dl]
      refine lsm_congr fun d _ => ?_
      unfold rX; rw [x, y]
      refine ite1 ?_
      cases (p[a]!)[d]! <;> cases (p[b]!)[d]! <;> simp
    | false =>
      rw [if_neg (no_down2 x), if_neg (no_down2 y)]
      refine (lsm_zero fun d _ => ?_).symm
      unfold rX; rw [x, y]
      exact if_neg fun h => h.2.2 h.2.1.symm
theorem rnd_X (p : Pic) (a b : Nat) : lsm (List.range p[0]!.length) (fun c => lsm (List.range p[0]!.length) fun d => rX p a b c d) = 2 * rndQ p a b := by
  rw [← lsm_congr fun c hc => tX_eq (List.mem_range.mp hc)]
  unfold tX rndQ
  rw [lsm_add, lsm_if, lsm_if]
  have e : ∀ a b, (List.range p[0]!.length).filter (fun x => decide (x ∈ downQ p a b)) = downQ p a b := fun a b => by
    conv => rhs; unfold downQ
    refine List.filter_congr fun x hx => decide_eq_decide.mpr ?_
    rw [mem_down]
    exact ⟨fun h => ⟨h.2.1, by rw [h.2.2]; decide⟩, fun h => ⟨List.mem_range.mp hx, h.1, by cases z : (p[b]!)[x]! with
      | true => exact (h.2 z).elim
      | false => rfl⟩⟩
  rw [e, e, Nat.mul_comm (downQ p b a).length]; omega
theorem rounds_X (p : Pic) : 4 * roundsQ p = s4 p (List.range p.length) (List.range p[0]!.length) := by
  unfold roundsQ s4
  have : lsm (List.range p.length) (fun a => lsm (List.range p.length) fun b => lsm (List.range p[0]!.length) fun c => lsm (List.range p[0]!.length) fun d => rX p a b c d) = 2 * su (fun a => su (fun b => rndQ p a b) p.length) p.length := by
    rw [lsm_congr fun a _ => lsm_congr fun b _ => rnd_X p a b, lsm_congr fun a _ => lsm_two _ _, lsm_two, lsm_range]
    congr 1
    exact su_congr fun a _ => lsm_range _ _
  rw [this, su_sym (rnd_comm p) (rnd_self p)]; omega
/-- a part's rounds -/
theorem part_X {p Q : Pic} {rs cs : List Nat} (hl : Q.length = rs.length) (hw : Q[0]!.length = cs.length) (hc : ∀ i j, i < rs.length → j < cs.length → (Q[i]!)[j]! = (p[rs[i]!]!)[cs[j]!]!) : 4 * roundsQ Q = s4 p rs cs := by
  rw [rounds_X, hl, hw]
  unfold s4
  rw [lsm_idx rs]
  refine lsm_congr fun a ha => ?_
  rw [lsm_idx rs]
  refine lsm_congr fun b hb => ?_
  rw [lsm_idx cs]
  refine lsm_congr fun c hc' => ?_
  rw [lsm_idx cs]
  refine lsm_congr fun d hd => ?_
  have ha := List.mem_range.mp ha
  have hb := List.mem_range.mp hb
  have hc' := List.mem_range.mp hc'
  have hd := List.mem_range.mp hd
  exact rX_cell (hc a c ha hc') (hc b d hb hd) (hc a d ha hd) (hc b c hb hc')
theorem s4_sub {p : Pic} {rs cs rs' cs' : List Nat} (n1 : rs.Nodup) (n2 : cs.Nodup) (h1 : ∀ x ∈ rs, x ∈ rs') (h2 : ∀ x ∈ cs, x ∈ cs') : s4 p rs cs ≤ s4 p rs' cs' := by
  have mono : ∀ {l : List Nat} {f g : Nat → Nat}, (∀ x ∈ l, f x ≤ g x) → lsm l f ≤ lsm l g := fun {l f g} h => by
    induction l with
    | nil => exact Nat.zero_le _
    | cons x l ih =>
      rw [lsm_cons, lsm_cons]
      have a := h x List.mem_cons_self
      have b := ih fun y hy => h y (List.mem_cons_of_mem _ hy)
      omega
  unfold s4
  refine Nat.le_trans (mono fun a _ => Nat.le_trans (mono fun b _ => Nat.le_trans (mono fun c _ => lsm_sub n2 h2 _) (lsm_sub n2 h2 _)) (lsm_sub n1 h1 _)) (lsm_sub n1 h1 _)
theorem round_core {p : Pic} {s : List Nat} (hs : ∀ l ∈ s, l < p.length + p[0]!.length) (h : ∀ l ∈ s, ∃ o ∈ leadsQ p l, o ∈ s) : ∀ l ∈ s, l ∈ coreQ p := by
  have key : ∀ n k, k ≤ n → k < (layersQ p).length → ∀ l ∈ s, l ∉ (layersQ p)[k]! := by
    intro n
    induction n with
    | zero =>
      intro k hk hk2 l hl z
      obtain ⟨o, o1, o2⟩ := h l hl
      obtain ⟨m, m1, _⟩ := leads_ahead hk2 z o1
      omega
    | succ n ih =>
      intro k hk hk2 l hl z
      obtain ⟨o, o1, o2⟩ := h l hl
      obtain ⟨m, m1, m2⟩ := leads_ahead hk2 z o1
      exact ih m (by omega) (by omega) o o2 m2
  intro l hl
  refine (core_or (hs l hl)).mpr fun z => ?_
  obtain ⟨k, hk, hl2⟩ := mem_flat z
  exact key k k (Nat.le_refl _) hk l hl hl2
theorem mem_leads_row {p : Pic} {a c : Nat} (ha : a < p.length) (hc : c < p[0]!.length) (h : (p[a]!)[c]! = false) : p.length + c ∈ leadsQ p a := by
  unfold leadsQ
  rw [if_pos ha]
  exact List.mem_map.mpr ⟨c, List.mem_filter.mpr ⟨List.mem_range.mpr hc, decide_eq_true h⟩, rfl⟩
theorem mem_leads_col {p : Pic} {a c : Nat} (ha : a < p.length) (h : (p[a]!)[c]! = true) : a ∈ leadsQ p (p.length + c) := by
  unfold leadsQ
  rw [if_neg (by omega), show p.length + c - p.length = c by omega]
  exact List.mem_filter.mpr ⟨List.mem_range.mpr ha, decide_eq_true h⟩
theorem core_X {p : Pic} {a b c d : Nat} (ha : a < p.length) (hb : b < p.length) (hc : c < p[0]!.length) (hd : d < p[0]!.length) (h : 0 < rX p a b c d) : a ∈ coreQ p ∧ b ∈ coreQ p ∧ p.length + c ∈ coreQ p ∧ p.length + d ∈ coreQ p := by
  have hh : (p[a]!)[c]! = (p[b]!)[d]! ∧ (p[a]!)[d]! = (p[b]!)[c]! ∧ (p[a]!)[c]! ≠ (p[a]!)[d]! := by
    unfold rX at h
    split at h
    · assumption
    · omega
  obtain ⟨h1, h2, h3⟩ := hh
  have all : ∀ l ∈ [a, b, p.length + c, p.length + d], l ∈ coreQ p := by
    refine round_core (fun l hl => ?_) fun l hl => ?_
    · simp only [List.mem_cons, List.not_mem_nil, or_false] at hl
      omega
    · simp only [List.mem_cons, List.not_mem_nil, or_false] at hl
      cases x : (p[a]!)[c]! with
      | true =>
        rw [x] at h1 h3
        have y : (p[a]!)[d]! = false := by
          cases z : (p[a]!)[d]! with
          | true => exact (h3 z.symm).elim
          | false => rfl
        rw [y] at h2
        rcases hl with e | e | e | e
        · exact ⟨p.length + d, by rw [e]; exact mem_leads_row ha hd y, by simp⟩
        · exact ⟨p.length + c, by rw [e]; exact mem_leads_row hb hc h2.symm, by simp⟩
        · exact ⟨a, by rw [e]; exact mem_leads_col ha x, by simp⟩
        · exact ⟨b, by rw [e]; exact mem_leads_col hb h1.symm, by simp⟩
      | false =>
        rw [x] at h1 h3
        have y : (p[a]!)[d]! = true := by
          cases z : (p[a]!)[d]! with
          | true => rfl
          | false => exact (h3 z.symm).elim
        rw [y] at h2
        rcases hl with e | e | e | e
        · exact ⟨p.length + c, by rw [e]; exact mem_leads_row ha hc x, by simp⟩
        · exact ⟨p.length + d, by rw [e]; exact mem_leads_row hb hd h1.symm, by simp⟩
        · exact ⟨b, by rw [e]; exact mem_leads_col hb h2.symm, by simp⟩
        · exact ⟨a, by rw [e]; exact mem_leads_col ha y, by simp⟩
  exact ⟨all a (by simp), all b (by simp), all _ (by simp), all _ (by simp)⟩
theorem down_X {p : Pic} {a b c d : Nat} (hc : c ∈ downQ p a b) (hd : d ∈ downQ p b a) : 0 < rX p a b c d := by
  obtain ⟨_, c1, c2⟩ := mem_down.mp hc
  obtain ⟨_, d1, d2⟩ := mem_down.mp hd
  unfold rX
  rw [if_pos ⟨by rw [c1, d1], by rw [d2, c2], by rw [c1, d2]; decide⟩]; omega
end W
namespace W
end W
set_option maxHeartbeats 1000000
namespace W
open PySem L2 G T
def V_is_int (value : Nat) (Q : Bool → Prop) : Prop := Q (decide (True ∧ (¬False)))
theorem snd_is_int (value : Nat) {Q : Bool → Prop} (h : V_is_int value Q) (tp : List D) : ∃ r : Bool, Q r ∧ m_is_int [eN value] tp = .ok (eB r) tp := by
  obtain ⟨d, t, e1, rfl, r, rfl, q⟩ := T.wp_def (n := 1) (s := b_is_int) (ds := [eN value]) (tp := tp) (Q := fun d t => t = tp ∧ ∃ r : Bool, d = eB r ∧ Q r) (by
    unfold V_is_int at h
    change WP _ _ _ _ (b_is_int [some (eN value)] _)
    unfold b_is_int
    exact T.wp_ret (T.ev_andE (P := True) (Q := (¬False)) (T.ev_isi (d := eN value) (T.ev_v rfl) rfl kb_int_int) (fun hp => (T.ev_notE (P := False) (T.ev_isi (d := eN value) (T.ev_v rfl) rfl kb_int_bool)))) ⟨rfl, (decide (True ∧ (¬False))), rfl, h⟩)
  exact ⟨r, q, e1⟩
abbrev F_is_int (_ : Nat) : Bool := true
theorem ok_is_int (v : Nat) : V_is_int v (· = F_is_int v) := by simp [V_is_int]
theorem t_is_int {value : Nat} (_ : True) (tp : List D) : m_is_int [eN value] tp = .ok (eB (F_is_int value)) tp := by
  obtain ⟨r, rfl, e⟩ := snd_is_int value (ok_is_int value) tp
  exact e
end W
set_option maxHeartbeats 1000000
namespace W
open PySem L2 G T
def V_is_picture (value : (List Row)) (Q : Bool → Prop) : Prop := ((((¬True) ∨ (¬(1 ≤ value.length ∧ value.length ≤ 30))) → Q false) ∧ (¬((¬True) ∨ (¬(1 ≤ value.length ∧ value.length ≤ 30))) → (value.length ≤ 1000000) ∧ (¬(¬(∀ x1 ∈ value, True)) → (0 < value.length) ∧ ((value[0]!).length ≤ 1000000)) ∧ ((((¬(∀ x1 ∈ value, True)) ∨ (¬(1 ≤ (value[0]!).length ∧ (value[0]!).length ≤ 30))) → Q false) ∧ (¬((¬(∀ x1 ∈ value, True)) ∨ (¬(1 ≤ (value[0]!).length ∧ (value[0]!).length ≤ 30))) → (value.length ≤ 1000000) ∧ (∀ x6, x6 ∈ value → (x6.length ≤ 1000000) ∧ (0 < value.length) ∧ ((value[0]!).length ≤ 1000000) ∧ ((x6.length = (value[0]!).length) → (x6.length ≤ 1000000))) ∧ Q (decide (∀ x6 ∈ value, ((x6.length = (value[0]!).length) ∧ (∀ x11 ∈ x6, (x11 ∈ [true, false])))))))))
theorem snd_is_picture (value : (List Row)) {Q : Bool → Prop} (h : V_is_picture value Q) (tp : List D) : ∃ r : Bool, Q r ∧ m_is_picture [(eT eR) value] tp = .ok (eB r) tp := by
  obtain ⟨d, t, e1, rfl, r, rfl, q⟩ := T.wp_def (n := 3) (s := b_is_picture) (ds := [(eT eR) value]) (tp := tp) (Q := fun d t => t = tp ∧ ∃ r : Bool, d = eB r ∧ Q r) (by
    unfold V_is_picture at h
    change WP _ _ _ _ (b_is_picture [some ((eT eR) value), none, none] _)
    unfold b_is_picture
    refine T.wp_seq (T.wp_if (P := ((¬True) ∨ (¬(1 ≤ value.length ∧ value.length ≤ 30)))) (T.ev_orT (P := (¬True)) (Q := (¬(1 ≤ value.length ∧ value.length ≤ 30))) (T.ev_notT (P := True) (T.ev_bool (T.ev_isi (d := (eT eR) value) (T.ev_v rfl) rfl kb_tuple_tuple))) (fun hp => (T.ev_notT (P := (1 ≤ value.length ∧ value.length ≤ 30)) (T.ev_bool (T.ev_chLeLe (x := 1) (y := value.length) (z := 30) (T.ev_cN 1) (T.ev_lenT (e := eR) (xs := value) (T.ev_v rfl)) (T.ev_cN 30)))))) (fun hp => ?_) (fun hn => ?_))
    · replace h := h.1 hp
      exact T.wp_ret (T.ev_c rfl) ⟨rfl, false, rfl, h⟩
    · replace h := h.2 hn
      refine T.wp_skip ?_
      change WP _ _ _ _ (At _ [some ((eT eR) value), none, none] _)
      obtain ⟨c2, h⟩ := h
      obtain ⟨c5, h⟩ := h
      refine T.wp_seq (T.wp_if (P := ((¬(∀ x1 ∈ value, True)) ∨ (¬(1 ≤ (value[0]!).length ∧ (value[0]!).length ≤ 30)))) (T.ev_orT (P := (¬(∀ x1 ∈ value, True))) (Q := (¬(1 ≤ (value[0]!).length ∧ (value[0]!).length ≤ 30))) (T.ev_notT (P := (∀ x1 ∈ value, True)) (T.ev_bool (T.ev_allY (xs := value) (R := fun x1 => True) (T.ev_compY (e := eR) (e1 := eB) (xs := value) (ds := fun x1 => [eR x1]) (g := fun x1 => (decide True)) (T.it_T (e := eR) (xs := value) (T.ev_v rfl)) c2 (fun _ => rfl) (fun x1 hx => (T.ev_isi (d := eR x1) (T.ev_v rfl) rfl kb_str_str)))))) (fun hp => match c5 hp with | ⟨c3, c4⟩ => (T.ev_notT (P := (1 ≤ (value[0]!).length ∧ (value[0]!).length ≤ 30)) (T.ev_bool (T.ev_chLeLe (x := 1) (y := (value[0]!).length) (z := 30) (T.ev_cN 1) (T.ev_lenR (r := value[0]!) c4 (T.ev_ixT (e := eR) (xs := value) (i := 0) c3 (T.ev_v rfl) (T.ev_cN 0))) (T.ev_cN 30)))))) (fun hp => ?_) (fun hn => ?_))
      · replace h := h.1 hp
        exact T.wp_ret (T.ev_c rfl) ⟨rfl, false, rfl, h⟩
      · replace h := h.2 hn
        refine T.wp_skip ?_
        change WP _ _ _ _ (At _ [some ((eT eR) value), none, none] _)
        obtain ⟨c7, h⟩ := h
        obtain ⟨c14, h⟩ := h
        exact T.wp_ret (T.ev_allY (xs := value) (R := fun x6 => ((x6.length = (value[0]!).length) ∧ (∀ x11 ∈ x6, (x11 ∈ [true, false])))) (T.ev_compY (e := eR) (e1 := eB) (xs := value) (ds := fun x6 => [eR x6]) (g := fun x6 => (decide ((x6.length = (value[0]!).length) ∧ (∀ x11 ∈ x6, (x11 ∈ [true, false]))))) (T.it_T (e := eR) (xs := value) (T.ev_v rfl)) c7 (fun _ => rfl) (fun x6 hx => match c14 x6 hx with | ⟨c8, c9, c10, c13⟩ => (T.ev_andE (P := (x6.length = (value[0]!).length)) (Q := (∀ x11 ∈ x6, (x11 ∈ [true, false]))) (T.ev_eq (x := x6.length) (y := (value[0]!).length) qN rfl (T.ev_lenR (r := x6) c8 (T.ev_v rfl)) (T.ev_lenR (r := value[0]!) c10 (T.ev_ixT (e := eR) (xs := value) (i := 0) c9 (T.ev_v rfl) (T.ev_cN 0)))) (fun hp => have c12 := c13 hp; (T.ev_allY (xs := x6) (R := fun x11 => (x11 ∈ [true, false])) (T.ev_compY (e := eG) (e1 := eB) (xs := x6) (ds := fun x11 => [eG x11]) (g := fun x11 => (decide (x11 ∈ [true, false]))) (T.it_R (r := x6) (T.ev_v rfl)) c12 (fun _ => rfl) (fun x11 hx => (T.ev_inT (x := x11) (xs := [true, false]) qG rfl (T.ev_v rfl) (T.ev_tup (ds := [eG true, eG false]) (T.ev_cons (T.ev_c (congrArg D.str str_black)) (T.ev_cons (T.ev_c (congrArg D.str str_white)) T.ev_nil)) rfl)))))))))) ⟨rfl, (decide (∀ x6 ∈ value, ((x6.length = (value[0]!).length) ∧ (∀ x11 ∈ x6, (x11 ∈ [true, false]))))), rfl, h⟩)
  exact ⟨r, q, e1⟩
abbrev P_is_picture (p : Pic) : Prop := PicP p
abbrev F_is_picture (_ : Pic) : Bool := true
theorem ok_is_picture {p : Pic} (k : P_is_picture p) : V_is_picture p (· = F_is_picture p) := by
  have h1 := k.h1; have h30 := k.h30; have w1 := k.w1; have w30 := k.w30
  unfold V_is_picture
  refine ⟨fun h => ?_, fun _ => ⟨by omega, fun _ => ⟨by omega, by omega⟩, fun h => ?_, fun _ => ⟨by omega, fun r hr => ?_, ?_⟩⟩⟩
  · rcases h with h | h
    · exact (h trivial).elim
    · exact (h ⟨h1, h30⟩).elim
  · rcases h with h | h
    · exact (h fun _ _ => trivial).elim
    · exact (h ⟨w1, w30⟩).elim
  · have := k.row r hr
    exact ⟨by omega, by omega, by omega, fun _ => by omega⟩
  · refine decide_eq_true fun r hr => ⟨k.row r hr, fun b _ => ?_⟩
    cases b <;> simp
theorem t_is_picture {value : (List Row)} (hP : P_is_picture value) (tp : List D) : m_is_picture [(eT eR) value] tp = .ok (eB (F_is_picture value)) tp := by
  obtain ⟨r, rfl, e⟩ := snd_is_picture value (ok_is_picture hP) tp
  exact e
end W
set_option maxHeartbeats 1000000
namespace W
open PySem L2 G T
def V_lines_of (picture : (List Row)) (Q : Nat → Prop) : Prop := (0 < picture.length) ∧ ((picture[0]!).length ≤ 1000000) ∧ Q (picture.length + (picture[0]!).length)
theorem snd_lines_of (picture : (List Row)) {Q : Nat → Prop} (h : V_lines_of picture Q) (tp : List D) : ∃ r : Nat, Q r ∧ m_lines_of [(eT eR) picture] tp = .ok (eN r) tp := by
  obtain ⟨d, t, e1, rfl, r, rfl, q⟩ := T.wp_def (n := 1) (s := b_lines_of) (ds := [(eT eR) picture]) (tp := tp) (Q := fun d t => t = tp ∧ ∃ r : Nat, d = eN r ∧ Q r) (by
    unfold V_lines_of at h
    change WP _ _ _ _ (b_lines_of [some ((eT eR) picture)] _)
    unfold b_lines_of
    obtain ⟨c1, h⟩ := h
    obtain ⟨c2, h⟩ := h
    exact T.wp_ret (T.ev_add (x := picture.length) (y := (picture[0]!).length) (T.ev_lenT (e := eR) (xs := picture) (T.ev_v rfl)) (T.ev_lenR (r := picture[0]!) c2 (T.ev_ixT (e := eR) (xs := picture) (i := 0) c1 (T.ev_v rfl) (T.ev_cN 0)))) ⟨rfl, (picture.length + (picture[0]!).length), rfl, h⟩)
  exact ⟨r, q, e1⟩
abbrev P_lines_of (p : Pic) : Prop := PicP p
def F_lines_of (p : Pic) : Nat := p.length + p[0]!.length
theorem ok_lines_of {p : Pic} (k : P_lines_of p) : V_lines_of p (· = F_lines_of p) := ⟨k.h1, by have := k.w30; omega, rfl⟩
theorem t_lines_of {picture : (List Row)} (hP : P_lines_of picture) (tp : List D) : m_lines_of [(eT eR) picture] tp = .ok (eN (F_lines_of picture)) tp := by
  obtain ⟨r, rfl, e⟩ := snd_lines_of picture (ok_lines_of hP) tp
  exact e
end W
set_option maxHeartbeats 1000000
namespace W
open PySem L2 G T
def V_differing (start : (List Row)) (goal : (List Row)) (Q : (List (Nat × Nat)) → Prop) : Prop := (∀ x1, x1 ∈ (enumP start) → ∀ y2, y2 ∈ (enumP x1.2) → (x1.1 < goal.length) ∧ ((goal[x1.1]!).length ≤ 1000000 ∧ y2.1 < (goal[x1.1]!).length)) ∧ (((enumP start).flatMap fun x1 => ((enumP x1.2).filter fun y2 => decide ((goal[x1.1]!)[y2.1]! ≠ y2.2)).map fun y2 => (x1.1, y2.1)).length ≤ 1000000) ∧ Q ((enumP start).flatMap fun x1 => ((enumP x1.2).filter fun y2 => decide ((goal[x1.1]!)[y2.1]! ≠ y2.2)).map fun y2 => (x1.1, y2.1))
theorem snd_differing (start : (List Row)) (goal : (List Row)) {Q : (List (Nat × Nat)) → Prop} (h : V_differing start goal Q) (tp : List D) : ∃ r : (List (Nat × Nat)), Q r ∧ m_differing [(eT eR) start, (eT eR) goal] tp = .ok ((eL (eP eN eN)) r) tp := by
  obtain ⟨d, t, e1, rfl, r, rfl, q⟩ := T.wp_def (n := 6) (s := b_differing) (ds := [(eT eR) start, (eT eR) goal]) (tp := tp) (Q := fun d t => t = tp ∧ ∃ r : (List (Nat × Nat)), d = (eL (eP eN eN)) r ∧ Q r) (by
    unfold V_differing at h
    change WP _ _ _ _ (b_differing [some ((eT eR) start), some ((eT eR) goal), none, none, none, none] _)
    unfold b_differing
    obtain ⟨c5, h⟩ := h
    obtain ⟨c6, h⟩ := h
    exact T.wp_ret (T.ev_comp2 (e := (eP eN eR)) (e1 := (eP eN eG)) (e2 := (eP eN eN)) (xs := (enumP start)) (ds := fun x1 => [eN x1.1, eR x1.2]) (ys := fun x1 => (enumP x1.2)) (ds1 := fun y2 => [eN y2.1, eG y2.2]) (g := fun x1 y2 => (x1.1, y2.1)) (P := fun x1 y2 => ((goal[x1.1]!)[y2.1]! ≠ y2.2)) (T.it_enumT (e := eR) (xs := start) (T.ev_v rfl)) (fun _ => rfl) (fun x1 hx => (T.it_enumR (xs := x1.2) (T.ev_v rfl))) (fun _ => rfl) (fun x1 hx y2 hy => match c5 x1 hx y2 hy with | ⟨c3, c4⟩ => (T.ev_bool (T.ev_ne (x := (goal[x1.1]!)[y2.1]!) (y := y2.2) qG rfl (T.ev_ixR (r := goal[x1.1]!) (i := y2.1) c4 (T.ev_ixT (e := eR) (xs := goal) (i := x1.1) c3 (T.ev_v rfl) (T.ev_v rfl)) (T.ev_v rfl)) (T.ev_v rfl)))) (fun x1 hx y2 hy hq => (T.ev_tup (ds := [eN x1.1, eN y2.1]) (T.ev_cons (T.ev_v rfl) (T.ev_cons (T.ev_v rfl) T.ev_nil)) rfl)) c6) ⟨rfl, ((enumP start).flatMap fun x1 => ((enumP x1.2).filter fun y2 => decide ((goal[x1.1]!)[y2.1]! ≠ y2.2)).map fun y2 => (x1.1, y2.1)), rfl, h⟩)
  exact ⟨r, q, e1⟩
abbrev P_differing (p q : Pic) : Prop := PicP p ∧ PicP q ∧ p.length = q.length ∧ p[0]!.length = q[0]!.length
abbrev F_differing (p q : Pic) : List (Nat × Nat) := diffQ p q
theorem differing_enum {p q : Pic} (k : PicP p) : ((enumP p).flatMap fun x => ((enumP x.2).filter fun y => decide ((q[x.1]!)[y.1]! ≠ y.2)).map fun y => (x.1, y.1)) = F_differing p q := by
  unfold F_differing diffQ
  rw [enumP_eq p, List.flatMap_map]
  refine flatMap_congr' fun i hi => ?_
  have hi := List.mem_range.mp hi
  rw [enumP_eq, k.get hi, List.filter_map, List.map_map]
  have : (fun y : Nat × Bool => decide ((q[i]!)[y.1]! ≠ y.2)) ∘ (fun j => (j, (p[i]!)[j]!)) = fun j => decide ((p[i]!)[j]! ≠ (q[i]!)[j]!) := by
    funext j
    show decide ((q[i]!)[j]! ≠ (p[i]!)[j]!) = _
    exact decide_eq_decide.mpr ⟨fun h e => h e.symm, fun h e => h e.symm⟩
  rw [this]; rfl
theorem flat_len {α β : Type} (f : α → List β) {n m : Nat} : ∀ {xs : List α}, xs.length ≤ n → (∀ x ∈ xs, (f x).length ≤ m) → (xs.flatMap f).length ≤ n * m
  | [], _, _ => by simp
  | x :: xs, h, k => by
    rw [List.flatMap_cons, List.length_append]
    have a := k x List.mem_cons_self
    have b := flat_len (n := n - 1) f (xs := xs) (by rw [List.length_cons] at h; omega) fun y hy => k y (List.mem_cons_of_mem _ hy)
    have : n = (n - 1) + 1 := by rw [List.length_cons] at h; omega
    rw [this, Nat.add_mul]; omega
theorem differing_len {p q : Pic} (k : PicP p) : (F_differing p q).length ≤ 900 := by
  refine flat_len (n := 30) (m := 30) _ (by rw [List.length_range]; exact k.h30) fun i hi => ?_
  rw [List.length_map]
  have := len_filter_le (fun j => decide ((p[i]!)[j]! ≠ (q[i]!)[j]!)) (List.range p[0]!.length)
  rw [List.length_range] at this
  have := k.w30
  omega
theorem ok_differing {p q : Pic} (h : P_differing p q) : V_differing p q (· = F_differing p q) := by
  obtain ⟨k, l, e1, e2⟩ := h
  have e := differing_enum (q := q) k
  refine ⟨fun x hx y hy => ?_, ?_, e⟩
  · obtain ⟨a, b⟩ := mem_enumP hx
    obtain ⟨c, d⟩ := mem_enumP hy
    have := l.get (i := x.1) (by omega)
    have := k.get a
    rw [b] at c
    have := l.w30
    omega
  · rw [e]; have := differing_len (q := q) k; omega
theorem t_differing {start : (List Row)} {goal : (List Row)} (hP : P_differing start goal) (tp : List D) : m_differing [(eT eR) start, (eT eR) goal] tp = .ok ((eL (eP eN eN)) (F_differing start goal)) tp := by
  obtain ⟨r, rfl, e⟩ := snd_differing start goal (ok_differing hP) tp
  exact e
end W
set_option maxHeartbeats 1000000
namespace W
open PySem L2 G T
def V_part_of (picture : (List Row)) (rows : (List Nat)) (columns : (List Nat)) (Q : (List Row) → Prop) : Prop := (rows.length ≤ 1000000) ∧ (∀ x1, x1 ∈ rows → (columns.length ≤ 1000000) ∧ (∀ x3, x3 ∈ columns → (x1 < picture.length) ∧ ((picture[x1]!).length ≤ 1000000 ∧ x3 < (picture[x1]!).length)) ∧ ((columns.map fun x3 => (picture[x1]!)[x3]!).length ≤ 16777216)) ∧ Q (rows.map fun x1 => (columns.map fun x3 => (picture[x1]!)[x3]!))
theorem snd_part_of (picture : (List Row)) (rows : (List Nat)) (columns : (List Nat)) {Q : (List Row) → Prop} (h : V_part_of picture rows columns Q) (tp : List D) : ∃ r : (List Row), Q r ∧ m_part_of [(eT eR) picture, (eL eN) rows, (eL eN) columns] tp = .ok ((eT eR) r) tp := by
  obtain ⟨d, t, e1, rfl, r, rfl, q⟩ := T.wp_def (n := 5) (s := b_part_of) (ds := [(eT eR) picture, (eL eN) rows, (eL eN) columns]) (tp := tp) (Q := fun d t => t = tp ∧ ∃ r : (List Row), d = (eT eR) r ∧ Q r) (by
    unfold V_part_of at h
    change WP _ _ _ _ (b_part_of [some ((eT eR) picture), some ((eL eN) rows), some ((eL eN) columns), none, none] _)
    unfold b_part_of
    obtain ⟨c2, h⟩ := h
    obtain ⟨c9, h⟩ := h
    exact T.wp_ret (T.ev_tupleL (e := eR) (xs := (rows.map fun x1 => (columns.map fun x3 => (picture[x1]!)[x3]!))) (T.ev_compY (e := eN) (e1 := eR) (xs := rows) (ds := fun x1 => [eN x1]) (g := fun x1 => (columns.map fun x3 => (picture[x1]!)[x3]!)) (T.it_L (e := eN) (xs := rows) (T.ev_v rfl)) c2 (fun _ => rfl) (fun x1 hx => match c9 x1 hx with | ⟨c4, c7, c8⟩ => (T.ev_joinG (bs := (columns.map fun x3 => (picture[x1]!)[x3]!)) c8 (T.ev_compY (e := eN) (e1 := eG) (xs := columns) (ds := fun x3 => [eN x3]) (g := fun x3 => (picture[x1]!)[x3]!) (T.it_L (e := eN) (xs := columns) (T.ev_v rfl)) c4 (fun _ => rfl) (fun x3 hx => match c7 x3 hx with | ⟨c5, c6⟩ => (T.ev_ixR (r := picture[x1]!) (i := x3) c6 (T.ev_ixT (e := eR) (xs := picture) (i := x1) c5 (T.ev_v rfl) (T.ev_v rfl)) (T.ev_v rfl)))))))) ⟨rfl, (rows.map fun x1 => (columns.map fun x3 => (picture[x1]!)[x3]!)), rfl, h⟩)
  exact ⟨r, q, e1⟩
abbrev P_part_of (p : Pic) (rs cs : List Nat) : Prop := PicP p ∧ rs.length ≤ 1000 ∧ cs.length ≤ 1000 ∧ (∀ i ∈ rs, i < p.length) ∧ ∀ j ∈ cs, j < p[0]!.length
abbrev F_part_of (p : Pic) (rs cs : List Nat) : Pic := rs.map fun i => cs.map fun j => (p[i]!)[j]!
theorem ok_part_of {p : Pic} {rs cs : List Nat} (h : P_part_of p rs cs) : V_part_of p rs cs (· = F_part_of p rs cs) := by
  obtain ⟨k, l1, l2, h1, h2⟩ := h
  have := k.h1; have := k.h30; have := k.w1; have := k.w30
  refine ⟨by omega, fun i hi => ⟨by omega, fun j hj => ?_, by rw [List.length_map]; omega⟩, rfl⟩
  have hi := h1 i hi
  have hj := h2 j hj
  have := k.get hi
  omega
theorem t_part_of {picture : (List Row)} {rows : (List Nat)} {columns : (List Nat)} (hP : P_part_of picture rows columns) (tp : List D) : m_part_of [(eT eR) picture, (eL eN) rows, (eL eN) columns] tp = .ok ((eT eR) (F_part_of picture rows columns)) tp := by
  obtain ⟨r, rfl, e⟩ := snd_part_of picture rows columns (ok_part_of hP) tp
  exact e
end W
set_option maxHeartbeats 1000000
namespace W
open PySem L2 G T
def V_leads_to (picture : (List Row)) (line : Nat) (Q : (List Nat) → Prop) : Prop := (((line < picture.length) → (line < picture.length) ∧ ((enumP (picture[line]!)).length ≤ 1000000) ∧ Q (((enumP (picture[line]!)).filter fun x2 => decide (x2.2 ≠ true)).map fun x2 => (picture.length + x2.1))) ∧ (¬(line < picture.length) → ((enumP picture).length ≤ 1000000) ∧ (∀ x4, x4 ∈ (enumP picture) → (picture.length ≤ line) ∧ (x4.2.length ≤ 1000000 ∧ (line - picture.length) < x4.2.length)) ∧ Q (((enumP picture).filter fun x4 => decide (x4.2[(line - picture.length)]! = true)).map fun x4 => x4.1)))
theorem snd_leads_to (picture : (List Row)) (line : Nat) {Q : (List Nat) → Prop} (h : V_leads_to picture line Q) (tp : List D) : ∃ r : (List Nat), Q r ∧ m_leads_to [(eT eR) picture, eN line] tp = .ok ((eL eN) r) tp := by
  obtain ⟨d, t, e1, rfl, r, rfl, q⟩ := T.wp_def (n := 6) (s := b_leads_to) (ds := [(eT eR) picture, eN line]) (tp := tp) (Q := fun d t => t = tp ∧ ∃ r : (List Nat), d = (eL eN) r ∧ Q r) (by
    unfold V_leads_to at h
    change WP _ _ _ _ (b_leads_to [some ((eT eR) picture), some (eN line), none, none, none, none] _)
    unfold b_leads_to
    refine T.wp_seq (T.wp_set (T.ev_lenT (e := eR) (xs := picture) (T.ev_v rfl)) ?_)
    change WP _ _ _ _ (At _ [some ((eT eR) picture), some (eN line), some (eN picture.length), none, none, none] _)
    refine T.wp_seq (T.wp_if (P := (line < picture.length)) (T.ev_bool (T.ev_lt (x := line) (y := picture.length) (T.ev_v rfl) (T.ev_v rfl))) (fun hp => ?_) (fun hn => ?_))
    · replace h := h.1 hp
      obtain ⟨c1, h⟩ := h
      obtain ⟨c3, h⟩ := h
      exact T.wp_ret (T.ev_comp (e := (eP eN eG)) (e1 := eN) (xs := (enumP (picture[line]!))) (ds := fun x2 => [eN x2.1, eG x2.2]) (g := fun x2 => (picture.length + x2.1)) (P := fun x2 => (x2.2 ≠ true)) (T.it_enumR (xs := picture[line]!) (T.ev_ixT (e := eR) (xs := picture) (i := line) c1 (T.ev_v rfl) (T.ev_v rfl))) c3 (fun _ => rfl) (fun x2 hx => (T.ev_bool (T.ev_ne (x := x2.2) (y := true) qG rfl (T.ev_v rfl) (T.ev_c (congrArg D.str str_black))))) (fun x2 hx hq => (T.ev_add (x := picture.length) (y := x2.1) (T.ev_v rfl) (T.ev_v rfl)))) ⟨rfl, (((enumP (picture[line]!)).filter fun x2 => decide (x2.2 ≠ true)).map fun x2 => (picture.length + x2.1)), rfl, h⟩
    · replace h := h.2 hn
      refine T.wp_skip ?_
      change WP _ _ _ _ (At _ [some ((eT eR) picture), some (eN line), some (eN picture.length), none, none, none] _)
      obtain ⟨c5, h⟩ := h
      obtain ⟨c8, h⟩ := h
      exact T.wp_ret (T.ev_comp (e := (eP eN eR)) (e1 := eN) (xs := (enumP picture)) (ds := fun x4 => [eN x4.1, eR x4.2]) (g := fun x4 => x4.1) (P := fun x4 => (x4.2[(line - picture.length)]! = true)) (T.it_enumT (e := eR) (xs := picture) (T.ev_v rfl)) c5 (fun _ => rfl) (fun x4 hx => match c8 x4 hx with | ⟨c6, c7⟩ => (T.ev_bool (T.ev_eq (x := x4.2[(line - picture.length)]!) (y := true) qG rfl (T.ev_ixR (r := x4.2) (i := (line - picture.length)) c7 (T.ev_v rfl) (T.ev_sub (x := line) (y := picture.length) c6 (T.ev_v rfl) (T.ev_v rfl))) (T.ev_c (congrArg D.str str_black))))) (fun x4 hx hq => (T.ev_v rfl))) ⟨rfl, (((enumP picture).filter fun x4 => decide (x4.2[(line - picture.length)]! = true)).map fun x4 => x4.1), rfl, h⟩)
  exact ⟨r, q, e1⟩
abbrev P_leads_to (p : Pic) (l : Nat) : Prop := PicP p ∧ l < p.length + p[0]!.length
abbrev F_leads_to (p : Pic) (l : Nat) : List Nat := leadsQ p l
theorem ok_leads_to {p : Pic} {l : Nat} (h : P_leads_to p l) : V_leads_to p l (· = F_leads_to p l) := by
  obtain ⟨k, hl⟩ := h
  have h1 := k.h1; have h30 := k.h30; have w1 := k.w1; have w30 := k.w30
  refine ⟨fun q => ⟨q, ?_, ?_⟩, fun q => ⟨?_, fun x hx => ⟨by omega, ?_⟩, ?_⟩⟩
  · rw [enumP_eq, List.length_map, List.length_range, k.get q]; omega
  · unfold F_leads_to leadsQ
    rw [if_pos q, enumP_eq, List.filter_map, List.map_map, k.get q]
    have : ((fun x : Nat × Bool => decide (x.2 ≠ true)) ∘ fun j => (j, (p[l]!)[j]!)) = fun j => decide ((p[l]!)[j]! = false) := by
      funext j
      show decide ((p[l]!)[j]! ≠ true) = _
      cases (p[l]!)[j]! <;> rfl
    rw [this]; rfl
  · rw [enumP_eq, List.length_map, List.length_range]; omega
  · obtain ⟨a, b⟩ := mem_enumP hx
    have := k.get a
    rw [b]
    omega
  · unfold F_leads_to leadsQ
    rw [if_neg q, enumP_eq, List.filter_map, List.map_map]
    exact List.map_id _
theorem t_leads_to {picture : (List Row)} {line : Nat} (hP : P_leads_to picture line) (tp : List D) : m_leads_to [(eT eR) picture, eN line] tp = .ok ((eL eN) (F_leads_to picture line)) tp := by
  obtain ⟨r, rfl, e⟩ := snd_leads_to picture line (ok_leads_to hP) tp
  exact e
end W
set_option maxHeartbeats 1000000
namespace W
open PySem L2 G T
def V_meets (picture : (List Row)) (cell : (Nat × Nat)) (lines : (List (Nat × Bool))) (Q : Bool → Prop) : Prop := Q (decide ((cell.1 ∈ dkeys lines) ∨ ((picture.length + cell.2) ∈ dkeys lines)))
theorem snd_meets (picture : (List Row)) (cell : (Nat × Nat)) (lines : (List (Nat × Bool))) {Q : Bool → Prop} (h : V_meets picture cell lines Q) (tp : List D) : ∃ r : Bool, Q r ∧ m_meets [(eT eR) picture, (eP eN eN) cell, (eD eB) lines] tp = .ok (eB r) tp := by
  obtain ⟨d, t, e1, rfl, r, rfl, q⟩ := T.wp_def (n := 3) (s := b_meets) (ds := [(eT eR) picture, (eP eN eN) cell, (eD eB) lines]) (tp := tp) (Q := fun d t => t = tp ∧ ∃ r : Bool, d = eB r ∧ Q r) (by
    unfold V_meets at h
    change WP _ _ _ _ (b_meets [some ((eT eR) picture), some ((eP eN eN) cell), some ((eD eB) lines)] _)
    unfold b_meets
    exact T.wp_ret (T.ev_orE (P := (cell.1 ∈ dkeys lines)) (Q := ((picture.length + cell.2) ∈ dkeys lines)) (T.ev_inK (x := cell.1) (d := lines) (T.ev_fst (x := cell) (T.ev_v rfl) rfl) (T.ev_v rfl)) (fun hp => (T.ev_inK (x := (picture.length + cell.2)) (d := lines) (T.ev_add (x := picture.length) (y := cell.2) (T.ev_lenT (e := eR) (xs := picture) (T.ev_v rfl)) (T.ev_snd (x := cell) (T.ev_v rfl) rfl)) (T.ev_v rfl)))) ⟨rfl, (decide ((cell.1 ∈ dkeys lines) ∨ ((picture.length + cell.2) ∈ dkeys lines))), rfl, h⟩)
  exact ⟨r, q, e1⟩
abbrev P_meets (_ : Pic) (_ : Nat × Nat) (_ : List (Nat × Bool)) : Prop := True
abbrev F_meets (p : Pic) (c : Nat × Nat) (d : List (Nat × Bool)) : Bool := decide ((c.1 ∈ dkeys d) ∨ ((p.length + c.2) ∈ dkeys d))
theorem ok_meets {p : Pic} {c : Nat × Nat} {d : List (Nat × Bool)} (_ : P_meets p c d) : V_meets p c d (· = F_meets p c d) := rfl
theorem t_meets {picture : (List Row)} {cell : (Nat × Nat)} {lines : (List (Nat × Bool))} (hP : P_meets picture cell lines) (tp : List D) : m_meets [(eT eR) picture, (eP eN eN) cell, (eD eB) lines] tp = .ok (eB (F_meets picture cell lines)) tp := by
  obtain ⟨r, rfl, e⟩ := snd_meets picture cell lines (ok_meets hP) tp
  exact e
end W
set_option maxHeartbeats 1000000
namespace W
open PySem L2 G T
def V_trimmed (found : (List ((List Nat) × (List Nat)))) (Q : (List (List Nat)) → Prop) : Prop := (((found = []) → Q []) ∧ (¬(found = []) → (found.dropLast.length ≤ 1000000) ∧ (found ≠ []) ∧ ((found.dropLast.map fun x1 => x1.1).length + ([(found[found.length - 1]!).2]).length ≤ 1000000) ∧ Q ((found.dropLast.map fun x1 => x1.1) ++ [(found[found.length - 1]!).2])))
theorem snd_trimmed (found : (List ((List Nat) × (List Nat)))) {Q : (List (List Nat)) → Prop} (h : V_trimmed found Q) (tp : List D) : ∃ r : (List (List Nat)), Q r ∧ m_trimmed [(eL (eP (eL eN) (eL eN))) found] tp = .ok ((eL (eL eN)) r) tp := by
  obtain ⟨d, t, e1, rfl, r, rfl, q⟩ := T.wp_def (n := 3) (s := b_trimmed) (ds := [(eL (eP (eL eN) (eL eN))) found]) (tp := tp) (Q := fun d t => t = tp ∧ ∃ r : (List (List Nat)), d = (eL (eL eN)) r ∧ Q r) (by
    unfold V_trimmed at h
    change WP _ _ _ _ (b_trimmed [some ((eL (eP (eL eN) (eL eN))) found), none, none] _)
    unfold b_trimmed
    refine T.wp_seq (T.wp_if (P := (found = [])) (T.ev_bool (T.ev_eq (x := found) (y := []) (qL (qP (qL qN) (qL qN))) rfl (T.ev_v rfl) (T.ev_lst (ds := []) T.ev_nil rfl))) (fun hp => ?_) (fun hn => ?_))
    · replace h := h.1 hp
      exact T.wp_ret (T.ev_lst (ds := []) T.ev_nil rfl) ⟨rfl, [], rfl, h⟩
    · replace h := h.2 hn
      refine T.wp_skip ?_
      change WP _ _ _ _ (At _ [some ((eL (eP (eL eN) (eL eN))) found), none, none] _)
      obtain ⟨c2, h⟩ := h
      obtain ⟨c3, h⟩ := h
      obtain ⟨c4, h⟩ := h
      exact T.wp_ret (T.ev_catL (e := (eL eN)) (xs := (found.dropLast.map fun x1 => x1.1)) (ys := [(found[found.length - 1]!).2]) c4 (T.ev_compY (e := (eP (eL eN) (eL eN))) (e1 := (eL eN)) (xs := found.dropLast) (ds := fun x1 => [(eL eN) x1.1, (eL eN) x1.2]) (g := fun x1 => x1.1) (T.it_L (e := (eP (eL eN) (eL eN))) (xs := found.dropLast) (T.ev_butL (e := (eP (eL eN) (eL eN))) (xs := found) (T.ev_v rfl) (T.ev_negZ (x := 1) (T.ev_c rfl)))) c2 (fun _ => rfl) (fun x1 hx => (T.ev_listL (e := eN) (xs := x1.1) (T.ev_v rfl)))) (T.ev_lst (ds := [(eL eN) ((found[found.length - 1]!).2)]) (T.ev_cons (T.ev_snd (x := found[found.length - 1]!) (T.ev_lastL (e := (eP (eL eN) (eL eN))) (xs := found) c3 (T.ev_v rfl) (T.ev_negZ (x := 1) (T.ev_c rfl))) rfl) T.ev_nil) rfl)) ⟨rfl, ((found.dropLast.map fun x1 => x1.1) ++ [(found[found.length - 1]!).2]), rfl, h⟩)
  exact ⟨r, q, e1⟩
abbrev P_trimmed (f : List (List Nat × List Nat)) : Prop := f.length ≤ 1000
def F_trimmed (f : List (List Nat × List Nat)) : List (List Nat) := if f = [] then [] else (f.dropLast.map fun x => x.1) ++ [(f[f.length - 1]!).2]
theorem ok_trimmed {f : List (List Nat × List Nat)} (h : P_trimmed f) : V_trimmed f (· = F_trimmed f) := by
  have h : f.length ≤ 1000 := h
  unfold F_trimmed
  refine ⟨fun q => by rw [if_pos q], fun q => ⟨by rw [List.length_dropLast]; omega, q, by rw [List.length_map, List.length_dropLast]; simp; omega, by rw [if_neg q]⟩⟩
theorem t_trimmed {found : (List ((List Nat) × (List Nat)))} (hP : P_trimmed found) (tp : List D) : m_trimmed [(eL (eP (eL eN) (eL eN))) found] tp = .ok ((eL (eL eN)) (F_trimmed found)) tp := by
  obtain ⟨r, rfl, e⟩ := snd_trimmed found (ok_trimmed hP) tp
  exact e
end W
set_option maxHeartbeats 1000000
namespace W
open PySem L2 G T
def V_law_paint (picture_here : (List Row)) (line : Nat) (Q : (List Row) → Prop) : Prop := (picture_here.length ≤ 1073741824) ∧ ∃ I5 : Nat → (List Row) → Prop, I5 0 [] ∧ (∀ (i9 : Nat) (x10 : Nat), (List.range picture_here.length)[i9]? = some x10 → ∀ found : (List Row), I5 i9 found → (0 < picture_here.length) ∧ ((picture_here[0]!).length ≤ 1000000) ∧ ((picture_here[0]!).length ≤ 1073741824) ∧ ∃ I17 : Nat → Row → Prop, I17 0 ([] : Row) ∧ (∀ (i21 : Nat) (x22 : Nat), (List.range ((picture_here[0]!).length))[i21]? = some x22 → ∀ told : Row, I17 i21 told → (¬(line = x10) → (¬(line = (picture_here.length + x22)) → (x10 < picture_here.length) ∧ ((picture_here[x10]!).length ≤ 1000000 ∧ x22 < (picture_here[x10]!).length))) ∧ (told.length + ([(if (line = x10) then true else (if (line = (picture_here.length + x22)) then false else (picture_here[x10]!)[x22]!))]).length ≤ 1000000) ∧ ∀ told_1 : Row, told_1 = (told ++ [(if (line = x10) then true else (if (line = (picture_here.length + x22)) then false else (picture_here[x10]!)[x22]!))]) → I17 (i21 + 1) told_1) ∧ (∀ told : Row, I17 (List.range ((picture_here[0]!).length)).length told → (found.length < 1000000) ∧ ∀ found_1 : (List Row), found_1 = (found ++ [told]) → I5 (i9 + 1) found_1)) ∧ (∀ found : (List Row), I5 (List.range picture_here.length).length found → Q found)
theorem snd_law_paint (picture_here : (List Row)) (line : Nat) {Q : (List Row) → Prop} (h : V_law_paint picture_here line Q) (tp : List D) : ∃ r : (List Row), Q r ∧ m_law_paint [(eT eR) picture_here, eN line] tp = .ok ((eT eR) r) tp := by
  obtain ⟨d, t, e1, rfl, r, rfl, q⟩ := T.wp_def (n := 6) (s := b_law_paint) (ds := [(eT eR) picture_here, eN line]) (tp := tp) (Q := fun d t => t = tp ∧ ∃ r : (List Row), d = (eT eR) r ∧ Q r) (by
    unfold V_law_paint at h
    change WP _ _ _ _ (b_law_paint [some ((eT eR) picture_here), some (eN line), none, none, none, none] _)
    unfold b_law_paint
    refine T.wp_seq (T.wp_setF (T.ev_lst (ds := []) T.ev_nil rfl) rfl ?_)
    change WP _ _ _ _ (At _ [some ((eT eR) picture_here), some (eN line), some ((eL eR) []), none, none, none] _)
    obtain ⟨c1, h⟩ := h
    obtain ⟨I5, h6, h7, h8⟩ := h
    refine T.wp_seq (T.wp_for (e := eN) (xs := (List.range picture_here.length)) (ds := fun x10 => [eN x10]) (fun k env tz => tp = tz ∧ ∃ found : (List Row), ∃ g2 : Option D, ∃ g3 : Option D, ∃ g4 : Option D, env = [some ((eT eR) picture_here), some (eN line), some ((eL eR) found), g2, g3, g4] ∧ I5 k found) (T.it_range (n := picture_here.length) c1 (T.ev_lenT (e := eR) (xs := picture_here) (T.ev_v rfl))) (fun _ => rfl) ⟨rfl, [], _, _, _, rfl, h6⟩ ?_ ?_)
    · intro i9 x10 env t hk hI
      obtain ⟨rfl, found, g2, g3, g4, rfl, h⟩ := hI
      replace h := h7 i9 x10 hk found h
      change WP _ _ _ _ (At _ [some ((eT eR) picture_here), some (eN line), some ((eL eR) found), some (eN x10), g3, g4] _)
      refine T.wp_seq (T.wp_set (T.ev_c (congrArg D.str str_empty)) ?_)
      change WP _ _ _ _ (At _ [some ((eT eR) picture_here), some (eN line), some ((eL eR) found), some (eN x10), some (eR ([] : Row)), g4] _)
      obtain ⟨c13, h⟩ := h
      obtain ⟨c14, h⟩ := h
      obtain ⟨c15, h⟩ := h
      obtain ⟨I17, h18, h19, h20⟩ := h
      refine T.wp_seq (T.wp_for (e := eN) (xs := (List.range ((picture_here[0]!).length))) (ds := fun x22 => [eN x22]) (fun k env tz => tp = tz ∧ ∃ told : Row, ∃ g16 : Option D, env = [some ((eT eR) picture_here), some (eN line), some ((eL eR) found), some (eN x10), some (eR told), g16] ∧ I17 k told) (T.it_range (n := (picture_here[0]!).length) c15 (T.ev_lenR (r := picture_here[0]!) c14 (T.ev_ixT (e := eR) (xs := picture_here) (i := 0) c13 (T.ev_v rfl) (T.ev_cN 0)))) (fun _ => rfl) ⟨rfl, ([] : Row), _, rfl, h18⟩ ?_ ?_)
      · intro i21 x22 env t hk hI
        obtain ⟨rfl, told, g16, rfl, h⟩ := hI
        replace h := h19 i21 x22 hk told h
        change WP _ _ _ _ (At _ [some ((eT eR) picture_here), some (eN line), some ((eL eR) found), some (eN x10), some (eR told), some (eN x22)] _)
        obtain ⟨c28, h⟩ := h
        obtain ⟨c29, h⟩ := h
        obtain ⟨told_1, d30⟩ : ∃ told_1 : Row, told_1 = (told ++ [(if (line = x10) then true else (if (line = (picture_here.length + x22)) then false else (picture_here[x10]!)[x22]!))]) := ⟨_, rfl⟩
        replace h := h told_1 d30
        refine T.wp_set (T.ev_as d30 (e := eR) (T.ev_catR (xs := told) (ys := [(if (line = x10) then true else (if (line = (picture_here.length + x22)) then false else (picture_here[x10]!)[x22]!))]) c29 (T.ev_v rfl) (T.ev_ifE (P := (line = x10)) (e := eG) (x := true) (y := (if (line = (picture_here.length + x22)) then false else (picture_here[x10]!)[x22]!)) (T.ev_bool (T.ev_eq (x := line) (y := x10) qN rfl (T.ev_v rfl) (T.ev_v rfl))) (fun hp => (T.ev_c (congrArg D.str str_black))) (fun hp => have c27 := c28 hp; (T.ev_ifE (P := (line = (picture_here.length + x22))) (e := eG) (x := false) (y := (picture_here[x10]!)[x22]!) (T.ev_bool (T.ev_eq (x := line) (y := (picture_here.length + x22)) qN rfl (T.ev_v rfl) (T.ev_add (x := picture_here.length) (y := x22) (T.ev_lenT (e := eR) (xs := picture_here) (T.ev_v rfl)) (T.ev_v rfl)))) (fun hp => (T.ev_c (congrArg D.str str_white))) (fun hp => match c27 hp with | ⟨c25, c26⟩ => (T.ev_ixR (r := picture_here[x10]!) (i := x22) c26 (T.ev_ixT (e := eR) (xs := picture_here) (i := x10) c25 (T.ev_v rfl) (T.ev_v rfl)) (T.ev_v rfl)))))))) ?_
        exact ⟨rfl, told_1, _, rfl, h⟩
      rintro _ _ ⟨rfl, told, g16, rfl, h⟩
      replace h := h20 told h
      change WP _ _ _ _ (At _ [some ((eT eR) picture_here), some (eN line), some ((eL eR) found), some (eN x10), some (eR told), g16] _)
      obtain ⟨c33, h⟩ := h
      obtain ⟨found_1, d34⟩ : ∃ found_1 : (List Row), found_1 = (found ++ [told]) := ⟨_, rfl⟩
      replace h := h found_1 d34
      refine T.wp_app (e := eR) (xs := found) (x := told) rfl (T.ev_v rfl) c33 ?_
      rw [← d34]
      exact ⟨rfl, found_1, _, _, _, rfl, h⟩
    rintro _ _ ⟨rfl, found, g2, g3, g4, rfl, h⟩
    replace h := h8 found h
    change WP _ _ _ _ (At _ [some ((eT eR) picture_here), some (eN line), some ((eL eR) found), g2, g3, g4] _)
    exact T.wp_ret (T.ev_tupleL (e := eR) (xs := found) (T.ev_v rfl)) ⟨rfl, found, rfl, h⟩)
  exact ⟨r, q, e1⟩
abbrev P_law_paint (p : Pic) (_ : Nat) : Prop := PicP p
abbrev F_law_paint (p : Pic) (l : Nat) : Pic := lineQ p l
theorem ok_law_paint {p : Pic} {l : Nat} (k : P_law_paint p l) : V_law_paint p l (· = F_law_paint p l) := by
  have h1 := k.h1; have h30 := k.h30; have w1 := k.w1; have w30 := k.w30
  refine ⟨by omega, fun n f => f = (lineQ p l).take n, rfl, fun i x hx f hf => ?_, fun f hf => ?_⟩
  · obtain ⟨rfl, hi⟩ := range_get hx
    refine ⟨by omega, by omega, by omega, fun n t => t = ((lineQ p l)[x]!).take n, rfl, fun j y hy t ht => ?_, fun t ht => ⟨?_, fun g hg => ?_⟩⟩
    · obtain ⟨rfl, hj⟩ := range_get hy
      refine ⟨fun _ _ => ⟨hi, by rw [k.get hi]; omega⟩, ?_, fun u hu => ?_⟩
      · rw [ht, List.length_take]
        have : ([(if (l = x) then true else (if (l = (p.length + y)) then false else (p[x]!)[y]!))] : Row).length = 1 := rfl
        omega
      · rw [hu, ht]
        refine (take_snoc ?_).symm
        unfold lineQ
        rw [mkP_row hi, List.getElem?_map, hy]; rfl
    · rw [hf, List.length_take]; omega
    · have e : t = (lineQ p l)[x]! := by
        rw [ht, List.length_range]
        exact List.take_of_length_le (by unfold lineQ; rw [mkP_wid hi]; exact Nat.le_refl _)
      rw [hg, hf, e]
      refine (take_snoc ?_).symm
      rw [List.getElem?_eq_getElem (by rw [lineQ_len]; exact hi), getElem!_pos _ x (by rw [lineQ_len]; exact hi)]
  · rw [hf, List.length_range]
    exact List.take_of_length_le (by rw [lineQ_len]; exact Nat.le_refl _)
theorem t_law_paint {picture_here : (List Row)} {line : Nat} (hP : P_law_paint picture_here line) (tp : List D) : m_law_paint [(eT eR) picture_here, eN line] tp = .ok ((eT eR) (F_law_paint picture_here line)) tp := by
  obtain ⟨r, rfl, e⟩ := snd_law_paint picture_here line (ok_law_paint hP) tp
  exact e
end W
set_option maxHeartbeats 1000000
namespace W
open PySem L2 G T
def V_law_layers (picture_here : (List Row)) (Q : (List (List Nat)) → Prop) : Prop := (0 < picture_here.length) ∧ ((picture_here[0]!).length ≤ 1000000) ∧ ∀ wide : Nat, wide = (picture_here[0]!).length → (picture_here.length ≤ 16777216) ∧ (wide ≤ 16777216) ∧ ∀ rows : (List Nat), rows = (List.range picture_here.length) → ∀ columns : (List Nat), columns = (List.range wide) → ((picture_here.length + wide) ≤ 1073741824) ∧ ∃ I12 : Nat → (List (List Nat)) → (List Nat) → (List Nat) → Prop, I12 0 [] rows columns ∧ (∀ (i16 : Nat) (x17 : Nat), (List.range (picture_here.length + wide))[i16]? = some x17 → ∀ found : (List (List Nat)), ∀ rows_1 : (List Nat), ∀ columns_1 : (List Nat), I12 i16 found rows_1 columns_1 → (rows_1.length ≤ 1000000) ∧ (∀ x20, x20 ∈ rows_1 → (columns_1.length ≤ 1000000) ∧ (∀ x22, x22 ∈ columns_1 → (x20 < picture_here.length) ∧ ((picture_here[x20]!).length ≤ 1000000 ∧ x22 < (picture_here[x20]!).length))) ∧ ∀ full : (List Nat), full = (rows_1.filter fun x20 => decide (((columns_1.filter fun x22 => decide ((picture_here[x20]!)[x22]! = false)).map fun x22 => 1) = [])) → (columns_1.length ≤ 1000000) ∧ (∀ x29, x29 ∈ columns_1 → (rows_1.length ≤ 1000000) ∧ (∀ x31, x31 ∈ rows_1 → (x31 < picture_here.length) ∧ ((picture_here[x31]!).length ≤ 1000000 ∧ x29 < (picture_here[x31]!).length))) ∧ ∀ empty : (List Nat), empty = (columns_1.filter fun x29 => decide (((rows_1.filter fun x31 => decide ((picture_here[x31]!)[x29]! = true)).map fun x31 => 1) = [])) → ∃ J38 : (List (List Nat)) → (List Nat) → (List Nat) → Prop, ((full ≠ []) → (found.length < 1000000) ∧ ∀ found_2 : (List (List Nat)), found_2 = (found ++ [full]) → (rows_1.length ≤ 1000000) ∧ ∀ rows_3 : (List Nat), rows_3 = (rows_1.filter fun x44 => decide (x44 ∉ full)) → J38 found_2 rows_3 columns_1) ∧ (¬(full ≠ []) → ((empty ≠ []) → (empty.length ≤ 1000000) ∧ (found.length < 1000000) ∧ (columns_1.length ≤ 1000000)) ∧ ∀ found_3 : (List (List Nat)), found_3 = (if (empty ≠ []) then (found ++ [(empty.map fun x47 => (picture_here.length + x47))]) else found) → ∀ columns_3 : (List Nat), columns_3 = (if (empty ≠ []) then (columns_1.filter fun x50 => decide (x50 ∉ empty)) else columns_1) → J38 found_3 rows_1 columns_3) ∧ (∀ found_1 : (List (List Nat)), ∀ rows_2 : (List Nat), ∀ columns_2 : (List Nat), J38 found_1 rows_2 columns_2 → I12 (i16 + 1) found_1 rows_2 columns_2)) ∧ (∀ found : (List (List Nat)), ∀ rows_1 : (List Nat), ∀ columns_1 : (List Nat), I12 (List.range (picture_here.length + wide)).length found rows_1 columns_1 → Q found)
theorem snd_law_layers (picture_here : (List Row)) {Q : (List (List Nat)) → Prop} (h : V_law_layers picture_here Q) (tp : List D) : ∃ r : (List (List Nat)), Q r ∧ m_law_layers [(eT eR) picture_here] tp = .ok ((eL (eL eN)) r) tp := by
  obtain ⟨d, t, e1, rfl, r, rfl, q⟩ := T.wp_def (n := 11) (s := b_law_layers) (ds := [(eT eR) picture_here]) (tp := tp) (Q := fun d t => t = tp ∧ ∃ r : (List (List Nat)), d = (eL (eL eN)) r ∧ Q r) (by
    unfold V_law_layers at h
    change WP _ _ _ _ (b_law_layers [some ((eT eR) picture_here), none, none, none, none, none, none, none, none, none, none] _)
    unfold b_law_layers
    obtain ⟨c1, h⟩ := h
    obtain ⟨c2, h⟩ := h
    obtain ⟨wide, d3⟩ : ∃ wide : Nat, wide = (picture_here[0]!).length := ⟨_, rfl⟩
    replace h := h wide d3
    refine T.wp_seq (T.wp_par (T.ev_cons (T.ev_lenT (e := eR) (xs := picture_here) (T.ev_v rfl)) (T.ev_cons (T.ev_as d3 (e := eN) (T.ev_lenR (r := picture_here[0]!) c2 (T.ev_ixT (e := eR) (xs := picture_here) (i := 0) c1 (T.ev_v rfl) (T.ev_cN 0)))) (T.ev_cons (T.ev_lst (ds := []) T.ev_nil rfl) T.ev_nil))) rfl ?_)
    change WP _ _ _ _ (At _ [some ((eT eR) picture_here), some (eN picture_here.length), some (eN wide), some ((eL (eL eN)) []), none, none, none, none, none, none, none] _)
    obtain ⟨c4, h⟩ := h
    obtain ⟨c5, h⟩ := h
    obtain ⟨rows, d6⟩ : ∃ rows : (List Nat), rows = (List.range picture_here.length) := ⟨_, rfl⟩
    replace h := h rows d6
    obtain ⟨columns, d7⟩ : ∃ columns : (List Nat), columns = (List.range wide) := ⟨_, rfl⟩
    replace h := h columns d7
    refine T.wp_seq (T.wp_par (T.ev_cons (T.ev_as d6 (e := (eL eN)) (T.ev_rg1L (n := picture_here.length) c4 (T.ev_v rfl))) (T.ev_cons (T.ev_as d7 (e := (eL eN)) (T.ev_rg1L (n := wide) c5 (T.ev_v rfl))) T.ev_nil)) rfl ?_)
    change WP _ _ _ _ (At _ [some ((eT eR) picture_here), some (eN picture_here.length), some (eN wide), some ((eL (eL eN)) []), some ((eL eN) rows), some ((eL eN) columns), none, none, none, none, none] _)
    obtain ⟨c8, h⟩ := h
    obtain ⟨I12, h13, h14, h15⟩ := h
    refine T.wp_seq (T.wp_for (e := eN) (xs := (List.range (picture_here.length + wide))) (ds := fun x17 => [eN x17]) (fun k env tz => tp = tz ∧ ∃ found : (List (List Nat)), ∃ rows_1 : (List Nat), ∃ columns_1 : (List Nat), ∃ g9 : Option D, ∃ g10 : Option D, ∃ g11 : Option D, env = [some ((eT eR) picture_here), some (eN picture_here.length), some (eN wide), some ((eL (eL eN)) found), some ((eL eN) rows_1), some ((eL eN) columns_1), g9, g10, none, none, g11] ∧ I12 k found rows_1 columns_1) (T.it_range (n := (picture_here.length + wide)) c8 (T.ev_add (x := picture_here.length) (y := wide) (T.ev_v rfl) (T.ev_v rfl))) (fun _ => rfl) ⟨rfl, [], rows, columns, _, _, _, rfl, h13⟩ ?_ ?_)
    · intro i16 x17 env t hk hI
      obtain ⟨rfl, found, rows_1, columns_1, g9, g10, g11, rfl, h⟩ := hI
      replace h := h14 i16 x17 hk found rows_1 columns_1 h
      change WP _ _ _ _ (At _ [some ((eT eR) picture_here), some (eN picture_here.length), some (eN wide), some ((eL (eL eN)) found), some ((eL eN) rows_1), some ((eL eN) columns_1), some (eN x17), g10, none, none, g11] _)
      obtain ⟨c21, h⟩ := h
      obtain ⟨c27, h⟩ := h
      obtain ⟨full, d28⟩ : ∃ full : (List Nat), full = (rows_1.filter fun x20 => decide (((columns_1.filter fun x22 => decide ((picture_here[x20]!)[x22]! = false)).map fun x22 => 1) = [])) := ⟨_, rfl⟩
      replace h := h full d28
      refine T.wp_seq (T.wp_set (T.ev_as d28 (e := (eL eN)) (T.ev_compI (e := eN) (xs := rows_1) (ds := fun x20 => [eN x20]) (P := fun x20 => (((columns_1.filter fun x22 => decide ((picture_here[x20]!)[x22]! = false)).map fun x22 => 1) = [])) (T.it_L (e := eN) (xs := rows_1) (T.ev_v rfl)) c21 (fun _ => rfl) (fun x20 hx => match c27 x20 hx with | ⟨c23, c26⟩ => (T.ev_bool (T.ev_eq (x := ((columns_1.filter fun x22 => decide ((picture_here[x20]!)[x22]! = false)).map fun x22 => 1)) (y := []) (qL qN) rfl (T.ev_comp (e := eN) (e1 := eN) (xs := columns_1) (ds := fun x22 => [eN x22]) (g := fun x22 => 1) (P := fun x22 => ((picture_here[x20]!)[x22]! = false)) (T.it_L (e := eN) (xs := columns_1) (T.ev_v rfl)) c23 (fun _ => rfl) (fun x22 hx => match c26 x22 hx with | ⟨c24, c25⟩ => (T.ev_bool (T.ev_eq (x := (picture_here[x20]!)[x22]!) (y := false) qG rfl (T.ev_ixR (r := picture_here[x20]!) (i := x22) c25 (T.ev_ixT (e := eR) (xs := picture_here) (i := x20) c24 (T.ev_v rfl) (T.ev_v rfl)) (T.ev_v rfl)) (T.ev_c (congrArg D.str str_white))))) (fun x22 hx hq => (T.ev_cN 1))) (T.ev_lst (ds := []) T.ev_nil rfl)))) (fun x20 hx hq => (T.ev_v rfl)))) ?_)
      change WP _ _ _ _ (At _ [some ((eT eR) picture_here), some (eN picture_here.length), some (eN wide), some ((eL (eL eN)) found), some ((eL eN) rows_1), some ((eL eN) columns_1), some (eN x17), some ((eL eN) full), none, none, g11] _)
      obtain ⟨c30, h⟩ := h
      obtain ⟨c36, h⟩ := h
      obtain ⟨empty, d37⟩ : ∃ empty : (List Nat), empty = (columns_1.filter fun x29 => decide (((rows_1.filter fun x31 => decide ((picture_here[x31]!)[x29]! = true)).map fun x31 => 1) = [])) := ⟨_, rfl⟩
      replace h := h empty d37
      refine T.wp_seq (T.wp_set (T.ev_as d37 (e := (eL eN)) (T.ev_compI (e := eN) (xs := columns_1) (ds := fun x29 => [eN x29]) (P := fun x29 => (((rows_1.filter fun x31 => decide ((picture_here[x31]!)[x29]! = true)).map fun x31 => 1) = [])) (T.it_L (e := eN) (xs := columns_1) (T.ev_v rfl)) c30 (fun _ => rfl) (fun x29 hx => match c36 x29 hx with | ⟨c32, c35⟩ => (T.ev_bool (T.ev_eq (x := ((rows_1.filter fun x31 => decide ((picture_here[x31]!)[x29]! = true)).map fun x31 => 1)) (y := []) (qL qN) rfl (T.ev_comp (e := eN) (e1 := eN) (xs := rows_1) (ds := fun x31 => [eN x31]) (g := fun x31 => 1) (P := fun x31 => ((picture_here[x31]!)[x29]! = true)) (T.it_L (e := eN) (xs := rows_1) (T.ev_v rfl)) c32 (fun _ => rfl) (fun x31 hx => match c35 x31 hx with | ⟨c33, c34⟩ => (T.ev_bool (T.ev_eq (x := (picture_here[x31]!)[x29]!) (y := true) qG rfl (T.ev_ixR (r := picture_here[x31]!) (i := x29) c34 (T.ev_ixT (e := eR) (xs := picture_here) (i := x31) c33 (T.ev_v rfl) (T.ev_v rfl)) (T.ev_v rfl)) (T.ev_c (congrArg D.str str_black))))) (fun x31 hx hq => (T.ev_cN 1))) (T.ev_lst (ds := []) T.ev_nil rfl)))) (fun x29 hx hq => (T.ev_v rfl)))) ?_)
      change WP _ _ _ _ (At _ [some ((eT eR) picture_here), some (eN picture_here.length), some (eN wide), some ((eL (eL eN)) found), some ((eL eN) rows_1), some ((eL eN) columns_1), some (eN x17), some ((eL eN) full), none, none, some ((eL eN) empty)] _)
      obtain ⟨J38, h39, h40, h41⟩ := h
      refine T.wp_ifJ (P := (full ≠ [])) (J := fun env tz => tp = tz ∧ ∃ found_1 : (List (List Nat)), ∃ rows_2 : (List Nat), ∃ columns_2 : (List Nat), env = [some ((eT eR) picture_here), some (eN picture_here.length), some (eN wide), some ((eL (eL eN)) found_1), some ((eL eN) rows_2), some ((eL eN) columns_2), some (eN x17), some ((eL eN) full), none, none, some ((eL eN) empty)] ∧ J38 found_1 rows_2 columns_2) (T.ev_bool (T.ev_ne (x := full) (y := []) (qL qN) rfl (T.ev_v rfl) (T.ev_lst (ds := []) T.ev_nil rfl))) (fun hp => ?_) (fun hn => ?_) ?_
      · replace h := h39 hp
        obtain ⟨c42, h⟩ := h
        obtain ⟨found_2, d43⟩ : ∃ found_2 : (List (List Nat)), found_2 = (found ++ [full]) := ⟨_, rfl⟩
        replace h := h found_2 d43
        refine T.wp_seq (T.wp_app (e := (eL eN)) (xs := found) (x := full) rfl (T.ev_v rfl) c42 ?_)
        rw [← d43]
        change WP _ _ _ _ (At _ [some ((eT eR) picture_here), some (eN picture_here.length), some (eN wide), some ((eL (eL eN)) found_2), some ((eL eN) rows_1), some ((eL eN) columns_1), some (eN x17), some ((eL eN) full), none, none, some ((eL eN) empty)] _)
        obtain ⟨c45, h⟩ := h
        obtain ⟨rows_3, d46⟩ : ∃ rows_3 : (List Nat), rows_3 = (rows_1.filter fun x44 => decide (x44 ∉ full)) := ⟨_, rfl⟩
        replace h := h rows_3 d46
        refine T.wp_set (T.ev_as d46 (e := (eL eN)) (T.ev_compI (e := eN) (xs := rows_1) (ds := fun x44 => [eN x44]) (P := fun x44 => (x44 ∉ full)) (T.it_L (e := eN) (xs := rows_1) (T.ev_v rfl)) c45 (fun _ => rfl) (fun x44 hx => (T.ev_bool (T.ev_ninL (x := x44) (xs := full) qN rfl (T.ev_v rfl) (T.ev_v rfl)))) (fun x44 hx hq => (T.ev_v rfl)))) ?_
        exact ⟨rfl, found_2, rows_3, columns_1, rfl, h⟩
      · replace h := h40 hn
        obtain ⟨c52, h⟩ := h
        refine T.wp_ifJ (P := (empty ≠ [])) (J := fun env tz => tp = tz ∧ ∃ found_3 : (List (List Nat)), ∃ columns_3 : (List Nat), env = [some ((eT eR) picture_here), some (eN picture_here.length), some (eN wide), some ((eL (eL eN)) found_3), some ((eL eN) rows_1), some ((eL eN) columns_3), some (eN x17), some ((eL eN) full), none, none, some ((eL eN) empty)] ∧ found_3 = (if (empty ≠ []) then (found ++ [(empty.map fun x47 => (picture_here.length + x47))]) else found) ∧ columns_3 = (if (empty ≠ []) then (columns_1.filter fun x50 => decide (x50 ∉ empty)) else columns_1)) (T.ev_bool (T.ev_ne (x := empty) (y := []) (qL qN) rfl (T.ev_v rfl) (T.ev_lst (ds := []) T.ev_nil rfl))) (fun hq => ?_) (fun hq => ?_) ?_
        · obtain ⟨c48, c49, c51⟩ := c52 hq
          refine T.wp_seq (T.wp_app (e := (eL eN)) (xs := found) (x := (empty.map fun x47 => (picture_here.length + x47))) rfl (T.ev_compY (e := eN) (e1 := eN) (xs := empty) (ds := fun x47 => [eN x47]) (g := fun x47 => (picture_here.length + x47)) (T.it_L (e := eN) (xs := empty) (T.ev_v rfl)) c48 (fun _ => rfl) (fun x47 hx => (T.ev_add (x := picture_here.length) (y := x47) (T.ev_v rfl) (T.ev_v rfl)))) c49 ?_)
          change WP _ _ _ _ (At _ [some ((eT eR) picture_here), some (eN picture_here.length), some (eN wide), some ((eL (eL eN)) (found ++ [(empty.map fun x47 => (picture_here.length + x47))])), some ((eL eN) rows_1), some ((eL eN) columns_1), some (eN x17), some ((eL eN) full), none, none, some ((eL eN) empty)] _)
          refine T.wp_set (T.ev_compI (e := eN) (xs := columns_1) (ds := fun x50 => [eN x50]) (P := fun x50 => (x50 ∉ empty)) (T.it_L (e := eN) (xs := columns_1) (T.ev_v rfl)) c51 (fun _ => rfl) (fun x50 hx => (T.ev_bool (T.ev_ninL (x := x50) (xs := empty) qN rfl (T.ev_v rfl) (T.ev_v rfl)))) (fun x50 hx hq => (T.ev_v rfl))) ?_
          exact ⟨rfl, (found ++ [(empty.map fun x47 => (picture_here.length + x47))]), (columns_1.filter fun x50 => decide (x50 ∉ empty)), rfl, (if_pos hq).symm, (if_pos hq).symm⟩
        · refine T.wp_skip ?_
          exact ⟨rfl, found, columns_1, rfl, (if_neg hq).symm, (if_neg hq).symm⟩
        rintro _ _ ⟨rfl, found_3, columns_3, rfl, d53, d54⟩
        replace h := h found_3 d53
        replace h := h columns_3 d54
        exact ⟨rfl, found_3, rows_1, columns_3, rfl, h⟩
      rintro _ _ ⟨rfl, found_1, rows_2, columns_2, rfl, h⟩
      replace h := h41 found_1 rows_2 columns_2 h
      exact ⟨rfl, found_1, rows_2, columns_2, _, _, _, rfl, h⟩
    rintro _ _ ⟨rfl, found, rows_1, columns_1, g9, g10, g11, rfl, h⟩
    replace h := h15 found rows_1 columns_1 h
    change WP _ _ _ _ (At _ [some ((eT eR) picture_here), some (eN picture_here.length), some (eN wide), some ((eL (eL eN)) found), some ((eL eN) rows_1), some ((eL eN) columns_1), g9, g10, none, none, g11] _)
    exact T.wp_ret (T.ev_v rfl) ⟨rfl, found, rfl, h⟩)
  exact ⟨r, q, e1⟩
abbrev P_law_layers (p : Pic) : Prop := PicP p
abbrev F_law_layers (p : Pic) : List (List Nat) := layersQ p
theorem ok_law_layers {p : Pic} (k : P_law_layers p) : V_law_layers p (· = F_law_layers p) := by
  have h1 := k.h1; have h30 := k.h30; have w1 := k.w1; have w30 := k.w30
  refine ⟨by omega, by omega, fun w hw => ⟨by omega, by omega, fun rs hrs cs hcs => ⟨by omega, fun n f r c => (f, r, c) = liter p n, ?_, fun i x hx f r c hI => ?_, fun f r c hI => ?_⟩⟩⟩
  · subst hw hrs hcs; rfl
  · subst hw
    have hi := (range_get hx).2
    have e1 : (liter p i).1 = f := by rw [← hI]
    have e2 : (liter p i).2.1 = r := by rw [← hI]
    have e3 : (liter p i).2.2 = c := by rw [← hI]
    obtain ⟨s1, s2, s3⟩ := liter_sub p i
    rw [e2] at s1
    rw [e3] at s2
    rw [e1] at s3
    have l1 := s1.length_le
    have l2 := s2.length_le
    rw [List.length_range] at l1 l2
    have m1 : ∀ i ∈ r, i < p.length := fun i hi => List.mem_range.mp (s1.subset hi)
    have m2 : ∀ j ∈ c, j < p[0]!.length := fun j hj => List.mem_range.mp (s2.subset hj)
    have cell : ∀ i ∈ r, ∀ j ∈ c, i < p.length ∧ (p[i]!).length ≤ 1000000 ∧ j < (p[i]!).length := fun i hi j hj => by
      have a := m1 i hi
      have b := m2 j hj
      have := k.get a
      omega
    refine ⟨by omega, fun i hi => ⟨by omega, fun j hj => cell i hi j hj⟩, fun full hf => ⟨by omega, fun j hj => ⟨by omega, fun i hi => cell i hi j hj⟩, fun emp he => ?_⟩⟩
    rw [ones_full] at hf
    rw [ones_emp] at he
    refine ⟨fun f' r' c' => (f', r', c') = lstep p (f, r, c), fun hq => ⟨by omega, fun f2 h2 => ⟨by omega, fun r2 h3 => ?_⟩⟩, fun hq => ⟨fun hq2 => ?_, fun f2 h2 c2 h3 => ?_⟩, fun f' r' c' hJ => ?_⟩
    · subst hf h2 h3
      unfold lstep
      rw [if_pos hq]
    · have : emp.length ≤ c.length := by rw [he]; exact len_filter_le _ _
      omega
    · subst hf he
      unfold lstep
      rw [if_neg hq]
      by_cases q : empQ p r c ≠ []
      · rw [if_pos q] at h2 h3 ⊢; rw [h2, h3]
      · rw [if_neg q] at h2 h3 ⊢; rw [h2, h3]
    · show _ = lstep p (liter p i)
      rw [hJ, hI]
  · rw [List.length_range] at hI
    subst hw
    show f = (liter p _).1
    rw [← hI]
theorem t_law_layers {picture_here : (List Row)} (hP : P_law_layers picture_here) (tp : List D) : m_law_layers [(eT eR) picture_here] tp = .ok ((eL (eL eN)) (F_law_layers picture_here)) tp := by
  obtain ⟨r, rfl, e⟩ := snd_law_layers picture_here (ok_law_layers hP) tp
  exact e
end W
set_option maxHeartbeats 1000000
namespace W
open PySem L2 G T
def V_is_in (value : Nat) (least : Nat) (most : Nat) (Q : Bool → Prop) : Prop := Q (decide (((F_is_int value) = true) ∧ (least ≤ value ∧ value ≤ most)))
theorem snd_is_in (value : Nat) (least : Nat) (most : Nat) {Q : Bool → Prop} (h : V_is_in value least most Q) (tp : List D) : ∃ r : Bool, Q r ∧ m_is_in [eN value, eN least, eN most] tp = .ok (eB r) tp := by
  obtain ⟨d, t, e1, rfl, r, rfl, q⟩ := T.wp_def (n := 3) (s := b_is_in) (ds := [eN value, eN least, eN most]) (tp := tp) (Q := fun d t => t = tp ∧ ∃ r : Bool, d = eB r ∧ Q r) (by
    unfold V_is_in at h
    change WP _ _ _ _ (b_is_in [some (eN value), some (eN least), some (eN most)] _)
    unfold b_is_in
    exact T.wp_ret (T.ev_andE (P := ((F_is_int value) = true)) (Q := (least ≤ value ∧ value ≤ most)) (T.ev_decB (F_is_int value) (T.ev_call (T.ev_cons (T.ev_v rfl) T.ev_nil) rfl (t_is_int True.intro _))) (fun hp => (T.ev_chLeLe (x := least) (y := value) (z := most) (T.ev_v rfl) (T.ev_v rfl) (T.ev_v rfl)))) ⟨rfl, (decide (((F_is_int value) = true) ∧ (least ≤ value ∧ value ≤ most))), rfl, h⟩)
  exact ⟨r, q, e1⟩
def F_is_in (v l m : Nat) : Bool := decide (l ≤ v ∧ v ≤ m)
theorem ok_is_in (v l m : Nat) : V_is_in v l m (· = F_is_in v l m) := by simp [V_is_in, F_is_in]
theorem t_is_in {value : Nat} {least : Nat} {most : Nat} (_ : True) (tp : List D) : m_is_in [eN value, eN least, eN most] tp = .ok (eB (F_is_in value least most)) tp := by
  obtain ⟨r, rfl, e⟩ := snd_is_in value least most (ok_is_in value least most) tp
  exact e
end W
set_option maxHeartbeats 1000000
namespace W
open PySem L2 G T
def V_need_picture (value : (List Row)) (Q : Unit → Prop) : Prop := (P_is_picture value) ∧ ((F_is_picture value) = true) ∧ Q ()
theorem snd_need_picture (value : (List Row)) {Q : Unit → Prop} (h : V_need_picture value Q) (tp : List D) : ∃ r : Unit, Q r ∧ m_need_picture [(eT eR) value] tp = .ok (eU r) tp := by
  obtain ⟨d, t, e1, rfl, r, rfl, q⟩ := T.wp_def (n := 1) (s := b_need_picture) (ds := [(eT eR) value]) (tp := tp) (Q := fun d t => t = tp ∧ ∃ r : Unit, d = eU r ∧ Q r) (by
    unfold V_need_picture at h
    change WP _ _ _ _ (b_need_picture [some ((eT eR) value)] _)
    unfold b_need_picture
    obtain ⟨c1, h⟩ := h
    obtain ⟨hf, h⟩ := h
    refine T.wp_if (P := (¬((F_is_picture value) = true))) (T.ev_notT (P := ((F_is_picture value) = true)) (T.ev_dec (F_is_picture value) (T.ev_call (T.ev_cons (T.ev_v rfl) T.ev_nil) rfl (t_is_picture c1 _)))) (fun hp => ?_) (fun hn => ?_)
    · exact absurd hp ((fun h0 => h0 (hf)))
    · refine T.wp_skip ?_
      exact ⟨rfl, (), rfl, h⟩)
  exact ⟨r, q, e1⟩
abbrev P_need_picture (p : Pic) : Prop := PicP p
abbrev F_need_picture (_ : Pic) : Unit := ()
theorem ok_need_picture {p : Pic} (k : P_need_picture p) : V_need_picture p (· = F_need_picture p) := ⟨k, rfl, rfl⟩
theorem t_need_picture {value : (List Row)} (hP : P_need_picture value) (tp : List D) : m_need_picture [(eT eR) value] tp = .ok (eU (F_need_picture value)) tp := by
  obtain ⟨r, rfl, e⟩ := snd_need_picture value (ok_need_picture hP) tp
  exact e
end W
set_option maxHeartbeats 1000000
namespace W
open PySem L2 G T
def V_layers_of (picture : (List Row)) (Q : (List (List Nat)) → Prop) : Prop := (P_lines_of picture) ∧ ((F_lines_of picture) ≤ 16777216) ∧ ∀ left : (List Nat), left = (List.range (F_lines_of picture)) → (left.length ≤ 1000000) ∧ (∀ x4, x4 ∈ left → (P_leads_to picture x4)) ∧ ∀ ways : (List (List Nat)), ways = (left.map fun x4 => (F_leads_to picture x4)) → ∃ (I12 : (List Nat) → (List (List Nat)) → Prop) (M13 : (List Nat) → (List (List Nat)) → Nat), I12 left [] ∧ M13 left [] < 1000000 ∧ (∀ left_1 : (List Nat), ∀ found : (List (List Nat)), I12 left_1 found → (left_1.length ≤ 1000000) ∧ ∀ told : (List (Nat × Bool)), told = (dictOf (left_1.map fun x19 => (x19, true))) → (left_1.length ≤ 1000000) ∧ (∀ x22, x22 ∈ left_1 → (x22 < ways.length) ∧ ((ways[x22]!).length ≤ 1000000)) ∧ ∀ some_ : (List Nat), some_ = (left_1.filter fun x22 => decide (¬(∃ x25 ∈ ways[x22]!, (x25 ∈ dkeys told)))) → (((some_ = []) → Q found) ∧ (¬(some_ = []) → (found.length < 1000000) ∧ ∀ found_1 : (List (List Nat)), found_1 = (found ++ [some_]) → (some_.length ≤ 1000000) ∧ ∀ gone : (List (Nat × Bool)), gone = (dictOf (some_.map fun x31 => (x31, true))) → (left_1.length ≤ 1000000) ∧ ∀ left_2 : (List Nat), left_2 = (left_1.filter fun x34 => decide (x34 ∉ dkeys gone)) → (I12 left_2 found_1 ∧ M13 left_2 found_1 < M13 left_1 found))))
theorem snd_layers_of (picture : (List Row)) {Q : (List (List Nat)) → Prop} (h : V_layers_of picture Q) (tp : List D) : ∃ r : (List (List Nat)), Q r ∧ m_layers_of [(eT eR) picture] tp = .ok ((eL (eL eN)) r) tp := by
  obtain ⟨d, t, e1, rfl, r, rfl, q⟩ := T.wp_def (n := 9) (s := b_layers_of) (ds := [(eT eR) picture]) (tp := tp) (Q := fun d t => t = tp ∧ ∃ r : (List (List Nat)), d = (eL (eL eN)) r ∧ Q r) (by
    unfold V_layers_of at h
    change WP _ _ _ _ (b_layers_of [some ((eT eR) picture), none, none, none, none, none, none, none, none] _)
    unfold b_layers_of
    obtain ⟨c1, h⟩ := h
    obtain ⟨c2, h⟩ := h
    obtain ⟨left, d3⟩ : ∃ left : (List Nat), left = (List.range (F_lines_of picture)) := ⟨_, rfl⟩
    replace h := h left d3
    refine T.wp_seq (T.wp_par (T.ev_cons (T.ev_as d3 (e := (eL eN)) (T.ev_rg1L (n := (F_lines_of picture)) c2 (T.ev_call (T.ev_cons (T.ev_v rfl) T.ev_nil) rfl (t_lines_of c1 _)))) (T.ev_cons (T.ev_lst (ds := []) T.ev_nil rfl) T.ev_nil)) rfl ?_)
    change WP _ _ _ _ (At _ [some ((eT eR) picture), some ((eL eN) left), some ((eL (eL eN)) []), none, none, none, none, none, none] _)
    obtain ⟨c5, h⟩ := h
    obtain ⟨c7, h⟩ := h
    obtain ⟨ways, d8⟩ : ∃ ways : (List (List Nat)), ways = (left.map fun x4 => (F_leads_to picture x4)) := ⟨_, rfl⟩
    replace h := h ways d8
    refine T.wp_seq (T.wp_set (T.ev_as d8 (e := (eL (eL eN))) (T.ev_compY (e := eN) (e1 := (eL eN)) (xs := left) (ds := fun x4 => [eN x4]) (g := fun x4 => (F_leads_to picture x4)) (T.it_L (e := eN) (xs := left) (T.ev_v rfl)) c5 (fun _ => rfl) (fun x4 hx => have c6 := c7 x4 hx; (T.ev_call (T.ev_cons (T.ev_v rfl) (T.ev_cons (T.ev_v rfl) T.ev_nil)) rfl (t_leads_to c6 _))))) ?_)
    change WP _ _ _ _ (At _ [some ((eT eR) picture), some ((eL eN) left), some ((eL (eL eN)) []), some ((eL (eL eN)) ways), none, none, none, none, none] _)
    obtain ⟨I12, M13, h14, h15, h16⟩ := h
    refine T.wp_while (fun n env tz => tp = tz ∧ ∃ left_1 : (List Nat), ∃ found : (List (List Nat)), ∃ g9 : Option D, ∃ g10 : Option D, ∃ g11 : Option D, env = [some ((eT eR) picture), some ((eL eN) left_1), some ((eL (eL eN)) found), some ((eL (eL eN)) ways), none, g9, g10, none, g11] ∧ I12 left_1 found ∧ M13 left_1 found = n) ⟨_, h15, rfl, left, [], _, _, _, rfl, h14, rfl⟩ ?_
    intro n17 env t hI
    obtain ⟨rfl, left_1, found, g9, g10, g11, rfl, h, rfl⟩ := hI
    replace h := h16 left_1 found h
    refine ⟨(true = true), inferInstance, (T.ev_dec true (T.ev_c rfl)), fun hp => ?_, fun hn => ?_⟩
    · obtain ⟨c20, h⟩ := h
      obtain ⟨told, d21⟩ : ∃ told : (List (Nat × Bool)), told = (dictOf (left_1.map fun x19 => (x19, true))) := ⟨_, rfl⟩
      replace h := h told d21
      refine T.wp_seq (T.wp_set (T.ev_as d21 (e := (eD eB)) (T.ev_dc (e := eB) (e1 := eN) (xs := left_1) (ds := fun x19 => [eN x19]) (k := fun x19 => x19) (v := fun x19 => true) (T.it_L (e := eN) (xs := left_1) (T.ev_v rfl)) c20 (fun _ => rfl) (fun x19 hx => (T.ev_v rfl)) (fun x19 hx => (T.ev_c rfl)))) ?_)
      change WP _ _ _ _ (At _ [some ((eT eR) picture), some ((eL eN) left_1), some ((eL (eL eN)) found), some ((eL (eL eN)) ways), none, some ((eD eB) told), g10, none, g11] _)
      obtain ⟨c23, h⟩ := h
      obtain ⟨c27, h⟩ := h
      obtain ⟨some_, d28⟩ : ∃ some_ : (List Nat), some_ = (left_1.filter fun x22 => decide (¬(∃ x25 ∈ ways[x22]!, (x25 ∈ dkeys told)))) := ⟨_, rfl⟩
      replace h := h some_ d28
      refine T.wp_seq (T.wp_set (T.ev_as d28 (e := (eL eN)) (T.ev_compI (e := eN) (xs := left_1) (ds := fun x22 => [eN x22]) (P := fun x22 => (¬(∃ x25 ∈ ways[x22]!, (x25 ∈ dkeys told)))) (T.it_L (e := eN) (xs := left_1) (T.ev_v rfl)) c23 (fun _ => rfl) (fun x22 hx => match c27 x22 hx with | ⟨c24, c26⟩ => (T.ev_notT (P := (∃ x25 ∈ ways[x22]!, (x25 ∈ dkeys told))) (T.ev_bool (T.ev_anyY (xs := ways[x22]!) (R := fun x25 => (x25 ∈ dkeys told)) (T.ev_compY (e := eN) (e1 := eB) (xs := ways[x22]!) (ds := fun x25 => [eN x25]) (g := fun x25 => (decide (x25 ∈ dkeys told))) (T.it_L (e := eN) (xs := ways[x22]!) (T.ev_ixL (e := (eL eN)) (xs := ways) (i := x22) c24 (T.ev_v rfl) (T.ev_v rfl))) c26 (fun _ => rfl) (fun x25 hx => (T.ev_inK (x := x25) (d := told) (T.ev_v rfl) (T.ev_v rfl)))))))) (fun x22 hx hq => (T.ev_v rfl)))) ?_)
      change WP _ _ _ _ (At _ [some ((eT eR) picture), some ((eL eN) left_1), some ((eL (eL eN)) found), some ((eL (eL eN)) ways), none, some ((eD eB) told), some ((eL eN) some_), none, g11] _)
      refine T.wp_seq (T.wp_if (P := (some_ = [])) (T.ev_bool (T.ev_eq (x := some_) (y := []) (qL qN) rfl (T.ev_v rfl) (T.ev_lst (ds := []) T.ev_nil rfl))) (fun hp => ?_) (fun hn => ?_))
      · replace h := h.1 hp
        exact T.wp_ret (T.ev_v rfl) ⟨rfl, found, rfl, h⟩
      · replace h := h.2 hn
        refine T.wp_skip ?_
        change WP _ _ _ _ (At _ [some ((eT eR) picture), some ((eL eN) left_1), some ((eL (eL eN)) found), some ((eL (eL eN)) ways), none, some ((eD eB) told), some ((eL eN) some_), none, g11] _)
        obtain ⟨c29, h⟩ := h
        obtain ⟨found_1, d30⟩ : ∃ found_1 : (List (List Nat)), found_1 = (found ++ [some_]) := ⟨_, rfl⟩
        replace h := h found_1 d30
        refine T.wp_seq (T.wp_app (e := (eL eN)) (xs := found) (x := some_) rfl (T.ev_v rfl) c29 ?_)
        rw [← d30]
        change WP _ _ _ _ (At _ [some ((eT eR) picture), some ((eL eN) left_1), some ((eL (eL eN)) found_1), some ((eL (eL eN)) ways), none, some ((eD eB) told), some ((eL eN) some_), none, g11] _)
        obtain ⟨c32, h⟩ := h
        obtain ⟨gone, d33⟩ : ∃ gone : (List (Nat × Bool)), gone = (dictOf (some_.map fun x31 => (x31, true))) := ⟨_, rfl⟩
        replace h := h gone d33
        refine T.wp_seq (T.wp_set (T.ev_as d33 (e := (eD eB)) (T.ev_dc (e := eB) (e1 := eN) (xs := some_) (ds := fun x31 => [eN x31]) (k := fun x31 => x31) (v := fun x31 => true) (T.it_L (e := eN) (xs := some_) (T.ev_v rfl)) c32 (fun _ => rfl) (fun x31 hx => (T.ev_v rfl)) (fun x31 hx => (T.ev_c rfl)))) ?_)
        change WP _ _ _ _ (At _ [some ((eT eR) picture), some ((eL eN) left_1), some ((eL (eL eN)) found_1), some ((eL (eL eN)) ways), none, some ((eD eB) told), some ((eL eN) some_), none, some ((eD eB) gone)] _)
        obtain ⟨c35, h⟩ := h
        obtain ⟨left_2, d36⟩ : ∃ left_2 : (List Nat), left_2 = (left_1.filter fun x34 => decide (x34 ∉ dkeys gone)) := ⟨_, rfl⟩
        replace h := h left_2 d36
        refine T.wp_set (T.ev_as d36 (e := (eL eN)) (T.ev_compI (e := eN) (xs := left_1) (ds := fun x34 => [eN x34]) (P := fun x34 => (x34 ∉ dkeys gone)) (T.it_L (e := eN) (xs := left_1) (T.ev_v rfl)) c35 (fun _ => rfl) (fun x34 hx => (T.ev_bool (T.ev_ninK (x := x34) (d := gone) (T.ev_v rfl) (T.ev_v rfl)))) (fun x34 hx hq => (T.ev_v rfl)))) ?_
        exact ⟨_, h.2, rfl, left_2, found_1, _, _, _, rfl, h.1, rfl⟩
    · exact (hn rfl).elim)
  exact ⟨r, q, e1⟩
abbrev P_layers_of (p : Pic) : Prop := PicP p
abbrev F_layers_of (p : Pic) : List (List Nat) := layersQ p
theorem ok_layers_of {p : Pic} (k : P_layers_of p) : V_layers_of p (· = F_layers_of p) := by
  have h1 := k.h1; have h30 := k.h30; have w1 := k.w1; have w30 := k.w30
  have e0 : F_lines_of p = p.length + p[0]!.length := rfl
  rw [V_layers_of, e0]
  refine ⟨k, by omega, fun left hleft => ⟨by rw [hleft, List.length_range]; omega, fun x hx => ⟨k, by rw [hleft] at hx; exact List.mem_range.mp hx⟩, fun ways hw => ?_⟩⟩
  have wl : ways.length = p.length + p[0]!.length := by rw [hw, List.length_map, hleft, List.length_range]
  have wg : ∀ l, l < p.length + p[0]!.length → ways[l]! = leadsQ p l := fun l hl => by
    rw [hw, get!_map' _ (by rw [hleft, List.length_range]; exact hl), hleft, get!_range hl]
  refine ⟨fun l f => ∃ n, f = (liter p n).1 ∧ l = lv p (liter p n) ∧ l.length + n ≤ p.length + p[0]!.length, fun l f => l.length, ⟨0, rfl, ?_, ?_⟩, ?_, fun l f hI => ?_⟩
  · rw [hleft]
    show _ = List.range p.length ++ (List.range p[0]!.length).map fun j => p.length + j
    rw [List.range_add]
  · rw [hleft, List.length_range]; omega
  · show left.length < _
    rw [hleft, List.length_range]; omega
  · obtain ⟨n, rfl, rfl, hn⟩ := hI
    have hr : ∀ i ∈ (liter p n).2.1, i < p.length := fun i hi => liter_row hi
    have hc : ∀ j ∈ (liter p n).2.2, j < p[0]!.length := fun j hj => liter_col hj
    have lt : ∀ l ∈ lv p (liter p n), l < p.length + p[0]!.length := fun l hl => by
      rcases (mem_lv hr l).mp hl with ⟨a, _⟩ | ⟨_, b⟩
      · omega
      · have := hc _ b; omega
    refine ⟨by omega, fun told ht => ⟨by omega, fun x hx => ⟨by rw [wl]; exact lt x hx, ?_⟩, fun some_ hs => ?_⟩⟩
    · rw [wg x (lt x hx)]
      unfold leadsQ
      split
      · rw [List.length_map]
        have := len_filter_le (fun j => decide ((p[x]!)[j]! = false)) (List.range p[0]!.length)
        rw [List.length_range] at this
        omega
      · have := len_filter_le (fun i => decide ((p[i]!)[x - p.length]! = true)) (List.range p.length)
        rw [List.length_range] at this
        omega
    · have es : some_ = freeQ p (liter p n) := by
        rw [hs]
        unfold freeQ
        refine List.filter_congr fun x hx => decide_eq_decide.mpr (not_congr ?_)
        rw [wg x (lt x hx)]
        refine exists_congr fun o => and_congr_right fun _ => ?_
        rw [ht, keys_true]
      refine ⟨fun q => ?_, fun q => ?_⟩
      · rw [es] at q
        have hn2 : n ≤ p.length + p[0]!.length := by omega
        obtain ⟨m, hm⟩ : ∃ m, p.length + p[0]!.length = n + m := ⟨_, (Nat.add_sub_cancel' hn2).symm⟩
        show (liter p n).1 = (liter p (p.length + p[0]!.length)).1
        rw [hm, liter_stop q m]
      · rw [es] at q
        obtain ⟨s1, s2⟩ := lstep_free hr hc q
        have sl : (freeQ p (liter p n)).length ≤ (lv p (liter p n)).length := len_filter_le _ _
        refine ⟨?_, fun f2 hf => ⟨by rw [es]; omega, fun gone hg => ⟨by omega, fun l2 hl2 => ?_⟩⟩⟩
        · have := (liter_sub p n).2.2; omega
        · have e2 : l2 = lv p (liter p (n + 1)) := by
            show l2 = lv p (lstep p (liter p n))
            rw [s2, hl2]
            refine List.filter_congr fun x _ => decide_eq_decide.mpr (not_congr ?_)
            rw [hg, keys_true, es]
          have less : l2.length < (lv p (liter p n)).length := by
            rw [e2]
            show (lv p (lstep p (liter p n))).length < _
            rw [s2]
            obtain ⟨z, hz⟩ := List.exists_mem_of_ne_nil _ q
            have hz2 : z ∈ lv p (liter p n) := (List.mem_filter.mp hz).1
            refine Nat.lt_of_le_of_ne (len_filter_le _ _) fun e => ?_
            have := List.length_filter_eq_length_iff.mp e z hz2
            exact of_decide_eq_true this hz
          refine ⟨⟨n + 1, ?_, e2, by omega⟩, less⟩
          rw [hf, es]
          exact s1.symm
theorem t_layers_of {picture : (List Row)} (hP : P_layers_of picture) (tp : List D) : m_layers_of [(eT eR) picture] tp = .ok ((eL (eL eN)) (F_layers_of picture)) tp := by
  obtain ⟨r, rfl, e⟩ := snd_layers_of picture (ok_layers_of hP) tp
  exact e
end W
set_option maxHeartbeats 1000000
namespace W
open PySem L2 G T
def V_law_painted (picture_here : (List Row)) (deeds_here : (List Nat)) (Q : (List Row) → Prop) : Prop := ∃ I2 : Nat → (List Row) → Prop, I2 0 picture_here ∧ (∀ (i6 : Nat) (x7 : Nat), deeds_here[i6]? = some x7 → ∀ picture_here_1 : (List Row), I2 i6 picture_here_1 → (P_law_paint picture_here_1 x7) ∧ ∀ picture_here_2 : (List Row), picture_here_2 = (F_law_paint picture_here_1 x7) → I2 (i6 + 1) picture_here_2) ∧ (∀ picture_here_1 : (List Row), I2 deeds_here.length picture_here_1 → Q picture_here_1)
theorem snd_law_painted (picture_here : (List Row)) (deeds_here : (List Nat)) {Q : (List Row) → Prop} (h : V_law_painted picture_here deeds_here Q) (tp : List D) : ∃ r : (List Row), Q r ∧ m_law_painted [(eT eR) picture_here, (eL eN) deeds_here] tp = .ok ((eT eR) r) tp := by
  obtain ⟨d, t, e1, rfl, r, rfl, q⟩ := T.wp_def (n := 3) (s := b_law_painted) (ds := [(eT eR) picture_here, (eL eN) deeds_here]) (tp := tp) (Q := fun d t => t = tp ∧ ∃ r : (List Row), d = (eT eR) r ∧ Q r) (by
    unfold V_law_painted at h
    change WP _ _ _ _ (b_law_painted [some ((eT eR) picture_here), some ((eL eN) deeds_here), none] _)
    unfold b_law_painted
    obtain ⟨I2, h3, h4, h5⟩ := h
    refine T.wp_seq (T.wp_for (e := eN) (xs := deeds_here) (ds := fun x7 => [eN x7]) (fun k env tz => tp = tz ∧ ∃ picture_here_1 : (List Row), ∃ g1 : Option D, env = [some ((eT eR) picture_here_1), some ((eL eN) deeds_here), g1] ∧ I2 k picture_here_1) (T.it_L (e := eN) (xs := deeds_here) (T.ev_v rfl)) (fun _ => rfl) ⟨rfl, picture_here, _, rfl, h3⟩ ?_ ?_)
    · intro i6 x7 env t hk hI
      obtain ⟨rfl, picture_here_1, g1, rfl, h⟩ := hI
      replace h := h4 i6 x7 hk picture_here_1 h
      change WP _ _ _ _ (At _ [some ((eT eR) picture_here_1), some ((eL eN) deeds_here), some (eN x7)] _)
      obtain ⟨c10, h⟩ := h
      obtain ⟨picture_here_2, d11⟩ : ∃ picture_here_2 : (List Row), picture_here_2 = (F_law_paint picture_here_1 x7) := ⟨_, rfl⟩
      replace h := h picture_here_2 d11
      refine T.wp_set (T.ev_as d11 (e := (eT eR)) (T.ev_call (T.ev_cons (T.ev_v rfl) (T.ev_cons (T.ev_v rfl) T.ev_nil)) rfl (t_law_paint c10 _))) ?_
      exact ⟨rfl, picture_here_2, _, rfl, h⟩
    rintro _ _ ⟨rfl, picture_here_1, g1, rfl, h⟩
    replace h := h5 picture_here_1 h
    change WP _ _ _ _ (At _ [some ((eT eR) picture_here_1), some ((eL eN) deeds_here), g1] _)
    exact T.wp_ret (T.ev_v rfl) ⟨rfl, picture_here_1, rfl, h⟩)
  exact ⟨r, q, e1⟩
abbrev P_law_painted (p : Pic) (_ : List Nat) : Prop := PicP p
abbrev F_law_painted (p : Pic) (ls : List Nat) : Pic := linesQ p ls
theorem ok_law_painted {p : Pic} {ls : List Nat} (k : P_law_painted p ls) : V_law_painted p ls (· = F_law_painted p ls) := by
  refine ⟨fun n q => q = linesQ p (ls.take n), rfl, fun i x hx q hq => ⟨?_, fun r hr => ?_⟩, fun q hq => ?_⟩
  · rw [hq]; exact (linesQ_pp k _).1
  · show r = _
    rw [hr, hq, take_snoc hx, linesQ_snoc]
  · rw [hq, List.take_length]
theorem t_law_painted {picture_here : (List Row)} {deeds_here : (List Nat)} (hP : P_law_painted picture_here deeds_here) (tp : List D) : m_law_painted [(eT eR) picture_here, (eL eN) deeds_here] tp = .ok ((eT eR) (F_law_painted picture_here deeds_here)) tp := by
  obtain ⟨r, rfl, e⟩ := snd_law_painted picture_here deeds_here (ok_law_painted hP) tp
  exact e
end W
set_option maxHeartbeats 1000000
namespace W
open PySem L2 G T
def V_law_core (picture_here : (List Row)) (Q : (List Nat) → Prop) : Prop := (P_law_layers picture_here) ∧ ∃ I3 : Nat → (List Nat) → Prop, I3 0 [] ∧ (∀ (i7 : Nat) (x8 : (List Nat)), (F_law_layers picture_here)[i7]? = some x8 → ∀ told : (List Nat), I3 i7 told → (told.length + x8.length ≤ 1000000) ∧ ∀ told_1 : (List Nat), told_1 = (told ++ x8) → I3 (i7 + 1) told_1) ∧ (∀ told : (List Nat), I3 (F_law_layers picture_here).length told → (0 < picture_here.length) ∧ ((picture_here[0]!).length ≤ 1000000) ∧ ((picture_here.length + (picture_here[0]!).length) ≤ 1073741824) ∧ ((List.range (picture_here.length + (picture_here[0]!).length)).length ≤ 1000000) ∧ Q ((List.range (picture_here.length + (picture_here[0]!).length)).filter fun x18 => decide (x18 ∉ told)))
theorem snd_law_core (picture_here : (List Row)) {Q : (List Nat) → Prop} (h : V_law_core picture_here Q) (tp : List D) : ∃ r : (List Nat), Q r ∧ m_law_core [(eT eR) picture_here] tp = .ok ((eL eN) r) tp := by
  obtain ⟨d, t, e1, rfl, r, rfl, q⟩ := T.wp_def (n := 4) (s := b_law_core) (ds := [(eT eR) picture_here]) (tp := tp) (Q := fun d t => t = tp ∧ ∃ r : (List Nat), d = (eL eN) r ∧ Q r) (by
    unfold V_law_core at h
    change WP _ _ _ _ (b_law_core [some ((eT eR) picture_here), none, none, none] _)
    unfold b_law_core
    refine T.wp_seq (T.wp_set (T.ev_lst (ds := []) T.ev_nil rfl) ?_)
    change WP _ _ _ _ (At _ [some ((eT eR) picture_here), some ((eL eN) []), none, none] _)
    obtain ⟨c1, h⟩ := h
    obtain ⟨I3, h4, h5, h6⟩ := h
    refine T.wp_seq (T.wp_for (e := (eL eN)) (xs := (F_law_layers picture_here)) (ds := fun x8 => [(eL eN) x8]) (fun k env tz => tp = tz ∧ ∃ told : (List Nat), ∃ g2 : Option D, env = [some ((eT eR) picture_here), some ((eL eN) told), g2, none] ∧ I3 k told) (T.it_L (e := (eL eN)) (xs := (F_law_layers picture_here)) (T.ev_call (T.ev_cons (T.ev_v rfl) T.ev_nil) rfl (t_law_layers c1 _))) (fun _ => rfl) ⟨rfl, [], _, rfl, h4⟩ ?_ ?_)
    · intro i7 x8 env t hk hI
      obtain ⟨rfl, told, g2, rfl, h⟩ := hI
      replace h := h5 i7 x8 hk told h
      change WP _ _ _ _ (At _ [some ((eT eR) picture_here), some ((eL eN) told), some ((eL eN) x8), none] _)
      obtain ⟨c11, h⟩ := h
      obtain ⟨told_1, d12⟩ : ∃ told_1 : (List Nat), told_1 = (told ++ x8) := ⟨_, rfl⟩
      replace h := h told_1 d12
      refine T.wp_set (T.ev_as d12 (e := (eL eN)) (T.ev_catL (e := eN) (xs := told) (ys := x8) c11 (T.ev_v rfl) (T.ev_v rfl))) ?_
      exact ⟨rfl, told_1, _, rfl, h⟩
    rintro _ _ ⟨rfl, told, g2, rfl, h⟩
    replace h := h6 told h
    change WP _ _ _ _ (At _ [some ((eT eR) picture_here), some ((eL eN) told), g2, none] _)
    obtain ⟨c15, h⟩ := h
    obtain ⟨c16, h⟩ := h
    obtain ⟨c17, h⟩ := h
    obtain ⟨c19, h⟩ := h
    exact T.wp_ret (T.ev_compI (e := eN) (xs := (List.range (picture_here.length + (picture_here[0]!).length))) (ds := fun x18 => [eN x18]) (P := fun x18 => (x18 ∉ told)) (T.it_range (n := (picture_here.length + (picture_here[0]!).length)) c17 (T.ev_add (x := picture_here.length) (y := (picture_here[0]!).length) (T.ev_lenT (e := eR) (xs := picture_here) (T.ev_v rfl)) (T.ev_lenR (r := picture_here[0]!) c16 (T.ev_ixT (e := eR) (xs := picture_here) (i := 0) c15 (T.ev_v rfl) (T.ev_cN 0))))) c19 (fun _ => rfl) (fun x18 hx => (T.ev_bool (T.ev_ninL (x := x18) (xs := told) qN rfl (T.ev_v rfl) (T.ev_v rfl)))) (fun x18 hx hq => (T.ev_v rfl))) ⟨rfl, ((List.range (picture_here.length + (picture_here[0]!).length)).filter fun x18 => decide (x18 ∉ told)), rfl, h⟩)
  exact ⟨r, q, e1⟩
abbrev P_law_core (p : Pic) : Prop := PicP p
abbrev F_law_core (p : Pic) : List Nat := coreQ p
theorem ok_law_core {p : Pic} (k : P_law_core p) : V_law_core p (· = F_law_core p) := by
  have h1 := k.h1; have h30 := k.h30; have w1 := k.w1; have w30 := k.w30
  obtain ⟨a, b⟩ := layersQ_len k
  refine ⟨k, fun n t => t = ((layersQ p).take n).flatten, rfl, fun i x hx t ht => ⟨?_, fun u hu => ?_⟩, fun t ht => ⟨by omega, by omega, by omega, by rw [List.length_range]; omega, ?_⟩⟩
  · have c := b x (List.mem_of_getElem? hx)
    have d := sub_len (n := 30) (xs := (layersQ p).take i) fun y hy => b y (List.mem_of_mem_take hy)
    rw [List.length_take] at d
    rw [ht]
    have : min i (layersQ p).length * 30 ≤ 60 * 30 := Nat.mul_le_mul_right _ (by omega)
    omega
  · show u = _
    rw [hu, ht, take_snoc hx, List.flatten_append]; simp
  · have e : t = (layersQ p).flatten := ht.trans (by rw [List.take_length])
    rw [e]; rfl
theorem t_law_core {picture_here : (List Row)} (hP : P_law_core picture_here) (tp : List D) : m_law_core [(eT eR) picture_here] tp = .ok ((eL eN) (F_law_core picture_here)) tp := by
  obtain ⟨r, rfl, e⟩ := snd_law_core picture_here (ok_law_core hP) tp
  exact e
end W
set_option maxHeartbeats 1000000
namespace W
open PySem L2 G T
def V_need_two (start : (List Row)) (goal : (List Row)) (Q : Unit → Prop) : Prop := (P_need_picture start) ∧ (P_need_picture goal) ∧ (¬(start.length ≠ goal.length) → (0 < start.length) ∧ ((start[0]!).length ≤ 1000000) ∧ (0 < goal.length) ∧ ((goal[0]!).length ≤ 1000000)) ∧ ((start.length = goal.length) ∧ ((start[0]!).length = (goal[0]!).length)) ∧ Q ()
theorem snd_need_two (start : (List Row)) (goal : (List Row)) {Q : Unit → Prop} (h : V_need_two start goal Q) (tp : List D) : ∃ r : Unit, Q r ∧ m_need_two [(eT eR) start, (eT eR) goal] tp = .ok (eU r) tp := by
  obtain ⟨d, t, e1, rfl, r, rfl, q⟩ := T.wp_def (n := 2) (s := b_need_two) (ds := [(eT eR) start, (eT eR) goal]) (tp := tp) (Q := fun d t => t = tp ∧ ∃ r : Unit, d = eU r ∧ Q r) (by
    unfold V_need_two at h
    change WP _ _ _ _ (b_need_two [some ((eT eR) start), some ((eT eR) goal)] _)
    unfold b_need_two
    obtain ⟨c1, h⟩ := h
    refine T.wp_seq (T.wp_drop (T.ev_call (T.ev_cons (T.ev_v rfl) T.ev_nil) rfl (t_need_picture c1 _)) ?_)
    change WP _ _ _ _ (At _ [some ((eT eR) start), some ((eT eR) goal)] _)
    obtain ⟨c2, h⟩ := h
    refine T.wp_seq (T.wp_drop (T.ev_call (T.ev_cons (T.ev_v rfl) T.ev_nil) rfl (t_need_picture c2 _)) ?_)
    change WP _ _ _ _ (At _ [some ((eT eR) start), some ((eT eR) goal)] _)
    obtain ⟨c7, h⟩ := h
    obtain ⟨hf, h⟩ := h
    refine T.wp_if (P := ((start.length ≠ goal.length) ∨ ((start[0]!).length ≠ (goal[0]!).length))) (T.ev_orT (P := (start.length ≠ goal.length)) (Q := ((start[0]!).length ≠ (goal[0]!).length)) (T.ev_bool (T.ev_ne (x := start.length) (y := goal.length) qN rfl (T.ev_lenT (e := eR) (xs := start) (T.ev_v rfl)) (T.ev_lenT (e := eR) (xs := goal) (T.ev_v rfl)))) (fun hp => match c7 hp with | ⟨c3, c4, c5, c6⟩ => (T.ev_bool (T.ev_ne (x := (start[0]!).length) (y := (goal[0]!).length) qN rfl (T.ev_lenR (r := start[0]!) c4 (T.ev_ixT (e := eR) (xs := start) (i := 0) c3 (T.ev_v rfl) (T.ev_cN 0))) (T.ev_lenR (r := goal[0]!) c6 (T.ev_ixT (e := eR) (xs := goal) (i := 0) c5 (T.ev_v rfl) (T.ev_cN 0))))))) (fun hp => ?_) (fun hn => ?_)
    · exact absurd hp ((fun h0 => h0.elim ((fun h0 => h0 ((hf).1))) ((fun h0 => h0 ((hf).2)))))
    · refine T.wp_skip ?_
      exact ⟨rfl, (), rfl, h⟩)
  exact ⟨r, q, e1⟩
abbrev P_need_two (p q : Pic) : Prop := PicP p ∧ PicP q ∧ p.length = q.length ∧ p[0]!.length = q[0]!.length
abbrev F_need_two (_ _ : Pic) : Unit := ()
theorem ok_need_two {p q : Pic} (k : P_need_two p q) : V_need_two p q (· = F_need_two p q) := by
  obtain ⟨k, l, e1, e2⟩ := k
  have h1 := k.h1; have h30 := k.h30; have w1 := k.w1; have w30 := k.w30
  exact ⟨k, l, fun _ => ⟨by omega, by omega, by omega, by omega⟩, ⟨e1, e2⟩, rfl⟩
theorem t_need_two {start : (List Row)} {goal : (List Row)} (hP : P_need_two start goal) (tp : List D) : m_need_two [(eT eR) start, (eT eR) goal] tp = .ok (eU (F_need_two start goal)) tp := by
  obtain ⟨r, rfl, e⟩ := snd_need_two start goal (ok_need_two hP) tp
  exact e
end W
set_option maxHeartbeats 1000000
namespace W
open PySem L2 G T
def V_need_line (picture : (List Row)) (value : Nat) (Q : Unit → Prop) : Prop := (P_lines_of picture) ∧ (1 ≤ (F_lines_of picture)) ∧ ((F_is_in value 0 ((F_lines_of picture) - 1)) = true) ∧ Q ()
theorem snd_need_line (picture : (List Row)) (value : Nat) {Q : Unit → Prop} (h : V_need_line picture value Q) (tp : List D) : ∃ r : Unit, Q r ∧ m_need_line [(eT eR) picture, eN value] tp = .ok (eU r) tp := by
  obtain ⟨d, t, e1, rfl, r, rfl, q⟩ := T.wp_def (n := 2) (s := b_need_line) (ds := [(eT eR) picture, eN value]) (tp := tp) (Q := fun d t => t = tp ∧ ∃ r : Unit, d = eU r ∧ Q r) (by
    unfold V_need_line at h
    change WP _ _ _ _ (b_need_line [some ((eT eR) picture), some (eN value)] _)
    unfold b_need_line
    obtain ⟨c1, h⟩ := h
    obtain ⟨c2, h⟩ := h
    obtain ⟨hf, h⟩ := h
    refine T.wp_if (P := (¬((F_is_in value 0 ((F_lines_of picture) - 1)) = true))) (T.ev_notT (P := ((F_is_in value 0 ((F_lines_of picture) - 1)) = true)) (T.ev_dec (F_is_in value 0 ((F_lines_of picture) - 1)) (T.ev_call (T.ev_cons (T.ev_v rfl) (T.ev_cons (T.ev_cN 0) (T.ev_cons (T.ev_sub (x := (F_lines_of picture)) (y := 1) c2 (T.ev_call (T.ev_cons (T.ev_v rfl) T.ev_nil) rfl (t_lines_of c1 _)) (T.ev_cN 1)) T.ev_nil))) rfl (t_is_in True.intro _)))) (fun hp => ?_) (fun hn => ?_)
    · exact absurd hp ((fun h0 => h0 (hf)))
    · refine T.wp_skip ?_
      exact ⟨rfl, (), rfl, h⟩)
  exact ⟨r, q, e1⟩
abbrev P_need_line (p : Pic) (l : Nat) : Prop := PicP p ∧ l < p.length + p[0]!.length
abbrev F_need_line (_ : Pic) (_ : Nat) : Unit := ()
theorem ok_need_line {p : Pic} {l : Nat} (h : P_need_line p l) : V_need_line p l (· = F_need_line p l) := by
  obtain ⟨k, hl⟩ := h
  have h1 := k.h1
  refine ⟨k, by unfold F_lines_of; omega, ?_, rfl⟩
  unfold F_is_in F_lines_of
  exact decide_eq_true ⟨by omega, by omega⟩
theorem t_need_line {picture : (List Row)} {value : Nat} (hP : P_need_line picture value) (tp : List D) : m_need_line [(eT eR) picture, eN value] tp = .ok (eU (F_need_line picture value)) tp := by
  obtain ⟨r, rfl, e⟩ := snd_need_line picture value (ok_need_line hP) tp
  exact e
end W
set_option maxHeartbeats 1000000
namespace W
open PySem L2 G T
def V_are_lines (picture : (List Row)) (value : (List Nat)) (Q : Bool → Prop) : Prop := (value.length ≤ 1000000) ∧ (∀ x1, x1 ∈ value → (P_lines_of picture) ∧ (1 ≤ (F_lines_of picture))) ∧ ((((¬True) ∨ (¬(∀ x1 ∈ value, ((F_is_in x1 0 ((F_lines_of picture) - 1)) = true)))) → Q false) ∧ (¬((¬True) ∨ (¬(∀ x1 ∈ value, ((F_is_in x1 0 ((F_lines_of picture) - 1)) = true)))) → ((value.zip (value.drop 1)).length ≤ 1000000) ∧ Q (decide (∀ x6 ∈ (value.zip (value.drop 1)), (x6.1 < x6.2)))))
theorem snd_are_lines (picture : (List Row)) (value : (List Nat)) {Q : Bool → Prop} (h : V_are_lines picture value Q) (tp : List D) : ∃ r : Bool, Q r ∧ m_are_lines [(eT eR) picture, (eT eN) value] tp = .ok (eB r) tp := by
  obtain ⟨d, t, e1, rfl, r, rfl, q⟩ := T.wp_def (n := 5) (s := b_are_lines) (ds := [(eT eR) picture, (eT eN) value]) (tp := tp) (Q := fun d t => t = tp ∧ ∃ r : Bool, d = eB r ∧ Q r) (by
    unfold V_are_lines at h
    change WP _ _ _ _ (b_are_lines [some ((eT eR) picture), some ((eT eN) value), none, none, none] _)
    unfold b_are_lines
    obtain ⟨c2, h⟩ := h
    obtain ⟨c5, h⟩ := h
    refine T.wp_seq (T.wp_if (P := ((¬True) ∨ (¬(∀ x1 ∈ value, ((F_is_in x1 0 ((F_lines_of picture) - 1)) = true))))) (T.ev_orT (P := (¬True)) (Q := (¬(∀ x1 ∈ value, ((F_is_in x1 0 ((F_lines_of picture) - 1)) = true)))) (T.ev_notT (P := True) (T.ev_bool (T.ev_isi (d := (eT eN) value) (T.ev_v rfl) rfl kb_tuple_tuple))) (fun hp => (T.ev_notT (P := (∀ x1 ∈ value, ((F_is_in x1 0 ((F_lines_of picture) - 1)) = true))) (T.ev_bool (T.ev_allY (xs := value) (R := fun x1 => ((F_is_in x1 0 ((F_lines_of picture) - 1)) = true)) (T.ev_compY (e := eN) (e1 := eB) (xs := value) (ds := fun x1 => [eN x1]) (g := fun x1 => (decide ((F_is_in x1 0 ((F_lines_of picture) - 1)) = true))) (T.it_T (e := eN) (xs := value) (T.ev_v rfl)) c2 (fun _ => rfl) (fun x1 hx => match c5 x1 hx with | ⟨c3, c4⟩ => (T.ev_decB (F_is_in x1 0 ((F_lines_of picture) - 1)) (T.ev_call (T.ev_cons (T.ev_v rfl) (T.ev_cons (T.ev_cN 0) (T.ev_cons (T.ev_sub (x := (F_lines_of picture)) (y := 1) c4 (T.ev_call (T.ev_cons (T.ev_v rfl) T.ev_nil) rfl (t_lines_of c3 _)) (T.ev_cN 1)) T.ev_nil))) rfl (t_is_in True.intro _)))))))))) (fun hp => ?_) (fun hn => ?_))
    · replace h := h.1 hp
      exact T.wp_ret (T.ev_c rfl) ⟨rfl, false, rfl, h⟩
    · replace h := h.2 hn
      refine T.wp_skip ?_
      change WP _ _ _ _ (At _ [some ((eT eR) picture), some ((eT eN) value), none, none, none] _)
      obtain ⟨c7, h⟩ := h
      exact T.wp_ret (T.ev_allY (xs := (value.zip (value.drop 1))) (R := fun x6 => (x6.1 < x6.2)) (T.ev_compY (e := (eP eN eN)) (e1 := eB) (xs := (value.zip (value.drop 1))) (ds := fun x6 => [eN x6.1, eN x6.2]) (g := fun x6 => (decide (x6.1 < x6.2))) (T.it_zipT (e := eN) (e1 := eN) (xs := value) (ys := (value.drop 1)) (T.ev_v rfl) (T.ev_fromT (e := eN) (xs := value) (k := 1) (T.ev_v rfl) (T.ev_cN 1))) c7 (fun _ => rfl) (fun x6 hx => (T.ev_lt (x := x6.1) (y := x6.2) (T.ev_v rfl) (T.ev_v rfl))))) ⟨rfl, (decide (∀ x6 ∈ (value.zip (value.drop 1)), (x6.1 < x6.2))), rfl, h⟩)
  exact ⟨r, q, e1⟩
abbrev P_are_lines (p : Pic) (ls : List Nat) : Prop := PicP p ∧ ls.length ≤ 1000
def F_are_lines (p : Pic) (ls : List Nat) : Bool := decide (∀ l ∈ ls, l < p.length + p[0]!.length) && decide (∀ x ∈ ls.zip (ls.drop 1), x.1 < x.2)
theorem ok_are_lines {p : Pic} {ls : List Nat} (h : P_are_lines p ls) : V_are_lines p ls (· = F_are_lines p ls) := by
  obtain ⟨k, l⟩ := h
  have h1 := k.h1
  have e : (∀ x ∈ ls, F_is_in x 0 (F_lines_of p - 1) = true) ↔ ∀ x ∈ ls, x < p.length + p[0]!.length := by
    refine forall_congr' fun x => forall_congr' fun _ => ?_
    unfold F_is_in F_lines_of
    rw [decide_eq_true_iff]
    constructor <;> intro h <;> omega
  refine ⟨by omega, fun x hx => ⟨k, by unfold F_lines_of; omega⟩, fun h => ?_, fun h => ⟨?_, ?_⟩⟩
  · rcases h with h | h
    · exact (h trivial).elim
    · rw [e] at h
      unfold F_are_lines
      rw [decide_eq_false h]; rfl
  · rw [List.length_zip, List.length_drop]; omega
  · have h' : ∀ x ∈ ls, F_is_in x 0 (F_lines_of p - 1) = true := Classical.byContradiction fun q => h (.inr q)
    rw [e] at h'
    unfold F_are_lines
    rw [decide_eq_true h']; rfl
/-- ascending -/
theorem zip_asc : ∀ {ls : List Nat}, ls.Pairwise (· < ·) → ∀ x ∈ ls.zip (ls.drop 1), x.1 < x.2
  | [], _, x, h => by simp at h
  | [a], _, x, h => by simp at h
  | a :: b :: ls, h, x, hx => by
    have h' := List.pairwise_cons.mp h
    rw [List.drop_one, List.tail_cons, List.zip_cons_cons] at hx
    rcases List.mem_cons.mp hx with rfl | hx
    · exact h'.1 b List.mem_cons_self
    · exact zip_asc h'.2 x (by rw [List.drop_one, List.tail_cons]; exact hx)
theorem asc_zip : ∀ {ls : List Nat}, (∀ x ∈ ls.zip (ls.drop 1), x.1 < x.2) → ls.Pairwise (· < ·)
  | [], _ => .nil
  | [a], _ => List.pairwise_singleton _ _
  | a :: b :: ls, h => by
    have ih := asc_zip (ls := b :: ls) fun x hx => h x (by rw [List.drop_one, List.tail_cons, List.zip_cons_cons]; rw [List.drop_one, List.tail_cons] at hx; exact List.mem_cons_of_mem _ hx)
    have hab : a < b := h (a, b) (by rw [List.drop_one, List.tail_cons, List.zip_cons_cons]; exact List.mem_cons_self)
    refine List.pairwise_cons.mpr ⟨fun c hc => ?_, ih⟩
    rcases List.mem_cons.mp hc with rfl | hc
    · exact hab
    · exact Nat.lt_trans hab ((List.pairwise_cons.mp ih).1 c hc)
theorem are_lines_iff (p : Pic) (ls : List Nat) : F_are_lines p ls = true ↔ (∀ l ∈ ls, l < p.length + p[0]!.length) ∧ ls.Pairwise (· < ·) := by
  unfold F_are_lines
  rw [Bool.and_eq_true, decide_eq_true_iff, decide_eq_true_iff]
  exact ⟨fun ⟨a, b⟩ => ⟨a, asc_zip b⟩, fun ⟨a, b⟩ => ⟨a, zip_asc b⟩⟩
theorem t_are_lines {picture : (List Row)} {value : (List Nat)} (hP : P_are_lines picture value) (tp : List D) : m_are_lines [(eT eR) picture, (eT eN) value] tp = .ok (eB (F_are_lines picture value)) tp := by
  obtain ⟨r, rfl, e⟩ := snd_are_lines picture value (ok_are_lines hP) tp
  exact e
end W
set_option maxHeartbeats 1000000
namespace W
open PySem L2 G T
def V_core_of (picture : (List Row)) (Q : (List Nat) → Prop) : Prop := (P_layers_of picture) ∧ (((F_layers_of picture).flatMap fun x2 => x2).length ≤ 1000000) ∧ ∀ told : (List (Nat × Bool)), told = (dictOf ((F_layers_of picture).flatMap fun x2 => x2.map fun y3 => (y3, true))) → (P_lines_of picture) ∧ ((F_lines_of picture) ≤ 1073741824) ∧ ((List.range (F_lines_of picture)).length ≤ 1000000) ∧ Q ((List.range (F_lines_of picture)).filter fun x8 => decide (x8 ∉ dkeys told))
theorem snd_core_of (picture : (List Row)) {Q : (List Nat) → Prop} (h : V_core_of picture Q) (tp : List D) : ∃ r : (List Nat), Q r ∧ m_core_of [(eT eR) picture] tp = .ok ((eL eN) r) tp := by
  obtain ⟨d, t, e1, rfl, r, rfl, q⟩ := T.wp_def (n := 4) (s := b_core_of) (ds := [(eT eR) picture]) (tp := tp) (Q := fun d t => t = tp ∧ ∃ r : (List Nat), d = (eL eN) r ∧ Q r) (by
    unfold V_core_of at h
    change WP _ _ _ _ (b_core_of [some ((eT eR) picture), none, none, none] _)
    unfold b_core_of
    obtain ⟨c1, h⟩ := h
    obtain ⟨c4, h⟩ := h
    obtain ⟨told, d5⟩ : ∃ told : (List (Nat × Bool)), told = (dictOf ((F_layers_of picture).flatMap fun x2 => x2.map fun y3 => (y3, true))) := ⟨_, rfl⟩
    replace h := h told d5
    refine T.wp_seq (T.wp_set (T.ev_as d5 (e := (eD eB)) (T.ev_dc2 (e := eB) (e1 := (eL eN)) (e2 := eN) (xs := (F_layers_of picture)) (ds := fun x2 => [(eL eN) x2]) (ys := fun x2 => x2) (ds1 := fun y3 => [eN y3]) (k := fun x2 y3 => y3) (v := fun x2 y3 => true) (T.it_L (e := (eL eN)) (xs := (F_layers_of picture)) (T.ev_call (T.ev_cons (T.ev_v rfl) T.ev_nil) rfl (t_layers_of c1 _))) (fun _ => rfl) (fun x2 hx => (T.it_L (e := eN) (xs := x2) (T.ev_v rfl))) (fun _ => rfl) (fun x2 hx y3 hy => (T.ev_v rfl)) (fun x2 hx y3 hy => (T.ev_c rfl)) c4)) ?_)
    change WP _ _ _ _ (At _ [some ((eT eR) picture), some ((eD eB) told), none, none] _)
    obtain ⟨c6, h⟩ := h
    obtain ⟨c7, h⟩ := h
    obtain ⟨c9, h⟩ := h
    exact T.wp_ret (T.ev_compI (e := eN) (xs := (List.range (F_lines_of picture))) (ds := fun x8 => [eN x8]) (P := fun x8 => (x8 ∉ dkeys told)) (T.it_range (n := (F_lines_of picture)) c7 (T.ev_call (T.ev_cons (T.ev_v rfl) T.ev_nil) rfl (t_lines_of c6 _))) c9 (fun _ => rfl) (fun x8 hx => (T.ev_bool (T.ev_ninK (x := x8) (d := told) (T.ev_v rfl) (T.ev_v rfl)))) (fun x8 hx hq => (T.ev_v rfl))) ⟨rfl, ((List.range (F_lines_of picture)).filter fun x8 => decide (x8 ∉ dkeys told)), rfl, h⟩)
  exact ⟨r, q, e1⟩
abbrev P_core_of (p : Pic) : Prop := PicP p
abbrev F_core_of (p : Pic) : List Nat := coreQ p
theorem ok_core_of {p : Pic} (k : P_core_of p) : V_core_of p (· = F_core_of p) := by
  have h1 := k.h1; have h30 := k.h30; have w1 := k.w1; have w30 := k.w30
  have e0 : F_lines_of p = p.length + p[0]!.length := rfl
  have fl : ((layersQ p).flatMap fun x => x).length ≤ 1800 := by
    have := layersQ_flat k
    rwa [show (layersQ p).flatMap (fun x => x) = (layersQ p).flatten from List.flatMap_id']
  rw [V_core_of, e0]
  refine ⟨k, by show ((layersQ p).flatMap fun x => x).length ≤ _; omega, fun told ht => ⟨k, by omega, by rw [List.length_range]; omega, ?_⟩⟩
  unfold F_core_of coreQ
  refine List.filter_congr fun l _ => decide_eq_decide.mpr (not_congr ?_)
  rw [ht]; exact keys_flat _ _
theorem t_core_of {picture : (List Row)} (hP : P_core_of picture) (tp : List D) : m_core_of [(eT eR) picture] tp = .ok ((eL eN) (F_core_of picture)) tp := by
  obtain ⟨r, rfl, e⟩ := snd_core_of picture (ok_core_of hP) tp
  exact e
end W
set_option maxHeartbeats 1000000
namespace W
open PySem L2 G T
def V_round_of_four (picture : (List Row)) (Q : (Option (Nat × Nat × Nat × Nat)) → Prop) : Prop := (P_need_picture picture) ∧ (picture.length ≤ 1073741824) ∧ ∃ I7 : Nat → Prop, I7 0 ∧ (∀ (i11 : Nat) (x12 : Nat), (List.range picture.length)[i11]? = some x12 → I7 i11 → (picture.length ≤ 1073741824) ∧ ∃ I19 : Nat → Prop, I19 0 ∧ (∀ (i23 : Nat) (x24 : Nat), (List.range picture.length)[i23]? = some x24 → I19 i23 → (0 < picture.length) ∧ ((picture[0]!).length ≤ 1000000) ∧ ((picture[0]!).length ≤ 1073741824) ∧ ((List.range ((picture[0]!).length)).length ≤ 1000000) ∧ (∀ x30, x30 ∈ (List.range ((picture[0]!).length)) → (x12 < picture.length) ∧ ((picture[x12]!).length ≤ 1000000 ∧ x30 < (picture[x12]!).length) ∧ (((picture[x12]!)[x30]! = true) → (x24 < picture.length) ∧ ((picture[x24]!).length ≤ 1000000 ∧ x30 < (picture[x24]!).length))) ∧ ∀ down : (List Nat), down = ((List.range ((picture[0]!).length)).filter fun x30 => decide (((picture[x12]!)[x30]! = true) ∧ ((picture[x24]!)[x30]! ≠ true))) → (0 < picture.length) ∧ ((picture[0]!).length ≤ 1000000) ∧ ((picture[0]!).length ≤ 1073741824) ∧ ((List.range ((picture[0]!).length)).length ≤ 1000000) ∧ (∀ x42, x42 ∈ (List.range ((picture[0]!).length)) → (x12 < picture.length) ∧ ((picture[x12]!).length ≤ 1000000 ∧ x42 < (picture[x12]!).length) ∧ (((picture[x12]!)[x42]! ≠ true) → (x24 < picture.length) ∧ ((picture[x24]!).length ≤ 1000000 ∧ x42 < (picture[x24]!).length))) ∧ ∀ up : (List Nat), up = ((List.range ((picture[0]!).length)).filter fun x42 => decide (((picture[x12]!)[x42]! ≠ true) ∧ ((picture[x24]!)[x42]! = true))) → ((((down ≠ []) ∧ (up ≠ [])) → (0 < down.length) ∧ (0 < up.length) ∧ Q (some (x12, x24, down[0]!, up[0]!))) ∧ (¬((down ≠ []) ∧ (up ≠ [])) → I19 (i23 + 1)))) ∧ (I19 (List.range picture.length).length → I7 (i11 + 1))) ∧ (I7 (List.range picture.length).length → Q none)
theorem snd_round_of_four (picture : (List Row)) {Q : (Option (Nat × Nat × Nat × Nat)) → Prop} (h : V_round_of_four picture Q) (tp : List D) : ∃ r : (Option (Nat × Nat × Nat × Nat)), Q r ∧ m_round_of_four [(eT eR) picture] tp = .ok ((eO (eP4 eN eN eN eN)) r) tp := by
  obtain ⟨d, t, e1, rfl, r, rfl, q⟩ := T.wp_def (n := 6) (s := b_round_of_four) (ds := [(eT eR) picture]) (tp := tp) (Q := fun d t => t = tp ∧ ∃ r : (Option (Nat × Nat × Nat × Nat)), d = (eO (eP4 eN eN eN eN)) r ∧ Q r) (by
    unfold V_round_of_four at h
    change WP _ _ _ _ (b_round_of_four [some ((eT eR) picture), none, none, none, none, none] _)
    unfold b_round_of_four
    obtain ⟨c1, h⟩ := h
    refine T.wp_seq (T.wp_drop (T.ev_call (T.ev_cons (T.ev_v rfl) T.ev_nil) rfl (t_need_picture c1 _)) ?_)
    change WP _ _ _ _ (At _ [some ((eT eR) picture), none, none, none, none, none] _)
    obtain ⟨c2, h⟩ := h
    obtain ⟨I7, h8, h9, h10⟩ := h
    refine T.wp_seq (T.wp_for (e := eN) (xs := (List.range picture.length)) (ds := fun x12 => [eN x12]) (fun k env tz => tp = tz ∧ ∃ g3 : Option D, ∃ g4 : Option D, ∃ g5 : Option D, ∃ g6 : Option D, env = [some ((eT eR) picture), g3, g4, g5, none, g6] ∧ I7 k) (T.it_range (n := picture.length) c2 (T.ev_lenT (e := eR) (xs := picture) (T.ev_v rfl))) (fun _ => rfl) ⟨rfl, _, _, _, _, rfl, h8⟩ ?_ ?_)
    · intro i11 x12 env t hk hI
      obtain ⟨rfl, g3, g4, g5, g6, rfl, h⟩ := hI
      replace h := h9 i11 x12 hk h
      change WP _ _ _ _ (At _ [some ((eT eR) picture), some (eN x12), g4, g5, none, g6] _)
      obtain ⟨c15, h⟩ := h
      obtain ⟨I19, h20, h21, h22⟩ := h
      refine T.wp_for (e := eN) (xs := (List.range picture.length)) (ds := fun x24 => [eN x24]) (fun k env tz => tp = tz ∧ ∃ g16 : Option D, ∃ g17 : Option D, ∃ g18 : Option D, env = [some ((eT eR) picture), some (eN x12), g16, g17, none, g18] ∧ I19 k) (T.it_range (n := picture.length) c15 (T.ev_lenT (e := eR) (xs := picture) (T.ev_v rfl))) (fun _ => rfl) ⟨rfl, _, _, _, rfl, h20⟩ ?_ ?_
      · intro i23 x24 env t hk hI
        obtain ⟨rfl, g16, g17, g18, rfl, h⟩ := hI
        replace h := h21 i23 x24 hk h
        change WP _ _ _ _ (At _ [some ((eT eR) picture), some (eN x12), some (eN x24), g17, none, g18] _)
        obtain ⟨c27, h⟩ := h
        obtain ⟨c28, h⟩ := h
        obtain ⟨c29, h⟩ := h
        obtain ⟨c31, h⟩ := h
        obtain ⟨c37, h⟩ := h
        obtain ⟨down, d38⟩ : ∃ down : (List Nat), down = ((List.range ((picture[0]!).length)).filter fun x30 => decide (((picture[x12]!)[x30]! = true) ∧ ((picture[x24]!)[x30]! ≠ true))) := ⟨_, rfl⟩
        replace h := h down d38
        refine T.wp_seq (T.wp_set (T.ev_as d38 (e := (eL eN)) (T.ev_compI (e := eN) (xs := (List.range ((picture[0]!).length))) (ds := fun x30 => [eN x30]) (P := fun x30 => (((picture[x12]!)[x30]! = true) ∧ ((picture[x24]!)[x30]! ≠ true))) (T.it_range (n := (picture[0]!).length) c29 (T.ev_lenR (r := picture[0]!) c28 (T.ev_ixT (e := eR) (xs := picture) (i := 0) c27 (T.ev_v rfl) (T.ev_cN 0)))) c31 (fun _ => rfl) (fun x30 hx => match c37 x30 hx with | ⟨c32, c33, c36⟩ => (T.ev_andT (P := ((picture[x12]!)[x30]! = true)) (Q := ((picture[x24]!)[x30]! ≠ true)) (T.ev_bool (T.ev_eq (x := (picture[x12]!)[x30]!) (y := true) qG rfl (T.ev_ixR (r := picture[x12]!) (i := x30) c33 (T.ev_ixT (e := eR) (xs := picture) (i := x12) c32 (T.ev_v rfl) (T.ev_v rfl)) (T.ev_v rfl)) (T.ev_c (congrArg D.str str_black)))) (fun hp => match c36 hp with | ⟨c34, c35⟩ => (T.ev_bool (T.ev_ne (x := (picture[x24]!)[x30]!) (y := true) qG rfl (T.ev_ixR (r := picture[x24]!) (i := x30) c35 (T.ev_ixT (e := eR) (xs := picture) (i := x24) c34 (T.ev_v rfl) (T.ev_v rfl)) (T.ev_v rfl)) (T.ev_c (congrArg D.str str_black))))))) (fun x30 hx hq => (T.ev_v rfl)))) ?_)
        change WP _ _ _ _ (At _ [some ((eT eR) picture), some (eN x12), some (eN x24), some ((eL eN) down), none, g18] _)
        obtain ⟨c39, h⟩ := h
        obtain ⟨c40, h⟩ := h
        obtain ⟨c41, h⟩ := h
        obtain ⟨c43, h⟩ := h
        obtain ⟨c49, h⟩ := h
        obtain ⟨up, d50⟩ : ∃ up : (List Nat), up = ((List.range ((picture[0]!).length)).filter fun x42 => decide (((picture[x12]!)[x42]! ≠ true) ∧ ((picture[x24]!)[x42]! = true))) := ⟨_, rfl⟩
        replace h := h up d50
        refine T.wp_seq (T.wp_set (T.ev_as d50 (e := (eL eN)) (T.ev_compI (e := eN) (xs := (List.range ((picture[0]!).length))) (ds := fun x42 => [eN x42]) (P := fun x42 => (((picture[x12]!)[x42]! ≠ true) ∧ ((picture[x24]!)[x42]! = true))) (T.it_range (n := (picture[0]!).length) c41 (T.ev_lenR (r := picture[0]!) c40 (T.ev_ixT (e := eR) (xs := picture) (i := 0) c39 (T.ev_v rfl) (T.ev_cN 0)))) c43 (fun _ => rfl) (fun x42 hx => match c49 x42 hx with | ⟨c44, c45, c48⟩ => (T.ev_andT (P := ((picture[x12]!)[x42]! ≠ true)) (Q := ((picture[x24]!)[x42]! = true)) (T.ev_bool (T.ev_ne (x := (picture[x12]!)[x42]!) (y := true) qG rfl (T.ev_ixR (r := picture[x12]!) (i := x42) c45 (T.ev_ixT (e := eR) (xs := picture) (i := x12) c44 (T.ev_v rfl) (T.ev_v rfl)) (T.ev_v rfl)) (T.ev_c (congrArg D.str str_black)))) (fun hp => match c48 hp with | ⟨c46, c47⟩ => (T.ev_bool (T.ev_eq (x := (picture[x24]!)[x42]!) (y := true) qG rfl (T.ev_ixR (r := picture[x24]!) (i := x42) c47 (T.ev_ixT (e := eR) (xs := picture) (i := x24) c46 (T.ev_v rfl) (T.ev_v rfl)) (T.ev_v rfl)) (T.ev_c (congrArg D.str str_black))))))) (fun x42 hx hq => (T.ev_v rfl)))) ?_)
        change WP _ _ _ _ (At _ [some ((eT eR) picture), some (eN x12), some (eN x24), some ((eL eN) down), none, some ((eL eN) up)] _)
        refine T.wp_if (P := ((down ≠ []) ∧ (up ≠ []))) (T.ev_andT (P := (down ≠ [])) (Q := (up ≠ [])) (T.ev_bool (T.ev_ne (x := down) (y := []) (qL qN) rfl (T.ev_v rfl) (T.ev_lst (ds := []) T.ev_nil rfl))) (fun hp => (T.ev_bool (T.ev_ne (x := up) (y := []) (qL qN) rfl (T.ev_v rfl) (T.ev_lst (ds := []) T.ev_nil rfl))))) (fun hp => ?_) (fun hn => ?_)
        · replace h := h.1 hp
          obtain ⟨c51, h⟩ := h
          obtain ⟨c52, h⟩ := h
          exact T.wp_ret (T.ev_tup (ds := [eN x12, eN x24, eN (down[0]!), eN (up[0]!)]) (T.ev_cons (T.ev_v rfl) (T.ev_cons (T.ev_v rfl) (T.ev_cons (T.ev_ixL (e := eN) (xs := down) (i := 0) c51 (T.ev_v rfl) (T.ev_cN 0)) (T.ev_cons (T.ev_ixL (e := eN) (xs := up) (i := 0) c52 (T.ev_v rfl) (T.ev_cN 0)) T.ev_nil)))) rfl) ⟨rfl, (some (x12, x24, down[0]!, up[0]!)), rfl, h⟩
        · replace h := h.2 hn
          refine T.wp_skip ?_
          exact ⟨rfl, _, _, _, rfl, h⟩
      rintro _ _ ⟨rfl, g16, g17, g18, rfl, h⟩
      replace h := h22 h
      exact ⟨rfl, _, _, _, _, rfl, h⟩
    rintro _ _ ⟨rfl, g3, g4, g5, g6, rfl, h⟩
    replace h := h10 h
    change WP _ _ _ _ (At _ [some ((eT eR) picture), g3, g4, g5, none, g6] _)
    exact T.wp_ret (T.ev_c rfl) ⟨rfl, none, rfl, h⟩)
  exact ⟨r, q, e1⟩
abbrev P_round_of_four (p : Pic) : Prop := PicP p
abbrev condR (p : Pic) (a b : Nat) : Prop := downQ p a b ≠ [] ∧ downQ p b a ≠ []
def allR (p : Pic) (as bs : List Nat) : List (Nat × Nat × Nat × Nat) := as.flatMap fun a => (bs.filter fun b => decide (condR p a b)).map fun b => (a, b, (downQ p a b)[0]!, (downQ p b a)[0]!)
def F_round_of_four (p : Pic) : Option (Nat × Nat × Nat × Nat) := (allR p (List.range p.length) (List.range p.length)).head?
theorem range_cut {n i : Nat} (h : i < n) : ∃ r, List.range n = List.range i ++ i :: r := by
  obtain ⟨m, hm⟩ : ∃ m, n = i + (m + 1) := ⟨n - i - 1, by omega⟩
  exact ⟨_, by rw [hm, List.range_add, List.range_succ_eq_map, List.map_cons]; rfl⟩
theorem ok_round_of_four {p : Pic} (k : P_round_of_four p) : V_round_of_four p (· = F_round_of_four p) := by
  have h1 := k.h1; have h30 := k.h30; have w1 := k.w1; have w30 := k.w30
  refine ⟨k, by omega, fun i => allR p (List.range i) (List.range p.length) = [], rfl, fun i a ha hI => ?_, fun hI => ?_⟩
  · obtain ⟨ea, hi⟩ := range_get ha
    subst ea
    refine ⟨by omega, fun j => ((List.range j).filter fun b => decide (condR p a b)) = [], rfl, fun j b hb hJ => ?_, fun hJ => ?_⟩
    · obtain ⟨eb, hj⟩ := range_get hb
      subst eb
      have ra := k.get hi
      have rb := k.get hj
      have inr : ∀ x, x ∈ List.range p[0]!.length → x < p[0]!.length := fun x hx => List.mem_range.mp hx
      refine ⟨h1, by omega, by omega, by rw [List.length_range]; omega, fun x hx => ⟨hi, ⟨by omega, by have := inr x hx; omega⟩, fun _ => ⟨hj, by omega, by have := inr x hx; omega⟩⟩, fun down hd => ⟨h1, by omega, by omega, by rw [List.length_range]; omega, fun x hx => ⟨hi, ⟨by omega, by have := inr x hx; omega⟩, fun _ => ⟨hj, by omega, by have := inr x hx; omega⟩⟩, fun up hu => ?_⟩⟩
      have ed : down = downQ p a b := hd
      have eu : up = downQ p b a := by
        rw [hu]
        exact List.filter_congr fun x _ => decide_eq_decide.mpr And.comm
      subst ed eu
      refine ⟨fun z => ⟨List.length_pos_iff.mpr z.1, List.length_pos_iff.mpr z.2, ?_⟩, fun z => ?_⟩
      · obtain ⟨r1, e1⟩ := range_cut hi
        obtain ⟨r2, e2⟩ := range_cut hj
        have hI : allR p (List.range a) (List.range p.length) = [] := hI
        have hJ : ((List.range b).filter fun b => decide (condR p a b)) = [] := hJ
        have ef : ((List.range p.length).filter fun b => decide (condR p a b)) = b :: (r2.filter fun b => decide (condR p a b)) := by
          rw [e2, List.filter_append, hJ, List.nil_append, List.filter_cons, if_pos (decide_eq_true z)]
        have ea : allR p (List.range p.length) (List.range p.length) = allR p (a :: r1) (List.range p.length) := by
          conv => lhs; arg 2; rw [e1]
          show List.flatMap _ (_ ++ _) = _
          rw [List.flatMap_append]
          show allR p (List.range a) (List.range p.length) ++ _ = _
          rw [hI]; rfl
        show _ = F_round_of_four p
        unfold F_round_of_four
        rw [ea]
        unfold allR
        rw [List.flatMap_cons, ef]; rfl
      · show ((List.range (b + 1)).filter fun b => decide (condR p a b)) = []
        rw [List.range_succ, List.filter_append, hJ, List.filter_cons, if_neg (by simpa using z)]; rfl
    · have hJ : ((List.range (List.range p.length).length).filter fun b => decide (condR p a b)) = [] := hJ
      rw [List.length_range] at hJ
      show allR p (List.range (a + 1)) (List.range p.length) = []
      unfold allR
      rw [List.range_succ, List.flatMap_append]
      show allR p (List.range a) (List.range p.length) ++ _ = []
      rw [hI, List.flatMap_cons, hJ]; rfl
  · have hI : allR p (List.range (List.range p.length).length) (List.range p.length) = [] := hI
    rw [List.length_range] at hI
    show none = F_round_of_four p
    unfold F_round_of_four
    rw [hI]; rfl
theorem round_none {p : Pic} : F_round_of_four p = none ↔ ∀ a b, a < p.length → b < p.length → ¬condR p a b := by
  unfold F_round_of_four
  rw [List.head?_eq_none_iff]
  unfold allR
  rw [List.flatMap_eq_nil_iff]
  constructor
  · intro h a b ha hb z
    have := h a (List.mem_range.mpr ha)
    rw [List.map_eq_nil_iff, List.filter_eq_nil_iff] at this
    exact this b (List.mem_range.mpr hb) (decide_eq_true z)
  · intro h a ha
    rw [List.map_eq_nil_iff, List.filter_eq_nil_iff]
    exact fun b hb z => h a b (List.mem_range.mp ha) (List.mem_range.mp hb) (of_decide_eq_true z)
theorem t_round_of_four {picture : (List Row)} (hP : P_round_of_four picture) (tp : List D) : m_round_of_four [(eT eR) picture] tp = .ok ((eO (eP4 eN eN eN eN)) (F_round_of_four picture)) tp := by
  obtain ⟨r, rfl, e⟩ := snd_round_of_four picture (ok_round_of_four hP) tp
  exact e
end W
set_option maxHeartbeats 1000000
namespace W
open PySem L2 G T
def V_least_of (start : (List Row)) (goal : (List Row)) (Q : (Option (List (List Nat))) → Prop) : Prop := (P_differing start goal) ∧ ∀ left : (List (Nat × Nat)), left = (F_differing start goal) → (P_layers_of goal) ∧ ∃ I10 : Nat → (List (Nat × Nat)) → (List ((List Nat) × (List Nat))) → Prop, I10 0 left [] ∧ (∀ (i14 : Nat) (x15 : (List Nat)), (F_layers_of goal)[i14]? = some x15 → ∀ left_1 : (List (Nat × Nat)), ∀ found : (List ((List Nat) × (List Nat))), I10 i14 left_1 found → (((left_1 = []) → (P_trimmed found) ∧ Q (some (F_trimmed found))) ∧ (¬(left_1 = []) → (x15.length ≤ 1000000) ∧ ∀ told : (List (Nat × Bool)), told = (dictOf (x15.map fun x19 => (x19, true))) → ∃ I25 : Nat → (List (Nat × Bool)) → Prop, I25 0 [] ∧ (∀ (i29 : Nat) (x30 : (Nat × Nat)), left_1[i29]? = some x30 → ∀ needed : (List (Nat × Bool)), I25 i29 needed → ∃ I34 : Nat → (List (Nat × Bool)) → Prop, I34 0 needed ∧ (∀ (i38 : Nat) (x39 : Nat), [x30.1, (start.length + x30.2)][i38]? = some x39 → ∀ needed_1 : (List (Nat × Bool)), I34 i38 needed_1 → ((x39 ∈ dkeys told) → (needed_1.length < 1000000)) ∧ ∀ needed_2 : (List (Nat × Bool)), needed_2 = (if (x39 ∈ dkeys told) then (dput needed_1 x39 true) else needed_1) → I34 (i38 + 1) needed_2) ∧ (∀ needed_1 : (List (Nat × Bool)), I34 [x30.1, (start.length + x30.2)].length needed_1 → I25 (i29 + 1) needed_1)) ∧ (∀ needed : (List (Nat × Bool)), I25 left_1.length needed → (needed.length < 64) ∧ (found.length < 1000000) ∧ ∀ found_1 : (List ((List Nat) × (List Nat))), found_1 = (found ++ [(x15, (sortN (dkeys needed)))]) → (left_1.length ≤ 1000000) ∧ (∀ x52, x52 ∈ left_1 → (P_meets start x52 told)) ∧ ∀ left_2 : (List (Nat × Nat)), left_2 = (left_1.filter fun x52 => decide (¬((F_meets start x52 told) = true))) → I10 (i14 + 1) left_2 found_1)))) ∧ (∀ left_1 : (List (Nat × Nat)), ∀ found : (List ((List Nat) × (List Nat))), I10 (F_layers_of goal).length left_1 found → ((left_1 = []) → (P_trimmed found)) ∧ Q (if (left_1 = []) then (some (F_trimmed found)) else none))
theorem snd_least_of (start : (List Row)) (goal : (List Row)) {Q : (Option (List (List Nat))) → Prop} (h : V_least_of start goal Q) (tp : List D) : ∃ r : (Option (List (List Nat))), Q r ∧ m_least_of [(eT eR) start, (eT eR) goal] tp = .ok ((eO (eL (eL eN))) r) tp := by
  obtain ⟨d, t, e1, rfl, r, rfl, q⟩ := T.wp_def (n := 11) (s := b_least_of) (ds := [(eT eR) start, (eT eR) goal]) (tp := tp) (Q := fun d t => t = tp ∧ ∃ r : (Option (List (List Nat))), d = (eO (eL (eL eN))) r ∧ Q r) (by
    unfold V_least_of at h
    change WP _ _ _ _ (b_least_of [some ((eT eR) start), some ((eT eR) goal), none, none, none, none, none, none, none, none, none] _)
    unfold b_least_of
    obtain ⟨c1, h⟩ := h
    obtain ⟨left, d2⟩ : ∃ left : (List (Nat × Nat)), left = (F_differing start goal) := ⟨_, rfl⟩
    replace h := h left d2
    refine T.wp_seq (T.wp_par (T.ev_cons (T.ev_as d2 (e := (eL (eP eN eN))) (T.ev_call (T.ev_cons (T.ev_v rfl) (T.ev_cons (T.ev_v rfl) T.ev_nil)) rfl (t_differing c1 _))) (T.ev_cons (T.ev_lst (ds := []) T.ev_nil rfl) T.ev_nil)) rfl ?_)
    change WP _ _ _ _ (At _ [some ((eT eR) start), some ((eT eR) goal), some ((eL (eP eN eN)) left), some ((eL (eP (eL eN) (eL eN))) []), none, none, none, none, none, none, none] _)
    obtain ⟨c3, h⟩ := h
    obtain ⟨I10, h11, h12, h13⟩ := h
    refine T.wp_seq (T.wp_for (e := (eL eN)) (xs := (F_layers_of goal)) (ds := fun x15 => [(eL eN) x15]) (fun k env tz => tp = tz ∧ ∃ left_1 : (List (Nat × Nat)), ∃ found : (List ((List Nat) × (List Nat))), ∃ g4 : Option D, ∃ g5 : Option D, ∃ g6 : Option D, ∃ g7 : Option D, ∃ g8 : Option D, ∃ g9 : Option D, env = [some ((eT eR) start), some ((eT eR) goal), some ((eL (eP eN eN)) left_1), some ((eL (eP (eL eN) (eL eN))) found), g4, g5, g6, g7, g8, g9, none] ∧ I10 k left_1 found) (T.it_L (e := (eL eN)) (xs := (F_layers_of goal)) (T.ev_call (T.ev_cons (T.ev_v rfl) T.ev_nil) rfl (t_layers_of c3 _))) (fun _ => rfl) ⟨rfl, left, [], _, _, _, _, _, _, rfl, h11⟩ ?_ ?_)
    · intro i14 x15 env t hk hI
      obtain ⟨rfl, left_1, found, g4, g5, g6, g7, g8, g9, rfl, h⟩ := hI
      replace h := h12 i14 x15 hk left_1 found h
      change WP _ _ _ _ (At _ [some ((eT eR) start), some ((eT eR) goal), some ((eL (eP eN eN)) left_1), some ((eL (eP (eL eN) (eL eN))) found), some ((eL eN) x15), g5, g6, g7, g8, g9, none] _)
      refine T.wp_seq (T.wp_if (P := (left_1 = [])) (T.ev_bool (T.ev_eq (x := left_1) (y := []) (qL (qP qN qN)) rfl (T.ev_v rfl) (T.ev_lst (ds := []) T.ev_nil rfl))) (fun hp => ?_) (fun hn => ?_))
      · replace h := h.1 hp
        obtain ⟨c18, h⟩ := h
        exact T.wp_ret (T.ev_call (T.ev_cons (T.ev_v rfl) T.ev_nil) rfl (t_trimmed c18 _)) ⟨rfl, (some (F_trimmed found)), rfl, h⟩
      · replace h := h.2 hn
        refine T.wp_skip ?_
        change WP _ _ _ _ (At _ [some ((eT eR) start), some ((eT eR) goal), some ((eL (eP eN eN)) left_1), some ((eL (eP (eL eN) (eL eN))) found), some ((eL eN) x15), g5, g6, g7, g8, g9, none] _)
        obtain ⟨c20, h⟩ := h
        obtain ⟨told, d21⟩ : ∃ told : (List (Nat × Bool)), told = (dictOf (x15.map fun x19 => (x19, true))) := ⟨_, rfl⟩
        replace h := h told d21
        refine T.wp_seq (T.wp_set (T.ev_as d21 (e := (eD eB)) (T.ev_dc (e := eB) (e1 := eN) (xs := x15) (ds := fun x19 => [eN x19]) (k := fun x19 => x19) (v := fun x19 => true) (T.it_L (e := eN) (xs := x15) (T.ev_v rfl)) c20 (fun _ => rfl) (fun x19 hx => (T.ev_v rfl)) (fun x19 hx => (T.ev_c rfl)))) ?_)
        change WP _ _ _ _ (At _ [some ((eT eR) start), some ((eT eR) goal), some ((eL (eP eN eN)) left_1), some ((eL (eP (eL eN) (eL eN))) found), some ((eL eN) x15), some ((eD eB) told), g6, g7, g8, g9, none] _)
        refine T.wp_seq (T.wp_setF (T.ev_c rfl) rfl ?_)
        change WP _ _ _ _ (At _ [some ((eT eR) start), some ((eT eR) goal), some ((eL (eP eN eN)) left_1), some ((eL (eP (eL eN) (eL eN))) found), some ((eL eN) x15), some ((eD eB) told), g6, some ((eD eB) []), g8, g9, none] _)
        obtain ⟨I25, h26, h27, h28⟩ := h
        refine T.wp_seq (T.wp_for (e := (eP eN eN)) (xs := left_1) (ds := fun x30 => [eN x30.1, eN x30.2]) (fun k env tz => tp = tz ∧ ∃ needed : (List (Nat × Bool)), ∃ g22 : Option D, ∃ g23 : Option D, ∃ g24 : Option D, env = [some ((eT eR) start), some ((eT eR) goal), some ((eL (eP eN eN)) left_1), some ((eL (eP (eL eN) (eL eN))) found), some ((eL eN) x15), some ((eD eB) told), g22, some ((eD eB) needed), g23, g24, none] ∧ I25 k needed) (T.it_L (e := (eP eN eN)) (xs := left_1) (T.ev_v rfl)) (fun _ => rfl) ⟨rfl, [], _, _, _, rfl, h26⟩ ?_ ?_)
        · intro i29 x30 env t hk hI
          obtain ⟨rfl, needed, g22, g23, g24, rfl, h⟩ := hI
          replace h := h27 i29 x30 hk needed h
          change WP _ _ _ _ (At _ [some ((eT eR) start), some ((eT eR) goal), some ((eL (eP eN eN)) left_1), some ((eL (eP (eL eN) (eL eN))) found), some ((eL eN) x15), some ((eD eB) told), g22, some ((eD eB) needed), some (eN x30.1), some (eN x30.2), none] _)
          obtain ⟨I34, h35, h36, h37⟩ := h
          refine T.wp_for (e := eN) (xs := [x30.1, (start.length + x30.2)]) (ds := fun x39 => [eN x39]) (fun k env tz => tp = tz ∧ ∃ needed_1 : (List (Nat × Bool)), ∃ g33 : Option D, env = [some ((eT eR) start), some ((eT eR) goal), some ((eL (eP eN eN)) left_1), some ((eL (eP (eL eN) (eL eN))) found), some ((eL eN) x15), some ((eD eB) told), g33, some ((eD eB) needed_1), some (eN x30.1), some (eN x30.2), none] ∧ I34 k needed_1) (T.it_T (e := eN) (xs := [x30.1, (start.length + x30.2)]) (T.ev_tup (ds := [eN x30.1, eN (start.length + x30.2)]) (T.ev_cons (T.ev_v rfl) (T.ev_cons (T.ev_add (x := start.length) (y := x30.2) (T.ev_lenT (e := eR) (xs := start) (T.ev_v rfl)) (T.ev_v rfl)) T.ev_nil)) rfl)) (fun _ => rfl) ⟨rfl, needed, _, rfl, h35⟩ ?_ ?_
          · intro i38 x39 env t hk hI
            obtain ⟨rfl, needed_1, g33, rfl, h⟩ := hI
            replace h := h36 i38 x39 hk needed_1 h
            change WP _ _ _ _ (At _ [some ((eT eR) start), some ((eT eR) goal), some ((eL (eP eN eN)) left_1), some ((eL (eP (eL eN) (eL eN))) found), some ((eL eN) x15), some ((eD eB) told), some (eN x39), some ((eD eB) needed_1), some (eN x30.1), some (eN x30.2), none] _)
            obtain ⟨c43, h⟩ := h
            refine T.wp_ifJ (P := (x39 ∈ dkeys told)) (J := fun env tz => tp = tz ∧ ∃ needed_2 : (List (Nat × Bool)), env = [some ((eT eR) start), some ((eT eR) goal), some ((eL (eP eN eN)) left_1), some ((eL (eP (eL eN) (eL eN))) found), some ((eL eN) x15), some ((eD eB) told), some (eN x39), some ((eD eB) needed_2), some (eN x30.1), some (eN x30.2), none] ∧ needed_2 = (if (x39 ∈ dkeys told) then (dput needed_1 x39 true) else needed_1)) (T.ev_bool (T.ev_inK (x := x39) (d := told) (T.ev_v rfl) (T.ev_v rfl))) (fun hq => ?_) (fun hq => ?_) ?_
            · have c42 := c43 hq
              refine T.wp_dset (e := eB) (d := needed_1) (k := x39) (v := true) rfl (T.ev_c rfl) (T.ev_v rfl) c42 ?_
              exact ⟨rfl, (dput needed_1 x39 true), rfl, (if_pos hq).symm⟩
            · refine T.wp_skip ?_
              exact ⟨rfl, needed_1, rfl, (if_neg hq).symm⟩
            rintro _ _ ⟨rfl, needed_2, rfl, d44⟩
            replace h := h needed_2 d44
            exact ⟨rfl, needed_2, _, rfl, h⟩
          rintro _ _ ⟨rfl, needed_1, g33, rfl, h⟩
          replace h := h37 needed_1 h
          exact ⟨rfl, needed_1, _, _, _, rfl, h⟩
        rintro _ _ ⟨rfl, needed, g22, g23, g24, rfl, h⟩
        replace h := h28 needed h
        change WP _ _ _ _ (At _ [some ((eT eR) start), some ((eT eR) goal), some ((eL (eP eN eN)) left_1), some ((eL (eP (eL eN) (eL eN))) found), some ((eL eN) x15), some ((eD eB) told), g22, some ((eD eB) needed), g23, g24, none] _)
        obtain ⟨c49, h⟩ := h
        obtain ⟨c50, h⟩ := h
        obtain ⟨found_1, d51⟩ : ∃ found_1 : (List ((List Nat) × (List Nat))), found_1 = (found ++ [(x15, (sortN (dkeys needed)))]) := ⟨_, rfl⟩
        replace h := h found_1 d51
        refine T.wp_seq (T.wp_app (e := (eP (eL eN) (eL eN))) (xs := found) (x := (x15, (sortN (dkeys needed)))) rfl (T.ev_tup (ds := [(eL eN) x15, (eL eN) (sortN (dkeys needed))]) (T.ev_cons (T.ev_v rfl) (T.ev_cons (T.ev_sortK (e := eB) (d := needed) c49 (T.ev_v rfl)) T.ev_nil)) rfl) c50 ?_)
        rw [← d51]
        change WP _ _ _ _ (At _ [some ((eT eR) start), some ((eT eR) goal), some ((eL (eP eN eN)) left_1), some ((eL (eP (eL eN) (eL eN))) found_1), some ((eL eN) x15), some ((eD eB) told), g22, some ((eD eB) needed), g23, g24, none] _)
        obtain ⟨c53, h⟩ := h
        obtain ⟨c55, h⟩ := h
        obtain ⟨left_2, d56⟩ : ∃ left_2 : (List (Nat × Nat)), left_2 = (left_1.filter fun x52 => decide (¬((F_meets start x52 told) = true))) := ⟨_, rfl⟩
        replace h := h left_2 d56
        refine T.wp_set (T.ev_as d56 (e := (eL (eP eN eN))) (T.ev_compI (e := (eP eN eN)) (xs := left_1) (ds := fun x52 => [(eP eN eN) x52]) (P := fun x52 => (¬((F_meets start x52 told) = true))) (T.it_L (e := (eP eN eN)) (xs := left_1) (T.ev_v rfl)) c53 (fun _ => rfl) (fun x52 hx => have c54 := c55 x52 hx; (T.ev_notT (P := ((F_meets start x52 told) = true)) (T.ev_dec (F_meets start x52 told) (T.ev_call (T.ev_cons (T.ev_v rfl) (T.ev_cons (T.ev_v rfl) (T.ev_cons (T.ev_v rfl) T.ev_nil))) rfl (t_meets c54 _))))) (fun x52 hx hq => (T.ev_v rfl)))) ?_
        exact ⟨rfl, left_2, found_1, _, _, _, _, _, _, rfl, h⟩
    rintro _ _ ⟨rfl, left_1, found, g4, g5, g6, g7, g8, g9, rfl, h⟩
    replace h := h13 left_1 found h
    change WP _ _ _ _ (At _ [some ((eT eR) start), some ((eT eR) goal), some ((eL (eP eN eN)) left_1), some ((eL (eP (eL eN) (eL eN))) found), g4, g5, g6, g7, g8, g9, none] _)
    obtain ⟨c60, h⟩ := h
    exact T.wp_ret (T.ev_ifE (P := (left_1 = [])) (e := (eO (eL (eL eN)))) (x := (some (F_trimmed found))) (y := none) (T.ev_bool (T.ev_eq (x := left_1) (y := []) (qL (qP qN qN)) rfl (T.ev_v rfl) (T.ev_lst (ds := []) T.ev_nil rfl))) (fun hp => have c59 := c60 hp; (T.ev_call (T.ev_cons (T.ev_v rfl) T.ev_nil) rfl (t_trimmed c59 _))) (fun hp => (T.ev_c rfl))) ⟨rfl, (if (left_1 = []) then (some (F_trimmed found)) else none), rfl, h⟩)
  exact ⟨r, q, e1⟩
abbrev P_least_of (p q : Pic) : Prop := Like p q
abbrev F_least_of (p q : Pic) : Option (List (List Nat)) := leastQ p q
theorem trimmed_snoc (f : List (List Nat × List Nat)) (x : List Nat × List Nat) : F_trimmed (f ++ [x]) = (f.map fun x => x.1) ++ [x.2] := by
  unfold F_trimmed
  rw [if_neg (by simp), List.dropLast_concat]
  congr 2
  rw [List.length_append, get!_append_right (by simp) (by simp)]
  simp
theorem ok_least_of {p q : Pic} (k : P_least_of p q) : V_least_of p q (· = F_least_of p q) := by
  have h1 := k.pp.h1; have h30 := k.pp.h30; have w1 := k.pp.w1; have w30 := k.pp.w30
  obtain ⟨ll, lx⟩ := layersQ_len k.qq
  refine ⟨⟨k.pp, k.qq, k.hh, k.ww⟩, fun left hleft => ⟨k.qq, fun i left found => left.length ≤ 900 ∧ found.length = i ∧ leastQ p q = (leastL p.length ((layersQ q).drop i) left).map fun T => if T = [] then F_trimmed found else (found.map fun x => x.1) ++ T, ?_, fun i s hs left found hI => ?_, fun left found hI => ?_⟩⟩
  · refine ⟨by rw [hleft]; exact differing_len k.pp, rfl, ?_⟩
    rw [hleft]
    have e : (fun T : List (List Nat) => if T = [] then F_trimmed [] else ((([] : List (List Nat × List Nat)).map fun x => x.1) ++ T)) = id := by
      funext T
      split
      · rename_i h; rw [h]; rfl
      · rfl
    rw [e, Option.map_id]; rfl
  · obtain ⟨b1, b2, b3⟩ := hI
    have sl : s.length ≤ 60 := Nat.le_trans (lx s (List.mem_of_getElem? hs)) (by omega)
    have il : i < (layersQ q).length := (List.getElem?_eq_some_iff.mp hs).1
    have sp := (layersQ_layer s (List.mem_of_getElem? hs)).2.1
    refine ⟨fun e => ⟨by show found.length ≤ _; omega, ?_⟩, fun ne => ⟨by omega, fun told ht => ⟨fun n d => (dkeys d).Nodup ∧ ∀ x, x ∈ dkeys d ↔ x ∈ s ∧ ∃ c ∈ left.take n, x = c.1 ∨ x = p.length + c.2, ⟨List.nodup_nil, fun x => by simp⟩, fun n c hc d hd => ⟨fun m e => (dkeys e).Nodup ∧ ∀ x, x ∈ dkeys e ↔ x ∈ dkeys d ∨ (x ∈ s ∧ x ∈ [c.1, p.length + c.2].take m), ⟨hd.1, fun x => by simp⟩, fun m y hy e he => ⟨fun hyt => ?_, fun e2 h2 => ?_⟩, fun e he => ⟨he.1, fun x => ?_⟩⟩, fun d hd => ⟨?_, by omega, fun f2 hf2 => ⟨by omega, fun _ _ => trivial, fun l2 hl2 => ⟨?_, by rw [hf2, List.length_append, b2]; rfl, ?_⟩⟩⟩⟩⟩⟩
    · subst e
      show some _ = leastQ p q
      rw [b3, leastL_empty]; rfl
    · have sub : (dkeys e).length ≤ s.length := len_sub he.1 fun x hx => by
        rcases (he.2 x).mp hx with z | z
        · exact ((hd.2 x).mp z).1
        · exact z.1
      have : e.length = (dkeys e).length := by unfold dkeys; rw [List.length_map]
      omega
    · have hy' : y ∈ dkeys told ↔ y ∈ s := by rw [ht]; exact keys_true s y
      by_cases z : y ∈ dkeys told
      · rw [if_pos z] at h2
        rw [h2]
        refine ⟨dput_nodup he.1, fun x => ?_⟩
        rw [dkeys_dput, he.2 x, take_snoc hy, List.mem_append, List.mem_singleton]
        constructor
        · rintro ((a | ⟨a, b⟩) | rfl)
          · exact .inl a
          · exact .inr ⟨a, .inl b⟩
          · exact .inr ⟨hy'.mp z, .inr rfl⟩
        · rintro (a | ⟨a, b | rfl⟩)
          · exact .inl (.inl a)
          · exact .inl (.inr ⟨a, b⟩)
          · exact .inr rfl
      · rw [if_neg z] at h2
        rw [h2]
        refine ⟨he.1, fun x => ?_⟩
        rw [he.2 x, take_snoc hy, List.mem_append, List.mem_singleton]
        constructor
        · rintro (a | ⟨a, b⟩)
          · exact .inl a
          · exact .inr ⟨a, .inl b⟩
        · rintro (a | ⟨a, b | rfl⟩)
          · exact .inl a
          · exact .inr ⟨a, b⟩
          · exact (z (hy'.mpr a)).elim
    · rw [he.2 x, hd.2 x, take_snoc hc]
      have : [c.1, p.length + c.2].take ([c.1, p.length + c.2] : List Nat).length = [c.1, p.length + c.2] := rfl
      rw [this]
      constructor
      · rintro (⟨a, c', hc', b⟩ | ⟨a, b⟩)
        · exact ⟨a, c', List.mem_append_left _ hc', b⟩
        · refine ⟨a, c, List.mem_append_right _ (List.mem_singleton.mpr rfl), ?_⟩
          simpa using b
      · rintro ⟨a, c', hc', b⟩
        rcases List.mem_append.mp hc' with hc' | hc'
        · exact .inl ⟨a, c', hc', b⟩
        · rw [List.mem_singleton.mp hc'] at b
          exact .inr ⟨a, by simpa using b⟩
    · have sub : (dkeys d).length ≤ s.length := len_sub hd.1 fun x hx => ((hd.2 x).mp hx).1
      have : d.length = (dkeys d).length := by unfold dkeys; rw [List.length_map]
      omega
    · rw [hl2]; exact Nat.le_trans (len_filter_le _ _) b1
    · have srt : sortN (dkeys d) = s.filter fun l => decide (∃ c ∈ left, l = c.1 ∨ l = p.length + c.2) := by
        refine sortN_of_perm ((List.perm_ext_iff_of_nodup hd.1 ?_).mpr fun x => ?_) ?_
        · exact (sp.imp fun h => Nat.ne_of_lt h).sublist List.filter_sublist
        · rw [hd.2 x, List.take_length, List.mem_filter]
          exact and_congr_right fun _ => ⟨fun h => decide_eq_true h, fun h => of_decide_eq_true h⟩
        · exact (sp.imp fun h => Nat.le_of_lt h).sublist List.filter_sublist
      have el : l2 = left.filter fun c => decide (¬Touch p.length c s) := by
        rw [hl2]
        refine List.filter_congr fun c _ => decide_eq_decide.mpr (not_congr ?_)
        have kt : ∀ y, y ∈ dkeys told ↔ y ∈ s := fun y => by rw [ht]; exact keys_true s y
        show decide _ = true ↔ _
        rw [decide_eq_true_iff, kt, kt]
      rw [b3, drop_at hs, leastL_cons ne, ← el, ← srt]
      by_cases z : l2 = []
      · rw [if_pos z, z, leastL_empty]
        show some (if [sortN (dkeys d)] = [] then _ else _) = some (if ([] : List (List Nat)) = [] then F_trimmed f2 else _)
        rw [if_neg (by simp), if_pos rfl, hf2, trimmed_snoc]
      · rw [if_neg z, Option.map_map]
        cases q2 : leastL p.length (List.drop (i + 1) (layersQ q)) l2 with
        | none => rfl
        | some T =>
          have ne2 : T ≠ [] := fun e => z (leastL_nil (q2.trans (congrArg some e)))
          show some (if s :: T = [] then F_trimmed found else (found.map fun x => x.1) ++ s :: T) = some (if T = [] then F_trimmed f2 else (f2.map fun x => x.1) ++ T)
          rw [if_neg (by simp), if_neg ne2, hf2, List.map_append, List.append_assoc]; rfl
  · obtain ⟨b1, b2, b3⟩ := hI
    refine ⟨fun _ => by show found.length ≤ _; rw [b2]; exact Nat.le_trans ll (by omega), ?_⟩
    show _ = leastQ p q
    rw [b3, List.drop_of_length_le (Nat.le_refl _)]
    show _ = (if left = [] then some [] else none).map _
    by_cases z : left = []
    · rw [if_pos z, if_pos z]; rfl
    · rw [if_neg z, if_neg z]; rfl
theorem t_least_of {start : (List Row)} {goal : (List Row)} (hP : P_least_of start goal) (tp : List D) : m_least_of [(eT eR) start, (eT eR) goal] tp = .ok ((eO (eL (eL eN))) (F_least_of start goal)) tp := by
  obtain ⟨r, rfl, e⟩ := snd_least_of start goal (ok_least_of hP) tp
  exact e
end W
set_option maxHeartbeats 1000000
namespace W
open PySem L2 G T
def V_count_rounds (picture : (List Row)) (Q : Nat → Prop) : Prop := (P_need_picture picture) ∧ ∃ I7 : Nat → Nat → Prop, I7 0 0 ∧ (∀ (i11 : Nat) (x12 : (Nat × Row)), (enumP picture)[i11]? = some x12 → ∀ found : Nat, I7 i11 found → ∃ I18 : Nat → Nat → Prop, I18 0 found ∧ (∀ (i22 : Nat) (x23 : Row), (picture.take x12.1)[i22]? = some x23 → ∀ found_1 : Nat, I18 i22 found_1 → ((enumP x12.2).length ≤ 1000000) ∧ (∀ x26, x26 ∈ (enumP x12.2) → ((x26.2 = true) → (x23.length ≤ 1000000 ∧ x26.1 < x23.length))) ∧ ∀ down : Nat, down = (((enumP x12.2).filter fun x26 => decide ((x26.2 = true) ∧ (x23[x26.1]! ≠ true))).map fun x26 => 1).length → ((enumP x12.2).length ≤ 1000000) ∧ (∀ x32, x32 ∈ (enumP x12.2) → ((x32.2 ≠ true) → (x23.length ≤ 1000000 ∧ x32.1 < x23.length))) ∧ ∀ up : Nat, up = (((enumP x12.2).filter fun x32 => decide ((x32.2 ≠ true) ∧ (x23[x32.1]! = true))).map fun x32 => 1).length → (cMul ((down : Nat) : Int) ((up : Nat) : Int) = true) ∧ ∀ found_2 : Nat, found_2 = (found_1 + (down * up)) → I18 (i22 + 1) found_2) ∧ (∀ found_1 : Nat, I18 (picture.take x12.1).length found_1 → I7 (i11 + 1) found_1)) ∧ (∀ found : Nat, I7 (enumP picture).length found → Q found)
theorem snd_count_rounds (picture : (List Row)) {Q : Nat → Prop} (h : V_count_rounds picture Q) (tp : List D) : ∃ r : Nat, Q r ∧ m_count_rounds [(eT eR) picture] tp = .ok (eN r) tp := by
  obtain ⟨d, t, e1, rfl, r, rfl, q⟩ := T.wp_def (n := 9) (s := b_count_rounds) (ds := [(eT eR) picture]) (tp := tp) (Q := fun d t => t = tp ∧ ∃ r : Nat, d = eN r ∧ Q r) (by
    unfold V_count_rounds at h
    change WP _ _ _ _ (b_count_rounds [some ((eT eR) picture), none, none, none, none, none, none, none, none] _)
    unfold b_count_rounds
    obtain ⟨c1, h⟩ := h
    refine T.wp_seq (T.wp_drop (T.ev_call (T.ev_cons (T.ev_v rfl) T.ev_nil) rfl (t_need_picture c1 _)) ?_)
    change WP _ _ _ _ (At _ [some ((eT eR) picture), none, none, none, none, none, none, none, none] _)
    refine T.wp_seq (T.wp_set (T.ev_cN 0) ?_)
    change WP _ _ _ _ (At _ [some ((eT eR) picture), some (eN 0), none, none, none, none, none, none, none] _)
    obtain ⟨I7, h8, h9, h10⟩ := h
    refine T.wp_seq (T.wp_for (e := (eP eN eR)) (xs := (enumP picture)) (ds := fun x12 => [eN x12.1, eR x12.2]) (fun k env tz => tp = tz ∧ ∃ found : Nat, ∃ g2 : Option D, ∃ g3 : Option D, ∃ g4 : Option D, ∃ g5 : Option D, ∃ g6 : Option D, env = [some ((eT eR) picture), some (eN found), g2, g3, g4, g5, none, none, g6] ∧ I7 k found) (T.it_enumT (e := eR) (xs := picture) (T.ev_v rfl)) (fun _ => rfl) ⟨rfl, 0, _, _, _, _, _, rfl, h8⟩ ?_ ?_)
    · intro i11 x12 env t hk hI
      obtain ⟨rfl, found, g2, g3, g4, g5, g6, rfl, h⟩ := hI
      replace h := h9 i11 x12 hk found h
      change WP _ _ _ _ (At _ [some ((eT eR) picture), some (eN found), some (eN x12.1), some (eR x12.2), g4, g5, none, none, g6] _)
      obtain ⟨I18, h19, h20, h21⟩ := h
      refine T.wp_for (e := eR) (xs := (picture.take x12.1)) (ds := fun x23 => [eR x23]) (fun k env tz => tp = tz ∧ ∃ found_1 : Nat, ∃ g15 : Option D, ∃ g16 : Option D, ∃ g17 : Option D, env = [some ((eT eR) picture), some (eN found_1), some (eN x12.1), some (eR x12.2), g15, g16, none, none, g17] ∧ I18 k found_1) (T.it_T (e := eR) (xs := (picture.take x12.1)) (T.ev_toT (e := eR) (xs := picture) (k := x12.1) (T.ev_v rfl) (T.ev_v rfl))) (fun _ => rfl) ⟨rfl, found, _, _, _, rfl, h19⟩ ?_ ?_
      · intro i22 x23 env t hk hI
        obtain ⟨rfl, found_1, g15, g16, g17, rfl, h⟩ := hI
        replace h := h20 i22 x23 hk found_1 h
        change WP _ _ _ _ (At _ [some ((eT eR) picture), some (eN found_1), some (eN x12.1), some (eR x12.2), some (eR x23), g16, none, none, g17] _)
        obtain ⟨c27, h⟩ := h
        obtain ⟨c30, h⟩ := h
        obtain ⟨down, d31⟩ : ∃ down : Nat, down = (((enumP x12.2).filter fun x26 => decide ((x26.2 = true) ∧ (x23[x26.1]! ≠ true))).map fun x26 => 1).length := ⟨_, rfl⟩
        replace h := h down d31
        refine T.wp_seq (T.wp_set (T.ev_as d31 (e := eN) (T.ev_lenL (e := eN) (xs := (((enumP x12.2).filter fun x26 => decide ((x26.2 = true) ∧ (x23[x26.1]! ≠ true))).map fun x26 => 1)) (T.ev_comp (e := (eP eN eG)) (e1 := eN) (xs := (enumP x12.2)) (ds := fun x26 => [eN x26.1, eG x26.2]) (g := fun x26 => 1) (P := fun x26 => ((x26.2 = true) ∧ (x23[x26.1]! ≠ true))) (T.it_enumR (xs := x12.2) (T.ev_v rfl)) c27 (fun _ => rfl) (fun x26 hx => have c29 := c30 x26 hx; (T.ev_andT (P := (x26.2 = true)) (Q := (x23[x26.1]! ≠ true)) (T.ev_bool (T.ev_eq (x := x26.2) (y := true) qG rfl (T.ev_v rfl) (T.ev_c (congrArg D.str str_black)))) (fun hp => have c28 := c29 hp; (T.ev_bool (T.ev_ne (x := x23[x26.1]!) (y := true) qG rfl (T.ev_ixR (r := x23) (i := x26.1) c28 (T.ev_v rfl) (T.ev_v rfl)) (T.ev_c (congrArg D.str str_black))))))) (fun x26 hx hq => (T.ev_cN 1))))) ?_)
        change WP _ _ _ _ (At _ [some ((eT eR) picture), some (eN found_1), some (eN x12.1), some (eR x12.2), some (eR x23), some (eN down), none, none, g17] _)
        obtain ⟨c33, h⟩ := h
        obtain ⟨c36, h⟩ := h
        obtain ⟨up, d37⟩ : ∃ up : Nat, up = (((enumP x12.2).filter fun x32 => decide ((x32.2 ≠ true) ∧ (x23[x32.1]! = true))).map fun x32 => 1).length := ⟨_, rfl⟩
        replace h := h up d37
        refine T.wp_seq (T.wp_set (T.ev_as d37 (e := eN) (T.ev_lenL (e := eN) (xs := (((enumP x12.2).filter fun x32 => decide ((x32.2 ≠ true) ∧ (x23[x32.1]! = true))).map fun x32 => 1)) (T.ev_comp (e := (eP eN eG)) (e1 := eN) (xs := (enumP x12.2)) (ds := fun x32 => [eN x32.1, eG x32.2]) (g := fun x32 => 1) (P := fun x32 => ((x32.2 ≠ true) ∧ (x23[x32.1]! = true))) (T.it_enumR (xs := x12.2) (T.ev_v rfl)) c33 (fun _ => rfl) (fun x32 hx => have c35 := c36 x32 hx; (T.ev_andT (P := (x32.2 ≠ true)) (Q := (x23[x32.1]! = true)) (T.ev_bool (T.ev_ne (x := x32.2) (y := true) qG rfl (T.ev_v rfl) (T.ev_c (congrArg D.str str_black)))) (fun hp => have c34 := c35 hp; (T.ev_bool (T.ev_eq (x := x23[x32.1]!) (y := true) qG rfl (T.ev_ixR (r := x23) (i := x32.1) c34 (T.ev_v rfl) (T.ev_v rfl)) (T.ev_c (congrArg D.str str_black))))))) (fun x32 hx hq => (T.ev_cN 1))))) ?_)
        change WP _ _ _ _ (At _ [some ((eT eR) picture), some (eN found_1), some (eN x12.1), some (eR x12.2), some (eR x23), some (eN down), none, none, some (eN up)] _)
        obtain ⟨c38, h⟩ := h
        obtain ⟨found_2, d39⟩ : ∃ found_2 : Nat, found_2 = (found_1 + (down * up)) := ⟨_, rfl⟩
        replace h := h found_2 d39
        refine T.wp_augN (x := found_1) (y := (down * up)) rfl (T.ev_mul (x := down) (y := up) c38 (T.ev_v rfl) (T.ev_v rfl)) ?_
        rw [← d39]
        exact ⟨rfl, found_2, _, _, _, rfl, h⟩
      rintro _ _ ⟨rfl, found_1, g15, g16, g17, rfl, h⟩
      replace h := h21 found_1 h
      exact ⟨rfl, found_1, _, _, _, _, _, rfl, h⟩
    rintro _ _ ⟨rfl, found, g2, g3, g4, g5, g6, rfl, h⟩
    replace h := h10 found h
    change WP _ _ _ _ (At _ [some ((eT eR) picture), some (eN found), g2, g3, g4, g5, none, none, g6] _)
    exact T.wp_ret (T.ev_v rfl) ⟨rfl, found, rfl, h⟩)
  exact ⟨r, q, e1⟩
abbrev P_count_rounds (p : Pic) : Prop := PicP p
abbrev F_count_rounds (p : Pic) : Nat := roundsQ p
theorem enum_filter (r : Row) (f : Nat → Bool → Bool) : ((enumP r).filter fun x => f x.1 x.2).map (fun x => x.1) = (List.range r.length).filter fun x => f x r[x]! := by
  rw [enumP_eq, List.filter_map, List.map_map]
  exact List.map_id' _
theorem down_enum {p : Pic} (k : PicP p) {a : Nat} (ha : a < p.length) (b : Nat) : ((enumP (p[a]!)).filter fun x => decide ((x.2 = true) ∧ ((p[b]!)[x.1]! ≠ true))).map (fun x => x.1) = downQ p a b := by
  have := enum_filter (p[a]!) fun i v => decide ((v = true) ∧ ((p[b]!)[i]! ≠ true))
  rw [this, k.get ha]; rfl
theorem up_enum {p : Pic} (k : PicP p) {a : Nat} (ha : a < p.length) (b : Nat) : ((enumP (p[a]!)).filter fun x => decide ((x.2 ≠ true) ∧ ((p[b]!)[x.1]! = true))).map (fun x => x.1) = downQ p b a := by
  have := enum_filter (p[a]!) fun i v => decide ((v ≠ true) ∧ ((p[b]!)[i]! = true))
  rw [this, k.get ha]
  exact List.filter_congr fun x _ => decide_eq_decide.mpr And.comm
theorem enum_len {α : Type} (r : List α) : (enumP r).length = r.length := by unfold enumP; rw [List.length_mapIdx]
theorem ok_count_rounds {p : Pic} (k : P_count_rounds p) : V_count_rounds p (· = F_count_rounds p) := by
  have h30 := k.h30; have w30 := k.w30
  refine ⟨k, fun i f => f = su (fun a => su (fun b => rndQ p a b) a) i, rfl, fun i x hx f hf => ?_, fun f hf => ?_⟩
  · obtain ⟨ex, _, hi⟩ := enumP_get hx
    have hi : i < p.length := hi
    subst ex
    have rl := k.get hi
    refine ⟨fun j f2 => f2 = f + su (fun b => rndQ p i b) j, rfl, fun j y hy f2 hf2 => ?_, fun f2 hf2 => ?_⟩
    · have hy : (p.take i)[j]? = some y := hy
      obtain ⟨ey, hj⟩ := get?_get! hy
      rw [List.length_take] at hj
      have ey : y = p[j]! := by
        rw [List.getElem?_take_of_lt (by omega)] at hy
        exact (get?_get! hy).1
      subst ey
      have rj := k.get (show j < p.length by omega)
      have xl : ∀ z, z ∈ enumP (p[i]!) → z.1 < p[0]!.length := fun z hz => by
        rw [enumP_eq] at hz
        obtain ⟨a, ha, rfl⟩ := List.mem_map.mp hz
        have := List.mem_range.mp ha
        rw [rl] at this
        exact this
      refine ⟨by show (enumP (p[i]!)).length ≤ _; rw [enum_len]; omega, fun z hz _ => ⟨by omega, by have := xl z hz; omega⟩, fun down hd => ⟨by show (enumP (p[i]!)).length ≤ _; rw [enum_len]; omega, fun z hz _ => ⟨by omega, by have := xl z hz; omega⟩, fun up hu => ?_⟩⟩
      have ed : down = (downQ p i j).length := by rw [hd, List.length_map, ← down_enum k hi j, List.length_map]
      have eu : up = (downQ p j i).length := by rw [hu, List.length_map, ← up_enum k hi j, List.length_map]
      have l1 := down_len p i j
      have l2 := down_len p j i
      refine ⟨cMul_nat (n := 10) (m := 10) (by omega) (by omega) (by omega) (by omega) (by omega), fun f3 hf3 => ?_⟩
      show f3 = f + (su (fun b => rndQ p i b) j + rndQ p i j)
      rw [hf3, show f2 = _ from hf2, ed, eu, Nat.add_assoc]; rfl
    · have hf2 : f2 = f + su (fun b => rndQ p i b) (p.take i).length := hf2
      rw [List.length_take, Nat.min_eq_left (by omega)] at hf2
      show f2 = su (fun a => su (fun b => rndQ p a b) a) i + su (fun b => rndQ p i b) i
      rw [hf2, show f = _ from hf]
  · have hf : f = su (fun a => su (fun b => rndQ p a b) a) (enumP p).length := hf
    rw [enum_len] at hf
    exact hf
theorem t_count_rounds {picture : (List Row)} (hP : P_count_rounds picture) (tp : List D) : m_count_rounds [(eT eR) picture] tp = .ok (eN (F_count_rounds picture)) tp := by
  obtain ⟨r, rfl, e⟩ := snd_count_rounds picture (ok_count_rounds hP) tp
  exact e
end W
set_option maxHeartbeats 1000000
namespace W
open PySem L2 G T
def V_need_lines (picture : (List Row)) (value : (List Nat)) (Q : Unit → Prop) : Prop := (P_are_lines picture value) ∧ ((F_are_lines picture value) = true) ∧ Q ()
theorem snd_need_lines (picture : (List Row)) (value : (List Nat)) {Q : Unit → Prop} (h : V_need_lines picture value Q) (tp : List D) : ∃ r : Unit, Q r ∧ m_need_lines [(eT eR) picture, (eT eN) value] tp = .ok (eU r) tp := by
  obtain ⟨d, t, e1, rfl, r, rfl, q⟩ := T.wp_def (n := 2) (s := b_need_lines) (ds := [(eT eR) picture, (eT eN) value]) (tp := tp) (Q := fun d t => t = tp ∧ ∃ r : Unit, d = eU r ∧ Q r) (by
    unfold V_need_lines at h
    change WP _ _ _ _ (b_need_lines [some ((eT eR) picture), some ((eT eN) value)] _)
    unfold b_need_lines
    obtain ⟨c1, h⟩ := h
    obtain ⟨hf, h⟩ := h
    refine T.wp_if (P := (¬((F_are_lines picture value) = true))) (T.ev_notT (P := ((F_are_lines picture value) = true)) (T.ev_dec (F_are_lines picture value) (T.ev_call (T.ev_cons (T.ev_v rfl) (T.ev_cons (T.ev_v rfl) T.ev_nil)) rfl (t_are_lines c1 _)))) (fun hp => ?_) (fun hn => ?_)
    · exact absurd hp ((fun h0 => h0 (hf)))
    · refine T.wp_skip ?_
      exact ⟨rfl, (), rfl, h⟩)
  exact ⟨r, q, e1⟩
abbrev P_need_lines (p : Pic) (ls : List Nat) : Prop := PicP p ∧ ls.length ≤ 1000 ∧ (∀ l ∈ ls, l < p.length + p[0]!.length) ∧ ls.Pairwise (· < ·)
abbrev F_need_lines (_ : Pic) (_ : List Nat) : Unit := ()
theorem ok_need_lines {p : Pic} {ls : List Nat} (h : P_need_lines p ls) : V_need_lines p ls (· = F_need_lines p ls) :=
  ⟨⟨h.1, h.2.1⟩, (are_lines_iff p ls).mpr h.2.2, rfl⟩
theorem t_need_lines {picture : (List Row)} {value : (List Nat)} (hP : P_need_lines picture value) (tp : List D) : m_need_lines [(eT eR) picture, (eT eN) value] tp = .ok (eU (F_need_lines picture value)) tp := by
  obtain ⟨r, rfl, e⟩ := snd_need_lines picture value (ok_need_lines hP) tp
  exact e
end W
set_option maxHeartbeats 1000000
namespace W
open PySem L2 G T
def V_differences (start : (List Row)) (goal : (List Row)) (Q : (List (Nat × Nat)) → Prop) : Prop := (P_need_two start goal) ∧ (P_differing start goal) ∧ Q (F_differing start goal)
theorem snd_differences (start : (List Row)) (goal : (List Row)) {Q : (List (Nat × Nat)) → Prop} (h : V_differences start goal Q) (tp : List D) : ∃ r : (List (Nat × Nat)), Q r ∧ m_differences [(eT eR) start, (eT eR) goal] tp = .ok ((eL (eP eN eN)) r) tp := by
  obtain ⟨d, t, e1, rfl, r, rfl, q⟩ := T.wp_def (n := 2) (s := b_differences) (ds := [(eT eR) start, (eT eR) goal]) (tp := tp) (Q := fun d t => t = tp ∧ ∃ r : (List (Nat × Nat)), d = (eL (eP eN eN)) r ∧ Q r) (by
    unfold V_differences at h
    change WP _ _ _ _ (b_differences [some ((eT eR) start), some ((eT eR) goal)] _)
    unfold b_differences
    obtain ⟨c1, h⟩ := h
    refine T.wp_seq (T.wp_drop (T.ev_call (T.ev_cons (T.ev_v rfl) (T.ev_cons (T.ev_v rfl) T.ev_nil)) rfl (t_need_two c1 _)) ?_)
    change WP _ _ _ _ (At _ [some ((eT eR) start), some ((eT eR) goal)] _)
    obtain ⟨c2, h⟩ := h
    exact T.wp_ret (T.ev_call (T.ev_cons (T.ev_v rfl) (T.ev_cons (T.ev_v rfl) T.ev_nil)) rfl (t_differing c2 _)) ⟨rfl, (F_differing start goal), rfl, h⟩)
  exact ⟨r, q, e1⟩
abbrev P_differences (p q : Pic) : Prop := PicP p ∧ PicP q ∧ p.length = q.length ∧ p[0]!.length = q[0]!.length
abbrev F_differences (p q : Pic) : List (Nat × Nat) := F_differing p q
theorem ok_differences {p q : Pic} (h : P_differences p q) : V_differences p q (· = F_differences p q) := ⟨h, h, rfl⟩
theorem t_differences {start : (List Row)} {goal : (List Row)} (hP : P_differences start goal) (tp : List D) : m_differences [(eT eR) start, (eT eR) goal] tp = .ok ((eL (eP eN eN)) (F_differences start goal)) tp := by
  obtain ⟨r, rfl, e⟩ := snd_differences start goal (ok_differences hP) tp
  exact e
end W
set_option maxHeartbeats 1000000
namespace W
open PySem L2 G T
def V_core (picture : (List Row)) (Q : (List Nat) → Prop) : Prop := (P_need_picture picture) ∧ (P_core_of picture) ∧ Q (F_core_of picture)
theorem snd_core (picture : (List Row)) {Q : (List Nat) → Prop} (h : V_core picture Q) (tp : List D) : ∃ r : (List Nat), Q r ∧ m_core [(eT eR) picture] tp = .ok ((eT eN) r) tp := by
  obtain ⟨d, t, e1, rfl, r, rfl, q⟩ := T.wp_def (n := 1) (s := b_core) (ds := [(eT eR) picture]) (tp := tp) (Q := fun d t => t = tp ∧ ∃ r : (List Nat), d = (eT eN) r ∧ Q r) (by
    unfold V_core at h
    change WP _ _ _ _ (b_core [some ((eT eR) picture)] _)
    unfold b_core
    obtain ⟨c1, h⟩ := h
    refine T.wp_seq (T.wp_drop (T.ev_call (T.ev_cons (T.ev_v rfl) T.ev_nil) rfl (t_need_picture c1 _)) ?_)
    change WP _ _ _ _ (At _ [some ((eT eR) picture)] _)
    obtain ⟨c2, h⟩ := h
    exact T.wp_ret (T.ev_tupleL (e := eN) (xs := (F_core_of picture)) (T.ev_call (T.ev_cons (T.ev_v rfl) T.ev_nil) rfl (t_core_of c2 _))) ⟨rfl, (F_core_of picture), rfl, h⟩)
  exact ⟨r, q, e1⟩
abbrev P_core (p : Pic) : Prop := PicP p
abbrev F_core (p : Pic) : List Nat := coreQ p
theorem ok_core {p : Pic} (k : P_core p) : V_core p (· = F_core p) := ⟨k, k, rfl⟩
theorem t_core {picture : (List Row)} (hP : P_core picture) (tp : List D) : m_core [(eT eR) picture] tp = .ok ((eT eN) (F_core picture)) tp := by
  obtain ⟨r, rfl, e⟩ := snd_core picture (ok_core hP) tp
  exact e
end W
set_option maxHeartbeats 1000000
namespace W
open PySem L2 G T
def V_is_free_of (picture : (List Row)) (Q : Bool → Prop) : Prop := (P_core_of picture) ∧ Q (decide ((F_core_of picture) = []))
theorem snd_is_free_of (picture : (List Row)) {Q : Bool → Prop} (h : V_is_free_of picture Q) (tp : List D) : ∃ r : Bool, Q r ∧ m_is_free_of [(eT eR) picture] tp = .ok (eB r) tp := by
  obtain ⟨d, t, e1, rfl, r, rfl, q⟩ := T.wp_def (n := 1) (s := b_is_free_of) (ds := [(eT eR) picture]) (tp := tp) (Q := fun d t => t = tp ∧ ∃ r : Bool, d = eB r ∧ Q r) (by
    unfold V_is_free_of at h
    change WP _ _ _ _ (b_is_free_of [some ((eT eR) picture)] _)
    unfold b_is_free_of
    obtain ⟨c1, h⟩ := h
    exact T.wp_ret (T.ev_eq (x := (F_core_of picture)) (y := []) (qL qN) rfl (T.ev_call (T.ev_cons (T.ev_v rfl) T.ev_nil) rfl (t_core_of c1 _)) (T.ev_lst (ds := []) T.ev_nil rfl)) ⟨rfl, (decide ((F_core_of picture) = [])), rfl, h⟩)
  exact ⟨r, q, e1⟩
abbrev P_is_free_of (p : Pic) : Prop := PicP p
abbrev F_is_free_of (p : Pic) : Bool := decide (coreQ p = [])
theorem ok_is_free_of {p : Pic} (k : P_is_free_of p) : V_is_free_of p (· = F_is_free_of p) := ⟨k, rfl⟩
theorem t_is_free_of {picture : (List Row)} (hP : P_is_free_of picture) (tp : List D) : m_is_free_of [(eT eR) picture] tp = .ok (eB (F_is_free_of picture)) tp := by
  obtain ⟨r, rfl, e⟩ := snd_is_free_of picture (ok_is_free_of hP) tp
  exact e
end W
set_option maxHeartbeats 1000000
namespace W
open PySem L2 G T
def V_level (picture : (List Row)) (line : Nat) (Q : (Option Nat) → Prop) : Prop := (P_need_picture picture) ∧ (P_need_line picture line) ∧ (P_layers_of picture) ∧ ∃ I6 : Nat → Prop, I6 0 ∧ (∀ (i10 : Nat) (x11 : (Nat × (List Nat))), (enumP (F_layers_of picture))[i10]? = some x11 → I6 i10 → (((line ∈ x11.2) → Q (some (x11.1 + 1))) ∧ (¬(line ∈ x11.2) → I6 (i10 + 1)))) ∧ (I6 (enumP (F_layers_of picture)).length → Q none)
theorem snd_level (picture : (List Row)) (line : Nat) {Q : (Option Nat) → Prop} (h : V_level picture line Q) (tp : List D) : ∃ r : (Option Nat), Q r ∧ m_level [(eT eR) picture, eN line] tp = .ok ((eO eN) r) tp := by
  obtain ⟨d, t, e1, rfl, r, rfl, q⟩ := T.wp_def (n := 4) (s := b_level) (ds := [(eT eR) picture, eN line]) (tp := tp) (Q := fun d t => t = tp ∧ ∃ r : (Option Nat), d = (eO eN) r ∧ Q r) (by
    unfold V_level at h
    change WP _ _ _ _ (b_level [some ((eT eR) picture), some (eN line), none, none] _)
    unfold b_level
    obtain ⟨c1, h⟩ := h
    refine T.wp_seq (T.wp_drop (T.ev_call (T.ev_cons (T.ev_v rfl) T.ev_nil) rfl (t_need_picture c1 _)) ?_)
    change WP _ _ _ _ (At _ [some ((eT eR) picture), some (eN line), none, none] _)
    obtain ⟨c2, h⟩ := h
    refine T.wp_seq (T.wp_drop (T.ev_call (T.ev_cons (T.ev_v rfl) (T.ev_cons (T.ev_v rfl) T.ev_nil)) rfl (t_need_line c2 _)) ?_)
    change WP _ _ _ _ (At _ [some ((eT eR) picture), some (eN line), none, none] _)
    obtain ⟨c3, h⟩ := h
    obtain ⟨I6, h7, h8, h9⟩ := h
    refine T.wp_seq (T.wp_for (e := (eP eN (eL eN))) (xs := (enumP (F_layers_of picture))) (ds := fun x11 => [eN x11.1, (eL eN) x11.2]) (fun k env tz => tp = tz ∧ ∃ g4 : Option D, ∃ g5 : Option D, env = [some ((eT eR) picture), some (eN line), g4, g5] ∧ I6 k) (T.it_enumL (e := (eL eN)) (xs := (F_layers_of picture)) (T.ev_call (T.ev_cons (T.ev_v rfl) T.ev_nil) rfl (t_layers_of c3 _))) (fun _ => rfl) ⟨rfl, _, _, rfl, h7⟩ ?_ ?_)
    · intro i10 x11 env t hk hI
      obtain ⟨rfl, g4, g5, rfl, h⟩ := hI
      replace h := h8 i10 x11 hk h
      change WP _ _ _ _ (At _ [some ((eT eR) picture), some (eN line), some (eN x11.1), some ((eL eN) x11.2)] _)
      refine T.wp_if (P := (line ∈ x11.2)) (T.ev_bool (T.ev_inL (x := line) (xs := x11.2) qN rfl (T.ev_v rfl) (T.ev_v rfl))) (fun hp => ?_) (fun hn => ?_)
      · replace h := h.1 hp
        exact T.wp_ret (T.ev_add (x := x11.1) (y := 1) (T.ev_v rfl) (T.ev_cN 1)) ⟨rfl, (some (x11.1 + 1)), rfl, h⟩
      · replace h := h.2 hn
        refine T.wp_skip ?_
        exact ⟨rfl, _, _, rfl, h⟩
    rintro _ _ ⟨rfl, g4, g5, rfl, h⟩
    replace h := h9 h
    change WP _ _ _ _ (At _ [some ((eT eR) picture), some (eN line), g4, g5] _)
    exact T.wp_ret (T.ev_c rfl) ⟨rfl, none, rfl, h⟩)
  exact ⟨r, q, e1⟩
abbrev P_level (p : Pic) (l : Nat) : Prop := PicP p ∧ l < p.length + p[0]!.length
/-- the number of the first list that holds a line, from 1 on -/
def levelIn (ls : List (List Nat)) (l : Nat) : Option Nat := (((List.range ls.length).filter fun n => decide (l ∈ ls[n]!)).map fun n => n + 1).head?
def F_level (p : Pic) (l : Nat) : Option Nat := levelIn (layersQ p) l
theorem ok_level {p : Pic} {l : Nat} (h : P_level p l) : V_level p l (· = F_level p l) := by
  obtain ⟨k, hl⟩ := h
  refine ⟨k, ⟨k, hl⟩, k, fun n => ∀ m, m < n → l ∉ (layersQ p)[m]!, fun m hm => by omega, fun i x hx hI => ?_, fun hI => ?_⟩
  · have hx' : (enumP (layersQ p))[i]? = some x := hx
    rw [enumP_eq, List.getElem?_map] at hx'
    obtain ⟨j, hj, hj2⟩ := Option.map_eq_some_iff.mp hx'
    obtain ⟨rfl, hj3⟩ := range_get hj
    subst hj2
    refine ⟨fun q => ?_, fun q m hm => ?_⟩
    · show some (j + 1) = levelIn (layersQ p) l
      unfold levelIn
      obtain ⟨r, hr⟩ : ∃ r, (layersQ p).length = j + (r + 1) := ⟨(layersQ p).length - j - 1, by omega⟩
      rw [hr, List.range_add, List.filter_append]
      have a : (List.range j).filter (fun n => decide (l ∈ (layersQ p)[n]!)) = [] := List.filter_eq_nil_iff.mpr fun n hn z => hI n (List.mem_range.mp hn) (of_decide_eq_true z)
      rw [a, List.nil_append, List.range_succ_eq_map, List.map_cons, List.filter_cons, if_pos (decide_eq_true (by show l ∈ (layersQ p)[j + 0]!; exact q))]
      rfl
    · by_cases e : m = j
      · subst e; exact q
      · exact hI m (by omega)
  · show none = levelIn (layersQ p) l
    unfold levelIn
    have a : (List.range (layersQ p).length).filter (fun n => decide (l ∈ (layersQ p)[n]!)) = [] := List.filter_eq_nil_iff.mpr fun n hn z => hI n (by
      have := List.mem_range.mp hn
      show n < (enumP (layersQ p)).length
      rw [enumP_eq, List.length_map, List.length_range]; exact this) (of_decide_eq_true z)
    rw [a]; rfl
theorem t_level {picture : (List Row)} {line : Nat} (hP : P_level picture line) (tp : List D) : m_level [(eT eR) picture, eN line] tp = .ok ((eO eN) (F_level picture line)) tp := by
  obtain ⟨r, rfl, e⟩ := snd_level picture line (ok_level hP) tp
  exact e
end W
set_option maxHeartbeats 1000000
namespace W
open PySem L2 G T
def V_comes (start : (List Row)) (goal : (List Row)) (Q : Bool → Prop) : Prop := (P_need_two start goal) ∧ (P_least_of start goal) ∧ Q (decide ((F_least_of start goal) ≠ none))
theorem snd_comes (start : (List Row)) (goal : (List Row)) {Q : Bool → Prop} (h : V_comes start goal Q) (tp : List D) : ∃ r : Bool, Q r ∧ m_comes [(eT eR) start, (eT eR) goal] tp = .ok (eB r) tp := by
  obtain ⟨d, t, e1, rfl, r, rfl, q⟩ := T.wp_def (n := 2) (s := b_comes) (ds := [(eT eR) start, (eT eR) goal]) (tp := tp) (Q := fun d t => t = tp ∧ ∃ r : Bool, d = eB r ∧ Q r) (by
    unfold V_comes at h
    change WP _ _ _ _ (b_comes [some ((eT eR) start), some ((eT eR) goal)] _)
    unfold b_comes
    obtain ⟨c1, h⟩ := h
    refine T.wp_seq (T.wp_drop (T.ev_call (T.ev_cons (T.ev_v rfl) (T.ev_cons (T.ev_v rfl) T.ev_nil)) rfl (t_need_two c1 _)) ?_)
    change WP _ _ _ _ (At _ [some ((eT eR) start), some ((eT eR) goal)] _)
    obtain ⟨c2, h⟩ := h
    exact T.wp_ret (T.ev_isNotNon (x := (F_least_of start goal)) (fun _ => rfl) (T.ev_call (T.ev_cons (T.ev_v rfl) (T.ev_cons (T.ev_v rfl) T.ev_nil)) rfl (t_least_of c2 _)) (T.ev_c rfl)) ⟨rfl, (decide ((F_least_of start goal) ≠ none)), rfl, h⟩)
  exact ⟨r, q, e1⟩
abbrev P_comes (p q : Pic) : Prop := Like p q
def F_comes (p q : Pic) : Bool := (leastQ p q).isSome
theorem ok_comes {p q : Pic} (k : P_comes p q) : V_comes p q (· = F_comes p q) := by
  refine ⟨⟨k.pp, k.qq, k.hh, k.ww⟩, k, ?_⟩
  show decide (leastQ p q ≠ none) = (leastQ p q).isSome
  cases leastQ p q <;> simp
theorem comes_iff (p q : Pic) : F_comes p q = true ↔ ∃ T, leastQ p q = some T := Option.isSome_iff_exists
theorem t_comes {start : (List Row)} {goal : (List Row)} (hP : P_comes start goal) (tp : List D) : m_comes [(eT eR) start, (eT eR) goal] tp = .ok (eB (F_comes start goal)) tp := by
  obtain ⟨r, rfl, e⟩ := snd_comes start goal (ok_comes hP) tp
  exact e
end W
set_option maxHeartbeats 1000000
namespace W
open PySem L2 G T
def V_need_way (start : (List Row)) (goal : (List Row)) (Q : (List (List Nat)) → Prop) : Prop := (P_need_two start goal) ∧ (P_least_of start goal) ∧ ∀ told : (Option (List (List Nat))), told = (F_least_of start goal) → (¬(told = none)) ∧ (told ≠ none) ∧ Q (told.getD default)
theorem snd_need_way (start : (List Row)) (goal : (List Row)) {Q : (List (List Nat)) → Prop} (h : V_need_way start goal Q) (tp : List D) : ∃ r : (List (List Nat)), Q r ∧ m_need_way [(eT eR) start, (eT eR) goal] tp = .ok ((eL (eL eN)) r) tp := by
  obtain ⟨d, t, e1, rfl, r, rfl, q⟩ := T.wp_def (n := 3) (s := b_need_way) (ds := [(eT eR) start, (eT eR) goal]) (tp := tp) (Q := fun d t => t = tp ∧ ∃ r : (List (List Nat)), d = (eL (eL eN)) r ∧ Q r) (by
    unfold V_need_way at h
    change WP _ _ _ _ (b_need_way [some ((eT eR) start), some ((eT eR) goal), none] _)
    unfold b_need_way
    obtain ⟨c1, h⟩ := h
    refine T.wp_seq (T.wp_drop (T.ev_call (T.ev_cons (T.ev_v rfl) (T.ev_cons (T.ev_v rfl) T.ev_nil)) rfl (t_need_two c1 _)) ?_)
    change WP _ _ _ _ (At _ [some ((eT eR) start), some ((eT eR) goal), none] _)
    obtain ⟨c2, h⟩ := h
    obtain ⟨told, d3⟩ : ∃ told : (Option (List (List Nat))), told = (F_least_of start goal) := ⟨_, rfl⟩
    replace h := h told d3
    refine T.wp_seq (T.wp_set (T.ev_as d3 (e := (eO (eL (eL eN)))) (T.ev_call (T.ev_cons (T.ev_v rfl) (T.ev_cons (T.ev_v rfl) T.ev_nil)) rfl (t_least_of c2 _))) ?_)
    change WP _ _ _ _ (At _ [some ((eT eR) start), some ((eT eR) goal), some ((eO (eL (eL eN))) told)] _)
    obtain ⟨hf, h⟩ := h
    refine T.wp_seq (T.wp_if (P := (told = none)) (T.ev_bool (T.ev_isNon (x := told) (fun _ => rfl) (T.ev_v rfl) (T.ev_c rfl))) (fun hp => ?_) (fun hn => ?_))
    · exact absurd hp (hf)
    · refine T.wp_skip ?_
      change WP _ _ _ _ (At _ [some ((eT eR) start), some ((eT eR) goal), some ((eO (eL (eL eN))) told)] _)
      obtain ⟨c4, h⟩ := h
      exact T.wp_ret (T.ev_get (e := (eL (eL eN))) (x := told) c4 (T.ev_v rfl)) ⟨rfl, (told.getD default), rfl, h⟩)
  exact ⟨r, q, e1⟩
abbrev P_need_way (p q : Pic) : Prop := Like p q ∧ ∃ told, leastQ p q = some told
def F_need_way (p q : Pic) : List (List Nat) := (leastQ p q).getD default
theorem need_way_eq {p q : Pic} {told : List (List Nat)} (h : leastQ p q = some told) : F_need_way p q = told := by unfold F_need_way; rw [h]; rfl
theorem ok_need_way {p q : Pic} (h : P_need_way p q) : V_need_way p q (· = F_need_way p q) := by
  obtain ⟨k, told, ht⟩ := h
  have n : F_least_of p q ≠ none := by show leastQ p q ≠ none; rw [ht]; simp
  exact ⟨⟨k.pp, k.qq, k.hh, k.ww⟩, k, fun t e => ⟨by rw [e]; exact n, by rw [e]; exact n, by rw [e]; rfl⟩⟩
theorem t_need_way {start : (List Row)} {goal : (List Row)} (hP : P_need_way start goal) (tp : List D) : m_need_way [(eT eR) start, (eT eR) goal] tp = .ok ((eL (eL eN)) (F_need_way start goal)) tp := by
  obtain ⟨r, rfl, e⟩ := snd_need_way start goal (ok_need_way hP) tp
  exact e
end W
set_option maxHeartbeats 1000000
namespace W
open PySem L2 G T
def V_fewest (start : (List Row)) (goal : (List Row)) (Q : (Option Nat) → Prop) : Prop := (P_need_two start goal) ∧ (P_least_of start goal) ∧ ∀ told : (Option (List (List Nat))), told = (F_least_of start goal) → ((told ≠ none) → (told ≠ none) ∧ ((told.getD default).length ≤ 1000000)) ∧ Q (if (told ≠ none) then (some (((told.getD default).map fun x5 => x5.length).sum)) else none)
theorem snd_fewest (start : (List Row)) (goal : (List Row)) {Q : (Option Nat) → Prop} (h : V_fewest start goal Q) (tp : List D) : ∃ r : (Option Nat), Q r ∧ m_fewest [(eT eR) start, (eT eR) goal] tp = .ok ((eO eN) r) tp := by
  obtain ⟨d, t, e1, rfl, r, rfl, q⟩ := T.wp_def (n := 4) (s := b_fewest) (ds := [(eT eR) start, (eT eR) goal]) (tp := tp) (Q := fun d t => t = tp ∧ ∃ r : (Option Nat), d = (eO eN) r ∧ Q r) (by
    unfold V_fewest at h
    change WP _ _ _ _ (b_fewest [some ((eT eR) start), some ((eT eR) goal), none, none] _)
    unfold b_fewest
    obtain ⟨c1, h⟩ := h
    refine T.wp_seq (T.wp_drop (T.ev_call (T.ev_cons (T.ev_v rfl) (T.ev_cons (T.ev_v rfl) T.ev_nil)) rfl (t_need_two c1 _)) ?_)
    change WP _ _ _ _ (At _ [some ((eT eR) start), some ((eT eR) goal), none, none] _)
    obtain ⟨c2, h⟩ := h
    obtain ⟨told, d3⟩ : ∃ told : (Option (List (List Nat))), told = (F_least_of start goal) := ⟨_, rfl⟩
    replace h := h told d3
    refine T.wp_seq (T.wp_set (T.ev_as d3 (e := (eO (eL (eL eN)))) (T.ev_call (T.ev_cons (T.ev_v rfl) (T.ev_cons (T.ev_v rfl) T.ev_nil)) rfl (t_least_of c2 _))) ?_)
    change WP _ _ _ _ (At _ [some ((eT eR) start), some ((eT eR) goal), some ((eO (eL (eL eN))) told), none] _)
    obtain ⟨c7, h⟩ := h
    exact T.wp_ret (T.ev_ifE (P := (told ≠ none)) (e := (eO eN)) (x := (some (((told.getD default).map fun x5 => x5.length).sum))) (y := none) (T.ev_bool (T.ev_isNotNon (x := told) (fun _ => rfl) (T.ev_v rfl) (T.ev_c rfl))) (fun hp => match c7 hp with | ⟨c4, c6⟩ => (T.ev_sumL (xs := ((told.getD default).map fun x5 => x5.length)) (T.ev_compY (e := (eL eN)) (e1 := eN) (xs := (told.getD default)) (ds := fun x5 => [(eL eN) x5]) (g := fun x5 => x5.length) (T.it_L (e := (eL eN)) (xs := (told.getD default)) (T.ev_get (e := (eL (eL eN))) (x := told) c4 (T.ev_v rfl))) c6 (fun _ => rfl) (fun x5 hx => (T.ev_lenL (e := eN) (xs := x5) (T.ev_v rfl)))))) (fun hp => (T.ev_c rfl))) ⟨rfl, (if (told ≠ none) then (some (((told.getD default).map fun x5 => x5.length).sum)) else none), rfl, h⟩)
  exact ⟨r, q, e1⟩
abbrev P_fewest (p q : Pic) : Prop := Like p q
def F_fewest (p q : Pic) : Option Nat := (leastQ p q).map fun T => T.flatten.length
theorem ok_fewest {p q : Pic} (k : P_fewest p q) : V_fewest p q (· = F_fewest p q) := by
  refine ⟨⟨k.pp, k.qq, k.hh, k.ww⟩, k, fun told ht => ?_⟩
  have ht : told = leastQ p q := ht
  refine ⟨fun ne => ⟨ne, ?_⟩, ?_⟩
  · cases hT : leastQ p q with
    | none => exact (ne (ht.trans hT)).elim
    | some T =>
      have e := ht.trans hT
      subst e
      have l2 := (least_parts hT).len
      have l3 := (layersQ_len k.qq).1
      show T.length ≤ _
      omega
  · show _ = (leastQ p q).map fun T => T.flatten.length
    rw [← ht]
    cases told with
    | none => rw [if_neg (by simp)]; rfl
    | some T =>
      rw [if_pos (by simp)]
      show some ((T.map fun x => x.length).sum) = some T.flatten.length
      rw [sum_len]
theorem t_fewest {start : (List Row)} {goal : (List Row)} (hP : P_fewest start goal) (tp : List D) : m_fewest [(eT eR) start, (eT eR) goal] tp = .ok ((eO eN) (F_fewest start goal)) tp := by
  obtain ⟨r, rfl, e⟩ := snd_fewest start goal (ok_fewest hP) tp
  exact e
end W
set_option maxHeartbeats 1000000
namespace W
open PySem L2 G T
def V_mended_start (start : (List Row)) (goal : (List Row)) (Q : (List Row) → Prop) : Prop := (P_need_two start goal) ∧ (P_core_of goal) ∧ ((F_core_of goal).length ≤ 1000000) ∧ ∀ told : (List (Nat × Bool)), told = (dictOf ((F_core_of goal).map fun x3 => (x3, true))) → ∃ I11 : Nat → (List Row) → Prop, I11 0 [] ∧ (∀ (i15 : Nat) (x16 : (Nat × Row)), (enumP start)[i15]? = some x16 → ∀ found : (List Row), I11 i15 found → ∃ I21 : Nat → Row → Prop, I21 0 ([] : Row) ∧ (∀ (i25 : Nat) (x26 : (Nat × Bool)), (enumP x16.2)[i25]? = some x26 → ∀ line : Row, I21 i25 line → (((x16.1 ∈ dkeys told) ∧ ((goal.length + x26.1) ∈ dkeys told)) → (x16.1 < goal.length) ∧ ((goal[x16.1]!).length ≤ 1000000 ∧ x26.1 < (goal[x16.1]!).length)) ∧ (line.length + ([(if ((x16.1 ∈ dkeys told) ∧ ((goal.length + x26.1) ∈ dkeys told)) then (goal[x16.1]!)[x26.1]! else x26.2)]).length ≤ 1000000) ∧ ∀ line_1 : Row, line_1 = (line ++ [(if ((x16.1 ∈ dkeys told) ∧ ((goal.length + x26.1) ∈ dkeys told)) then (goal[x16.1]!)[x26.1]! else x26.2)]) → I21 (i25 + 1) line_1) ∧ (∀ line : Row, I21 (enumP x16.2).length line → (found.length < 1000000) ∧ ∀ found_1 : (List Row), found_1 = (found ++ [line]) → I11 (i15 + 1) found_1)) ∧ (∀ found : (List Row), I11 (enumP start).length found → Q found)
theorem snd_mended_start (start : (List Row)) (goal : (List Row)) {Q : (List Row) → Prop} (h : V_mended_start start goal Q) (tp : List D) : ∃ r : (List Row), Q r ∧ m_mended_start [(eT eR) start, (eT eR) goal] tp = .ok ((eT eR) r) tp := by
  obtain ⟨d, t, e1, rfl, r, rfl, q⟩ := T.wp_def (n := 10) (s := b_mended_start) (ds := [(eT eR) start, (eT eR) goal]) (tp := tp) (Q := fun d t => t = tp ∧ ∃ r : (List Row), d = (eT eR) r ∧ Q r) (by
    unfold V_mended_start at h
    change WP _ _ _ _ (b_mended_start [some ((eT eR) start), some ((eT eR) goal), none, none, none, none, none, none, none, none] _)
    unfold b_mended_start
    obtain ⟨c1, h⟩ := h
    refine T.wp_seq (T.wp_drop (T.ev_call (T.ev_cons (T.ev_v rfl) (T.ev_cons (T.ev_v rfl) T.ev_nil)) rfl (t_need_two c1 _)) ?_)
    change WP _ _ _ _ (At _ [some ((eT eR) start), some ((eT eR) goal), none, none, none, none, none, none, none, none] _)
    obtain ⟨c2, h⟩ := h
    obtain ⟨c4, h⟩ := h
    obtain ⟨told, d5⟩ : ∃ told : (List (Nat × Bool)), told = (dictOf ((F_core_of goal).map fun x3 => (x3, true))) := ⟨_, rfl⟩
    replace h := h told d5
    refine T.wp_seq (T.wp_set (T.ev_as d5 (e := (eD eB)) (T.ev_dc (e := eB) (e1 := eN) (xs := (F_core_of goal)) (ds := fun x3 => [eN x3]) (k := fun x3 => x3) (v := fun x3 => true) (T.it_L (e := eN) (xs := (F_core_of goal)) (T.ev_call (T.ev_cons (T.ev_v rfl) T.ev_nil) rfl (t_core_of c2 _))) c4 (fun _ => rfl) (fun x3 hx => (T.ev_v rfl)) (fun x3 hx => (T.ev_c rfl)))) ?_)
    change WP _ _ _ _ (At _ [some ((eT eR) start), some ((eT eR) goal), some ((eD eB) told), none, none, none, none, none, none, none] _)
    refine T.wp_seq (T.wp_par (T.ev_cons (T.ev_lenT (e := eR) (xs := goal) (T.ev_v rfl)) (T.ev_cons (T.ev_lst (ds := []) T.ev_nil rfl) T.ev_nil)) rfl ?_)
    change WP _ _ _ _ (At _ [some ((eT eR) start), some ((eT eR) goal), some ((eD eB) told), none, some (eN goal.length), some ((eL eR) []), none, none, none, none] _)
    obtain ⟨I11, h12, h13, h14⟩ := h
    refine T.wp_seq (T.wp_for (e := (eP eN eR)) (xs := (enumP start)) (ds := fun x16 => [eN x16.1, eR x16.2]) (fun k env tz => tp = tz ∧ ∃ found : (List Row), ∃ g6 : Option D, ∃ g7 : Option D, ∃ g8 : Option D, ∃ g9 : Option D, ∃ g10 : Option D, env = [some ((eT eR) start), some ((eT eR) goal), some ((eD eB) told), g6, some (eN goal.length), some ((eL eR) found), g7, g8, g9, g10] ∧ I11 k found) (T.it_enumT (e := eR) (xs := start) (T.ev_v rfl)) (fun _ => rfl) ⟨rfl, [], _, _, _, _, _, rfl, h12⟩ ?_ ?_)
    · intro i15 x16 env t hk hI
      obtain ⟨rfl, found, g6, g7, g8, g9, g10, rfl, h⟩ := hI
      replace h := h13 i15 x16 hk found h
      change WP _ _ _ _ (At _ [some ((eT eR) start), some ((eT eR) goal), some ((eD eB) told), g6, some (eN goal.length), some ((eL eR) found), some (eN x16.1), some (eR x16.2), g9, g10] _)
      refine T.wp_seq (T.wp_set (T.ev_c (congrArg D.str str_empty)) ?_)
      change WP _ _ _ _ (At _ [some ((eT eR) start), some ((eT eR) goal), some ((eD eB) told), some (eR ([] : Row)), some (eN goal.length), some ((eL eR) found), some (eN x16.1), some (eR x16.2), g9, g10] _)
      obtain ⟨I21, h22, h23, h24⟩ := h
      refine T.wp_seq (T.wp_for (e := (eP eN eG)) (xs := (enumP x16.2)) (ds := fun x26 => [eN x26.1, eG x26.2]) (fun k env tz => tp = tz ∧ ∃ line : Row, ∃ g19 : Option D, ∃ g20 : Option D, env = [some ((eT eR) start), some ((eT eR) goal), some ((eD eB) told), some (eR line), some (eN goal.length), some ((eL eR) found), some (eN x16.1), some (eR x16.2), g19, g20] ∧ I21 k line) (T.it_enumR (xs := x16.2) (T.ev_v rfl)) (fun _ => rfl) ⟨rfl, ([] : Row), _, _, rfl, h22⟩ ?_ ?_)
      · intro i25 x26 env t hk hI
        obtain ⟨rfl, line, g19, g20, rfl, h⟩ := hI
        replace h := h23 i25 x26 hk line h
        change WP _ _ _ _ (At _ [some ((eT eR) start), some ((eT eR) goal), some ((eD eB) told), some (eR line), some (eN goal.length), some ((eL eR) found), some (eN x16.1), some (eR x16.2), some (eN x26.1), some (eG x26.2)] _)
        obtain ⟨c31, h⟩ := h
        obtain ⟨c32, h⟩ := h
        obtain ⟨line_1, d33⟩ : ∃ line_1 : Row, line_1 = (line ++ [(if ((x16.1 ∈ dkeys told) ∧ ((goal.length + x26.1) ∈ dkeys told)) then (goal[x16.1]!)[x26.1]! else x26.2)]) := ⟨_, rfl⟩
        replace h := h line_1 d33
        refine T.wp_set (T.ev_as d33 (e := eR) (T.ev_catR (xs := line) (ys := [(if ((x16.1 ∈ dkeys told) ∧ ((goal.length + x26.1) ∈ dkeys told)) then (goal[x16.1]!)[x26.1]! else x26.2)]) c32 (T.ev_v rfl) (T.ev_ifE (P := ((x16.1 ∈ dkeys told) ∧ ((goal.length + x26.1) ∈ dkeys told))) (e := eG) (x := (goal[x16.1]!)[x26.1]!) (y := x26.2) (T.ev_andT (P := (x16.1 ∈ dkeys told)) (Q := ((goal.length + x26.1) ∈ dkeys told)) (T.ev_bool (T.ev_inK (x := x16.1) (d := told) (T.ev_v rfl) (T.ev_v rfl))) (fun hp => (T.ev_bool (T.ev_inK (x := (goal.length + x26.1)) (d := told) (T.ev_add (x := goal.length) (y := x26.1) (T.ev_v rfl) (T.ev_v rfl)) (T.ev_v rfl))))) (fun hp => match c31 hp with | ⟨c29, c30⟩ => (T.ev_ixR (r := goal[x16.1]!) (i := x26.1) c30 (T.ev_ixT (e := eR) (xs := goal) (i := x16.1) c29 (T.ev_v rfl) (T.ev_v rfl)) (T.ev_v rfl))) (fun hp => (T.ev_v rfl))))) ?_
        exact ⟨rfl, line_1, _, _, rfl, h⟩
      rintro _ _ ⟨rfl, line, g19, g20, rfl, h⟩
      replace h := h24 line h
      change WP _ _ _ _ (At _ [some ((eT eR) start), some ((eT eR) goal), some ((eD eB) told), some (eR line), some (eN goal.length), some ((eL eR) found), some (eN x16.1), some (eR x16.2), g19, g20] _)
      obtain ⟨c36, h⟩ := h
      obtain ⟨found_1, d37⟩ : ∃ found_1 : (List Row), found_1 = (found ++ [line]) := ⟨_, rfl⟩
      replace h := h found_1 d37
      refine T.wp_app (e := eR) (xs := found) (x := line) rfl (T.ev_v rfl) c36 ?_
      rw [← d37]
      exact ⟨rfl, found_1, _, _, _, _, _, rfl, h⟩
    rintro _ _ ⟨rfl, found, g6, g7, g8, g9, g10, rfl, h⟩
    replace h := h14 found h
    change WP _ _ _ _ (At _ [some ((eT eR) start), some ((eT eR) goal), some ((eD eB) told), g6, some (eN goal.length), some ((eL eR) found), g7, g8, g9, g10] _)
    exact T.wp_ret (T.ev_tupleL (e := eR) (xs := found) (T.ev_v rfl)) ⟨rfl, found, rfl, h⟩)
  exact ⟨r, q, e1⟩
abbrev P_mended_start (p q : Pic) : Prop := Like p q
def mendC (p q : Pic) (i j : Nat) : Bool := if i ∈ coreQ q ∧ q.length + j ∈ coreQ q then (q[i]!)[j]! else (p[i]!)[j]!
abbrev F_mended_start (p q : Pic) : Pic := mkP p.length p[0]!.length (mendC p q)
theorem ok_mended_start {p q : Pic} (k : P_mended_start p q) : V_mended_start p q (· = F_mended_start p q) := by
  have h1 := k.qq.h1; have h30 := k.qq.h30; have w1 := k.qq.w1; have w30 := k.qq.w30
  have hh := k.hh; have ww := k.ww
  have cl := coreQ_len k.qq
  refine ⟨⟨k.pp, k.qq, k.hh, k.ww⟩, k.qq, by show (coreQ q).length ≤ _; omega, fun told ht => ?_⟩
  have mk : ∀ l, l ∈ dkeys told ↔ l ∈ coreQ q := fun l => by rw [ht]; exact keys_true _ l
  refine ⟨fun i f => f = (List.range i).map fun a => (List.range p[0]!.length).map fun b => mendC p q a b, rfl, fun i x hx f hf => ?_, fun f hf => ?_⟩
  · obtain ⟨ex, _, hi⟩ := enumP_get hx
    have hi : i < p.length := hi
    subst ex
    have rw1 := k.pp.get hi
    refine ⟨fun j t => t = (List.range j).map fun b => mendC p q i b, rfl, fun j y hy t ht => ?_, fun t ht => ?_⟩
    · obtain ⟨ey, _, hj⟩ := enumP_get hy
      have hj : j < (p[i]!).length := hj
      subst ey
      refine ⟨fun _ => ⟨by show i < q.length; omega, ?_⟩, ?_, fun u hu => ?_⟩
      · show (q[i]!).length ≤ 1000000 ∧ j < (q[i]!).length
        rw [k.qq.get (by omega)]; omega
      · rw [ht, List.length_map, List.length_range, List.length_singleton]; omega
      · show u = (List.range (j + 1)).map fun b => mendC p q i b
        rw [hu, ht, List.range_succ, List.map_append]
        congr 2
        show (if i ∈ dkeys told ∧ q.length + j ∈ dkeys told then (q[i]!)[j]! else (p[i]!)[j]!) = mendC p q i j
        unfold mendC
        by_cases z : i ∈ coreQ q ∧ q.length + j ∈ coreQ q
        · rw [if_pos z, if_pos ⟨(mk _).mpr z.1, (mk _).mpr z.2⟩]
        · rw [if_neg z, if_neg (fun y => z ⟨(mk _).mp y.1, (mk _).mp y.2⟩)]
    · refine ⟨by rw [hf, List.length_map, List.length_range]; omega, fun g hg => ?_⟩
      show g = (List.range (i + 1)).map fun a => (List.range p[0]!.length).map fun b => mendC p q a b
      have el : (enumP (p[i]!)).length = p[0]!.length := by unfold enumP; rw [List.length_mapIdx, rw1]
      have ht : t = (List.range (enumP (p[i]!)).length).map fun b => mendC p q i b := ht
      rw [hg, hf, ht, el, List.range_succ, List.map_append]; rfl
  · have el : (enumP p).length = p.length := by unfold enumP; rw [List.length_mapIdx]
    show f = F_mended_start p q
    have hf : f = (List.range (enumP p).length).map fun a => (List.range p[0]!.length).map fun b => mendC p q a b := hf
    rw [hf, el]; rfl
section
variable {p q : Pic}
theorem mend_like (k : Like p q) : Like (F_mended_start p q) q := by
  have h1 := k.pp.h1; have h30 := k.pp.h30; have w1 := k.pp.w1; have w30 := k.pp.w30
  exact ⟨mkP_pp h1 h30 w1 w30, k.qq, (mkP_len _ _ _).trans k.hh, (mkP_wid h1).trans k.ww⟩
/-- where it is mended -/
theorem mem_mend (k : Like p q) {c : Nat × Nat} : c ∈ diffQ p (F_mended_start p q) ↔ c ∈ diffQ p q ∧ c.1 ∈ coreQ q ∧ q.length + c.2 ∈ coreQ q := by
  rw [mem_diff, mem_diff]
  constructor
  · rintro ⟨a, b, h⟩
    rw [mkP_get a b] at h
    unfold mendC at h
    by_cases z : c.1 ∈ coreQ q ∧ q.length + c.2 ∈ coreQ q
    · rw [if_pos z] at h; exact ⟨⟨a, b, h⟩, z⟩
    · rw [if_neg z] at h; exact (h rfl).elim
  · rintro ⟨⟨a, b, h⟩, z⟩
    refine ⟨a, b, ?_⟩
    rw [mkP_get a b]
    unfold mendC
    rw [if_pos z]; exact h
end
theorem t_mended_start {start : (List Row)} {goal : (List Row)} (hP : P_mended_start start goal) (tp : List D) : m_mended_start [(eT eR) start, (eT eR) goal] tp = .ok ((eT eR) (F_mended_start start goal)) tp := by
  obtain ⟨r, rfl, e⟩ := snd_mended_start start goal (ok_mended_start hP) tp
  exact e
end W
set_option maxHeartbeats 1000000
namespace W
open PySem L2 G T
def V_law_start (goal : (List Row)) (Q : (List Row) → Prop) : Prop := (P_law_taken 4) ∧ ∀ drawn : Nat, (D_law_taken 4 drawn) → (((drawn = 0) → (0 < goal.length) ∧ ((goal[0]!).length ≤ 1000000) ∧ (P_law_any goal.length ((goal[0]!).length)) ∧ ∀ any : (List Row), (D_law_any goal.length ((goal[0]!).length) any) → Q any) ∧ (¬(drawn = 0) → (((drawn = 1) → (P_law_deeds goal 4) ∧ ∀ deeds : (List Nat), (D_law_deeds goal 4 deeds) → (P_law_painted goal deeds) ∧ Q (F_law_painted goal deeds)) ∧ (¬(drawn = 1) → (P_law_core goal) ∧ ∀ shut : (List Nat), shut = (F_law_core goal) → (goal.length ≤ 1073741824) ∧ ∃ I26 : Nat → (List Row) → Prop, I26 0 [] ∧ (∀ (i30 : Nat) (x31 : Nat), (List.range goal.length)[i30]? = some x31 → ∀ found : (List Row), I26 i30 found → (0 < goal.length) ∧ ((goal[0]!).length ≤ 1000000) ∧ ((goal[0]!).length ≤ 1073741824) ∧ ∃ I39 : Nat → Row → Prop, I39 0 ([] : Row) ∧ (∀ (i43 : Nat) (x44 : Nat), (List.range ((goal[0]!).length))[i43]? = some x44 → ∀ told : Row, I39 i43 told → (P_law_taken 5) ∧ ∀ any_1 : Bool, True → (x31 < goal.length) ∧ ((goal[x31]!).length ≤ 1000000 ∧ x44 < (goal[x31]!).length) ∧ ([true, false] ≠ [] ∧ [true, false].length ≤ 1000000) ∧ ∀ any_2 : Bool, True → (told.length + [any_2].length ≤ 1000000) ∧ ∀ told_1 : Row, told_1 = (told ++ [any_2]) → I39 (i43 + 1) told_1) ∧ (∀ told : Row, I39 (List.range ((goal[0]!).length)).length told → (found.length < 1000000) ∧ ∀ found_1 : (List Row), found_1 = (found ++ [told]) → I26 (i30 + 1) found_1)) ∧ (∀ found : (List Row), I26 (List.range goal.length).length found → Q found)))))
theorem snd_law_start (goal : (List Row)) {Q : (List Row) → Prop} (h : V_law_start goal Q) {tp : List D} (ht : Tape tp) : ∃ (r : (List Row)) (tp' : List D), m_law_start [.tape, (eT eR) goal] tp = .ok ((eT eR) r) tp' ∧ Tape tp' ∧ Q r := by
  obtain ⟨d, t, e1, e2, r, rfl, q⟩ := T.wp_def (n := 10) (s := b_law_start) (ds := [.tape, (eT eR) goal]) (tp := tp) (Q := fun d t => Tape t ∧ ∃ r : (List Row), d = (eT eR) r ∧ Q r) (by
    unfold V_law_start at h
    change WP _ _ _ _ (b_law_start [some (.tape), some ((eT eR) goal), none, none, none, none, none, none, none, none] _)
    unfold b_law_start
    obtain ⟨c1, h⟩ := h
    obtain ⟨drawn, t2, e3, k4, p5⟩ := t_law_taken ht c1
    replace h := h drawn p5
    refine T.wp_seq (T.wp_set (T.ev_call (T.ev_cons (T.ev_v rfl) (T.ev_cons (T.ev_cN 4) T.ev_nil)) rfl e3) ?_)
    change WP _ _ _ _ (At _ [some (.tape), some ((eT eR) goal), some (eN drawn), none, none, none, none, none, none, none] _)
    refine T.wp_seq (T.wp_if (P := (drawn = 0)) (T.ev_bool (T.ev_eq (x := drawn) (y := 0) qN rfl (T.ev_v rfl) (T.ev_cN 0))) (fun hp => ?_) (fun hn => ?_))
    · replace h := h.1 hp
      obtain ⟨c6, h⟩ := h
      obtain ⟨c7, h⟩ := h
      obtain ⟨c8, h⟩ := h
      obtain ⟨any, t9, e10, k11, p12⟩ := t_law_any k4 c8
      replace h := h any p12
      exact T.wp_ret (T.ev_call (T.ev_cons (T.ev_v rfl) (T.ev_cons (T.ev_lenT (e := eR) (xs := goal) (T.ev_v rfl)) (T.ev_cons (T.ev_lenR (r := goal[0]!) c7 (T.ev_ixT (e := eR) (xs := goal) (i := 0) c6 (T.ev_v rfl) (T.ev_cN 0))) T.ev_nil))) rfl e10) ⟨k11, any, rfl, h⟩
    · replace h := h.2 hn
      refine T.wp_skip ?_
      change WP _ _ _ _ (At _ [some (.tape), some ((eT eR) goal), some (eN drawn), none, none, none, none, none, none, none] _)
      refine T.wp_seq (T.wp_if (P := (drawn = 1)) (T.ev_bool (T.ev_eq (x := drawn) (y := 1) qN rfl (T.ev_v rfl) (T.ev_cN 1))) (fun hp => ?_) (fun hn => ?_))
      · replace h := h.1 hp
        obtain ⟨c13, h⟩ := h
        obtain ⟨deeds, t14, e15, k16, p17⟩ := t_law_deeds k4 c13
        replace h := h deeds p17
        obtain ⟨c18, h⟩ := h
        exact T.wp_ret (T.ev_call (T.ev_cons (T.ev_v rfl) (T.ev_cons (T.ev_call (T.ev_cons (T.ev_v rfl) (T.ev_cons (T.ev_v rfl) (T.ev_cons (T.ev_cN 4) T.ev_nil))) rfl e15) T.ev_nil)) rfl (t_law_painted c18 _)) ⟨k16, (F_law_painted goal deeds), rfl, h⟩
      · replace h := h.2 hn
        refine T.wp_skip ?_
        change WP _ _ _ _ (At _ [some (.tape), some ((eT eR) goal), some (eN drawn), none, none, none, none, none, none, none] _)
        obtain ⟨c19, h⟩ := h
        obtain ⟨shut, d20⟩ : ∃ shut : (List Nat), shut = (F_law_core goal) := ⟨_, rfl⟩
        replace h := h shut d20
        refine T.wp_seq (T.wp_par (T.ev_cons (T.ev_as d20 (e := (eL eN)) (T.ev_call (T.ev_cons (T.ev_v rfl) T.ev_nil) rfl (t_law_core c19 _))) (T.ev_cons (T.ev_lenT (e := eR) (xs := goal) (T.ev_v rfl)) (T.ev_cons (T.ev_lst (ds := []) T.ev_nil rfl) T.ev_nil))) rfl ?_)
        change WP _ _ _ _ (At _ [some (.tape), some ((eT eR) goal), some (eN drawn), some ((eL eN) shut), some (eN goal.length), some ((eL eR) []), none, none, none, none] _)
        obtain ⟨c21, h⟩ := h
        obtain ⟨I26, h27, h28, h29⟩ := h
        refine T.wp_seq (T.wp_for (e := eN) (xs := (List.range goal.length)) (ds := fun x31 => [eN x31]) (fun k env tz => Tape tz ∧ ∃ found : (List Row), ∃ g22 : Option D, ∃ g23 : Option D, ∃ g24 : Option D, ∃ g25 : Option D, env = [some (.tape), some ((eT eR) goal), some (eN drawn), some ((eL eN) shut), some (eN goal.length), some ((eL eR) found), g22, g23, g24, g25] ∧ I26 k found) (T.it_range (n := goal.length) c21 (T.ev_v rfl)) (fun _ => rfl) ⟨k4, [], _, _, _, _, rfl, h27⟩ ?_ ?_)
        · intro i30 x31 env t hk hI
          obtain ⟨k33, found, g22, g23, g24, g25, rfl, h⟩ := hI
          replace h := h28 i30 x31 hk found h
          change WP _ _ _ _ (At _ [some (.tape), some ((eT eR) goal), some (eN drawn), some ((eL eN) shut), some (eN goal.length), some ((eL eR) found), some (eN x31), g23, g24, g25] _)
          refine T.wp_seq (T.wp_set (T.ev_c (congrArg D.str str_empty)) ?_)
          change WP _ _ _ _ (At _ [some (.tape), some ((eT eR) goal), some (eN drawn), some ((eL eN) shut), some (eN goal.length), some ((eL eR) found), some (eN x31), some (eR ([] : Row)), g24, g25] _)
          obtain ⟨c34, h⟩ := h
          obtain ⟨c35, h⟩ := h
          obtain ⟨c36, h⟩ := h
          obtain ⟨I39, h40, h41, h42⟩ := h
          refine T.wp_seq (T.wp_for (e := eN) (xs := (List.range ((goal[0]!).length))) (ds := fun x44 => [eN x44]) (fun k env tz => Tape tz ∧ ∃ told : Row, ∃ g37 : Option D, ∃ g38 : Option D, env = [some (.tape), some ((eT eR) goal), some (eN drawn), some ((eL eN) shut), some (eN goal.length), some ((eL eR) found), some (eN x31), some (eR told), g37, g38] ∧ I39 k told) (T.it_range (n := (goal[0]!).length) c36 (T.ev_lenR (r := goal[0]!) c35 (T.ev_ixT (e := eR) (xs := goal) (i := 0) c34 (T.ev_v rfl) (T.ev_cN 0)))) (fun _ => rfl) ⟨k33, ([] : Row), _, _, rfl, h40⟩ ?_ ?_)
          · intro i43 x44 env t hk hI
            obtain ⟨k46, told, g37, g38, rfl, h⟩ := hI
            replace h := h41 i43 x44 hk told h
            change WP _ _ _ _ (At _ [some (.tape), some ((eT eR) goal), some (eN drawn), some ((eL eN) shut), some (eN goal.length), some ((eL eR) found), some (eN x31), some (eR told), some (eN x44), g38] _)
            obtain ⟨c47, h⟩ := h
            obtain ⟨any_1, t50, e51, k52, p53⟩ := T.er_post (m := orE (andE (binE inD (vE 6) (vE 3)) (binE inD (binE addD (vE 4) (vE 8)) (vE 3))) (andE (binE eqD (vE 2) (cE (.int 3))) (binE gtD (callE 2 m_law_taken (consA (vE 0) (consA (cE (.int 5)) (nilA)))) (cE (.int 0))))) (env := [some (.tape), some ((eT eR) goal), some (eN drawn), some ((eL eN) shut), some (eN goal.length), some ((eL eR) found), some (eN x31), some (eR told), some (eN x44), g38]) (tp := t) (T.er_orE (T.er_pure (e := eB) (v := (decide ((x31 ∈ shut) ∧ ((goal.length + x44) ∈ shut)))) k46 (T.ev_andE (P := (x31 ∈ shut)) (Q := ((goal.length + x44) ∈ shut)) (T.ev_inL (x := x31) (xs := shut) qN rfl (T.ev_v rfl) (T.ev_v rfl)) (fun hp => (T.ev_inL (x := (goal.length + x44)) (xs := shut) qN rfl (T.ev_add (x := goal.length) (y := x44) (T.ev_v rfl) (T.ev_v rfl)) (T.ev_v rfl))))) (fun _ w49 => T.er_andE (T.er_pure (e := eB) (v := (decide (drawn = 3))) w49 (T.ev_eq (x := drawn) (y := 3) qN rfl (T.ev_v rfl) (T.ev_cN 3))) (fun _ w48 => T.er_gt (T.er_call (e := eN) (T.ev_cons (T.ev_v rfl) (T.ev_cons (T.ev_cN 5) T.ev_nil)) rfl (t_law_taken (many := 5) w48 c47)) (fun _ => (T.ev_cN 0)))))
            replace h := h any_1 p53
            refine T.wp_seq (T.wp_set e51 ?_)
            change WP _ _ _ _ (At _ [some (.tape), some ((eT eR) goal), some (eN drawn), some ((eL eN) shut), some (eN goal.length), some ((eL eR) found), some (eN x31), some (eR told), some (eN x44), some (eB any_1)] _)
            obtain ⟨c55, h⟩ := h
            obtain ⟨c56, h⟩ := h
            obtain ⟨c57, h⟩ := h
            obtain ⟨any_2, t58, e59, k60, p61⟩ := T.er_post (m := ifE (boolE (vE 9)) (binE ixD (binE ixD (vE 1) (vE 6)) (vE 8)) (callE 2 m_law_pick (consA (vE 0) (consA (cE (.str "#.")) (nilA))))) (env := [some (.tape), some ((eT eR) goal), some (eN drawn), some ((eL eN) shut), some (eN goal.length), some ((eL eR) found), some (eN x31), some (eR told), some (eN x44), some (eB any_1)]) (tp := t50) (T.er_ifE k52 (T.ev_dec any_1 (T.ev_v rfl)) (fun _ => T.er_pure (e := eG) (v := (goal[x31]!)[x44]!) k52 (T.ev_ixR (r := goal[x31]!) (i := x44) c56 (T.ev_ixT (e := eR) (xs := goal) (i := x31) c55 (T.ev_v rfl) (T.ev_v rfl)) (T.ev_v rfl))) (fun _ => T.er_call (e := eG) (T.ev_cons (T.ev_v rfl) (T.ev_cons (T.ev_c (congrArg D.str (show ("#." : Str) = rowS [true, false] from by decide +kernel))) T.ev_nil)) rfl (t_law_pickR (xs := [true, false]) k52 c57)))
            replace h := h any_2 p61
            obtain ⟨c62, h⟩ := h
            obtain ⟨told_1, d63⟩ : ∃ told_1 : Row, told_1 = (told ++ [any_2]) := ⟨_, rfl⟩
            replace h := h told_1 d63
            refine T.wp_set (T.ev_as d63 (e := eR) (T.ev_catR (xs := told) (ys := [any_2]) c62 (T.ev_v rfl) e59)) ?_
            exact ⟨k60, told_1, _, _, rfl, h⟩
          rintro _ t64 ⟨k65, told, g37, g38, rfl, h⟩
          replace h := h42 told h
          change WP _ _ _ _ (At _ [some (.tape), some ((eT eR) goal), some (eN drawn), some ((eL eN) shut), some (eN goal.length), some ((eL eR) found), some (eN x31), some (eR told), g37, g38] _)
          obtain ⟨c66, h⟩ := h
          obtain ⟨found_1, d67⟩ : ∃ found_1 : (List Row), found_1 = (found ++ [told]) := ⟨_, rfl⟩
          replace h := h found_1 d67
          refine T.wp_app (e := eR) (xs := found) (x := told) rfl (T.ev_v rfl) c66 ?_
          rw [← d67]
          exact ⟨k65, found_1, _, _, _, _, rfl, h⟩
        rintro _ t68 ⟨k69, found, g22, g23, g24, g25, rfl, h⟩
        replace h := h29 found h
        change WP _ _ _ _ (At _ [some (.tape), some ((eT eR) goal), some (eN drawn), some ((eL eN) shut), some (eN goal.length), some ((eL eR) found), g22, g23, g24, g25] _)
        exact T.wp_ret (T.ev_tupleL (e := eR) (xs := found) (T.ev_v rfl)) ⟨k69, found, rfl, h⟩)
  exact ⟨_, t, e1, e2, q⟩
abbrev P_law_start (p : Pic) : Prop := PicP p
abbrev D_law_start (p q : Pic) : Prop := PicP q ∧ q.length = p.length ∧ q[0]!.length = p[0]!.length
theorem ok_law_start {p : Pic} (k : P_law_start p) : V_law_start p (D_law_start p) := by
  have h1 := k.h1; have h30 := k.h30; have w1 := k.w1; have w30 := k.w30
  refine ⟨⟨by omega, by omega⟩, fun d hd => ⟨fun _ => ⟨by omega, by omega, ⟨⟨h1, h30⟩, w1, w30⟩, fun q hq => hq⟩, fun _ => ⟨fun _ => ⟨⟨k, by omega⟩, fun ls hl => ⟨k, linesQ_pp k ls⟩⟩, fun _ => ⟨k, fun c hc => ⟨by omega, ?_⟩⟩⟩⟩⟩
  refine ⟨fun n f => f.length = n ∧ ∀ r ∈ f, r.length = p[0]!.length, ⟨rfl, fun r hr => by cases hr⟩, fun i x hx f hf => ?_, fun f hf => ?_⟩
  · obtain ⟨rfl, hi⟩ := range_get hx
    refine ⟨by omega, by omega, by omega, fun n t => t.length = n, rfl, fun j y hy t ht => ?_, fun t ht => ⟨by omega, fun g hg => ?_⟩⟩
    · obtain ⟨rfl, hj⟩ := range_get hy
      refine ⟨⟨by omega, by omega⟩, fun b _ => ⟨hi, by rw [k.get hi]; omega, ⟨by simp, by decide⟩, fun c _ => ⟨?_, fun u hu => ?_⟩⟩⟩
      · rw [List.length_singleton]; omega
      · show u.length = _
        rw [hu, List.length_append, List.length_singleton, ht]
    · subst hg
      refine ⟨by rw [List.length_append, List.length_singleton, hf.1], fun r hr => ?_⟩
      rcases List.mem_append.mp hr with hr | hr
      · exact hf.2 r hr
      · rw [List.mem_singleton.mp hr, ht, List.length_range]
  · rw [List.length_range] at hf
    have e : f[0]!.length = p[0]!.length := hf.2 _ (mem_get! (by omega))
    exact ⟨⟨fun r hr => by rw [e]; exact hf.2 r hr, by omega, by omega, by omega, by omega⟩, hf.1, e⟩
theorem t_law_start {goal : (List Row)} {tp : List D} (ht : Tape tp) (hP : P_law_start goal) : ∃ (r : (List Row)) (tp' : List D), m_law_start [.tape, (eT eR) goal] tp = .ok ((eT eR) r) tp' ∧ Tape tp' ∧ D_law_start goal r := snd_law_start goal (ok_law_start hP) ht
end W
set_option maxHeartbeats 1000000
namespace W
open PySem L2 G T
def V_part (picture : (List Row)) (lines : (List Nat)) (Q : (List Row) → Prop) : Prop := (P_need_picture picture) ∧ (P_need_lines picture lines) ∧ (lines.length ≤ 1000000) ∧ ∀ rows : (List Nat), rows = (lines.filter fun x3 => decide (x3 < picture.length)) → (lines.length ≤ 1000000) ∧ (∀ x6, x6 ∈ lines → (x6 ≥ picture.length) → (picture.length ≤ x6)) ∧ ∀ columns : (List Nat), columns = ((lines.filter fun x6 => decide (x6 ≥ picture.length)).map fun x6 => (x6 - picture.length)) → ((¬(rows = [])) ∧ (¬(columns = []))) ∧ (P_part_of picture rows columns) ∧ Q (F_part_of picture rows columns)
theorem snd_part (picture : (List Row)) (lines : (List Nat)) {Q : (List Row) → Prop} (h : V_part picture lines Q) (tp : List D) : ∃ r : (List Row), Q r ∧ m_part [(eT eR) picture, (eT eN) lines] tp = .ok ((eT eR) r) tp := by
  obtain ⟨d, t, e1, rfl, r, rfl, q⟩ := T.wp_def (n := 5) (s := b_part) (ds := [(eT eR) picture, (eT eN) lines]) (tp := tp) (Q := fun d t => t = tp ∧ ∃ r : (List Row), d = (eT eR) r ∧ Q r) (by
    unfold V_part at h
    change WP _ _ _ _ (b_part [some ((eT eR) picture), some ((eT eN) lines), none, none, none] _)
    unfold b_part
    obtain ⟨c1, h⟩ := h
    refine T.wp_seq (T.wp_drop (T.ev_call (T.ev_cons (T.ev_v rfl) T.ev_nil) rfl (t_need_picture c1 _)) ?_)
    change WP _ _ _ _ (At _ [some ((eT eR) picture), some ((eT eN) lines), none, none, none] _)
    obtain ⟨c2, h⟩ := h
    refine T.wp_seq (T.wp_drop (T.ev_call (T.ev_cons (T.ev_v rfl) (T.ev_cons (T.ev_v rfl) T.ev_nil)) rfl (t_need_lines c2 _)) ?_)
    change WP _ _ _ _ (At _ [some ((eT eR) picture), some ((eT eN) lines), none, none, none] _)
    obtain ⟨c4, h⟩ := h
    obtain ⟨rows, d5⟩ : ∃ rows : (List Nat), rows = (lines.filter fun x3 => decide (x3 < picture.length)) := ⟨_, rfl⟩
    replace h := h rows d5
    refine T.wp_seq (T.wp_set (T.ev_as d5 (e := (eL eN)) (T.ev_compI (e := eN) (xs := lines) (ds := fun x3 => [eN x3]) (P := fun x3 => (x3 < picture.length)) (T.it_T (e := eN) (xs := lines) (T.ev_v rfl)) c4 (fun _ => rfl) (fun x3 hx => (T.ev_bool (T.ev_lt (x := x3) (y := picture.length) (T.ev_v rfl) (T.ev_lenT (e := eR) (xs := picture) (T.ev_v rfl))))) (fun x3 hx hq => (T.ev_v rfl)))) ?_)
    change WP _ _ _ _ (At _ [some ((eT eR) picture), some ((eT eN) lines), some ((eL eN) rows), none, none] _)
    obtain ⟨c7, h⟩ := h
    obtain ⟨c9, h⟩ := h
    obtain ⟨columns, d10⟩ : ∃ columns : (List Nat), columns = ((lines.filter fun x6 => decide (x6 ≥ picture.length)).map fun x6 => (x6 - picture.length)) := ⟨_, rfl⟩
    replace h := h columns d10
    refine T.wp_seq (T.wp_set (T.ev_as d10 (e := (eL eN)) (T.ev_comp (e := eN) (e1 := eN) (xs := lines) (ds := fun x6 => [eN x6]) (g := fun x6 => (x6 - picture.length)) (P := fun x6 => (x6 ≥ picture.length)) (T.it_T (e := eN) (xs := lines) (T.ev_v rfl)) c7 (fun _ => rfl) (fun x6 hx => (T.ev_bool (T.ev_ge (x := x6) (y := picture.length) (T.ev_v rfl) (T.ev_lenT (e := eR) (xs := picture) (T.ev_v rfl))))) (fun x6 hx hq => have c8 := c9 x6 hx hq; (T.ev_sub (x := x6) (y := picture.length) c8 (T.ev_v rfl) (T.ev_lenT (e := eR) (xs := picture) (T.ev_v rfl)))))) ?_)
    change WP _ _ _ _ (At _ [some ((eT eR) picture), some ((eT eN) lines), some ((eL eN) rows), none, some ((eL eN) columns)] _)
    obtain ⟨hf, h⟩ := h
    refine T.wp_seq (T.wp_if (P := ((rows = []) ∨ (columns = []))) (T.ev_orT (P := (rows = [])) (Q := (columns = [])) (T.ev_bool (T.ev_eq (x := rows) (y := []) (qL qN) rfl (T.ev_v rfl) (T.ev_lst (ds := []) T.ev_nil rfl))) (fun hp => (T.ev_bool (T.ev_eq (x := columns) (y := []) (qL qN) rfl (T.ev_v rfl) (T.ev_lst (ds := []) T.ev_nil rfl))))) (fun hp => ?_) (fun hn => ?_))
    · exact absurd hp ((fun h0 => h0.elim ((hf).1) ((hf).2)))
    · refine T.wp_skip ?_
      change WP _ _ _ _ (At _ [some ((eT eR) picture), some ((eT eN) lines), some ((eL eN) rows), none, some ((eL eN) columns)] _)
      obtain ⟨c11, h⟩ := h
      exact T.wp_ret (T.ev_call (T.ev_cons (T.ev_v rfl) (T.ev_cons (T.ev_v rfl) (T.ev_cons (T.ev_v rfl) T.ev_nil))) rfl (t_part_of c11 _)) ⟨rfl, (F_part_of picture rows columns), rfl, h⟩)
  exact ⟨r, q, e1⟩
abbrev P_part (p : Pic) (ls : List Nat) : Prop := PicP p ∧ ls.length ≤ 1000 ∧ (∀ l ∈ ls, l < p.length + p[0]!.length) ∧ ls.Pairwise (· < ·) ∧ (∃ l ∈ ls, l < p.length) ∧ ∃ l ∈ ls, p.length ≤ l
def F_part (p : Pic) (ls : List Nat) : Pic := F_part_of p (ls.filter fun l => decide (l < p.length)) ((ls.filter fun l => decide (l ≥ p.length)).map fun l => l - p.length)
theorem ok_part {p : Pic} {ls : List Nat} (h : P_part p ls) : V_part p ls (· = F_part p ls) := by
  obtain ⟨k, l, h1, h2, ⟨a, a1, a2⟩, b, b1, b2⟩ := h
  refine ⟨k, ⟨k, l, h1, h2⟩, by omega, fun rows hr => ⟨by omega, fun _ _ h => h, fun cols hc => ?_⟩⟩
  subst hr hc
  refine ⟨⟨fun e => ?_, fun e => ?_⟩, ⟨k, ?_, ?_, fun i hi => ?_, fun j hj => ?_⟩, rfl⟩
  · have : a ∈ ls.filter fun l => decide (l < p.length) := List.mem_filter.mpr ⟨a1, decide_eq_true a2⟩
    rw [e] at this; cases this
  · have : b - p.length ∈ (ls.filter fun l => decide (l ≥ p.length)).map fun l => l - p.length := List.mem_map.mpr ⟨b, List.mem_filter.mpr ⟨b1, decide_eq_true b2⟩, rfl⟩
    rw [e] at this; cases this
  · have := len_filter_le (fun l => decide (l < p.length)) ls; omega
  · rw [List.length_map]; have := len_filter_le (fun l => decide (l ≥ p.length)) ls; omega
  · exact of_decide_eq_true (List.mem_filter.mp hi).2
  · obtain ⟨x, hx, rfl⟩ := List.mem_map.mp hj
    obtain ⟨x1, x2⟩ := List.mem_filter.mp hx
    have := h1 x x1
    have := of_decide_eq_true x2
    omega
theorem t_part {picture : (List Row)} {lines : (List Nat)} (hP : P_part picture lines) (tp : List D) : m_part [(eT eR) picture, (eT eN) lines] tp = .ok ((eT eR) (F_part picture lines)) tp := by
  obtain ⟨r, rfl, e⟩ := snd_part picture lines (ok_part hP) tp
  exact e
end W
set_option maxHeartbeats 1000000
namespace W
open PySem L2 G T
def V_is_free (picture : (List Row)) (Q : Bool → Prop) : Prop := (P_need_picture picture) ∧ (P_is_free_of picture) ∧ Q (F_is_free_of picture)
theorem snd_is_free (picture : (List Row)) {Q : Bool → Prop} (h : V_is_free picture Q) (tp : List D) : ∃ r : Bool, Q r ∧ m_is_free [(eT eR) picture] tp = .ok (eB r) tp := by
  obtain ⟨d, t, e1, rfl, r, rfl, q⟩ := T.wp_def (n := 1) (s := b_is_free) (ds := [(eT eR) picture]) (tp := tp) (Q := fun d t => t = tp ∧ ∃ r : Bool, d = eB r ∧ Q r) (by
    unfold V_is_free at h
    change WP _ _ _ _ (b_is_free [some ((eT eR) picture)] _)
    unfold b_is_free
    obtain ⟨c1, h⟩ := h
    refine T.wp_seq (T.wp_drop (T.ev_call (T.ev_cons (T.ev_v rfl) T.ev_nil) rfl (t_need_picture c1 _)) ?_)
    change WP _ _ _ _ (At _ [some ((eT eR) picture)] _)
    obtain ⟨c2, h⟩ := h
    exact T.wp_ret (T.ev_call (T.ev_cons (T.ev_v rfl) T.ev_nil) rfl (t_is_free_of c2 _)) ⟨rfl, (F_is_free_of picture), rfl, h⟩)
  exact ⟨r, q, e1⟩
abbrev P_is_free (p : Pic) : Prop := PicP p
abbrev F_is_free (p : Pic) : Bool := decide (coreQ p = [])
theorem ok_is_free {p : Pic} (k : P_is_free p) : V_is_free p (· = F_is_free p) := ⟨k, k, rfl⟩
theorem t_is_free {picture : (List Row)} (hP : P_is_free picture) (tp : List D) : m_is_free [(eT eR) picture] tp = .ok (eB (F_is_free picture)) tp := by
  obtain ⟨r, rfl, e⟩ := snd_is_free picture (ok_is_free hP) tp
  exact e
end W
set_option maxHeartbeats 1000000
namespace W
open PySem L2 G T
def V_least_lines (start : (List Row)) (goal : (List Row)) (Q : (List Nat) → Prop) : Prop := (P_need_way start goal) ∧ ∀ told : (List (List Nat)), told = (F_need_way start goal) → ((told.flatMap fun x3 => x3.map fun y4 => y4).length ≤ 1000000) ∧ Q (sortN (told.flatMap fun x3 => x3.map fun y4 => y4))
theorem snd_least_lines (start : (List Row)) (goal : (List Row)) {Q : (List Nat) → Prop} (h : V_least_lines start goal Q) (tp : List D) : ∃ r : (List Nat), Q r ∧ m_least_lines [(eT eR) start, (eT eR) goal] tp = .ok ((eT eN) r) tp := by
  obtain ⟨d, t, e1, rfl, r, rfl, q⟩ := T.wp_def (n := 5) (s := b_least_lines) (ds := [(eT eR) start, (eT eR) goal]) (tp := tp) (Q := fun d t => t = tp ∧ ∃ r : (List Nat), d = (eT eN) r ∧ Q r) (by
    unfold V_least_lines at h
    change WP _ _ _ _ (b_least_lines [some ((eT eR) start), some ((eT eR) goal), none, none, none] _)
    unfold b_least_lines
    obtain ⟨c1, h⟩ := h
    obtain ⟨told, d2⟩ : ∃ told : (List (List Nat)), told = (F_need_way start goal) := ⟨_, rfl⟩
    replace h := h told d2
    refine T.wp_seq (T.wp_set (T.ev_as d2 (e := (eL (eL eN))) (T.ev_call (T.ev_cons (T.ev_v rfl) (T.ev_cons (T.ev_v rfl) T.ev_nil)) rfl (t_need_way c1 _))) ?_)
    change WP _ _ _ _ (At _ [some ((eT eR) start), some ((eT eR) goal), some ((eL (eL eN)) told), none, none] _)
    obtain ⟨c5, h⟩ := h
    exact T.wp_ret (T.ev_tupleL (e := eN) (xs := (sortN (told.flatMap fun x3 => x3.map fun y4 => y4))) (T.ev_sortL (xs := (told.flatMap fun x3 => x3.map fun y4 => y4)) (T.ev_comp2Y (e := (eL eN)) (e1 := eN) (e2 := eN) (xs := told) (ds := fun x3 => [(eL eN) x3]) (ys := fun x3 => x3) (ds1 := fun y4 => [eN y4]) (g := fun x3 y4 => y4) (T.it_L (e := (eL eN)) (xs := told) (T.ev_v rfl)) (fun _ => rfl) (fun x3 hx => (T.it_L (e := eN) (xs := x3) (T.ev_v rfl))) (fun _ => rfl) (fun x3 hx y4 hy => (T.ev_v rfl)) c5))) ⟨rfl, (sortN (told.flatMap fun x3 => x3.map fun y4 => y4)), rfl, h⟩)
  exact ⟨r, q, e1⟩
abbrev P_least_lines (p q : Pic) : Prop := P_need_way p q
def F_least_lines (p q : Pic) : List Nat := sortN (F_need_way p q).flatten
theorem ok_least_lines {p q : Pic} (h : P_least_lines p q) : V_least_lines p q (· = F_least_lines p q) := by
  obtain ⟨k, T, hT⟩ := h
  refine ⟨⟨k, T, hT⟩, fun told ht => ?_⟩
  have e : told = T := ht.trans (need_way_eq hT)
  subst e
  rw [flat_id]
  have := least_len k hT
  have a := k.pp.h30
  have b := k.pp.w30
  refine ⟨by omega, ?_⟩
  unfold F_least_lines
  rw [need_way_eq hT]
theorem mem_least_lines {p q : Pic} {T : List (List Nat)} (hT : leastQ p q = some T) {l : Nat} : l ∈ F_least_lines p q ↔ l ∈ T.flatten := by
  unfold F_least_lines
  rw [need_way_eq hT, (sortN_perm _).mem_iff]
theorem len_least_lines {p q : Pic} {T : List (List Nat)} (hT : leastQ p q = some T) : (F_least_lines p q).length = T.flatten.length := by
  unfold F_least_lines
  rw [need_way_eq hT, (sortN_perm _).length_eq]
theorem t_least_lines {start : (List Row)} {goal : (List Row)} (hP : P_least_lines start goal) (tp : List D) : m_least_lines [(eT eR) start, (eT eR) goal] tp = .ok ((eT eN) (F_least_lines start goal)) tp := by
  obtain ⟨r, rfl, e⟩ := snd_least_lines start goal (ok_least_lines hP) tp
  exact e
end W
set_option maxHeartbeats 1000000
namespace W
open PySem L2 G T
def V_cells_to_mend (start : (List Row)) (goal : (List Row)) (Q : Nat → Prop) : Prop := (P_need_two start goal) ∧ (P_mended_start start goal) ∧ (P_differing start (F_mended_start start goal)) ∧ Q ((F_differing start (F_mended_start start goal)).length)
theorem snd_cells_to_mend (start : (List Row)) (goal : (List Row)) {Q : Nat → Prop} (h : V_cells_to_mend start goal Q) (tp : List D) : ∃ r : Nat, Q r ∧ m_cells_to_mend [(eT eR) start, (eT eR) goal] tp = .ok (eN r) tp := by
  obtain ⟨d, t, e1, rfl, r, rfl, q⟩ := T.wp_def (n := 2) (s := b_cells_to_mend) (ds := [(eT eR) start, (eT eR) goal]) (tp := tp) (Q := fun d t => t = tp ∧ ∃ r : Nat, d = eN r ∧ Q r) (by
    unfold V_cells_to_mend at h
    change WP _ _ _ _ (b_cells_to_mend [some ((eT eR) start), some ((eT eR) goal)] _)
    unfold b_cells_to_mend
    obtain ⟨c1, h⟩ := h
    refine T.wp_seq (T.wp_drop (T.ev_call (T.ev_cons (T.ev_v rfl) (T.ev_cons (T.ev_v rfl) T.ev_nil)) rfl (t_need_two c1 _)) ?_)
    change WP _ _ _ _ (At _ [some ((eT eR) start), some ((eT eR) goal)] _)
    obtain ⟨c2, h⟩ := h
    obtain ⟨c3, h⟩ := h
    exact T.wp_ret (T.ev_lenL (e := (eP eN eN)) (xs := (F_differing start (F_mended_start start goal))) (T.ev_call (T.ev_cons (T.ev_v rfl) (T.ev_cons (T.ev_call (T.ev_cons (T.ev_v rfl) (T.ev_cons (T.ev_v rfl) T.ev_nil)) rfl (t_mended_start c2 _)) T.ev_nil)) rfl (t_differing c3 _))) ⟨rfl, (F_differing start (F_mended_start start goal)).length, rfl, h⟩)
  exact ⟨r, q, e1⟩
abbrev P_cells_to_mend (p q : Pic) : Prop := Like p q
abbrev F_cells_to_mend (p q : Pic) : Nat := (diffQ p (F_mended_start p q)).length
theorem ok_cells_to_mend {p q : Pic} (k : P_cells_to_mend p q) : V_cells_to_mend p q (· = F_cells_to_mend p q) := by
  have m := mend_like k
  exact ⟨⟨k.pp, k.qq, k.hh, k.ww⟩, k, ⟨k.pp, m.pp, k.hh.trans m.hh.symm, k.ww.trans m.ww.symm⟩, rfl⟩
theorem t_cells_to_mend {start : (List Row)} {goal : (List Row)} (hP : P_cells_to_mend start goal) (tp : List D) : m_cells_to_mend [(eT eR) start, (eT eR) goal] tp = .ok (eN (F_cells_to_mend start goal)) tp := by
  obtain ⟨r, rfl, e⟩ := snd_cells_to_mend start goal (ok_cells_to_mend hP) tp
  exact e
end W
set_option maxHeartbeats 1000000
namespace W
open PySem L2 G T
def V_law : Prop := (P_law_picture 10) ∧ ∀ picture : (List Row), (D_law_picture 10 picture) → (P_law_start picture) ∧ ∀ start : (List Row), (D_law_start picture start) → (0 < picture.length) ∧ ((picture[0]!).length ≤ 1000000) ∧ ∀ wide : Nat, wide = (picture[0]!).length → (picture.length ≤ 16777216) ∧ ((List.range picture.length).length ≤ 10000) ∧ ∀ mixed : (List Nat), (mixed.Perm (List.range picture.length)) → (P_law_taken picture.length) ∧ ∀ drawn : Nat, (D_law_taken picture.length drawn) → ∀ some_ : (List Nat), some_ = (sortN (mixed.take (1 + drawn))) → (wide ≤ 16777216) ∧ ((List.range wide).length ≤ 10000) ∧ ∀ mixed_1 : (List Nat), (mixed_1.Perm (List.range wide)) → (P_law_taken wide) ∧ ∀ drawn_1 : Nat, (D_law_taken wide drawn_1) → ∀ side : (List Nat), side = (sortN (mixed_1.take (1 + drawn_1))) → (side.length ≤ 1000000) ∧ (some_.length + (side.map fun x38 => (picture.length + x38)).length ≤ 1000000) ∧ ∀ lines : (List Nat), lines = (some_ ++ (side.map fun x38 => (picture.length + x38))) → (P_part start lines) ∧ (P_part picture lines) ∧ ∀ one : (List Row), one = (F_part start lines) → ∀ other : (List Row), other = (F_part picture lines) → (P_differences one other) ∧ (P_differences start picture) ∧ (¬((F_differences one other).length > (F_differences start picture).length) → (P_count_rounds other) ∧ (P_count_rounds picture)) ∧ ((¬((F_differences one other).length > (F_differences start picture).length)) ∧ (¬((F_count_rounds other) > (F_count_rounds picture)))) ∧ (P_is_free picture) ∧ (((F_is_free picture) = true) → (P_is_free other) ∧ (¬((F_is_free other) ≠ true) → (P_round_of_four other))) ∧ (¬(((F_is_free picture) = true) ∧ (((F_is_free other) ≠ true) ∨ ((F_round_of_four other) ≠ none)))) ∧ (P_comes start picture) ∧ ∃ J58 : Prop, (((F_comes start picture) = true) → (P_comes one other) ∧ (¬((F_comes one other) ≠ true) → (P_fewest one other) ∧ (P_fewest start picture) ∧ ((F_fewest one other) ≠ none) ∧ ((F_fewest start picture) ≠ none)) ∧ (((F_comes one other) = true) ∧ (¬(((F_fewest one other).getD default) > ((F_fewest start picture).getD default)))) ∧ (P_least_lines start picture) ∧ ((F_least_lines start picture).length ≤ 1000000) ∧ (∀ x69, x69 ∈ (F_least_lines start picture) → (x69 ∈ lines) → (x69 ∈ lines)) ∧ ∀ inside : (List Nat), inside = (((F_least_lines start picture).filter fun x69 => decide (x69 ∈ lines)).map fun x69 => (lines.idxOf x69)) → (P_least_lines one other) ∧ ((F_least_lines one other).length ≤ 1000000) ∧ (((F_least_lines one other).filter fun x75 => decide (x75 ∉ inside)) = []) ∧ J58) ∧ (¬((F_comes start picture) = true) → J58) ∧ (J58 → (P_cells_to_mend one other) ∧ (P_cells_to_mend start picture) ∧ (¬((F_cells_to_mend one other) > (F_cells_to_mend start picture)) → (P_core other) ∧ ((F_core other).length ≤ 1000000) ∧ (∀ x82, x82 ∈ (F_core other) → (x82 < lines.length) ∧ (P_core picture))) ∧ ((¬((F_cells_to_mend one other) > (F_cells_to_mend start picture))) ∧ (((F_core other).filter fun x82 => decide (lines[x82]! ∉ (F_core picture))) = [])) ∧ (lines.length ≤ 1073741824) ∧ ∃ I92 : Nat → Prop, I92 0 ∧ (∀ (i96 : Nat) (x97 : Nat), (List.range lines.length)[i96]? = some x97 → I92 i96 → (x97 < lines.length) ∧ (P_level picture (lines[x97]!)) ∧ (P_level other x97) ∧ ∀ whole : (Option Nat), whole = (F_level picture (lines[x97]!)) → ∀ less : (Option Nat), less = (F_level other x97) → ((whole ≠ none) → (¬(less = none) → (less ≠ none) ∧ (whole ≠ none))) ∧ (¬((whole ≠ none) ∧ ((less = none) ∨ ((less.getD default) > (whole.getD default))))) ∧ I92 (i96 + 1)) ∧ (I92 (List.range lines.length).length → (lines.length ≤ 16777216) ∧ (P_part one (List.range lines.length)) ∧ (((F_part one (List.range lines.length)) = one) → (P_comes other other)) ∧ (((F_part one (List.range lines.length)) = one) ∧ ((F_comes other other) = true))))
theorem snd_law (h : V_law) (ns : List Int) (hns : ns.length ≤ 63) : ∃ tp', retR (b_law (some (.scr ns) :: some .tape :: List.replicate 15 none) [.scr ns, .int 0, .int 5384, .int 0]) = .ok (.bl true) tp' := by
  have ht := tape0 ns 5384 hns (by decide) (by decide)
  generalize [D.scr ns, D.int 0, D.int 5384, D.int 0] = tp at ht ⊢
  refine T.wp_law ?_
  unfold V_law at h
  change WP _ _ _ _ (b_law [some (.scr ns), some (.tape), none, none, none, none, none, none, none, none, none, none, none, none, none, none, none] _)
  unfold b_law
  obtain ⟨c1, h⟩ := h
  obtain ⟨picture, t2, e3, k4, p5⟩ := t_law_picture ht c1
  replace h := h picture p5
  refine T.wp_seq (T.wp_set (T.ev_call (T.ev_cons (T.ev_v rfl) (T.ev_cons (T.ev_cN 10) T.ev_nil)) rfl e3) ?_)
  change WP _ _ _ _ (At _ [some (.scr ns), some (.tape), some ((eT eR) picture), none, none, none, none, none, none, none, none, none, none, none, none, none, none] _)
  obtain ⟨c6, h⟩ := h
  obtain ⟨start, t7, e8, k9, p10⟩ := t_law_start k4 c6
  replace h := h start p10
  obtain ⟨c11, h⟩ := h
  obtain ⟨c12, h⟩ := h
  obtain ⟨wide, d13⟩ : ∃ wide : Nat, wide = (picture[0]!).length := ⟨_, rfl⟩
  replace h := h wide d13
  refine T.wp_seq (T.wp_par (T.ev_cons (T.ev_call (T.ev_cons (T.ev_v rfl) (T.ev_cons (T.ev_v rfl) T.ev_nil)) rfl e8) (T.ev_cons (T.ev_lenT (e := eR) (xs := picture) (T.ev_v rfl)) (T.ev_cons (T.ev_as d13 (e := eN) (T.ev_lenR (r := picture[0]!) c12 (T.ev_ixT (e := eR) (xs := picture) (i := 0) c11 (T.ev_v rfl) (T.ev_cN 0)))) T.ev_nil))) rfl ?_)
  change WP _ _ _ _ (At _ [some (.scr ns), some (.tape), some ((eT eR) picture), some ((eT eR) start), some (eN picture.length), some (eN wide), none, none, none, none, none, none, none, none, none, none, none] _)
  obtain ⟨c14, h⟩ := h
  obtain ⟨c15, h⟩ := h
  obtain ⟨mixed, t16, e17, k18, p19⟩ := t_law_mixedL (xs := (List.range picture.length)) (e := eN) k9 c15
  replace h := h mixed p19
  obtain ⟨c20, h⟩ := h
  obtain ⟨drawn, t21, e22, k23, p24⟩ := t_law_taken k18 c20
  replace h := h drawn p24
  obtain ⟨some_, d25⟩ : ∃ some_ : (List Nat), some_ = (sortN (mixed.take (1 + drawn))) := ⟨_, rfl⟩
  replace h := h some_ d25
  refine T.wp_seq (T.wp_set (T.ev_as d25 (e := (eL eN)) (T.ev_sortL (xs := (mixed.take (1 + drawn))) (T.ev_toL (e := eN) (xs := mixed) (k := (1 + drawn)) (T.ev_call (T.ev_cons (T.ev_v rfl) (T.ev_cons (T.ev_rg1L (n := picture.length) c14 (T.ev_v rfl)) T.ev_nil)) rfl e17) (T.ev_add (x := 1) (y := drawn) (T.ev_cN 1) (T.ev_call (T.ev_cons (T.ev_v rfl) (T.ev_cons (T.ev_v rfl) T.ev_nil)) rfl e22))))) ?_)
  change WP _ _ _ _ (At _ [some (.scr ns), some (.tape), some ((eT eR) picture), some ((eT eR) start), some (eN picture.length), some (eN wide), some ((eL eN) some_), none, none, none, none, none, none, none, none, none, none] _)
  obtain ⟨c26, h⟩ := h
  obtain ⟨c27, h⟩ := h
  obtain ⟨mixed_1, t28, e29, k30, p31⟩ := t_law_mixedL (xs := (List.range wide)) (e := eN) k23 c27
  replace h := h mixed_1 p31
  obtain ⟨c32, h⟩ := h
  obtain ⟨drawn_1, t33, e34, k35, p36⟩ := t_law_taken k30 c32
  replace h := h drawn_1 p36
  obtain ⟨side, d37⟩ : ∃ side : (List Nat), side = (sortN (mixed_1.take (1 + drawn_1))) := ⟨_, rfl⟩
  replace h := h side d37
  refine T.wp_seq (T.wp_set (T.ev_as d37 (e := (eL eN)) (T.ev_sortL (xs := (mixed_1.take (1 + drawn_1))) (T.ev_toL (e := eN) (xs := mixed_1) (k := (1 + drawn_1)) (T.ev_call (T.ev_cons (T.ev_v rfl) (T.ev_cons (T.ev_rg1L (n := wide) c26 (T.ev_v rfl)) T.ev_nil)) rfl e29) (T.ev_add (x := 1) (y := drawn_1) (T.ev_cN 1) (T.ev_call (T.ev_cons (T.ev_v rfl) (T.ev_cons (T.ev_v rfl) T.ev_nil)) rfl e34))))) ?_)
  change WP _ _ _ _ (At _ [some (.scr ns), some (.tape), some ((eT eR) picture), some ((eT eR) start), some (eN picture.length), some (eN wide), some ((eL eN) some_), some ((eL eN) side), none, none, none, none, none, none, none, none, none] _)
  obtain ⟨c39, h⟩ := h
  obtain ⟨c40, h⟩ := h
  obtain ⟨lines, d41⟩ : ∃ lines : (List Nat), lines = (some_ ++ (side.map fun x38 => (picture.length + x38))) := ⟨_, rfl⟩
  replace h := h lines d41
  refine T.wp_seq (T.wp_set (T.ev_as d41 (e := (eQ eN)) (T.ev_tupleQ (e := eN) (xs := (some_ ++ (side.map fun x38 => (picture.length + x38)))) (T.ev_catL (e := eN) (xs := some_) (ys := (side.map fun x38 => (picture.length + x38))) c40 (T.ev_v rfl) (T.ev_compY (e := eN) (e1 := eN) (xs := side) (ds := fun x38 => [eN x38]) (g := fun x38 => (picture.length + x38)) (T.it_L (e := eN) (xs := side) (T.ev_v rfl)) c39 (fun _ => rfl) (fun x38 hx => (T.ev_add (x := picture.length) (y := x38) (T.ev_v rfl) (T.ev_v rfl))))))) ?_)
  change WP _ _ _ _ (At _ [some (.scr ns), some (.tape), some ((eT eR) picture), some ((eT eR) start), some (eN picture.length), some (eN wide), some ((eL eN) some_), some ((eL eN) side), some ((eQ eN) lines), none, none, none, none, none, none, none, none] _)
  obtain ⟨c42, h⟩ := h
  obtain ⟨c43, h⟩ := h
  obtain ⟨one, d44⟩ : ∃ one : (List Row), one = (F_part start lines) := ⟨_, rfl⟩
  replace h := h one d44
  obtain ⟨other, d45⟩ : ∃ other : (List Row), other = (F_part picture lines) := ⟨_, rfl⟩
  replace h := h other d45
  refine T.wp_seq (T.wp_par (T.ev_cons (T.ev_as d44 (e := (eT eR)) (T.ev_call (T.ev_cons (T.ev_v rfl) (T.ev_cons (T.ev_unq (e := eN) (xs := lines) (T.ev_v rfl)) T.ev_nil)) rfl (t_part c42 _))) (T.ev_cons (T.ev_as d45 (e := (eT eR)) (T.ev_call (T.ev_cons (T.ev_v rfl) (T.ev_cons (T.ev_unq (e := eN) (xs := lines) (T.ev_v rfl)) T.ev_nil)) rfl (t_part c43 _))) T.ev_nil)) rfl ?_)
  change WP _ _ _ _ (At _ [some (.scr ns), some (.tape), some ((eT eR) picture), some ((eT eR) start), some (eN picture.length), some (eN wide), some ((eL eN) some_), some ((eL eN) side), some ((eQ eN) lines), none, some ((eT eR) one), some ((eT eR) other), none, none, none, none, none] _)
  obtain ⟨c46, h⟩ := h
  obtain ⟨c47, h⟩ := h
  obtain ⟨c50, h⟩ := h
  obtain ⟨hf, h⟩ := h
  refine T.wp_seq (T.wp_if (P := (((F_differences one other).length > (F_differences start picture).length) ∨ ((F_count_rounds other) > (F_count_rounds picture)))) (T.ev_orT (P := ((F_differences one other).length > (F_differences start picture).length)) (Q := ((F_count_rounds other) > (F_count_rounds picture))) (T.ev_bool (T.ev_gt (x := (F_differences one other).length) (y := (F_differences start picture).length) (T.ev_lenL (e := (eP eN eN)) (xs := (F_differences one other)) (T.ev_call (T.ev_cons (T.ev_v rfl) (T.ev_cons (T.ev_v rfl) T.ev_nil)) rfl (t_differences c46 _))) (T.ev_lenL (e := (eP eN eN)) (xs := (F_differences start picture)) (T.ev_call (T.ev_cons (T.ev_v rfl) (T.ev_cons (T.ev_v rfl) T.ev_nil)) rfl (t_differences c47 _))))) (fun hp => match c50 hp with | ⟨c48, c49⟩ => (T.ev_bool (T.ev_gt (x := (F_count_rounds other)) (y := (F_count_rounds picture)) (T.ev_call (T.ev_cons (T.ev_v rfl) T.ev_nil) rfl (t_count_rounds c48 _)) (T.ev_call (T.ev_cons (T.ev_v rfl) T.ev_nil) rfl (t_count_rounds c49 _)))))) (fun hp => ?_) (fun hn => ?_))
  · exact absurd hp ((fun h0 => h0.elim ((hf).1) ((hf).2)))
  · refine T.wp_skip ?_
    change WP _ _ _ _ (At _ [some (.scr ns), some (.tape), some ((eT eR) picture), some ((eT eR) start), some (eN picture.length), some (eN wide), some ((eL eN) some_), some ((eL eN) side), some ((eQ eN) lines), none, some ((eT eR) one), some ((eT eR) other), none, none, none, none, none] _)
    obtain ⟨c51, h⟩ := h
    obtain ⟨c55, h⟩ := h
    obtain ⟨hf, h⟩ := h
    refine T.wp_seq (T.wp_if (P := (((F_is_free picture) = true) ∧ (((F_is_free other) ≠ true) ∨ ((F_round_of_four other) ≠ none)))) (T.ev_andT (P := ((F_is_free picture) = true)) (Q := (((F_is_free other) ≠ true) ∨ ((F_round_of_four other) ≠ none))) (T.ev_dec (F_is_free picture) (T.ev_call (T.ev_cons (T.ev_v rfl) T.ev_nil) rfl (t_is_free c51 _))) (fun hp => match c55 hp with | ⟨c52, c54⟩ => (T.ev_orT (P := ((F_is_free other) ≠ true)) (Q := ((F_round_of_four other) ≠ none)) (T.ev_bool (T.ev_isNotB (x := (F_is_free other)) (y := true) (T.ev_call (T.ev_cons (T.ev_v rfl) T.ev_nil) rfl (t_is_free c52 _)) (T.ev_c rfl))) (fun hp => have c53 := c54 hp; (T.ev_bool (T.ev_isNotNon (x := (F_round_of_four other)) (fun _ => rfl) (T.ev_call (T.ev_cons (T.ev_v rfl) T.ev_nil) rfl (t_round_of_four c53 _)) (T.ev_c rfl))))))) (fun hp => ?_) (fun hn => ?_))
    · exact absurd hp (hf)
    · refine T.wp_skip ?_
      change WP _ _ _ _ (At _ [some (.scr ns), some (.tape), some ((eT eR) picture), some ((eT eR) start), some (eN picture.length), some (eN wide), some ((eL eN) some_), some ((eL eN) side), some ((eQ eN) lines), none, some ((eT eR) one), some ((eT eR) other), none, none, none, none, none] _)
      obtain ⟨c56, h⟩ := h
      obtain ⟨J58, h59, h60, h61⟩ := h
      refine T.wp_seq (T.wp_ifJ (P := ((F_comes start picture) = true)) (J := fun env tz => Tape tz ∧ ∃ g57 : Option D, env = [some (.scr ns), some (.tape), some ((eT eR) picture), some ((eT eR) start), some (eN picture.length), some (eN wide), some ((eL eN) some_), some ((eL eN) side), some ((eQ eN) lines), none, some ((eT eR) one), some ((eT eR) other), g57, none, none, none, none] ∧ J58) (T.ev_dec (F_comes start picture) (T.ev_call (T.ev_cons (T.ev_v rfl) (T.ev_cons (T.ev_v rfl) T.ev_nil)) rfl (t_comes c56 _))) (fun hp => ?_) (fun hn => ?_) ?_)
      · replace h := h59 hp
        obtain ⟨c62, h⟩ := h
        obtain ⟨c67, h⟩ := h
        obtain ⟨hf, h⟩ := h
        refine T.wp_seq (T.wp_if (P := (((F_comes one other) ≠ true) ∨ (((F_fewest one other).getD default) > ((F_fewest start picture).getD default)))) (T.ev_orT (P := ((F_comes one other) ≠ true)) (Q := (((F_fewest one other).getD default) > ((F_fewest start picture).getD default))) (T.ev_bool (T.ev_isNotB (x := (F_comes one other)) (y := true) (T.ev_call (T.ev_cons (T.ev_v rfl) (T.ev_cons (T.ev_v rfl) T.ev_nil)) rfl (t_comes c62 _)) (T.ev_c rfl))) (fun hp => match c67 hp with | ⟨c63, c64, c65, c66⟩ => (T.ev_bool (T.ev_gt (x := ((F_fewest one other).getD default)) (y := ((F_fewest start picture).getD default)) (T.ev_get (e := eN) (x := (F_fewest one other)) c65 (T.ev_call (T.ev_cons (T.ev_v rfl) (T.ev_cons (T.ev_v rfl) T.ev_nil)) rfl (t_fewest c63 _))) (T.ev_get (e := eN) (x := (F_fewest start picture)) c66 (T.ev_call (T.ev_cons (T.ev_v rfl) (T.ev_cons (T.ev_v rfl) T.ev_nil)) rfl (t_fewest c64 _))))))) (fun hp => ?_) (fun hn => ?_))
        · exact absurd hp ((fun h0 => h0.elim ((fun h0 => h0 ((hf).1))) ((hf).2)))
        · refine T.wp_skip ?_
          change WP _ _ _ _ (At _ [some (.scr ns), some (.tape), some ((eT eR) picture), some ((eT eR) start), some (eN picture.length), some (eN wide), some ((eL eN) some_), some ((eL eN) side), some ((eQ eN) lines), none, some ((eT eR) one), some ((eT eR) other), none, none, none, none, none] _)
          obtain ⟨c68, h⟩ := h
          obtain ⟨c70, h⟩ := h
          obtain ⟨c72, h⟩ := h
          obtain ⟨inside, d73⟩ : ∃ inside : (List Nat), inside = (((F_least_lines start picture).filter fun x69 => decide (x69 ∈ lines)).map fun x69 => (lines.idxOf x69)) := ⟨_, rfl⟩
          replace h := h inside d73
          refine T.wp_seq (T.wp_set (T.ev_as d73 (e := (eL eN)) (T.ev_comp (e := eN) (e1 := eN) (xs := (F_least_lines start picture)) (ds := fun x69 => [eN x69]) (g := fun x69 => (lines.idxOf x69)) (P := fun x69 => (x69 ∈ lines)) (T.it_T (e := eN) (xs := (F_least_lines start picture)) (T.ev_call (T.ev_cons (T.ev_v rfl) (T.ev_cons (T.ev_v rfl) T.ev_nil)) rfl (t_least_lines c68 _))) c70 (fun _ => rfl) (fun x69 hx => (T.ev_bool (T.ev_inT (x := x69) (xs := lines) qN rfl (T.ev_v rfl) (T.ev_unq (e := eN) (xs := lines) (T.ev_v rfl))))) (fun x69 hx hq => have c71 := c72 x69 hx hq; (T.ev_indexT (xs := lines) (x := x69) c71 (T.ev_v rfl) (T.ev_v rfl))))) ?_)
          change WP _ _ _ _ (At _ [some (.scr ns), some (.tape), some ((eT eR) picture), some ((eT eR) start), some (eN picture.length), some (eN wide), some ((eL eN) some_), some ((eL eN) side), some ((eQ eN) lines), none, some ((eT eR) one), some ((eT eR) other), some ((eL eN) inside), none, none, none, none] _)
          obtain ⟨c74, h⟩ := h
          obtain ⟨c76, h⟩ := h
          obtain ⟨hf, h⟩ := h
          refine T.wp_if (P := (((F_least_lines one other).filter fun x75 => decide (x75 ∉ inside)) ≠ [])) (T.ev_bool (T.ev_ne (x := ((F_least_lines one other).filter fun x75 => decide (x75 ∉ inside))) (y := []) (qL qN) rfl (T.ev_compI (e := eN) (xs := (F_least_lines one other)) (ds := fun x75 => [eN x75]) (P := fun x75 => (x75 ∉ inside)) (T.it_T (e := eN) (xs := (F_least_lines one other)) (T.ev_call (T.ev_cons (T.ev_v rfl) (T.ev_cons (T.ev_v rfl) T.ev_nil)) rfl (t_least_lines c74 _))) c76 (fun _ => rfl) (fun x75 hx => (T.ev_bool (T.ev_ninL (x := x75) (xs := inside) qN rfl (T.ev_v rfl) (T.ev_v rfl)))) (fun x75 hx hq => (T.ev_v rfl))) (T.ev_lst (ds := []) T.ev_nil rfl))) (fun hp => ?_) (fun hn => ?_)
          · exact absurd hp ((fun h0 => h0 (hf)))
          · refine T.wp_skip ?_
            exact ⟨k35, _, rfl, h⟩
      · replace h := h60 hn
        refine T.wp_skip ?_
        exact ⟨k35, _, rfl, h⟩
      rintro _ t77 ⟨k78, g57, rfl, h⟩
      replace h := h61 h
      change WP _ _ _ _ (At _ [some (.scr ns), some (.tape), some ((eT eR) picture), some ((eT eR) start), some (eN picture.length), some (eN wide), some ((eL eN) some_), some ((eL eN) side), some ((eQ eN) lines), none, some ((eT eR) one), some ((eT eR) other), g57, none, none, none, none] _)
      obtain ⟨c79, h⟩ := h
      obtain ⟨c80, h⟩ := h
      obtain ⟨c87, h⟩ := h
      obtain ⟨hf, h⟩ := h
      refine T.wp_seq (T.wp_if (P := (((F_cells_to_mend one other) > (F_cells_to_mend start picture)) ∨ (((F_core other).filter fun x82 => decide (lines[x82]! ∉ (F_core picture))) ≠ []))) (T.ev_orT (P := ((F_cells_to_mend one other) > (F_cells_to_mend start picture))) (Q := (((F_core other).filter fun x82 => decide (lines[x82]! ∉ (F_core picture))) ≠ [])) (T.ev_bool (T.ev_gt (x := (F_cells_to_mend one other)) (y := (F_cells_to_mend start picture)) (T.ev_call (T.ev_cons (T.ev_v rfl) (T.ev_cons (T.ev_v rfl) T.ev_nil)) rfl (t_cells_to_mend c79 _)) (T.ev_call (T.ev_cons (T.ev_v rfl) (T.ev_cons (T.ev_v rfl) T.ev_nil)) rfl (t_cells_to_mend c80 _)))) (fun hp => match c87 hp with | ⟨c81, c83, c86⟩ => (T.ev_bool (T.ev_ne (x := ((F_core other).filter fun x82 => decide (lines[x82]! ∉ (F_core picture)))) (y := []) (qL qN) rfl (T.ev_compI (e := eN) (xs := (F_core other)) (ds := fun x82 => [eN x82]) (P := fun x82 => (lines[x82]! ∉ (F_core picture))) (T.it_T (e := eN) (xs := (F_core other)) (T.ev_call (T.ev_cons (T.ev_v rfl) T.ev_nil) rfl (t_core c81 _))) c83 (fun _ => rfl) (fun x82 hx => match c86 x82 hx with | ⟨c84, c85⟩ => (T.ev_bool (T.ev_ninT (x := lines[x82]!) (xs := (F_core picture)) qN rfl (T.ev_ixT (e := eN) (xs := lines) (i := x82) c84 (T.ev_unq (e := eN) (xs := lines) (T.ev_v rfl)) (T.ev_v rfl)) (T.ev_call (T.ev_cons (T.ev_v rfl) T.ev_nil) rfl (t_core c85 _))))) (fun x82 hx hq => (T.ev_v rfl))) (T.ev_lst (ds := []) T.ev_nil rfl))))) (fun hp => ?_) (fun hn => ?_))
      · exact absurd hp ((fun h0 => h0.elim ((hf).1) ((fun h0 => h0 ((hf).2)))))
      · refine T.wp_skip ?_
        change WP _ _ _ _ (At _ [some (.scr ns), some (.tape), some ((eT eR) picture), some ((eT eR) start), some (eN picture.length), some (eN wide), some ((eL eN) some_), some ((eL eN) side), some ((eQ eN) lines), none, some ((eT eR) one), some ((eT eR) other), g57, none, none, none, none] _)
        obtain ⟨c88, h⟩ := h
        obtain ⟨I92, h93, h94, h95⟩ := h
        refine T.wp_seq (T.wp_for (e := eN) (xs := (List.range lines.length)) (ds := fun x97 => [eN x97]) (fun k env tz => Tape tz ∧ ∃ g89 : Option D, ∃ g90 : Option D, ∃ g91 : Option D, env = [some (.scr ns), some (.tape), some ((eT eR) picture), some ((eT eR) start), some (eN picture.length), some (eN wide), some ((eL eN) some_), some ((eL eN) side), some ((eQ eN) lines), none, some ((eT eR) one), some ((eT eR) other), g57, none, g89, g90, g91] ∧ I92 k) (T.it_range (n := lines.length) c88 (T.ev_lenT (e := eN) (xs := lines) (T.ev_unq (e := eN) (xs := lines) (T.ev_v rfl)))) (fun _ => rfl) ⟨k78, _, _, _, rfl, h93⟩ ?_ ?_)
        · intro i96 x97 env t hk hI
          obtain ⟨k99, g89, g90, g91, rfl, h⟩ := hI
          replace h := h94 i96 x97 hk h
          change WP _ _ _ _ (At _ [some (.scr ns), some (.tape), some ((eT eR) picture), some ((eT eR) start), some (eN picture.length), some (eN wide), some ((eL eN) some_), some ((eL eN) side), some ((eQ eN) lines), none, some ((eT eR) one), some ((eT eR) other), g57, none, some (eN x97), g90, g91] _)
          obtain ⟨c100, h⟩ := h
          obtain ⟨c101, h⟩ := h
          obtain ⟨c102, h⟩ := h
          obtain ⟨whole, d103⟩ : ∃ whole : (Option Nat), whole = (F_level picture (lines[x97]!)) := ⟨_, rfl⟩
          replace h := h whole d103
          obtain ⟨less, d104⟩ : ∃ less : (Option Nat), less = (F_level other x97) := ⟨_, rfl⟩
          replace h := h less d104
          refine T.wp_seq (T.wp_par (T.ev_cons (T.ev_as d103 (e := (eO eN)) (T.ev_call (T.ev_cons (T.ev_v rfl) (T.ev_cons (T.ev_ixT (e := eN) (xs := lines) (i := x97) c100 (T.ev_unq (e := eN) (xs := lines) (T.ev_v rfl)) (T.ev_v rfl)) T.ev_nil)) rfl (t_level c101 _))) (T.ev_cons (T.ev_as d104 (e := (eO eN)) (T.ev_call (T.ev_cons (T.ev_v rfl) (T.ev_cons (T.ev_v rfl) T.ev_nil)) rfl (t_level c102 _))) T.ev_nil)) rfl ?_)
          change WP _ _ _ _ (At _ [some (.scr ns), some (.tape), some ((eT eR) picture), some ((eT eR) start), some (eN picture.length), some (eN wide), some ((eL eN) some_), some ((eL eN) side), some ((eQ eN) lines), none, some ((eT eR) one), some ((eT eR) other), g57, none, some (eN x97), some ((eO eN) whole), some ((eO eN) less)] _)
          obtain ⟨c108, h⟩ := h
          obtain ⟨hf, h⟩ := h
          refine T.wp_if (P := ((whole ≠ none) ∧ ((less = none) ∨ ((less.getD default) > (whole.getD default))))) (T.ev_andT (P := (whole ≠ none)) (Q := ((less = none) ∨ ((less.getD default) > (whole.getD default)))) (T.ev_bool (T.ev_isNotNon (x := whole) (fun _ => rfl) (T.ev_v rfl) (T.ev_c rfl))) (fun hp => have c107 := c108 hp; (T.ev_orT (P := (less = none)) (Q := ((less.getD default) > (whole.getD default))) (T.ev_bool (T.ev_isNon (x := less) (fun _ => rfl) (T.ev_v rfl) (T.ev_c rfl))) (fun hp => match c107 hp with | ⟨c105, c106⟩ => (T.ev_bool (T.ev_gt (x := (less.getD default)) (y := (whole.getD default)) (T.ev_get (e := eN) (x := less) c105 (T.ev_v rfl)) (T.ev_get (e := eN) (x := whole) c106 (T.ev_v rfl)))))))) (fun hp => ?_) (fun hn => ?_)
          · exact absurd hp (hf)
          · refine T.wp_skip ?_
            exact ⟨k99, _, _, _, rfl, h⟩
        rintro _ t109 ⟨k110, g89, g90, g91, rfl, h⟩
        replace h := h95 h
        change WP _ _ _ _ (At _ [some (.scr ns), some (.tape), some ((eT eR) picture), some ((eT eR) start), some (eN picture.length), some (eN wide), some ((eL eN) some_), some ((eL eN) side), some ((eQ eN) lines), none, some ((eT eR) one), some ((eT eR) other), g57, none, g89, g90, g91] _)
        obtain ⟨c111, h⟩ := h
        obtain ⟨c112, h⟩ := h
        obtain ⟨c114, h⟩ := h
        exact T.wp_ret (d := .bl true) (Eq.trans ((T.ev_andE (P := ((F_part one (List.range lines.length)) = one)) (Q := ((F_comes other other) = true)) (T.ev_eq (x := (F_part one (List.range lines.length))) (y := one) (qT qR) rfl (T.ev_call (T.ev_cons (T.ev_v rfl) (T.ev_cons (T.ev_rg1T (n := lines.length) c111 (T.ev_lenT (e := eN) (xs := lines) (T.ev_unq (e := eN) (xs := lines) (T.ev_v rfl)))) T.ev_nil)) rfl (t_part c112 _)) (T.ev_v rfl)) (fun hp => have c113 := c114 hp; (T.ev_isB (x := (F_comes other other)) (y := true) (T.ev_call (T.ev_cons (T.ev_v rfl) (T.ev_cons (T.ev_v rfl) T.ev_nil)) rfl (t_comes c113 _)) (T.ev_c rfl))))) (T.ev_tt (P := (((F_part one (List.range lines.length)) = one) ∧ ((F_comes other other) = true))) (⟨(h).1, (h).2⟩))) rfl
end W
set_option maxHeartbeats 1000000
namespace W
open PySem L2 G T
theorem level_some {q : Pic} {n l : Nat} (hn : n < (layersQ q).length) (hl : l ∈ (layersQ q)[n]!) : F_level q l = some (n + 1) := by
  unfold F_level levelIn
  have e : (List.range (layersQ q).length).filter (fun m => decide (l ∈ (layersQ q)[m]!)) = [n] := by
    have nd : ((List.range (layersQ q).length).filter fun m => decide (l ∈ (layersQ q)[m]!)).Nodup := List.nodup_range.sublist List.filter_sublist
    refine List.perm_singleton.mp ((List.perm_ext_iff_of_nodup nd (by simp)).mpr fun m => ?_)
    rw [List.mem_filter, List.mem_range, decide_eq_true_iff, List.mem_singleton]
    constructor
    · rintro ⟨a, b⟩
      exact nodup_idx layers_nodup a hn b hl
    · rintro rfl
      exact ⟨hn, hl⟩
  rw [e]; rfl
theorem level_none {q : Pic} {l : Nat} (h : l ∉ (layersQ q).flatten) : F_level q l = none := by
  unfold F_level levelIn
  have e : (List.range (layersQ q).length).filter (fun m => decide (l ∈ (layersQ q)[m]!)) = [] := List.filter_eq_nil_iff.mpr fun m hm z => h (mem_layer (List.mem_range.mp hm) (of_decide_eq_true z))
  rw [e]; rfl
/-- rows and columns of a picture -/
structure Sub (h w : Nat) (rs cs : List Nat) : Prop where
  r1 : ∀ i ∈ rs, i < h
  c1 : ∀ j ∈ cs, j < w
  r0 : 0 < rs.length
  c0 : 0 < cs.length
  ra : rs.Pairwise (· < ·)
  ca : cs.Pairwise (· < ·)
abbrev embL (h : Nat) (rs cs : List Nat) : List Nat := rs ++ cs.map fun j => h + j
theorem asc_nd {xs : List Nat} (h : xs.Pairwise (· < ·)) : xs.Nodup := h.imp fun h e => by omega
section
variable {p q : Pic} {rs cs : List Nat} {h w : Nat}
theorem Sub.asc (S : Sub h w rs cs) : (embL h rs cs).Pairwise (· < ·) := by
  refine List.pairwise_append.mpr ⟨S.ra, List.pairwise_map.mpr (S.ca.imp fun h => by omega), fun a ha b hb => ?_⟩
  obtain ⟨j, _, rfl⟩ := List.mem_map.mp hb
  have := S.r1 a ha
  omega
theorem emb_len : (embL h rs cs).length = rs.length + cs.length := by rw [List.length_append, List.length_map]
theorem emb_row {i : Nat} (hi : i < rs.length) : (embL h rs cs)[i]! = rs[i]! := get!_append_left hi
theorem emb_col {j : Nat} (hj : j < cs.length) : (embL h rs cs)[rs.length + j]! = h + cs[j]! := by
  rw [get!_append_right (by omega) (by rw [List.length_map]; omega), Nat.add_sub_cancel_left, get!_map' _ hj]
theorem Sub.row (S : Sub h w rs cs) {i : Nat} (hi : i < rs.length) : rs[i]! < h := S.r1 _ (mem_get! hi)
theorem Sub.col (S : Sub h w rs cs) {j : Nat} (hj : j < cs.length) : cs[j]! < w := S.c1 _ (mem_get! hj)
theorem Sub.lt (S : Sub h w rs cs) {x : Nat} (hx : x < rs.length + cs.length) : (embL h rs cs)[x]! < h + w := by
  by_cases z : x < rs.length
  · rw [emb_row z]; have := S.row z; omega
  · obtain ⟨j, rfl⟩ : ∃ j, x = rs.length + j := ⟨x - rs.length, by omega⟩
    rw [emb_col (by omega)]; have := S.col (show j < cs.length by omega); omega
theorem nd_inj {xs : List Nat} (nd : xs.Nodup) {i j : Nat} (hi : i < xs.length) (hj : j < xs.length) (e : xs[i]! = xs[j]!) : i = j := by
  rw [getElem!_pos xs i hi, getElem!_pos xs j hj] at e
  have a := List.Nodup.idxOf_getElem nd i hi
  rw [e, List.Nodup.idxOf_getElem nd j hj] at a
  exact a.symm
theorem idx_get {xs : List Nat} {l : Nat} (hl : l ∈ xs) : xs.idxOf l < xs.length ∧ xs[xs.idxOf l]! = l := by
  have hx := List.idxOf_lt_length_iff.mpr hl
  exact ⟨hx, by rw [getElem!_pos xs _ hx]; exact List.getElem_idxOf hx⟩
theorem idx_iff {xs : List Nat} (nd : xs.Nodup) {l i : Nat} (hl : l ∈ xs) (hi : i < xs.length) : xs.idxOf l = i ↔ l = xs[i]! := by
  obtain ⟨a, b⟩ := idx_get hl
  constructor
  · intro e; rw [← e, b]
  · intro e; exact nd_inj nd a hi (b.trans e)
theorem pq_len : (F_part_of p rs cs).length = rs.length := List.length_map _
theorem pq_wid (r0 : 0 < rs.length) : (F_part_of p rs cs)[0]!.length = cs.length := by
  show (((rs.map fun i => cs.map fun j => (p[i]!)[j]!))[0]!).length = _
  rw [get!_map' _ r0, List.length_map]
theorem pq_at {i j : Nat} (hi : i < rs.length) (hj : j < cs.length) : ((F_part_of p rs cs)[i]!)[j]! = (p[rs[i]!]!)[cs[j]!]! := by
  show (((rs.map fun i => cs.map fun j => (p[i]!)[j]!))[i]!)[j]! = _
  rw [get!_map' _ hi, get!_map' _ hj]
theorem asc_len {n : Nat} {xs : List Nat} (h : xs.Pairwise (· < ·)) (hx : ∀ x ∈ xs, x < n) : xs.length ≤ n := by
  have := len_sub (asc_nd h) (b := List.range n) fun x z => List.mem_range.mpr (hx x z)
  rwa [List.length_range] at this
theorem Sub.pp (S : Sub p.length p[0]!.length rs cs) (k : PicP p) : PicP (F_part_of p rs cs) := by
  have l1 := asc_len S.ra S.r1
  have l2 := asc_len S.ca S.c1
  have h1 := k.h30; have h2 := k.w30
  have r0 := S.r0; have c0 := S.c0
  refine ⟨fun r hr => ?_, by rw [pq_len]; exact r0, by rw [pq_len]; omega, by rw [pq_wid r0]; exact c0, by rw [pq_wid r0]; omega⟩
  rw [pq_wid r0]
  obtain ⟨i, _, rfl⟩ := List.mem_map.mp hr
  rw [List.length_map]
theorem Sub.like (S : Sub q.length q[0]!.length rs cs) (k : Like p q) : Like (F_part_of p rs cs) (F_part_of q rs cs) := by
  have S' : Sub p.length p[0]!.length rs cs := by rw [k.hh, k.ww]; exact S
  exact ⟨S'.pp k.pp, S.pp k.qq, by rw [pq_len, pq_len], by rw [pq_wid S.r0, pq_wid S.r0]⟩
theorem sub_leads (S : Sub q.length q[0]!.length rs cs) {x o : Nat} (hx : x < rs.length + cs.length) (ho : o ∈ leadsQ (F_part_of q rs cs) x) :
    o < rs.length + cs.length ∧ (embL q.length rs cs)[o]! ∈ leadsQ q (embL q.length rs cs)[x]! := by
  unfold leadsQ at ho
  rw [pq_len] at ho
  by_cases z : x < rs.length
  · rw [if_pos z, pq_wid S.r0] at ho
    obtain ⟨j, hj, rfl⟩ := List.mem_map.mp ho
    obtain ⟨h1, h2⟩ := List.mem_filter.mp hj
    have h1 := List.mem_range.mp h1
    have h2 := of_decide_eq_true h2
    rw [pq_at z h1] at h2
    refine ⟨by omega, ?_⟩
    rw [emb_col h1, emb_row z]
    exact mem_leads_row (S.row z) (S.col h1) h2
  · rw [if_neg z] at ho
    obtain ⟨h1, h2⟩ := List.mem_filter.mp ho
    have h1 := List.mem_range.mp h1
    have h2 := of_decide_eq_true h2
    obtain ⟨j, rfl⟩ : ∃ j, x = rs.length + j := ⟨x - rs.length, by omega⟩
    have hj : j < cs.length := by omega
    rw [Nat.add_sub_cancel_left, pq_at h1 hj] at h2
    refine ⟨by omega, ?_⟩
    rw [emb_col hj, emb_row h1]
    exact mem_leads_col (S.row h1) h2
/-- a line that leads to early layers alone lies in an early layer -/
theorem lay_of_leads {x k : Nat} (hx : x < q.length + q[0]!.length) (hl : ∀ o ∈ leadsQ q x, ∃ m, m < k ∧ m < (layersQ q).length ∧ o ∈ (layersQ q)[m]!) : ∃ m, m ≤ k ∧ m < (layersQ q).length ∧ x ∈ (layersQ q)[m]! := by
  rcases layer_or_core hx with hc | hc
  · obtain ⟨o, h1, h2⟩ := core_leads hc
    obtain ⟨m, _, a, b⟩ := hl o h1
    exact ((core_iff (coreQ_lt h2)).mp h2 m a b).elim
  · obtain ⟨n, hn, hxn⟩ := mem_flat hc
    by_cases z : n ≤ k
    · exact ⟨n, z, hn, hxn⟩
    · obtain ⟨m, rfl⟩ : ∃ m, n = m + 1 := ⟨n - 1, by omega⟩
      have hm : m < (layersQ q).length := by omega
      obtain ⟨y, hy⟩ := List.exists_mem_of_ne_nil _ (layersQ_layer _ (mem_get! hm)).1
      have yl := layers_lt (flat_mem hm hy)
      have late : ∀ t, t ≤ m → x ∉ (layersQ q)[t]! := fun t ht z => by
        have := nodup_idx layers_nodup (show t < (layersQ q).length by omega) hn z hxn
        omega
      have hyx : y ∈ leadsQ q x := by
        rcases layers_turn hn with ⟨t1, t2⟩ | ⟨t1, t2⟩
        · have y1 := t1 y hy
          have x1 := t2 x hxn
          obtain ⟨j, rfl⟩ : ∃ j, x = q.length + j := ⟨x - q.length, by omega⟩
          exact mem_leads_col y1 (color_row hm hy y1 (by omega) late)
        · have y1 := t1 y hy
          have x1 := t2 x hxn
          obtain ⟨j, rfl⟩ : ∃ j, y = q.length + j := ⟨y - q.length, by omega⟩
          exact mem_leads_row x1 (by omega) (color_col hm hy x1 late)
      obtain ⟨t, t1, t2, t3⟩ := hl y hyx
      have := nodup_idx layers_nodup t2 hm t3 hy
      omega
theorem sub_level (S : Sub q.length q[0]!.length rs cs) : ∀ (k x : Nat), k < (layersQ q).length → x < rs.length + cs.length → (embL q.length rs cs)[x]! ∈ (layersQ q)[k]! →
    ∃ m, m ≤ k ∧ m < (layersQ (F_part_of q rs cs)).length ∧ x ∈ (layersQ (F_part_of q rs cs))[m]! := by
  intro k
  induction k using Nat.strongRecOn with
  | ind k ih =>
    intro x hk hx hl
    refine lay_of_leads (by rw [pq_len, pq_wid S.r0]; exact hx) fun o ho => ?_
    obtain ⟨h1, h2⟩ := sub_leads S hx ho
    obtain ⟨m, hm, hm2⟩ := leads_ahead hk hl h2
    obtain ⟨m', a, b, c⟩ := ih m hm o (by omega) h1 hm2
    exact ⟨m', by omega, b, c⟩
theorem sub_core (S : Sub q.length q[0]!.length rs cs) {x : Nat} (hx : x ∈ coreQ (F_part_of q rs cs)) : x < rs.length + cs.length ∧ (embL q.length rs cs)[x]! ∈ coreQ q := by
  have xl := coreQ_lt hx
  rw [pq_len, pq_wid S.r0] at xl
  refine ⟨xl, ?_⟩
  rcases layer_or_core (S.lt xl) with hc | hc
  · exact hc
  · obtain ⟨n, hn, hn2⟩ := mem_flat hc
    obtain ⟨m, _, a, b⟩ := sub_level S n x hn xl hn2
    exact ((core_iff (coreQ_lt hx)).mp hx m a b).elim
def cutD (lines ds : List Nat) : List Nat := (ds.filter fun l => decide (l ∈ lines)).map fun l => lines.idxOf l
theorem cut_hit (S : Sub h w rs cs) {i j : Nat} (hi : i < rs.length) (hj : j < cs.length) : ∀ ds : List Nat, hit rs.length i j (cutD (embL h rs cs) ds) = hit h rs[i]! cs[j]! ds
  | [] => rfl
  | l :: ds => by
    have ih := cut_hit S hi hj ds
    have nd := asc_nd S.asc
    have il : i < (embL h rs cs).length := by rw [emb_len]; omega
    have jl : rs.length + j < (embL h rs cs).length := by rw [emb_len]; omega
    rw [hit_cons]
    unfold cutD at ih ⊢
    by_cases z : l ∈ embL h rs cs
    · rw [List.filter_cons, if_pos (decide_eq_true z), List.map_cons, hit_cons, ih]
      have e1 : ((embL h rs cs).idxOf l = i) ↔ l = rs[i]! := by rw [idx_iff nd z il, emb_row hi]
      have e2 : ((embL h rs cs).idxOf l = rs.length + j) ↔ l = h + cs[j]! := by rw [idx_iff nd z jl, emb_col hj]
      congr 1
      by_cases z1 : l = rs[i]!
      · rw [if_pos z1, if_pos (e1.mpr z1)]
      · rw [if_neg z1, if_neg (fun y => z1 (e1.mp y))]
        by_cases z2 : l = h + cs[j]!
        · rw [if_pos z2, if_pos (e2.mpr z2)]
        · rw [if_neg z2, if_neg (fun y => z2 (e2.mp y))]
    · rw [List.filter_cons, if_neg (by simpa using z), ih]
      have n1 : ¬l = rs[i]! := fun y => z (by rw [y, ← emb_row (h := h) (cs := cs) hi]; exact mem_get! il)
      have n2 : ¬l = h + cs[j]! := fun y => z (by rw [y, ← emb_col (h := h) (rs := rs) hj]; exact mem_get! jl)
      rw [if_neg n1, if_neg n2, Option.or_none]
theorem sub_made (S : Sub q.length q[0]!.length rs cs) (k : Like p q) {ds : List Nat} (hd : linesQ p ds = q) : linesQ (F_part_of p rs cs) (cutD (embL q.length rs cs) ds) = F_part_of q rs cs := by
  have lk := S.like k
  have L := lk.sd (cutD (embL q.length rs cs) ds)
  refine pic_ext L.pp L.qq L.hh L.ww fun i j hi hj => ?_
  rw [L.hh, pq_len] at hi
  rw [L.ww, pq_wid S.r0] at hj
  rw [linesQ_get lk.pp (by rw [pq_len]; exact hi) (by rw [pq_wid S.r0]; exact hj), pq_len, cut_hit S hi hj, pq_at hi hj, pq_at hi hj]
  have := linesQ_get k.pp (i := rs[i]!) (j := cs[j]!) (by rw [k.hh]; exact S.row hi) (by rw [k.ww]; exact S.col hj) ds
  rw [hd, k.hh] at this
  exact this.symm
/-- what comes: the part comes, by lines of the least set within the part -/
theorem sub_comes (S : Sub q.length q[0]!.length rs cs) (k : Like p q) {T : List (List Nat)} (hT : leastQ p q = some T) :
    ∃ T', leastQ (F_part_of p rs cs) (F_part_of q rs cs) = some T' ∧ ∀ l ∈ T'.flatten, l ∈ cutD (embL q.length rs cs) T.reverse.flatten := by
  refine least_made (S.like k) (sub_made S k (least_way k hT)) fun l hl => ?_
  rw [pq_len, pq_wid S.r0, ← emb_len (h := q.length)]
  obtain ⟨y, hy, rfl⟩ := List.mem_map.mp hl
  exact (idx_get (of_decide_eq_true (List.mem_filter.mp hy).2)).1
theorem mem_cut {lines ds es : List Nat} (h : ∀ l, l ∈ ds → l ∈ es) {x : Nat} (hx : x ∈ cutD lines ds) : x ∈ cutD lines es := by
  obtain ⟨y, hy, rfl⟩ := List.mem_map.mp hx
  obtain ⟨a, b⟩ := List.mem_filter.mp hy
  exact List.mem_map.mpr ⟨y, List.mem_filter.mpr ⟨h y a, b⟩, rfl⟩
def upC (rs cs : List Nat) (c : Nat × Nat) : Nat × Nat := (rs[c.1]!, cs[c.2]!)
theorem nodup_fm {α β : Type} {f : α → List β} : ∀ {xs : List α}, xs.Nodup → (∀ x, x ∈ xs → (f x).Nodup) → (∀ x y, x ∈ xs → y ∈ xs → x ≠ y → ∀ a, a ∈ f x → a ∉ f y) → (xs.flatMap f).Nodup
  | [], _, _, _ => List.nodup_nil
  | x :: xs, nd, h1, h2 => by
    obtain ⟨n1, n2⟩ := List.nodup_cons.mp nd
    rw [List.flatMap_cons]
    refine List.nodup_append.mpr ⟨h1 x List.mem_cons_self, nodup_fm n2 (fun y hy => h1 y (List.mem_cons_of_mem _ hy)) fun y z hy hz => h2 y z (List.mem_cons_of_mem _ hy) (List.mem_cons_of_mem _ hz), fun a ha b hb e => ?_⟩
    subst e
    obtain ⟨y, hy, hb⟩ := List.mem_flatMap.mp hb
    exact h2 x y List.mem_cons_self (List.mem_cons_of_mem _ hy) (fun e => n1 (e ▸ hy)) a ha hb
theorem diff_ndS (p q : Pic) : (diffQ p q).Nodup := by
  unfold diffQ
  refine nodup_fm List.nodup_range (fun r _ => List.Pairwise.map (fun j => (r, j)) (fun a b h e => h (congrArg Prod.snd e)) (List.nodup_range.sublist List.filter_sublist)) fun x y _ _ hne a ha hb => ?_
  obtain ⟨u, _, rfl⟩ := List.mem_map.mp ha
  obtain ⟨v, _, e⟩ := List.mem_map.mp hb
  exact hne (congrArg Prod.fst e).symm
theorem len_subP {α : Type} [DecidableEq α] {a b : List α} (nd : a.Nodup) (h : ∀ x ∈ a, x ∈ b) : a.length ≤ b.length := by
  induction a generalizing b with
  | nil => exact Nat.zero_le _
  | cons x a ih =>
    obtain ⟨n1, n2⟩ := List.nodup_cons.mp nd
    have hx := h x List.mem_cons_self
    have := ih n2 (b := b.erase x) fun y hy => (List.mem_erase_of_ne fun e => n1 (by rw [← e]; exact hy)).mpr (h y (List.mem_cons_of_mem _ hy))
    have l := List.length_erase_of_mem hx
    have := List.length_pos_of_mem hx
    rw [List.length_cons]
    omega
theorem cells_le {A B : List (Nat × Nat)} (S : Sub h w rs cs) (nd : A.Nodup) (ha : ∀ c ∈ A, c.1 < rs.length ∧ c.2 < cs.length ∧ upC rs cs c ∈ B) : A.length ≤ B.length := by
  have n1 := asc_nd S.ra; have n2 := asc_nd S.ca
  have e : (A.map (upC rs cs)).Nodup := by
    refine List.pairwise_map.mpr (List.Pairwise.imp_of_mem (fun {a b} ha' hb' ne e => ne ?_) nd)
    obtain ⟨a1, a2, _⟩ := ha a ha'
    obtain ⟨b1, b2, _⟩ := ha b hb'
    have e1 : rs[a.1]! = rs[b.1]! := congrArg Prod.fst e
    have e2 : cs[a.2]! = cs[b.2]! := congrArg Prod.snd e
    exact Prod.ext (nd_inj n1 a1 b1 e1) (nd_inj n2 a2 b2 e2)
  have := len_subP e (b := B) fun x hx => by
    obtain ⟨c, hc, rfl⟩ := List.mem_map.mp hx
    exact (ha c hc).2.2
  rwa [List.length_map] at this
theorem sub_diff (S : Sub q.length q[0]!.length rs cs) (k : Like p q) {c : Nat × Nat} (hc : c ∈ diffQ (F_part_of p rs cs) (F_part_of q rs cs)) : c.1 < rs.length ∧ c.2 < cs.length ∧ upC rs cs c ∈ diffQ p q := by
  obtain ⟨a, b, d⟩ := mem_diff.mp hc
  rw [pq_len] at a
  rw [pq_wid S.r0] at b
  rw [pq_at a b, pq_at a b] at d
  exact ⟨a, b, mem_diff.mpr ⟨by rw [k.hh]; exact S.row a, by rw [k.ww]; exact S.col b, d⟩⟩
theorem filt_rows (S : Sub h w rs cs) : (embL h rs cs).filter (fun l => decide (l < h)) = rs := by
  rw [List.filter_append, List.filter_eq_self.mpr fun x hx => decide_eq_true (S.r1 x hx), List.filter_eq_nil_iff.mpr fun x hx z => ?_, List.append_nil]
  obtain ⟨j, _, rfl⟩ := List.mem_map.mp hx
  have := of_decide_eq_true z
  omega
theorem filt_cols (S : Sub h w rs cs) : ((embL h rs cs).filter (fun l => decide (l ≥ h))).map (fun l => l - h) = cs := by
  rw [List.filter_append, List.filter_eq_nil_iff.mpr fun x hx z => ?_, List.nil_append, List.filter_eq_self.mpr fun x hx => ?_, List.map_map]
  · refine (List.map_congr_left fun x _ => ?_).trans (List.map_id _)
    show h + x - h = x
    omega
  · obtain ⟨j, _, rfl⟩ := List.mem_map.mp hx
    exact decide_eq_true (by omega)
  · have := of_decide_eq_true z
    have := S.r1 x hx
    omega
theorem part_eq (S : Sub p.length p[0]!.length rs cs) : F_part p (embL p.length rs cs) = F_part_of p rs cs := by
  unfold F_part
  rw [filt_rows S, filt_cols S]
theorem part_ok (S : Sub p.length p[0]!.length rs cs) (k : PicP p) : P_part p (embL p.length rs cs) := by
  have l1 := asc_len S.ra S.r1
  have l2 := asc_len S.ca S.c1
  have h1 := k.h30; have h2 := k.w30
  have r0 := S.r0; have c0 := S.c0
  refine ⟨k, by rw [emb_len]; omega, fun l hl => ?_, S.asc, ⟨rs[0]!, List.mem_append_left _ (mem_get! r0), S.row r0⟩, p.length + cs[0]!, List.mem_append_right _ (List.mem_map.mpr ⟨_, mem_get! c0, rfl⟩), by omega⟩
  rcases List.mem_append.mp hl with hl | hl
  · have := S.r1 l hl; omega
  · obtain ⟨j, hj, rfl⟩ := List.mem_map.mp hl
    have := S.c1 j hj; omega
theorem whole_sub (k : PicP p) : Sub p.length p[0]!.length (List.range p.length) (List.range p[0]!.length) :=
  ⟨fun i hi => List.mem_range.mp hi, fun j hj => List.mem_range.mp hj, by rw [List.length_range]; exact k.h1, by rw [List.length_range]; exact k.w1, List.pairwise_lt_range, List.pairwise_lt_range⟩
theorem whole_emb (h w : Nat) : embL h (List.range h) (List.range w) = List.range (h + w) := by rw [List.range_add]
theorem whole_part (k : PicP p) : F_part p (List.range (p.length + p[0]!.length)) = p := by
  rw [← whole_emb, part_eq (whole_sub k)]
  have S := whole_sub k
  refine pic_ext (S.pp k) k (by rw [pq_len, List.length_range]) (by rw [pq_wid S.r0, List.length_range]) fun i j hi hj => ?_
  rw [pq_len] at hi
  rw [pq_wid S.r0] at hj
  rw [pq_at hi hj]
  rw [List.length_range] at hi hj
  rw [get!_range hi, get!_range hj]
theorem round_of {p : Pic} (h : coreQ p = []) : F_round_of_four p = none := by
  refine round_none.mpr fun a b ha hb z => ?_
  obtain ⟨c, hc⟩ := List.exists_mem_of_ne_nil _ z.1
  obtain ⟨d, hd⟩ := List.exists_mem_of_ne_nil _ z.2
  have := (core_X ha hb (mem_down.mp hc).1 (mem_down.mp hd).1 (down_X hc hd)).1
  rw [h] at this; cases this
end
theorem asc_of {xs : List Nat} (h : xs.Pairwise (· ≤ ·)) (nd : xs.Nodup) : xs.Pairwise (· < ·) := (h.and nd).imp fun h => by have := h.1; have := h.2; omega
theorem some_asc {n d : Nat} {m : List Nat} (hm : m.Perm (List.range n)) (hd : d < n) : (sortN (m.take (1 + d))).Pairwise (· < ·) ∧ (∀ x ∈ sortN (m.take (1 + d)), x < n) ∧ 0 < (sortN (m.take (1 + d))).length := by
  have nd : m.Nodup := hm.nodup_iff.mpr List.nodup_range
  have pe := sortN_perm (m.take (1 + d))
  refine ⟨asc_of (sortN_le _) (pe.nodup_iff.mpr (nd.sublist (List.take_sublist _ _))), fun x hx => ?_, ?_⟩
  · exact List.mem_range.mp (hm.mem_iff.mp ((List.take_sublist _ _).subset (pe.mem_iff.mp hx)))
  · rw [pe.length_eq, List.length_take, hm.length_eq, List.length_range]; omega
theorem ok_law : V_law := by
  refine ⟨⟨by decide, by decide⟩, fun q hq => ?_⟩
  obtain ⟨k, q1, q2⟩ := hq
  have h1 := k.h1; have h30 := k.h30; have w1 := k.w1; have w30 := k.w30
  refine ⟨k, fun p hp => ?_⟩
  obtain ⟨kp, hh, ww⟩ := hp
  have L : Like p q := ⟨kp, k, hh, ww⟩
  refine ⟨h1, by omega, fun wide ew => ?_⟩
  subst ew
  refine ⟨by omega, by rw [List.length_range]; omega, fun mr hmr => ⟨⟨h1, by omega⟩, fun d1 hd1 rs ers => ?_⟩⟩
  have hd1 : d1 < q.length := hd1
  obtain ⟨a1, a2, a3⟩ := some_asc hmr hd1
  rw [← ers] at a1 a2 a3
  refine ⟨by omega, by rw [List.length_range]; omega, fun mc hmc => ⟨⟨w1, by omega⟩, fun d2 hd2 cs ecs => ?_⟩⟩
  have hd2 : d2 < q[0]!.length := hd2
  obtain ⟨b1, b2, b3⟩ := some_asc hmc hd2
  rw [← ecs] at b1 b2 b3
  have S : Sub q.length q[0]!.length rs cs := ⟨a2, b2, a3, b3, a1, b1⟩
  have Sp : Sub p.length p[0]!.length rs cs := by rw [hh, ww]; exact S
  have l1 := asc_len a1 a2
  have l2 := asc_len b1 b2
  refine ⟨by omega, by rw [List.length_map]; omega, fun lines el => ?_⟩
  have el : lines = embL q.length rs cs := el
  have ep : embL q.length rs cs = embL p.length rs cs := by rw [hh]
  have ll : lines.length = rs.length + cs.length := by rw [el, emb_len]
  refine ⟨by rw [el, ep]; exact part_ok Sp kp, by rw [el]; exact part_ok S k, fun one e1 other e2 => ?_⟩
  have e1 : one = F_part_of p rs cs := by rw [e1, el, ep, part_eq Sp]
  have e2 : other = F_part_of q rs cs := by rw [e2, el, part_eq S]
  have Lo : Like one other := by rw [e1, e2]; exact S.like L
  have ol : other.length = rs.length := by rw [e2, pq_len]
  have ow : other[0]!.length = cs.length := by rw [e2, pq_wid S.r0]
  have dl : (F_differences one other).length ≤ (F_differences p q).length := by
    show (diffQ one other).length ≤ (diffQ p q).length
    rw [e1, e2]
    exact cells_le S (diff_ndS _ _) fun c hc => sub_diff S L hc
  have rl : roundsQ other ≤ roundsQ q := by
    have x1 := part_X (p := q) ol ow fun i j hi hj => by rw [e2]; exact pq_at hi hj
    have x2 := rounds_X q
    have x3 := s4_sub (p := q) (asc_nd S.ra) (asc_nd S.ca) (fun x hx => List.mem_range.mpr (S.r1 x hx)) fun x hx => List.mem_range.mpr (S.c1 x hx)
    omega
  have cor : ∀ x, x ∈ coreQ other → x < lines.length ∧ lines[x]! ∈ coreQ q := fun x hx => by
    rw [e2] at hx
    obtain ⟨c1, c2⟩ := sub_core S hx
    rw [ll, el]
    exact ⟨c1, c2⟩
  have free : coreQ q = [] → coreQ other = [] := fun z => List.eq_nil_iff_forall_not_mem.mpr fun x hx => by
    have := (cor x hx).2
    rw [z] at this; cases this
  refine ⟨⟨Lo.pp, Lo.qq, Lo.hh, Lo.ww⟩, ⟨kp, k, hh, ww⟩, fun _ => ⟨Lo.qq, k⟩, ⟨by omega, by show ¬roundsQ other > roundsQ q; omega⟩, k, fun z => ⟨Lo.qq, fun _ => Lo.qq⟩, fun ⟨z, y⟩ => ?_, L, ?_⟩
  · have z := of_decide_eq_true z
    rcases y with y | y
    · exact y (decide_eq_true (free z))
    · exact y (round_of (free z))
  have inside : ∀ T, leastQ p q = some T → ∃ T', leastQ one other = some T' ∧ (∀ l ∈ T'.flatten, l ∈ cutD lines T.flatten) := fun T hT => by
    obtain ⟨T', t1, t2⟩ := sub_comes S L hT
    rw [e1, e2, el]
    refine ⟨T', t1, fun l hl => mem_cut (fun y hy => ?_) (t2 l hl)⟩
    rw [← (flat_perm (List.reverse_perm T)).mem_iff]; exact hy
  refine ⟨True, fun z => ?_, fun _ => trivial, fun _ => ?_⟩
  · obtain ⟨T, hT⟩ := (comes_iff p q).mp z
    obtain ⟨T', t1, t2⟩ := inside T hT
    have ff : F_fewest one other = some T'.flatten.length := by show (leastQ one other).map _ = _; rw [t1]; rfl
    have fg : F_fewest p q = some T.flatten.length := by show (leastQ p q).map _ = _; rw [hT]; rfl
    have c1 : F_comes one other = true := (comes_iff one other).mpr ⟨T', t1⟩
    have le := least_len L hT
    have le2 := least_len Lo t1
    have cl : (cutD lines T.flatten).length ≤ T.flatten.length := by
      unfold cutD
      rw [List.length_map]
      exact List.length_filter_le _ _
    have tl : T'.flatten.length ≤ T.flatten.length := Nat.le_trans (len_sub (least_nodup t1) t2) cl
    have s1 : F_need_way p q = T := need_way_eq hT
    have i1 := len_least_lines hT
    have i2 := len_least_lines t1
    refine ⟨Lo, fun _ => ⟨Lo, L, by rw [ff]; simp, by rw [fg]; simp⟩, ⟨c1, ?_⟩, ⟨L, T, hT⟩, by omega, fun x _ h => h, fun ins ei => ⟨⟨Lo, T', t1⟩, by omega, ?_, trivial⟩⟩
    · rw [ff, fg]
      show ¬T'.flatten.length > T.flatten.length
      omega
    · refine List.filter_eq_nil_iff.mpr fun x hx z => of_decide_eq_true z ?_
      rw [ei]
      exact mem_cut (fun y hy => (mem_least_lines hT).mpr hy) (t2 x ((mem_least_lines t1).mp hx))
  · have ml : F_cells_to_mend one other ≤ F_cells_to_mend p q := by
      show (diffQ one (F_mended_start one other)).length ≤ (diffQ p (F_mended_start p q)).length
      refine cells_le S (diff_ndS _ _) fun c hc => ?_
      obtain ⟨c1, c2, c3⟩ := (mem_mend Lo).mp hc
      rw [e1, e2] at c1
      obtain ⟨d1, d2, d3⟩ := sub_diff S L c1
      refine ⟨d1, d2, (mem_mend L).mpr ⟨d3, ?_, ?_⟩⟩
      · have := (cor _ c2).2
        rw [el, emb_row d1] at this; exact this
      · have := (cor _ c3).2
        rw [ol, el, emb_col d2] at this; exact this
    have cc := coreQ_len Lo.qq
    refine ⟨Lo, L, fun _ => ⟨Lo.qq, by show (coreQ other).length ≤ _; omega, fun x hx => ⟨(cor x hx).1, k⟩⟩, ⟨by omega, ?_⟩, by omega, fun _ => True, trivial, fun i x hx _ => ?_, fun _ => ?_⟩
    · exact List.filter_eq_nil_iff.mpr fun x hx z => of_decide_eq_true z (cor x hx).2
    · obtain ⟨ex, hx⟩ := range_get hx
      subst ex
      have xl : x < rs.length + cs.length := by omega
      have bl : lines[x]! < q.length + q[0]!.length := by rw [el]; exact S.lt xl
      refine ⟨hx, ⟨k, bl⟩, ⟨Lo.qq, by rw [ol, ow]; exact xl⟩, fun whole hw less hl => ?_⟩
      have key : whole ≠ none → ∃ a b, whole = some a ∧ less = some b ∧ b ≤ a := fun ne => by
        by_cases z : lines[x]! ∈ (layersQ q).flatten
        · obtain ⟨n, hn, hn2⟩ := mem_flat z
          have hn3 := hn2
          rw [el] at hn3
          obtain ⟨m, m1, m2, m3⟩ := sub_level S n x hn xl hn3
          rw [← e2] at m2 m3
          exact ⟨n + 1, m + 1, hw.trans (level_some hn hn2), hl.trans (level_some m2 m3), by omega⟩
        · exact (ne (hw.trans (level_none z))).elim
      refine ⟨fun ne => ?_, fun ⟨ne, y⟩ => ?_, trivial⟩
      · obtain ⟨a, b, ea, eb, _⟩ := key ne
        exact fun _ => ⟨by rw [eb]; simp, by rw [ea]; simp⟩
      · obtain ⟨a, b, ea, eb, hab⟩ := key ne
        subst ea eb
        rcases y with y | y
        · cases y
        · have y : b > a := y
          omega
    · have wp : F_part one (List.range lines.length) = one := by
        have := whole_part Lo.pp
        rw [Lo.hh, Lo.ww, ol, ow, ← ll] at this; exact this
      have Loo : Like other other := ⟨Lo.qq, Lo.qq, rfl, rfl⟩
      refine ⟨by omega, ?_, fun _ => Loo, wp, (comes_iff other other).mpr ((comes_some Loo).mpr fun _ _ _ _ _ _ => rfl)⟩
      have := part_ok (whole_sub Lo.pp) Lo.pp
      rw [whole_emb, Lo.hh, Lo.ww, ol, ow, ← ll] at this
      exact this
end W
namespace V
open PySem L2 G W
theorem hv : ∀ ns : List Int, ns.length ≤ 63 → ∃ tp', retR (b_law (some (.scr ns) :: some .tape :: List.replicate 15 none) [.scr ns, .int 0, .int 5384, .int 0]) = .ok (.bl true) tp' := fun ns hns => W.snd_law W.ok_law ns hns
end V
set_option maxHeartbeats 0
namespace Hd
open PySem PySem.Spec PyProof.Rows L2
theorem facts {P : Program} {w : World} {K : PySem.W.Frag} {h : Heap} {mg : Str → Option Value} {f : Addr} (X : K.In h) (hG : h.Ns mainGlobals mg) (hfa : mg ("law" : Str) = some (.ref f)) (c : He.SaysD fa fn K) :
    ∃ fd : FuncData, (∀ (s : Shared) (v : Value), BindsTo s fd ⟨[v], []⟩ [("_law_script", v)]) ∧ ∀ base : Heap, K.In base → base.Ns mainGlobals mg → FnOk P w K mg base CX0 6 f fd ["_law_script"] (_root_.G.spLaw K) := by
  obtain ⟨fd0, F0⟩ := c.def_ 0 (d := d_is_int) rfl
  obtain ⟨fd1, F1⟩ := c.def_ 1 (d := d_is_in) rfl
  obtain ⟨fd2, F2⟩ := c.def_ 2 (d := d_is_picture) rfl
  obtain ⟨fd3, F3⟩ := c.def_ 3 (d := d_need_picture) rfl
  obtain ⟨fd4, F4⟩ := c.def_ 4 (d := d_need_two) rfl
  obtain ⟨fd5, F5⟩ := c.def_ 5 (d := d_lines_of) rfl
  obtain ⟨fd6, F6⟩ := c.def_ 6 (d := d_need_line) rfl
  obtain ⟨fd7, F7⟩ := c.def_ 7 (d := d_are_lines) rfl
  obtain ⟨fd8, F8⟩ := c.def_ 8 (d := d_need_lines) rfl
  obtain ⟨fd9, F9⟩ := c.def_ 9 (d := d_differing) rfl
  obtain ⟨fd10, F10⟩ := c.def_ 10 (d := d_differences) rfl
  obtain ⟨fd11, F11⟩ := c.def_ 11 (d := d_part_of) rfl
  obtain ⟨fd12, F12⟩ := c.def_ 12 (d := d_part) rfl
  obtain ⟨fd13, F13⟩ := c.def_ 13 (d := d_leads_to) rfl
  obtain ⟨fd14, F14⟩ := c.def_ 14 (d := d_layers_of) rfl
  obtain ⟨fd15, F15⟩ := c.def_ 15 (d := d_core_of) rfl
  obtain ⟨fd16, F16⟩ := c.def_ 16 (d := d_core) rfl
  obtain ⟨fd17, F17⟩ := c.def_ 17 (d := d_is_free_of) rfl
  obtain ⟨fd18, F18⟩ := c.def_ 18 (d := d_is_free) rfl
  obtain ⟨fd19, F19⟩ := c.def_ 19 (d := d_level) rfl
  obtain ⟨fd20, F20⟩ := c.def_ 20 (d := d_round_of_four) rfl
  obtain ⟨fd21, F21⟩ := c.def_ 21 (d := d_meets) rfl
  obtain ⟨fd22, F22⟩ := c.def_ 22 (d := d_least_of) rfl
  obtain ⟨fd23, F23⟩ := c.def_ 23 (d := d_trimmed) rfl
  obtain ⟨fd24, F24⟩ := c.def_ 24 (d := d_comes) rfl
  obtain ⟨fd25, F25⟩ := c.def_ 25 (d := d_need_way) rfl
  obtain ⟨fd26, F26⟩ := c.def_ 26 (d := d_least_lines) rfl
  obtain ⟨fd27, F27⟩ := c.def_ 27 (d := d_fewest) rfl
  obtain ⟨fd28, F28⟩ := c.def_ 28 (d := d_count_rounds) rfl
  obtain ⟨fd29, F29⟩ := c.def_ 29 (d := d_mended_start) rfl
  obtain ⟨fd30, F30⟩ := c.def_ 30 (d := d_cells_to_mend) rfl
  obtain ⟨fd31, F31⟩ := c.def_ 31 (d := d_law_taken) rfl
  obtain ⟨fd32, F32⟩ := c.def_ 32 (d := d_law_pick) rfl
  obtain ⟨fd33, F33⟩ := c.def_ 33 (d := d_law_mixed) rfl
  obtain ⟨fd34, F34⟩ := c.def_ 34 (d := d_law_any) rfl
  obtain ⟨fd35, F35⟩ := c.def_ 35 (d := d_law_paint) rfl
  obtain ⟨fd36, F36⟩ := c.def_ 36 (d := d_law_painted) rfl
  obtain ⟨fd37, F37⟩ := c.def_ 37 (d := d_law_deeds) rfl
  obtain ⟨fd38, F38⟩ := c.def_ 38 (d := d_law_picture) rfl
  obtain ⟨fd39, F39⟩ := c.def_ 39 (d := d_law_start) rfl
  obtain ⟨fd40, F40⟩ := c.def_ 40 (d := d_law_layers) rfl
  obtain ⟨fd41, F41⟩ := c.def_ 41 (d := d_law_core) rfl
  obtain ⟨fd42, F42⟩ := c.def_ 42 (d := d_law) rfl
  have T : W.Tx K mg := {
    all := He.free_ok X hG (c.fact 43 (f := .free "all") rfl),
    any := He.free_ok X hG (c.fact 44 (f := .free "any") rfl),
    bool := He.free_ok X hG (c.fact 45 (f := .free "bool") rfl),
    enumerate := He.free_ok X hG (c.fact 46 (f := .free "enumerate") rfl),
    int := He.free_ok X hG (c.fact 47 (f := .free "int") rfl),
    isinstance := He.free_ok X hG (c.fact 48 (f := .free "isinstance") rfl),
    len := He.free_ok X hG (c.fact 49 (f := .free "len") rfl),
    list := He.free_ok X hG (c.fact 50 (f := .free "list") rfl),
    range := He.free_ok X hG (c.fact 51 (f := .free "range") rfl),
    sorted := He.free_ok X hG (c.fact 52 (f := .free "sorted") rfl),
    str := He.free_ok X hG (c.fact 53 (f := .free "str") rfl),
    sum := He.free_ok X hG (c.fact 54 (f := .free "sum") rfl),
    tuple := He.free_ok X hG (c.fact 55 (f := .free "tuple") rfl),
    zip := He.free_ok X hG (c.fact 56 (f := .free "zip") rfl),
    MOST_SIDE := He.int_ok X hG (c.fact 57 (f := .int "MOST_SIDE" 30) rfl),
    BLACK := He.str_ok X hG (c.fact 58 (f := .str "BLACK" "#") rfl),
    WHITE := He.str_ok X hG (c.fact 59 (f := .str "WHITE" ".") rfl),
    f_is_int := ⟨_, _, F0, He.glo_ok X hG (c.fact 0 (f := .glo "is_int") rfl)⟩,
    f_is_in := ⟨_, _, F1, He.glo_ok X hG (c.fact 1 (f := .glo "is_in") rfl)⟩,
    f_is_picture := ⟨_, _, F2, He.glo_ok X hG (c.fact 2 (f := .glo "is_picture") rfl)⟩,
    f_need_picture := ⟨_, _, F3, He.glo_ok X hG (c.fact 3 (f := .glo "need_picture") rfl)⟩,
    f_need_two := ⟨_, _, F4, He.glo_ok X hG (c.fact 4 (f := .glo "need_two") rfl)⟩,
    f_lines_of := ⟨_, _, F5, He.glo_ok X hG (c.fact 5 (f := .glo "lines_of") rfl)⟩,
    f_need_line := ⟨_, _, F6, He.glo_ok X hG (c.fact 6 (f := .glo "need_line") rfl)⟩,
    f_are_lines := ⟨_, _, F7, He.glo_ok X hG (c.fact 7 (f := .glo "are_lines") rfl)⟩,
    f_need_lines := ⟨_, _, F8, He.glo_ok X hG (c.fact 8 (f := .glo "need_lines") rfl)⟩,
    f_differing := ⟨_, _, F9, He.glo_ok X hG (c.fact 9 (f := .glo "differing") rfl)⟩,
    f_differences := ⟨_, _, F10, He.glo_ok X hG (c.fact 10 (f := .glo "differences") rfl)⟩,
    f_part_of := ⟨_, _, F11, He.glo_ok X hG (c.fact 11 (f := .glo "part_of") rfl)⟩,
    f_part := ⟨_, _, F12, He.glo_ok X hG (c.fact 12 (f := .glo "part") rfl)⟩,
    f_leads_to := ⟨_, _, F13, He.glo_ok X hG (c.fact 13 (f := .glo "leads_to") rfl)⟩,
    f_layers_of := ⟨_, _, F14, He.glo_ok X hG (c.fact 14 (f := .glo "layers_of") rfl)⟩,
    f_core_of := ⟨_, _, F15, He.glo_ok X hG (c.fact 15 (f := .glo "core_of") rfl)⟩,
    f_core := ⟨_, _, F16, He.glo_ok X hG (c.fact 16 (f := .glo "core") rfl)⟩,
    f_is_free_of := ⟨_, _, F17, He.glo_ok X hG (c.fact 17 (f := .glo "is_free_of") rfl)⟩,
    f_is_free := ⟨_, _, F18, He.glo_ok X hG (c.fact 18 (f := .glo "is_free") rfl)⟩,
    f_level := ⟨_, _, F19, He.glo_ok X hG (c.fact 19 (f := .glo "level") rfl)⟩,
    f_round_of_four := ⟨_, _, F20, He.glo_ok X hG (c.fact 20 (f := .glo "round_of_four") rfl)⟩,
    f_meets := ⟨_, _, F21, He.glo_ok X hG (c.fact 21 (f := .glo "meets") rfl)⟩,
    f_least_of := ⟨_, _, F22, He.glo_ok X hG (c.fact 22 (f := .glo "least_of") rfl)⟩,
    f_trimmed := ⟨_, _, F23, He.glo_ok X hG (c.fact 23 (f := .glo "trimmed") rfl)⟩,
    f_comes := ⟨_, _, F24, He.glo_ok X hG (c.fact 24 (f := .glo "comes") rfl)⟩,
    f_need_way := ⟨_, _, F25, He.glo_ok X hG (c.fact 25 (f := .glo "need_way") rfl)⟩,
    f_least_lines := ⟨_, _, F26, He.glo_ok X hG (c.fact 26 (f := .glo "least_lines") rfl)⟩,
    f_fewest := ⟨_, _, F27, He.glo_ok X hG (c.fact 27 (f := .glo "fewest") rfl)⟩,
    f_count_rounds := ⟨_, _, F28, He.glo_ok X hG (c.fact 28 (f := .glo "count_rounds") rfl)⟩,
    f_mended_start := ⟨_, _, F29, He.glo_ok X hG (c.fact 29 (f := .glo "mended_start") rfl)⟩,
    f_cells_to_mend := ⟨_, _, F30, He.glo_ok X hG (c.fact 30 (f := .glo "cells_to_mend") rfl)⟩,
    f_law_taken := ⟨_, _, F31, He.glo_ok X hG (c.fact 31 (f := .glo "_law_taken") rfl)⟩,
    f_law_pick := ⟨_, _, F32, He.glo_ok X hG (c.fact 32 (f := .glo "_law_pick") rfl)⟩,
    f_law_mixed := ⟨_, _, F33, He.glo_ok X hG (c.fact 33 (f := .glo "_law_mixed") rfl)⟩,
    f_law_any := ⟨_, _, F34, He.glo_ok X hG (c.fact 34 (f := .glo "_law_any") rfl)⟩,
    f_law_paint := ⟨_, _, F35, He.glo_ok X hG (c.fact 35 (f := .glo "_law_paint") rfl)⟩,
    f_law_painted := ⟨_, _, F36, He.glo_ok X hG (c.fact 36 (f := .glo "_law_painted") rfl)⟩,
    f_law_deeds := ⟨_, _, F37, He.glo_ok X hG (c.fact 37 (f := .glo "_law_deeds") rfl)⟩,
    f_law_picture := ⟨_, _, F38, He.glo_ok X hG (c.fact 38 (f := .glo "_law_picture") rfl)⟩,
    f_law_start := ⟨_, _, F39, He.glo_ok X hG (c.fact 39 (f := .glo "_law_start") rfl)⟩,
    f_law_layers := ⟨_, _, F40, He.glo_ok X hG (c.fact 40 (f := .glo "_law_layers") rfl)⟩,
    f_law_core := ⟨_, _, F41, He.glo_ok X hG (c.fact 41 (f := .glo "_law_core") rfl)⟩ }
  have e := hfa.symm.trans (He.glo_ok X hG (c.fact 42 (f := .glo "law") rfl))
  cases e
  have b := FunD.bindsA (ps := ["_law_script"]) F42 fun _ _ _ _ _ _ us hl => match us, hl with | [_], _ => rfl
  exact ⟨fd42, fun s v => b s [v] rfl, fun base _ _ => _root_.G.fn_law (k := 5) (N := ["_law_goal", "_law_start_here", "_law_high", "_law_wide", "_law_some", "_law_side", "_law_lines", "_law_spot", "_law_one", "_law_other", "_law_inside", "_law_line", "_law_at", "_law_whole", "_law_less"]) F42 W.sc_law (by first | exact Or.inl rfl | exact Or.inr rfl) (by first | exact Or.inl rfl | exact Or.inr rfl) (by decide +kernel) (by decide +kernel) (m := W.b_law) (fun r cdv A outer s H E hr => W.law_body T r cdv A outer s H E hr) _root_.V.hv⟩
end Hd
open PySem PySem.W PySem.Calls PyProof.Rows
theorem PySem.Challenge.cw_linepainters_k84_parts_of_pictures_holds : PySem.Challenge.rw_linepainters_k84_parts_of_pictures.Holds := by
  w_on; o_law
  refine HandSHeadRun.head_any (r := OpenLaw.row PySem.Challenge.rw_linepainters_k84_parts_of_pictures) (q := view (OpenLaw.row PySem.Challenge.rw_linepainters_k84_parts_of_pictures).prog [57]) (H := Hd.hk) (ob := Hd.ob) (M := 8000) (loose := Hd.nms) (d := HandSHeadRun.topDef (OpenLaw.row PySem.Challenge.rw_linepainters_k84_parts_of_pictures).prog 57) (kwd := []) Hd.ob_eq
    (by kernel_rfl) (fun s => by kernel_rfl) Hd.run (by kernel_rfl) (by kernel_rfl) (by kernel_rfl) (by rfl) (by first | assumption | decide +kernel) (by decide +kernel) ⟨rfl, rfl, rfl, rfl, rfl, by decide +kernel⟩ ?hw ?hc
  case hw => w_witness2
  case hc =>
    refine L2.walk_ofE (l := PySem.Challenge.rw_linepainters_k84_parts_of_pictures) (n := 63) (k := 6) (x := "_law_script") (CX := L2.CX0) rfl (by decide) (by kernel_rfl) ⟨rfl, by decide, by decide⟩ ?F (fun _ _ _ _ z => z)
    intro w mg fa h Y hG hmg0
    obtain ⟨K, KX, c⟩ := Y
    have hmg : mg ("law" : PySem.Str) = some (.ref fa) := by
      have e : (HandSHeadRun.topDef (OpenLaw.row PySem.Challenge.rw_linepainters_k84_parts_of_pictures).prog 57).name = ("law" : PySem.Str) := by kernel_rfl
      rw [← e]
      exact hmg0
    obtain ⟨fd, hb, hF⟩ := Hd.facts (P := (PySem.Challenge.rw_linepainters_k84_parts_of_pictures).prog) (w := w) KX hG hmg c
    exact ⟨K, fd, _root_.G.spLaw K, KX, hb, fun H a ns hl hh hS => ⟨a, ns, rfl, hS, hl, fun _ => rfl⟩, hF⟩
