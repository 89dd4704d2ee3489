import PyProof.Rows.All
import Wide.All
import OpenK.AllK
import Wide.FinOn
import KE.KStateDown
import Lean
import HandS.Base
import HandS.Call
import HandS.Ends
import HandS.More
import HandS.Words
import HandS.WordsExc
import HandS.Defaults
import HandS.Head0
import HandS.Head1
import HandS.Head2
import HandS.HeadEnd
import HandS.HeadHook1
import HandS.HeadHook2
import KE.DataEq
import HandS.ForMost
import HandS.Exc
import HandS.Walk
import HandS.TupAny
import HandS.TupMul
import HandS.IsInst
import HandS.Wide
import HandS.StrMore
import HandS.TupLe
import HandS.Style
import HandS.Conv
import KE.GoesEnum
import HandS.SortInts
import HandS.Zip
import PyProof.WalksMore
import HandS.DictComp
import KE.KSortTupG
import HandS.Star
import HandS.Text
import KE.KDictSum
import HandS.DictEq
import HandS.Iter
import KE.KDictItemsList
import HandS.ListItems
import KE.DataMinMax
import KE.SortData
import KE.GoesZip
import KE.GoesMore
import HandS.WideMore
import HandS.Remove
import KE.KIndexOf
import PySem.Challenge.RW_linepainters_k30_great_histories
set_option Elab.async false
set_option linter.all false
set_option maxRecDepth 100000
set_option maxHeartbeats 1000000
namespace W
open PySem L2
def top (i : Nat) : Stmt := PySem.Challenge.pw_linepainters_k30_great_histories.main.body.getD i (.Pass ⟨0, 0, 0, 0⟩)
end W
set_option maxHeartbeats 0
namespace Hd
open PySem PySem.Spec PyProof.Rows L2
def d_is_int : He.DefD := ⟨("is_int", none), "is_int", "is_int", defArgs (W.top 12), defBody (W.top 12), defScope (W.top 12), [], []⟩
def d_is_in : He.DefD := ⟨("is_in", none), "is_in", "is_in", defArgs (W.top 13), defBody (W.top 13), defScope (W.top 13), [], []⟩
def d_need_number : He.DefD := ⟨("need_number", none), "need_number", "need_number", defArgs (W.top 14), defBody (W.top 14), defScope (W.top 14), [], []⟩
def d_is_picture : He.DefD := ⟨("is_picture", none), "is_picture", "is_picture", defArgs (W.top 15), defBody (W.top 15), defScope (W.top 15), [], []⟩
def d_need_picture : He.DefD := ⟨("need_picture", none), "need_picture", "need_picture", defArgs (W.top 16), defBody (W.top 16), defScope (W.top 16), [], []⟩
def d_lines_of : He.DefD := ⟨("lines_of", none), "lines_of", "lines_of", defArgs (W.top 17), defBody (W.top 17), defScope (W.top 17), [], []⟩
def d_need_line : He.DefD := ⟨("need_line", none), "need_line", "need_line", defArgs (W.top 18), defBody (W.top 18), defScope (W.top 18), [], []⟩
def d_are_deeds : He.DefD := ⟨("are_deeds", none), "are_deeds", "are_deeds", defArgs (W.top 19), defBody (W.top 19), defScope (W.top 19), [], []⟩
def d_painted_line : He.DefD := ⟨("painted_line", none), "painted_line", "painted_line", defArgs (W.top 20), defBody (W.top 20), defScope (W.top 20), [], []⟩
def d_all_painted : He.DefD := ⟨("all_painted", none), "all_painted", "all_painted", defArgs (W.top 21), defBody (W.top 21), defScope (W.top 21), [], []⟩
def d_painted : He.DefD := ⟨("painted", none), "painted", "painted", defArgs (W.top 22), defBody (W.top 22), defScope (W.top 22), [], []⟩
def d_need_order : He.DefD := ⟨("need_order", none), "need_order", "need_order", defArgs (W.top 23), defBody (W.top 23), defScope (W.top 23), [], []⟩
def d_plain : He.DefD := ⟨("plain", none), "plain", "plain", defArgs (W.top 24), defBody (W.top 24), defScope (W.top 24), [], []⟩
def d_leads_to : He.DefD := ⟨("leads_to", none), "leads_to", "leads_to", defArgs (W.top 26), defBody (W.top 26), defScope (W.top 26), [], []⟩
def d_layers_of : He.DefD := ⟨("layers_of", none), "layers_of", "layers_of", defArgs (W.top 27), defBody (W.top 27), defScope (W.top 27), [], []⟩
def d_layers : He.DefD := ⟨("layers", none), "layers", "layers", defArgs (W.top 28), defBody (W.top 28), defScope (W.top 28), [], []⟩
def d_core_of : He.DefD := ⟨("core_of", none), "core_of", "core_of", defArgs (W.top 29), defBody (W.top 29), defScope (W.top 29), [], []⟩
def d_is_free_of : He.DefD := ⟨("is_free_of", none), "is_free_of", "is_free_of", defArgs (W.top 30), defBody (W.top 30), defScope (W.top 30), [], []⟩
def d_need_free : He.DefD := ⟨("need_free", none), "need_free", "need_free", defArgs (W.top 31), defBody (W.top 31), defScope (W.top 31), [], []⟩
def d_product_to : He.DefD := ⟨("product_to", none), "product_to", "product_to", defArgs (W.top 33), defBody (W.top 33), defScope (W.top 33), [], []⟩
def d_common : He.DefD := ⟨("common", none), "common", "common", defArgs (W.top 35), defBody (W.top 35), defScope (W.top 35), [], []⟩
def d_lowered : He.DefD := ⟨("lowered", none), "lowered", "lowered", defArgs (W.top 36), defBody (W.top 36), defScope (W.top 36), [], []⟩
def d_need_sides : He.DefD := ⟨("need_sides", none), "need_sides", "need_sides", defArgs (W.top 38), defBody (W.top 38), defScope (W.top 38), [], []⟩
def d_by_layers : He.DefD := ⟨("by_layers", none), "by_layers", "by_layers", defArgs (W.top 39), defBody (W.top 39), defScope (W.top 39), [], []⟩
def d_layer_ways : He.DefD := ⟨("layer_ways", none), "layer_ways", "layer_ways", defArgs (W.top 40), defBody (W.top 40), defScope (W.top 40), [], []⟩
def d_layers_from : He.DefD := ⟨("layers_from", none), "layers_from", "layers_from", defArgs (W.top 42), defBody (W.top 42), defScope (W.top 42), [], []⟩
def d_by_order : He.DefD := ⟨("by_order", none), "by_order", "by_order", defArgs (W.top 43), defBody (W.top 43), defScope (W.top 43), [], []⟩
def d_is_order : He.DefD := ⟨("is_order", none), "is_order", "is_order", defArgs (W.top 44), defBody (W.top 44), defScope (W.top 44), [], []⟩
def d_count_orders : He.DefD := ⟨("count_orders", none), "count_orders", "count_orders", defArgs (W.top 45), defBody (W.top 45), defScope (W.top 45), [], []⟩
def d_order_at : He.DefD := ⟨("order_at", none), "order_at", "order_at", defArgs (W.top 46), defBody (W.top 46), defScope (W.top 46), [], []⟩
def d_order_number : He.DefD := ⟨("order_number", none), "order_number", "order_number", defArgs (W.top 47), defBody (W.top 47), defScope (W.top 47), [], []⟩
def d_places : He.DefD := ⟨("places", none), "places", "places", defArgs (W.top 48), defBody (W.top 48), defScope (W.top 48), [], []⟩
def d_mean_place : He.DefD := ⟨("mean_place", none), "mean_place", "mean_place", defArgs (W.top 49), defBody (W.top 49), defScope (W.top 49), [], []⟩
def d_before_share : He.DefD := ⟨("before_share", none), "before_share", "before_share", defArgs (W.top 50), defBody (W.top 50), defScope (W.top 50), [], []⟩
def d_next_order : He.DefD := ⟨("next_order", none), "next_order", "next_order", defArgs (W.top 51), defBody (W.top 51), defScope (W.top 51), [], []⟩
def d_swaps : He.DefD := ⟨("swaps", none), "swaps", "swaps", defArgs (W.top 52), defBody (W.top 52), defScope (W.top 52), [], []⟩
def d_place_shares : He.DefD := ⟨("place_shares", none), "place_shares", "place_shares", defArgs (W.top 53), defBody (W.top 53), defScope (W.top 53), [], []⟩
def d_law_taken : He.DefD := ⟨("_law_taken", none), "_law_taken", "_law_taken", defArgs (W.top 55), defBody (W.top 55), defScope (W.top 55), [], []⟩
def d_law_mixed : He.DefD := ⟨("_law_mixed", none), "_law_mixed", "_law_mixed", defArgs (W.top 56), defBody (W.top 56), defScope (W.top 56), [], []⟩
def d_law_paint : He.DefD := ⟨("_law_paint", none), "_law_paint", "_law_paint", defArgs (W.top 57), defBody (W.top 57), defScope (W.top 57), [], []⟩
def d_law_painted : He.DefD := ⟨("_law_painted", none), "_law_painted", "_law_painted", defArgs (W.top 58), defBody (W.top 58), defScope (W.top 58), [], []⟩
def d_law_free : He.DefD := ⟨("_law_free", none), "_law_free", "_law_free", defArgs (W.top 59), defBody (W.top 59), defScope (W.top 59), [], []⟩
def d_law_common : He.DefD := ⟨("_law_common", none), "_law_common", "_law_common", defArgs (W.top 60), defBody (W.top 60), defScope (W.top 60), [], []⟩
def d_law_lowered : He.DefD := ⟨("_law_lowered", none), "_law_lowered", "_law_lowered", defArgs (W.top 61), defBody (W.top 61), defScope (W.top 61), [], []⟩
def d_law_plus : He.DefD := ⟨("_law_plus", none), "_law_plus", "_law_plus", defArgs (W.top 62), defBody (W.top 62), defScope (W.top 62), [], []⟩
def d_law : He.DefD := ⟨("law", none), "law", "law", defArgs (W.top 63), defBody (W.top 63), defScope (W.top 63), [], []⟩
def fn : List He.DefD := [d_is_int, d_is_in, d_need_number, d_is_picture, d_need_picture, d_lines_of, d_need_line, d_are_deeds, d_painted_line, d_all_painted, d_painted, d_need_order, d_plain, d_leads_to, d_layers_of, d_layers, d_core_of, d_is_free_of, d_need_free, d_product_to, d_common, d_lowered, d_need_sides, d_by_layers, d_layer_ways, d_layers_from, d_by_order, d_is_order, d_count_orders, d_order_at, d_order_number, d_places, d_mean_place, d_before_share, d_next_order, d_swaps, d_place_shares, d_law_taken, d_law_mixed, d_law_paint, d_law_painted, d_law_free, d_law_common, d_law_lowered, d_law_plus, d_law]
def fa0 : List He.Fa := [.glo "is_int", .glo "is_in", .glo "need_number", .glo "is_picture", .glo "need_picture", .glo "lines_of", .glo "need_line", .glo "are_deeds", .glo "painted_line", .glo "all_painted", .glo "painted", .glo "need_order", .glo "plain", .glo "leads_to", .glo "layers_of", .glo "layers", .glo "core_of", .glo "is_free_of", .glo "need_free", .glo "product_to", .glo "common", .glo "lowered", .glo "need_sides", .glo "by_layers", .glo "layer_ways", .glo "layers_from", .glo "by_order", .glo "is_order", .glo "count_orders", .glo "order_at"]
def fa1 : List He.Fa := [.glo "order_number", .glo "places", .glo "mean_place", .glo "before_share", .glo "next_order", .glo "swaps", .glo "place_shares", .glo "_law_taken", .glo "_law_mixed", .glo "_law_paint", .glo "_law_painted", .glo "_law_free", .glo "_law_common", .glo "_law_lowered", .glo "_law_plus", .glo "law", .free "abs", .free "all", .free "any", .free "bool", .free "enumerate", .free "int", .free "isinstance", .free "len", .free "list", .free "range", .free "sorted", .free "str", .free "tuple", .int "MOST_SIDE" 30]
def fa2 : List He.Fa := [.str "BLACK" "#", .str "WHITE" "."]
def fa : List He.Fa := fa0 ++ fa1 ++ fa2
def nm0 : List Str := ["__name__", "PaintError", "BadPicture", "BadLine", "BadDeeds", "BadNumber", "BadOrder", "NotFree", "MOST_SIDE", "BLACK", "WHITE", "is_int", "is_in", "need_number", "is_picture", "need_picture", "lines_of", "need_line", "are_deeds", "painted_line", "all_painted", "painted", "need_order", "plain", "leads_to", "layers_of", "layers", "core_of", "is_free_of", "need_free"]
def nm1 : List Str := ["product_to", "common", "lowered", "need_sides", "by_layers", "layer_ways", "layers_from", "by_order", "is_order", "count_orders", "order_at", "order_number", "places", "mean_place", "before_share", "next_order", "swaps", "place_shares", "_law_taken", "_law_mixed", "_law_paint", "_law_painted", "_law_free", "_law_common", "_law_lowered", "_law_plus"]
abbrev nms : List Str := nm0 ++ nm1
abbrev R : PySem.W.OpenRow := PySem.W.OpenLaw.row PySem.Challenge.rw_linepainters_k30_great_histories
abbrev hk : PySem.W.Hook := He.hookD 4 fa fn
def ob (s : PySem.W.SharedT) : He.AlD := He.obsDG 4 fa fn (HandSHeadRun.getT s)
theorem ob_eq (s : PySem.W.SharedT) : ob s = hk.obs s.abs := He.obsDG_eq (HandSHeadRun.getT_eq s)
open HandSHeadRun PySem.W PySem.Calls in
theorem runL (w : World) : ∀ os : OsState, (HandSHeadRun.endF (HandSHeadRun.stepQ (HandSHeadRun.denQ HandSHeadRun.tabQ) R.prog w) 8000 R.prog w os).map (fun s => looksF R.prog (boot_heap w.params) s.abs) = some true := by
  intro os
  kernel_rfl
open HandSHeadRun PySem.W PySem.Calls in
theorem runS (w : World) : ∀ os : OsState, (HandSHeadRun.endF (HandSHeadRun.stepQ (HandSHeadRun.denQ HandSHeadRun.tabQ) R.prog w) 8000 R.prog w os).map (fun s => seenQ (PySem.W.view R.prog [63]) nms (importedModules R.prog.main.body) (fun s => xlAt (PySem.W.view R.prog [63]) [] s && recOk R.toRowW.records s) s.abs) = some (openGood (PySem.W.view R.prog [63]) nms) := by
  intro os
  kernel_rfl
open HandSHeadRun PySem.W PySem.Calls in
theorem runO (w : World) : ∀ os : OsState, (HandSHeadRun.endF (HandSHeadRun.stepQ (HandSHeadRun.denQ HandSHeadRun.tabQ) R.prog w) 8000 R.prog w os).map ob = some (hk.val w) := by
  intro os
  kernel_rfl
theorem three {α β γ δ : Type} {x : Option α} {f : α → β} {g : α → γ} {h : α → δ} {b : β} {c : γ} {d : δ} (h1 : x.map f = some b) (h2 : x.map g = some c) (h3 : x.map h = some d) : x.map (fun s => (f s, g s, h s)) = some (b, c, d) := by
  cases x with
  | none => cases h1
  | some s =>
    have h1 := Option.some.inj h1
    have h2 := Option.some.inj h2
    have h3 := Option.some.inj h3
    show some (f s, g s, h s) = _
    rw [h1, h2, h3]
theorem run (w : World) : HandSHeadRun.RunEq R (PySem.W.view R.prog [63]) hk ob 8000 nms w := fun os => three (runL w os) (runS w os) (runO w os)
end Hd
set_option maxHeartbeats 1000000
set_option maxHeartbeats 1000000
namespace G
open PySem PySem.Spec PyProof.Rows L2
/-- pure data -/
inductive D where
  | non
  | bl (b : Bool)
  | int (i : Int)
  | str (s : Str)
  | tup (xs : List D)
  | lst (xs : List D)
  | dic (kvs : List (D × D))
  | dct (kvs : List (D × D))
  | scr (ns : List Int)
  | tape
  | fn (n : Str)
  | ty (n : String)
  | memo (n : Int)
  | tuq (xs : List D)
  deriving Inhabited
mutual
def D.pd : D → PyData
  | .non => .none
  | .bl b => .bool b
  | .int i => .int i
  | .str s => .str s
  | .tup xs => .tuple (pdAll xs)
  | .tuq xs => .tuple (pdAll xs)
  | .lst xs => .list (pdAll xs)
  | .scr ns => .list (ns.map PyData.int)
  | .dic _ => .dict []
  | .dct _ => .dict []
  | .tape => .dict []
  | .fn _ => .dict []
  | .ty _ => .dict []
  | .memo _ => .dict []
def pdAll : List D → List PyData
  | [] => []
  | x :: xs => x.pd :: pdAll xs
end
theorem pdAll_map (xs : List D) : pdAll xs = xs.map D.pd := by
  induction xs with
  | nil => rfl
  | cons x xs ih => simp only [pdAll, List.map_cons, ih]
def keyD : Key → D
  | .inl i => .int i
  | .inr x => .str x
def keyT (ks : List Key) : D := .tup (ks.map keyD)
def isDic : HO → Bool
  | .dK _ => true
  | .dT _ => true
  | _ => false
def isSt : HO → Bool
  | .tup _ => true
  | .frz _ _ => true
  | _ => false
abbrev StU := {u : HO // isSt u = true}
theorem st_no {o : HO} (h : isSt o = false) (xs : StU) : o ≠ xs.1 := fun e => by
  rw [e, xs.2] at h; cases h
def bin : Nat → Nat → Nat
  | _, 0 => 1
  | 0, _ + 1 => 0
  | n + 1, k + 1 => bin n k + bin n (k + 1)
def waysN : Nat → Nat → Nat → Bool → Nat
  | 0, _, _, _ => 1
  | n + 1, r, c, b => if r + c = 0 then 1 else if b then ((List.range r).map fun m => bin r (m + 1) * waysN n (r - (m + 1)) c false).sum else ((List.range c).map fun m => bin c (m + 1) * waysN n r (c - (m + 1)) true).sum
def tellsF : Int → List Int → Option Int
  | 0, [r, c, b] => if 0 ≤ r ∧ r ≤ 30 ∧ 0 ≤ c ∧ c ≤ 30 ∧ 0 ≤ b ∧ b ≤ 1 then some (waysN (r.toNat + c.toNat) r.toNat c.toNat (decide (b = 1)) : Nat) else none
  | _, _ => none
def hI (ks : List Int) : Int := reduceHash (Builtin.Tuple.tupleHashOf (ks.map hashInt))
def memoP (b : Addr) (xs : List (List Int × Addr × Value)) : Heap → Prop := fun h => ∃ o es ep, h.get? b = some o ∧ o.ExactDict ∧ o.data = .dict es ep ∧ es.toList = xs.map (fun x => (⟨hI x.1, .ref x.2.1, x.2.2⟩ : DictEntry)) ∧ (xs.map (·.1)).Nodup
def vInt : V → Option Int
  | .int i => some i
  | .bl b => some (if b = true then 1 else 0)
  | _ => none
def EntOk (n : Int) (H : Hp) (x : List Int × Addr × Value) : Prop := (∃ vs, H x.2.1 = some (.tup vs) ∧ vs.map vInt = x.1.map some) ∧ ∃ d t, tellsF n x.1 = some d ∧ x.2.2 = .int d t
def MemoAt (n : Int) (H : Hp) (b : Addr) : Prop := ∃ xs, H b = some (.ext (memoP b xs)) ∧ (b == sysModules) = false ∧ ∀ x ∈ xs, EntOk n H x
/-- a mark that no object bears -/
abbrev markM (n : Int) : HO := .ins 0 0 (List.replicate 1001 (("" : Str), V.int n))
theorem MemoAt.keep {n : Int} {H H' : Hp} {b : Addr} (h : MemoAt n H b) (k : ∀ u, H b = some u → H' b = some u) (kt : ∀ a (xs : StU), H a = some xs.1 → H' a = some xs.1) : MemoAt n H' b := by
  obtain ⟨xs, h1, h2, h3⟩ := h
  refine ⟨xs, k _ h1, h2, fun x hx => ?_⟩
  obtain ⟨⟨vs, e1, e2⟩, e3⟩ := h3 x hx
  exact ⟨⟨vs, kt _ ⟨.tup vs, rfl⟩ e1, e2⟩, e3⟩
/-- as it stands; a dict perhaps locked; a dict of known answers where it is marked -/
def At (H : Hp) (b : Addr) (o : HO) : Prop := H b = some o ∨ (isDic o = true ∧ ∃ x, H b = some (.frz x o)) ∨ ∃ n, o = markM n ∧ MemoAt n H b
/-- what stands here stands there, a dict perhaps locked -/
def Same (H H' : Hp) : Prop := ∀ b o, H b = some o → At H' b o
section
variable {Hs Hs' H H' H1 H2 : Hp} {b p : Addr} {o u : HO}
theorem At.rd (h : At H b o) (m : ∀ n, o ≠ markM n) : Rd H b o := h.elim .inl fun h => h.elim (fun h => .inr h.2) fun ⟨n, e, _⟩ => (m n e).elim
theorem At.lst {vs : List V} (h : At H b (.lst vs)) : H b = some (.lst vs) := h.elim id fun h => h.elim (fun h => nomatch h.1) fun ⟨_, e, _⟩ => nomatch e
theorem At.tup {vs : List V} (h : At H b (.tup vs)) : H b = some (.tup vs) := h.elim id fun h => h.elim (fun h => nomatch h.1) fun ⟨_, e, _⟩ => nomatch e
theorem At.frz {x : Obj} {v : HO} (h : At H b (.frz x v)) : H b = some (.frz x v) := h.elim id fun h => h.elim (fun h => nomatch h.1) fun ⟨_, e, _⟩ => nomatch e
theorem At.ext {φ : Heap → Prop} (h : At H b (.ext φ)) : H b = some (.ext φ) := h.elim id fun h => h.elim (fun h => nomatch h.1) fun ⟨_, e, _⟩ => nomatch e
/-- a dict -/
theorem At.dic (h : At H b o) (d : isDic o = true) : H b = some o ∨ ∃ x, H b = some (.frz x o) := h.elim .inl fun h => h.elim (fun h => .inr h.2) fun ⟨_, e, _⟩ => by rw [e] at d; cases d
theorem At.st {u : HO} (h : At H b u) (s : isSt u = true) : H b = some u := by
  cases u with
  | tup vs => exact h.tup
  | frz x v => exact h.frz
  | _ => cases s
theorem At.keep (h : At H b o) (k : ∀ u, H b = some u → H' b = some u) (kt : ∀ a (xs : StU), H a = some xs.1 → H' a = some xs.1) : At H' b o := h.imp (k _) fun h => h.imp (fun ⟨a, x, e⟩ => ⟨a, x, k _ e⟩) fun ⟨n, e, m⟩ => ⟨n, e, m.keep k kt⟩
theorem At.there (h : At H b o) : ∃ u, H b = some u := h.elim (fun e => ⟨_, e⟩) fun h => h.elim (fun ⟨_, _, e⟩ => ⟨_, e⟩) fun ⟨_, _, xs, e, _⟩ => ⟨_, e⟩
theorem At.upd (h : At H b o) (n : b ≠ p) (nt : ∀ xs : StU, H p ≠ some xs.1) : At (upd H p u) b o := h.keep (fun v e => by rw [upd_ne n]; exact e) fun a xs e => by
  rw [upd_ne fun z => nt xs (by rw [← z]; exact e)]; exact e
theorem Same.refl (H : Hp) : Same H H := fun _ _ h => .inl h
theorem Same.trans (a : Same H H1) (b : Same H1 H2) : Same H H2 := fun c o h => by
  rcases a c o h with q | ⟨q, x, e⟩ | ⟨n, e, xs, h1, h2, h3⟩
  · exact b c o q
  · exact .inr (.inl ⟨q, x, (b c _ e).frz⟩)
  · refine .inr (.inr ⟨n, e, xs, (b c _ h1).ext, h2, fun x hx => ?_⟩)
    obtain ⟨⟨vs, e1, e2⟩, e3⟩ := h3 x hx
    exact ⟨⟨vs, (b _ _ e1).tup, e2⟩, e3⟩
theorem At.mono {n : Int} (e : Same H H') (h : At H b (markM n)) : At H' b (markM n) := by
  rcases h with q | ⟨q, _⟩ | ⟨m, em, xs, h1, h2, h3⟩
  · exact e b _ q
  · cases q
  · refine .inr (.inr ⟨m, em, xs, (e _ _ h1).ext, h2, fun x hx => ?_⟩)
    obtain ⟨⟨vs, e1, e2⟩, e3⟩ := h3 x hx
    exact ⟨⟨vs, (e _ _ e1).tup, e2⟩, e3⟩
theorem Same.of (a : ∀ b o, H b = some o → H' b = some o) : Same H H' := fun b o h => .inl (a b o h)
theorem Same.free (e : Same Hs H) {l : Addr} (h : H l = none) : Hs l = none := by
  cases z : Hs l with
  | none => rfl
  | some u =>
    obtain ⟨v, q⟩ := (e l u z).there
    rw [h] at q; cases q
theorem Same.rd (e : Same H H') (h : Rd H b o) (d : ∀ x v, o ≠ .frz x v := by intros; nofun) (m : ∀ n, o ≠ markM n := by intros; nofun) : Rd H' b o := by
  rcases h with h | ⟨x, h⟩
  · exact (e _ _ h).rd m
  · exact .inr ⟨x, (e _ _ h).frz⟩
theorem Same.seq {K : PySem.W.Frag} {a : Addr} {xs : List V} (e : Same Hs H) (h : SqL K Hs a xs) : SqL K H a xs := h.imp (fun h => e.rd h) id
theorem Same.sqt {K : PySem.W.Frag} {a : Addr} {xs : List V} (e : Same Hs H) (h : SqT K Hs a xs) : SqT K H a xs := h.imp (fun h => e.rd h) id
theorem upd_free (e : L2.upd H p u b = none) : H b = none := by
  by_cases q : b = p
  · subst q; rw [upd_same] at e; cases e
  · rwa [upd_ne q] at e
end
section
variable (K : PySem.W.Frag) (mg : Str → Option Value) (r : Addr)
mutual
/-- the value v stands for the data d, all its objects in Hs -/
inductive RepD (Hs : Hp) : V → D → Prop
  | non : RepD Hs .non .non
  | bl (b : Bool) : RepD Hs (.bl b) (.bl b)
  | int (i : Int) : RepD Hs (.int i) (.int i)
  | str (s : Str) : RepD Hs (.str s) (.str s)
  | tupR {p : Addr} {vs : List V} {ds : List D} : Rd Hs p (.tup vs) → RepDs Hs vs ds → RepD Hs (.ref p) (.tup ds)
  | tuq {p : Addr} {o : Obj} {vs : List V} {ds : List D} : Hs p = some (.frz o (.tup vs)) → o.dict = none → RepDs Hs vs ds → RepD Hs (.ref p) (.tuq ds)
  | lst {p : Addr} {vs : List V} {ds : List D} : Hs p = some (.lst vs) → RepDs Hs vs ds → RepD Hs (.ref p) (.lst ds)
  | dicK {p : Addr} {kvs : List (Key × V)} {ds : List (D × D)} : Rd Hs p (.dK kvs) → RepP Hs (kvs.map fun q => (keyD q.1, q.2)) ds → RepD Hs (.ref p) (.dic ds)
  | dicT {p : Addr} {kvs : List (List Key × V)} {ds : List (D × D)} : Rd Hs p (.dT kvs) → RepP Hs (kvs.map fun q => (keyT q.1, q.2)) ds → RepD Hs (.ref p) (.dct ds)
  | scr {p : Addr} {ns : List Int} : SqL K Hs p (ns.map V.int) → RepD Hs (.ref p) (.scr ns)
  | tape : RepD Hs (.ref r) .tape
  | fn {f : Addr} {n : Str} : mg n = some (.ref f) → RepD Hs (.ref f) (.fn n)
  | ty (n : String) : RepD Hs (.ty n) (.ty n)
  | memo {p : Addr} {n : Int} : At Hs p (markM n) → RepD Hs (.ref p) (.memo n)
inductive RepDs (Hs : Hp) : List V → List D → Prop
  | nil : RepDs Hs [] []
  | cons {v : V} {vs : List V} {d : D} {ds : List D} : RepD Hs v d → RepDs Hs vs ds → RepDs Hs (v :: vs) (d :: ds)
inductive RepP (Hs : Hp) : List (D × V) → List (D × D) → Prop
  | nil : RepP Hs [] []
  | cons {k : D} {v : V} {vs : List (D × V)} {d : D} {ds : List (D × D)} : RepD Hs v d → RepP Hs vs ds → RepP Hs ((k, v) :: vs) ((k, d) :: ds)
end
end
section
variable {K : PySem.W.Frag} {mg : Str → Option Value} {r : Addr} {Hs Hs' Hs1 Hs2 H H' H1 H2 : Hp}
theorem RepD.tup {p : Addr} {vs : List V} {ds : List D} (h : Hs p = some (.tup vs)) (q : RepDs K mg r Hs vs ds) : RepD K mg r Hs (.ref p) (.tup ds) := .tupR (.inl h) q
mutual
theorem RepD.mono (e : Same Hs Hs') : ∀ {v : V} {d : D}, RepD K mg r Hs v d → RepD K mg r Hs' v d
  | _, _, .non => .non
  | _, _, .bl b => .bl b
  | _, _, .int i => .int i
  | _, _, .str s => .str s
  | _, _, .tupR h q => .tupR (e.rd h) (RepDs.mono e q)
  | _, _, .tuq h n q => .tuq (e _ _ h).frz n (RepDs.mono e q)
  | _, _, .lst h q => .lst (e _ _ h).lst (RepDs.mono e q)
  | _, _, .dicK h q => .dicK (e.rd h) (RepP.mono e q)
  | _, _, .dicT h q => .dicT (e.rd h) (RepP.mono e q)
  | _, _, .scr h => .scr (Same.seq e h)
  | _, _, .tape => .tape
  | _, _, .fn h => .fn h
  | _, _, .ty n => .ty n
  | _, _, .memo h => .memo (At.mono e h)
theorem RepDs.mono (e : Same Hs Hs') : ∀ {vs : List V} {ds : List D}, RepDs K mg r Hs vs ds → RepDs K mg r Hs' vs ds
  | _, _, .nil => .nil
  | _, _, .cons h q => .cons (RepD.mono e h) (RepDs.mono e q)
theorem RepP.mono (e : Same Hs Hs') : ∀ {vs : List (D × V)} {ds : List (D × D)}, RepP K mg r Hs vs ds → RepP K mg r Hs' vs ds
  | _, _, .nil => .nil
  | _, _, .cons h q => .cons (RepD.mono e h) (RepP.mono e q)
end
theorem RepDs.length : ∀ {vs : List V} {ds : List D}, RepDs K mg r Hs vs ds → vs.length = ds.length
  | _, _, .nil => rfl
  | _, _, .cons _ q => by simp only [List.length_cons, RepDs.length q]
theorem RepDs.get : ∀ {vs : List V} {ds : List D} {i : Nat} {v : V}, RepDs K mg r Hs vs ds → vs[i]? = some v → ∃ d, ds[i]? = some d ∧ RepD K mg r Hs v d
  | _, _, _, _, .nil, e => by simp at e
  | _, _, 0, _, .cons h _, e => by simp at e; subst e; exact ⟨_, rfl, h⟩
  | _, _, i + 1, _, .cons _ q, e => by
    obtain ⟨d, h1, h2⟩ := RepDs.get (i := i) q (by simpa using e)
    exact ⟨d, by simpa using h1, h2⟩
theorem RepDs.get' : ∀ {vs : List V} {ds : List D} {i : Nat} {d : D}, RepDs K mg r Hs vs ds → ds[i]? = some d → ∃ v, vs[i]? = some v ∧ RepD K mg r Hs v d
  | _, _, _, _, .nil, e => by simp at e
  | _, _, 0, _, .cons h _, e => by simp at e; subst e; exact ⟨_, rfl, h⟩
  | _, _, i + 1, _, .cons _ q, e => by
    obtain ⟨d, h1, h2⟩ := RepDs.get' (i := i) q (by simpa using e)
    exact ⟨d, by simpa using h1, h2⟩
theorem RepDs.append : ∀ {vs ws : List V} {ds es : List D}, RepDs K mg r Hs vs ds → RepDs K mg r Hs ws es → RepDs K mg r Hs (vs ++ ws) (ds ++ es)
  | _, _, _, _, .nil, q => q
  | _, _, _, _, .cons h p, q => .cons h (RepDs.append p q)
theorem RepDs.drop : ∀ {vs : List V} {ds : List D} (n : Nat), RepDs K mg r Hs vs ds → RepDs K mg r Hs (vs.drop n) (ds.drop n)
  | _, _, 0, q => q
  | _, _, _ + 1, .nil => .nil
  | _, _, n + 1, .cons _ q => RepDs.drop n q
theorem RepDs.take : ∀ {vs : List V} {ds : List D} (n : Nat), RepDs K mg r Hs vs ds → RepDs K mg r Hs (vs.take n) (ds.take n)
  | _, _, 0, _ => .nil
  | _, _, _ + 1, .nil => .nil
  | _, _, n + 1, .cons h q => .cons h (RepDs.take n q)
theorem RepDs.set : ∀ {vs : List V} {ds : List D} {v : V} {d : D} (n : Nat), RepDs K mg r Hs vs ds → RepD K mg r Hs v d → RepDs K mg r Hs (vs.set n v) (ds.set n d)
  | _, _, _, _, _, .nil, _ => .nil
  | _, _, _, _, 0, .cons _ q, h => .cons h q
  | _, _, _, _, n + 1, .cons g q, h => .cons g (RepDs.set n q h)
theorem RepDs.eraseIdx : ∀ {vs : List V} {ds : List D} (n : Nat), RepDs K mg r Hs vs ds → RepDs K mg r Hs (vs.eraseIdx n) (ds.eraseIdx n)
  | _, _, _, .nil => .nil
  | _, _, 0, .cons _ q => q
  | _, _, n + 1, .cons g q => .cons g (RepDs.eraseIdx n q)
theorem RepDs.reverse {vs : List V} {ds : List D} (h : RepDs K mg r Hs vs ds) : RepDs K mg r Hs vs.reverse ds.reverse := by
  induction vs generalizing ds with
  | nil => cases h; exact .nil
  | cons v vs ih =>
    cases h with
    | cons a b => rw [List.reverse_cons, List.reverse_cons]; exact (ih b).append (.cons a .nil)
theorem RepDs.ints : ∀ (ns : List Int), RepDs K mg r Hs (ns.map V.int) (ns.map D.int)
  | [] => .nil
  | n :: ns => .cons (.int n) (RepDs.ints ns)
theorem RepDs.ints_of : ∀ {ns : List Int} {vs : List V}, RepDs K mg r Hs vs (ns.map D.int) → vs = ns.map V.int
  | [], _, .nil => rfl
  | n :: ns, _, .cons h q => by cases h; rw [RepDs.ints_of q]; rfl
theorem RepDs.strs_of : ∀ {ns : List Str} {vs : List V}, RepDs K mg r Hs vs (ns.map D.str) → vs = ns.map V.str
  | [], _, .nil => rfl
  | n :: ns, _, .cons h q => by cases h; rw [RepDs.strs_of q]; rfl
theorem RepDs.bls_of : ∀ {ns : List Bool} {vs : List V}, RepDs K mg r Hs vs (ns.map D.bl) → vs = ns.map V.bl
  | [], _, .nil => rfl
  | n :: ns, _, .cons h q => by cases h; rw [RepDs.bls_of q]; rfl
theorem upd_new {H : Hp} {p : Addr} {o : HO} (h : H p = none) (a : Addr) (u : HO) (e : H a = some u) : upd H p o a = some u := by
  rw [upd_ne (ne_of_none e h)]
  exact e
theorem same_new {H : Hp} {p : Addr} {o : HO} (h : H p = none) : Same H (upd H p o) := .of (upd_new h)
end
section
variable (K : PySem.W.Frag) (mg : Str → Option Value) (r : Addr)
/-- what stands still, the heap, the tape at r -/
structure Wd (Hs H : Hp) (tp : List D) : Prop where
  sub : Same Hs H
  tn : Hs r = none
  tH : ∃ vs, H r = some (.lst vs) ∧ RepDs K mg r Hs vs tp
  nx : ∀ b φ, Hs b ≠ some (.ext φ)
structure Grow (Hs H Hs' H' : Hp) : Prop where
  keep : ∀ b o, H b = some o → b ≠ r → Hs b = none → H' b = some o
  free : ∀ b, H' b = none → H b = none
  ex : Same Hs Hs'
  new : ∀ b o, b ≠ r → Hs' b = some o → (∃ u, Hs b = some u) ∨ H b = none ∨ ∃ xs : StU, H b = some xs.1
  tup : ∀ b (xs : StU), H b = some xs.1 → H' b = some xs.1
end
section
variable {K : PySem.W.Frag} {mg : Str → Option Value} {r : Addr} {Hs Hs' Hs1 Hs2 H H' H1 H2 : Hp} {tp tp' : List D}
theorem Grow.refl (Hs H : Hp) : Grow r Hs H Hs H := ⟨fun _ _ e _ _ => e, fun _ e => e, Same.refl _, fun _ _ _ e => .inl ⟨_, e⟩, fun _ _ e => e⟩
theorem Grow.trans (a : Grow r Hs H Hs1 H1) (b : Grow r Hs1 H1 Hs2 H2) : Grow r Hs H Hs2 H2 where
  keep := fun c o e n hs => by
    cases z : Hs1 c with
    | none => exact b.keep c o (a.keep c o e n hs) n z
    | some u =>
      rcases a.new c u n z with ⟨_, q⟩ | q | ⟨xs, q⟩
      · rw [hs] at q; cases q
      · rw [e] at q; cases q
      · rw [e] at q; cases q
        exact b.tup c xs (a.tup c xs e)
  free := fun c e => a.free c (b.free c e)
  ex := a.ex.trans b.ex
  new := fun c o n e => by
    rcases b.new c o n e with ⟨u, q⟩ | q | ⟨xs, q⟩
    · exact a.new c u n q
    · exact .inr (.inl (a.free c q))
    · cases z : H c with
      | none => exact .inr (.inl rfl)
      | some u =>
        cases y : Hs c with
        | some v => exact .inl ⟨v, rfl⟩
        | none =>
          have := a.keep c u z n y
          rw [q] at this; cases this
          exact .inr (.inr ⟨xs, rfl⟩)
  tup := fun c xs e => b.tup c xs (a.tup c xs e)
theorem Grow.no {c : Addr} {o : HO} (a : Grow r Hs H Hs1 H1) (hs : Hs c = none) (e : H c = some o) (n : c ≠ r) (t : isSt o = false := by rfl) : Hs1 c = none := by
  cases z : Hs1 c with
  | none => rfl
  | some u =>
    rcases a.new c u n z with ⟨_, q⟩ | q | ⟨xs, q⟩
    · rw [hs] at q; cases q
    · rw [e] at q; cases q
    · rw [e] at q; exact (st_no t xs (Option.some.inj q)).elim
theorem Wd.ne {p : Addr} {o : HO} (w : Wd K mg r Hs H tp) (h : Hs p = some o) : p ≠ r := fun e => by
  rw [e, w.tn] at h; cases h
theorem Wd.fresh {p : Addr} (w : Wd K mg r Hs H tp) (h : H p = none) : Hs p = none ∧ p ≠ r := by
  refine ⟨w.sub.free h, fun e => ?_⟩
  obtain ⟨vs, q, _⟩ := w.tH
  rw [e, q] at h; cases h
/-- a new object that stands still -/
theorem Wd.alloc {p : Addr} {o : HO} (w : Wd K mg r Hs H tp) (h : H p = none) (no : ∀ φ, o ≠ .ext φ := by intros; nofun) : Grow r Hs H (upd Hs p o) (upd H p o) ∧ Wd K mg r (upd Hs p o) (upd H p o) tp := by
  obtain ⟨hs, ne⟩ := w.fresh h
  refine ⟨⟨fun b u e _ _ => upd_new h b u e, fun b e => upd_free e, same_new hs, fun b u n e => ?_, fun b xs e => upd_new h b _ e⟩, ⟨fun b u e => ?_, ?_, ?_, fun b φ e => ?_⟩⟩
  · by_cases q : b = p
    · subst q; exact .inr (.inl h)
    · rw [upd_ne q] at e; exact .inl ⟨_, e⟩
  · by_cases q : b = p
    · subst q; rw [upd_same] at e; exact .inl (by rw [upd_same]; exact e)
    · rw [upd_ne q] at e; exact (w.sub b u e).upd q fun xs z => by rw [h] at z; first | exact st_no rfl xs (Option.some.inj z) | cases z
  · rw [upd_ne ne.symm]; exact w.tn
  · obtain ⟨vs, q, z⟩ := w.tH
    exact ⟨vs, by rw [upd_ne ne.symm]; exact q, z.mono (same_new hs)⟩
  · by_cases q : b = p
    · subst q; rw [upd_same] at e; exact no φ (Option.some.inj e)
    · rw [upd_ne q] at e; exact w.nx b φ e
/-- a new object that does not stand still (yet) -/
theorem Wd.lay {p : Addr} {o : HO} (w : Wd K mg r Hs H tp) (h : H p = none) : Grow r Hs H Hs (upd H p o) ∧ Wd K mg r Hs (upd H p o) tp := by
  obtain ⟨hs, ne⟩ := w.fresh h
  refine ⟨⟨fun b u e _ _ => upd_new h b u e, fun b e => upd_free e, Same.refl _, fun b u n e => .inl ⟨_, e⟩, fun b xs e => upd_new h b _ e⟩, ⟨fun b u e => (w.sub b u e).keep (fun v q => upd_new h b v q) fun a xs e => upd_new h a _ e, w.tn, ?_, w.nx⟩⟩
  obtain ⟨vs, q, z⟩ := w.tH
  exact ⟨vs, by rw [upd_ne ne.symm]; exact q, z⟩
/-- an object that is not in Hs is written -/
theorem Wd.write {p : Addr} {o : HO} (w : Wd K mg r Hs H tp) (h : Hs p = none) (ne : p ≠ r) (nt : ∀ xs : StU, H p ≠ some xs.1) : Wd K mg r Hs (upd H p o) tp := by
  refine ⟨fun b u e => ?_, w.tn, ?_, w.nx⟩
  · exact (w.sub b u e).upd (ne_of_none e h) nt
  · obtain ⟨vs, q, z⟩ := w.tH
    exact ⟨vs, by rw [upd_ne ne.symm]; exact q, z⟩
end
inductive RE (α : Type) where
  | ok (a : α) (tp : List D)
  | exn (c : Str) (fs : List (Str × D)) (tp : List D)
  | stuck
def RE.bind {α β : Type} (x : RE α) (k : α → List D → RE β) : RE β := match x with
  | .ok a tp => k a tp
  | .exn c fs tp => .exn c fs tp
  | .stuck => .stuck
@[simp] theorem RE.bind_ok {α β : Type} (a : α) (tp : List D) (k : α → List D → RE β) : (RE.ok a tp).bind k = k a tp := rfl
@[simp] theorem RE.bind_exn {α β : Type} (c : Str) (fs : List (Str × D)) (tp : List D) (k : α → List D → RE β) : (RE.exn c fs tp : RE α).bind k = .exn c fs tp := rfl
@[simp] theorem RE.bind_stuck {α β : Type} (k : α → List D → RE β) : (RE.stuck : RE α).bind k = .stuck := rfl
def RE.of {α : Type} (o : Option α) (tp : List D) : RE α := match o with
  | some a => .ok a tp
  | none => .stuck
@[simp] theorem RE.of_some {α : Type} (a : α) (tp : List D) : RE.of (some a) tp = .ok a tp := rfl
@[simp] theorem RE.of_none {α : Type} (tp : List D) : (RE.of (none : Option α) tp) = .stuck := rfl
section
variable (K : PySem.W.Frag) (mg : Str → Option Value) (r : Addr)
/-- the dict of an exception: its fields -/
def ExD (Hs : Hp) (fs : List (Str × D)) (dx : Option Addr) : Prop :=
  (fs = [] ∧ dx = none) ∨ ∃ a gs, dx = some a ∧ Hs a = some (.xd gs) ∧ ∀ f, match fs.lookup f with
    | some d => ∃ v, gs.lookup f = some v ∧ RepD K mg r Hs v d
    | none => gs.lookup f = none
def Post {β α : Type} (Rp : Hp → Hp → β → α → Prop) (E : XK) (Hs H : Hp) (res : RE α) (Q : β → Hp → Prop) : Prop := match res with
  | .ok d tp' => ∀ v Hs' H', Grow r Hs H Hs' H' → Wd K mg r Hs' H' tp' → Rp Hs' H' v d → Q v H'
  | .exn c fs tp' => ∀ cv dx Hs' H', Grow r Hs H Hs' H' → Wd K mg r Hs' H' tp' → mg c = some cv → ExD K mg r Hs' fs dx → E cv dx H'
  | .stuck => False
end
section
variable {K : PySem.W.Frag} {mg : Str → Option Value} {r : Addr} {Hs Hs' Hs1 Hs2 H H' H1 H2 : Hp} {tp tp' : List D} {α β γ δ : Type} {R1 : Hp → Hp → β → α → Prop} {R2 : Hp → Hp → δ → γ → Prop} {E : XK}
theorem Post.shift {res : RE α} {Q : β → Hp → Prop} (g : Grow r Hs H Hs1 H1) (h : Post K mg r R1 E Hs H res Q) : Post K mg r R1 E Hs1 H1 res Q := by
  cases res with
  | ok d tp' => exact fun v Hs' H' g' w q => h v Hs' H' (g.trans g') w q
  | exn c fs tp' => exact fun cv dx Hs' H' g' w m x => h cv dx Hs' H' (g.trans g') w m x
  | stuck => exact h
theorem Post.imp {res : RE α} {Q Q' : β → Hp → Prop} (h : Post K mg r R1 E Hs H res Q) (k : ∀ v H', Q v H' → Q' v H') : Post K mg r R1 E Hs H res Q' := by
  cases res with
  | ok d tp' => exact fun v Hs' H' g' w q => k _ _ (h v Hs' H' g' w q)
  | exn c fs tp' => exact h
  | stuck => exact h
/-- one thing, then another -/
theorem Post.bind {res : RE α} {k : α → List D → RE γ} {Q : δ → Hp → Prop} {Q1 : β → Hp → Prop} (h : Post K mg r R2 E Hs H (res.bind k) Q)
    (step : ∀ v Hs1 H1 d tp1, res = .ok d tp1 → Grow r Hs H Hs1 H1 → Wd K mg r Hs1 H1 tp1 → R1 Hs1 H1 v d → Post K mg r R2 E Hs1 H1 (k d tp1) Q → Q1 v H1) : Post K mg r R1 E Hs H res Q1 := by
  cases res with
  | ok d tp' => exact fun v Hs' H' g' w q => step v Hs' H' d tp' rfl g' w q (Post.shift g' h)
  | exn c fs tp' => exact h
  | stuck => exact h
theorem Post.ok_of {o : Option α} {Q : β → Hp → Prop} (h : Post K mg r R1 E Hs H (RE.of o tp) Q) : ∃ d, o = some d ∧ ∀ v Hs' H', Grow r Hs H Hs' H' → Wd K mg r Hs' H' tp → R1 Hs' H' v d → Q v H' := by
  cases o with
  | none => exact h.elim
  | some d => exact ⟨d, rfl, h⟩
end
end G
set_option maxHeartbeats 1000000
namespace G
open PySem PySem.Spec PyProof.Rows L2
abbrev DEnv := List (Option D)
abbrev SE (α : Type) := DEnv → List D → RE α
section
variable (K : PySem.W.Frag) (mg : Str → Option Value) (r : Addr)
/-- the object at p (its own slot's alone) holds d, its items stand still -/
def OwnAt (Hs H : Hp) (p : Addr) : D → Prop
  | .lst ds => ∃ vs, H p = some (.lst vs) ∧ RepDs K mg r Hs vs ds
  | .dic ds => ∃ kvs : List (Key × V), H p = some (.dK kvs) ∧ RepP K mg r Hs (kvs.map fun q => (keyD q.1, q.2)) ds
  | .dct ds => ∃ kvs : List (List Key × V), H p = some (.dT kvs) ∧ RepP K mg r Hs (kvs.map fun q => (keyT q.1, q.2)) ds
  | _ => False
/-- as RepD; the topmost object may be one that changes -/
def RepT (Hs H : Hp) (v : V) (d : D) : Prop := RepD K mg r Hs v d ∨ ∃ p, v = .ref p ∧ (p ≠ r ∧ Hs p = none) ∧ OwnAt K mg r Hs H p d
structure Rel (O : List Nat) (Hs0 H0 Hs H : Hp) (σ : L2.St) (env : DEnv) (tp : List D) : Prop where
  wd : Wd K mg r Hs H tp
  gr : Grow r Hs0 H0 Hs H
  len : σ.length = env.length
  vars : ∀ i d, env[i]? = some (some d) → i ∉ O → ∃ v, σ[i]? = some (some v) ∧ RepD K mg r Hs v d
  own : ∀ i, i ∈ O → ∃ d p, env[i]? = some (some d) ∧ σ[i]? = some (some (.ref p)) ∧ Hs p = none ∧ H0 p = none ∧ p ≠ r ∧ OwnAt K mg r Hs H p d
  dis : ∀ i j p, i ∈ O → j ∈ O → σ[i]? = some (some (.ref p)) → σ[j]? = some (some (.ref p)) → i = j
end
section
variable {K : PySem.W.Frag} {mg : Str → Option Value} {r : Addr} {Hs0 H0 Hs Hs' H H' : Hp} {O : List Nat} {σ : L2.St} {env : DEnv} {tp tp' : List D} {p : Addr} {d : D} {v : V}
theorem OwnAt.grow (h : OwnAt K mg r Hs H p d) (e : Same Hs Hs') (k : ∀ o, H p = some o → H' p = some o) : OwnAt K mg r Hs' H' p d := by
  cases d with
  | lst ds => obtain ⟨vs, a, b⟩ := h; exact ⟨vs, k _ a, b.mono e⟩
  | dic ds => obtain ⟨kvs, a, b⟩ := h; exact ⟨kvs, k _ a, RepP.mono e b⟩
  | dct ds => obtain ⟨kvs, a, b⟩ := h; exact ⟨kvs, k _ a, RepP.mono e b⟩
  | _ => exact h.elim
theorem OwnAt.ntup (h : OwnAt K mg r Hs H p d) : ∀ o, H p = some o → isSt o = false := fun o e => by
  cases d with
  | lst ds => obtain ⟨vs, a, b⟩ := h; rw [e] at a; cases a; rfl
  | dic ds => obtain ⟨kvs, a, b⟩ := h; rw [e] at a; cases a; rfl
  | dct ds => obtain ⟨kvs, a, b⟩ := h; rw [e] at a; cases a; rfl
  | _ => exact h.elim
theorem OwnAt.next (h : OwnAt K mg r Hs H p d) : ∀ φ, H p ≠ some (.ext φ) := fun φ e => by
  cases d with
  | lst ds => obtain ⟨vs, a, b⟩ := h; rw [e] at a; cases a
  | dic ds => obtain ⟨kvs, a, b⟩ := h; rw [e] at a; cases a
  | dct ds => obtain ⟨kvs, a, b⟩ := h; rw [e] at a; cases a
  | _ => exact h.elim
theorem OwnAt.there (h : OwnAt K mg r Hs H p d) : ∃ o, H p = some o := by
  cases d with
  | lst ds => obtain ⟨vs, a, b⟩ := h; exact ⟨_, a⟩
  | dic ds => obtain ⟨kvs, a, b⟩ := h; exact ⟨_, a⟩
  | dct ds => obtain ⟨kvs, a, b⟩ := h; exact ⟨_, a⟩
  | _ => exact h.elim
/-- an owned object comes to stand still -/
theorem OwnAt.rep (h : OwnAt K mg r Hs H p d) (e : Same Hs Hs') (k : ∀ o, H p = some o → Hs' p = some o) : RepD K mg r Hs' (.ref p) d := by
  cases d with
  | lst ds => obtain ⟨vs, a, b⟩ := h; exact .lst (k _ a) (b.mono e)
  | dic ds => obtain ⟨kvs, a, b⟩ := h; exact .dicK (.of (k _ a)) (RepP.mono e b)
  | dct ds => obtain ⟨kvs, a, b⟩ := h; exact .dicT (.of (k _ a)) (RepP.mono e b)
  | _ => exact h.elim
theorem RepT.grow (h : RepT K mg r Hs H v d) (g : Grow r Hs H Hs' H') : RepT K mg r Hs' H' v d := by
  rcases h with h | ⟨p, e, ⟨n, hs⟩, h⟩
  · exact .inl (h.mono g.ex)
  · obtain ⟨o, q⟩ := h.there
    exact .inr ⟨p, e, ⟨n, g.no hs q n (h.ntup o q)⟩, h.grow g.ex fun o q => g.keep p o q n hs⟩
theorem RepD.top (h : RepD K mg r Hs v d) : RepT K mg r Hs H v d := .inl h
theorem Rel.grow (R : Rel K mg r O Hs0 H0 Hs H σ env tp) (g : Grow r Hs H Hs' H') (w : Wd K mg r Hs' H' tp') : Rel K mg r O Hs0 H0 Hs' H' σ env tp' where
  wd := w
  gr := R.gr.trans g
  len := R.len
  vars := fun i d e n => by
    obtain ⟨v, a, b⟩ := R.vars i d e n
    exact ⟨v, a, b.mono g.ex⟩
  own := fun i hi => by
    obtain ⟨d, p, a, b, c, c0, n, o⟩ := R.own i hi
    refine ⟨d, p, a, b, ?_, c0, n, o.grow g.ex fun u q => g.keep p u q n c⟩
    obtain ⟨u', q'⟩ := o.there
    exact g.no c q' n (o.ntup u' q')
  dis := R.dis
end
section
variable (K : PySem.W.Frag) (mg : Str → Option Value) (r : Addr) (X : Cx) (O : List Nat) (E : XK)
abbrev PostE : Hp → Hp → RE D → VK → Prop := Post K mg r (fun Hs _ v d => RepD K mg r Hs v d) E
abbrev PostO : Hp → Hp → RE D → VK → Prop := Post K mg r (fun Hs H v d => RepT K mg r Hs H v d) E
abbrev PostB : Hp → Hp → RE Bool → (Bool → Hp → Prop) → Prop := Post K mg r (fun _ _ (a b : Bool) => a = b) E
abbrev PostA : Hp → Hp → RE (List D) → (List V → Hp → Prop) → Prop := Post K mg r (fun Hs _ v d => RepDs K mg r Hs v d) E
abbrev PostAO : Hp → Hp → RE (List D) → (List V → Hp → Prop) → Prop := Post K mg r (fun Hs H v d => Paired (RepT K mg r Hs H) v d) E
/-- the expression e gives what m says -/
structure GE (e : Expr) (t : TE) (m : SE D) : Prop where
  pe : PE X e t
  snd : ∀ Hs0 H0 Hs H σ env tp Q, Rel K mg r O Hs0 H0 Hs H σ env tp → PostE K mg r E Hs H (m env tp) Q → t σ H Q
/-- as GE, the value may be a slot's own object -/
structure GO (e : Expr) (t : TE) (m : SE D) : Prop where
  pe : PE X e t
  snd : ∀ Hs0 H0 Hs H σ env tp Q, Rel K mg r O Hs0 H0 Hs H σ env tp → PostO K mg r E Hs H (m env tp) Q → t σ H Q
structure GT (e : Expr) (t : TT) (m : SE Bool) : Prop where
  pe : PT X e t
  snd : ∀ Hs0 H0 Hs H σ env tp Q, Rel K mg r O Hs0 H0 Hs H σ env tp → PostB K mg r E Hs H (m env tp) Q → t σ H Q
structure GW (e : Expr) (t : TT) (m : SE Bool) : Prop where
  pe : PW X e t
  snd : ∀ Hs0 H0 Hs H σ env tp Q, Rel K mg r O Hs0 H0 Hs H σ env tp → PostB K mg r E Hs H (m env tp) Q → t σ H Q
structure GA (es : List Expr) (t : TA) (m : SE (List D)) : Prop where
  pe : PA X es t
  snd : ∀ Hs0 H0 Hs H σ env tp Q, Rel K mg r O Hs0 H0 Hs H σ env tp → PostA K mg r E Hs H (m env tp) Q → t σ H Q
structure GAO (es : List Expr) (t : TA) (m : SE (List D)) : Prop where
  pe : PA X es t
  snd : ∀ Hs0 H0 Hs H σ env tp Q, Rel K mg r O Hs0 H0 Hs H σ env tp → PostAO K mg r E Hs H (m env tp) Q → t σ H Q
end
section
variable {K : PySem.W.Frag} {mg : Str → Option Value} {r : Addr} {X : Cx} {O : List Nat} {E : XK} {e a b c : Expr} {es : List Expr} {pos : Pos} {t ta tb tc : TE} {tt tu : TT} {ts : TA}
theorem GE.go {m : SE D} (h : GE K mg r X O E e t m) : GO K mg r X O E e t m := by
  obtain ⟨ht, hs⟩ := h
  refine ⟨ht, fun Hs0 H0 Hs H σ env tp Q R P => hs _ _ _ _ _ _ _ _ R ?_⟩
  unfold PostO at P
  cases q : m env tp with
  | ok d tp' =>
    rw [q] at P
    exact fun v Hs' H' g w x => P v Hs' H' g w (.inl x)
  | exn c fs tp' => rw [q] at P; exact P
  | stuck => rw [q] at P; exact P
def vE (i : Nat) : SE D := fun env tp => match env[i]? with
  | some (some d) => .ok d tp
  | _ => .stuck
def cE (d : D) : SE D := fun _ tp => .ok d tp
theorem ge_var (i : Nat) {x : Str} (hO : i ∉ O := by decide) (hN : X.N[i]? = some x := by rfl) (hv : Vis X.env.scope x := by first | exact Or.inl rfl | exact Or.inr (Or.inl rfl) | exact Or.inr (Or.inr rfl)) (hd : (x == ("__debug__" : Str)) = false := by decide)
    (hcd : (x == ("__classdict__" : Str)) = false := by decide) : GE K mg r X O E (.Name x pos) (tVar i) (vE i) := by
  refine ⟨pe_var hN hv hd hcd, fun Hs0 H0 Hs H σ env tp Q R P => ?_⟩
  unfold vE at P
  split at P
  · rename_i d q
    obtain ⟨v, h1, h2⟩ := R.vars i d q hO
    exact ⟨v, h1, P v Hs H (Grow.refl _ _) R.wd h2⟩
  · exact P.elim
theorem go_own (i : Nat) {x : Str} (hO : i ∈ O := by decide) (hN : X.N[i]? = some x := by rfl) (hv : Vis X.env.scope x := by first | exact Or.inl rfl | exact Or.inr (Or.inl rfl) | exact Or.inr (Or.inr rfl)) (hd : (x == ("__debug__" : Str)) = false := by decide)
    (hcd : (x == ("__classdict__" : Str)) = false := by decide) : GO K mg r X O E (.Name x pos) (tVar i) (vE i) := by
  refine ⟨pe_var hN hv hd hcd, fun Hs0 H0 Hs H σ env tp Q R P => ?_⟩
  obtain ⟨d, p, h1, h2, h3, h4, h5, h6⟩ := R.own i hO
  unfold vE at P
  rw [h1] at P
  exact ⟨_, h2, P _ Hs H (Grow.refl _ _) R.wd (.inr ⟨p, rfl, ⟨h5, h3⟩, h6⟩)⟩
theorem ge_c {e : Expr} {v : V} {d : D} (h : PE X e (tC v)) (hr : ∀ Hs, RepD K mg r Hs v d) : GE K mg r X O E e (tC v) (cE d) :=
  ⟨h, fun Hs0 H0 Hs H σ env tp Q R P => P v Hs H (Grow.refl _ _) R.wd (hr Hs)⟩
theorem ge_int {i j pos} : GE K mg r X O E (.Constant (.int i) j pos) (tC (.int i)) (cE (.int i)) := ge_c pe_int fun _ => .int i
theorem ge_bl {i j pos} : GE K mg r X O E (.Constant (.bool i) j pos) (tC (.bl i)) (cE (.bl i)) := ge_c pe_bl fun _ => .bl i
theorem ge_non {j pos} : GE K mg r X O E (.Constant .none j pos) (tC .non) (cE .non) := ge_c pe_non fun _ => .non
theorem ge_str {i j pos} : GE K mg r X O E (.Constant (.str i) j pos) (tC (.str i)) (cE (.str i)) := ge_c pe_str fun _ => .str i
theorem ge_gint {x : Str} {i : Int} (hm : ∃ t, X.mg x = some (.int i t)) (hg : Gl X x := by rfl) (hd : (x == ("__debug__" : Str)) = false := by decide) : GE K mg r X O E (.Name x pos) (tC (.int i)) (cE (.int i)) := by
  obtain ⟨t, hm⟩ := hm
  exact ge_c (v := .int i) (pe_glob hg hm ⟨t, rfl⟩ hd) fun _ => .int i
theorem ge_gstr {x : Str} {i : Str} (hm : ∃ t, X.mg x = some (.str i t)) (hg : Gl X x := by rfl) (hd : (x == ("__debug__" : Str)) = false := by decide) : GE K mg r X O E (.Name x pos) (tC (.str i)) (cE (.str i)) := by
  obtain ⟨t, hm⟩ := hm
  exact ge_c (v := .str i) (pe_glob hg hm ⟨t, rfl⟩ hd) fun _ => .str i
def nilA : SE (List D) := fun _ tp => .ok [] tp
def consA (m : SE D) (ms : SE (List D)) : SE (List D) := fun env tp => (m env tp).bind fun d tp1 => (ms env tp1).bind fun ds tp2 => .ok (d :: ds) tp2
theorem ga_nil : GA K mg r X O E [] tNil nilA := ⟨pa_nil, fun Hs0 H0 Hs H σ env tp Q R P => P [] Hs H (Grow.refl _ _) R.wd .nil⟩
theorem gao_nil : GAO K mg r X O E [] tNil nilA := ⟨pa_nil, fun Hs0 H0 Hs H σ env tp Q R P => P [] Hs H (Grow.refl _ _) R.wd .nil⟩
theorem ga_cons {m : SE D} {ms : SE (List D)} (h : GE K mg r X O E e t m) (hs : GA K mg r X O E es ts ms) (hst : starEach (e :: es) X.env = (false, eval e X.env) :: starEach es X.env := by rfl) : GA K mg r X O E (e :: es) (tCons t ts) (consA m ms) := by
  obtain ⟨ht, h1⟩ := h
  obtain ⟨hts, h2⟩ := hs
  refine ⟨pa_cons ht hts hst, fun Hs0 H0 Hs H σ env tp Q R P => ?_⟩
  refine h1 _ _ _ _ _ _ _ _ R (Post.bind P fun v Hs1 H1 d tp1 _ g w rv P1 => ?_)
  refine h2 _ _ _ _ _ _ _ _ (R.grow g w) (Post.bind P1 fun vs Hs2 H2 ds tp2 _ g2 w2 rs P2 => ?_)
  exact P2 _ Hs2 H2 (Grow.refl _ _) w2 (.cons (rv.mono g2.ex) rs)
theorem gao_cons {m : SE D} {ms : SE (List D)} (h : GO K mg r X O E e t m) (hs : GAO K mg r X O E es ts ms) (hst : starEach (e :: es) X.env = (false, eval e X.env) :: starEach es X.env := by rfl) : GAO K mg r X O E (e :: es) (tCons t ts) (consA m ms) := by
  obtain ⟨ht, h1⟩ := h
  obtain ⟨hts, h2⟩ := hs
  refine ⟨pa_cons ht hts hst, fun Hs0 H0 Hs H σ env tp Q R P => ?_⟩
  refine h1 _ _ _ _ _ _ _ _ R (Post.bind P fun v Hs1 H1 d tp1 _ g w rv P1 => ?_)
  refine h2 _ _ _ _ _ _ _ _ (R.grow g w) (Post.bind P1 fun vs Hs2 H2 ds tp2 _ g2 w2 rs P2 => ?_)
  exact P2 _ Hs2 H2 (Grow.refl _ _) w2 (.cons (rv.grow g2) rs)
def Fresh (K : PySem.W.Frag) (mg : Str → Option Value) (r : Addr) (Hb : Hp) (Hs H : Hp) (v : V) (d : D) : Prop := ∃ p, v = .ref p ∧ Hb p = none ∧ Hs p = none ∧ p ≠ r ∧ OwnAt K mg r Hs H p d
structure GF (K : PySem.W.Frag) (mg : Str → Option Value) (r : Addr) (X : Cx) (O : List Nat) (E : XK) (e : Expr) (t : TE) (m : SE D) : Prop where
  pe : PE X e t
  snd : ∀ Hs0 H0 Hs H σ env tp Q, Rel K mg r O Hs0 H0 Hs H σ env tp → Post K mg r (Fresh K mg r H) E Hs H (m env tp) Q → t σ H Q
/-- it comes to stand still -/
theorem freeze_fresh {Hb Hs H : Hp} {tp : List D} {v : V} {d : D} (w : Wd K mg r Hs H tp) (h : Fresh K mg r Hb Hs H v d) : ∃ Hs', Same Hs Hs' ∧ Wd K mg r Hs' H tp ∧ RepD K mg r Hs' v d ∧ (∀ b o, Hs' b = some o → (∃ u, Hs b = some u) ∨ Hb b = none) := by
  obtain ⟨p, rfl, hb, hs, ne, oa⟩ := h
  obtain ⟨o, ho⟩ := oa.there
  have e : Same Hs (upd Hs p o) := same_new hs
  refine ⟨upd Hs p o, e, ⟨fun b u q => ?_, by rw [upd_ne ne.symm]; exact w.tn, ?_, fun b φ q => ?_⟩, oa.rep e (fun u q => ?_), fun b u q => ?_⟩
  · by_cases z : b = p
    · subst z; rw [upd_same] at q; exact .inl (ho.trans q)
    · rw [upd_ne z] at q; exact w.sub b u q
  · obtain ⟨vs, a, b⟩ := w.tH
    exact ⟨vs, a, b.mono e⟩
  · by_cases z : b = p
    · subst z; rw [upd_same] at q; exact oa.next φ (ho.trans q)
    · rw [upd_ne z] at q; exact w.nx b φ q
  · rw [ho] at q; cases q; exact upd_same
  · by_cases z : b = p
    · subst z; exact .inr hb
    · rw [upd_ne z] at q; exact .inl ⟨_, q⟩
theorem GF.ge {m : SE D} (h : GF K mg r X O E e t m) : GE K mg r X O E e t m := by
  obtain ⟨ht, hs⟩ := h
  refine ⟨ht, fun Hs0 H0 Hs H σ env tp Q R P => hs _ _ _ _ _ _ _ _ R ?_⟩
  unfold PostE at P
  cases q : m env tp with
  | ok d tp' =>
    rw [q] at P
    intro v Hs' H' g w x
    obtain ⟨Hs2, e, w2, rv, nw⟩ := freeze_fresh w x
    refine P v Hs2 H' ⟨g.keep, g.free, g.ex.trans e, fun b o n z => ?_, g.tup⟩ w2 rv
    rcases nw b o z with ⟨u, z⟩ | z
    · exact g.new b u n z
    · exact .inr (.inl z)
  | exn c fs tp' => rw [q] at P; exact P
  | stuck => rw [q] at P; exact P
def tupE (ms : SE (List D)) : SE D := fun env tp => (ms env tp).bind fun ds tp1 => if ds.length ≤ sizeLine then .ok (.tup ds) tp1 else .stuck
def lstE (ms : SE (List D)) : SE D := fun env tp => (ms env tp).bind fun ds tp1 => if ds.length ≤ sizeLine then .ok (.lst ds) tp1 else .stuck
theorem ge_tup {ms : SE (List D)} {x1} (hs : GA K mg r X O E es ts ms) : GE K mg r X O E (.Tuple es x1 pos) (tTup ts) (tupE ms) := by
  obtain ⟨hts, h2⟩ := hs
  refine ⟨pe_tup hts, fun Hs0 H0 Hs H σ env tp Q R P => ?_⟩
  refine h2 _ _ _ _ _ _ _ _ R (Post.bind P fun vs Hs1 H1 ds tp1 _ g w rs P1 => ?_)
  by_cases q : ds.length ≤ sizeLine
  · rw [if_pos q] at P1
    refine ⟨by rw [rs.length]; exact q, fun p hp => ?_⟩
    obtain ⟨g2, w2⟩ := w.alloc (o := .tup vs) hp
    exact P1 _ _ _ g2 w2 (.tup upd_same (rs.mono g2.ex))
  · rw [if_neg q] at P1; exact P1.elim
/-- what a new object at p gives to a wish of a fresh one -/
theorem fresh_new {Hs H Hs1 H1 : Hp} {p : Addr} {o : HO} {tp : List D} {d : D} (g : Grow r Hs H Hs1 H1) (w : Wd K mg r Hs1 H1 tp) (hp : H1 p = none) (ho : OwnAt K mg r Hs1 (upd H1 p o) p d) :
    Grow r Hs H Hs1 (upd H1 p o) ∧ Wd K mg r Hs1 (upd H1 p o) tp ∧ Fresh K mg r H Hs1 (upd H1 p o) (.ref p) d := by
  obtain ⟨g2, w2⟩ := w.lay (o := o) hp
  obtain ⟨f1, f2⟩ := w.fresh hp
  refine ⟨g.trans g2, w2, p, rfl, ?_, f1, f2, ho⟩
  exact g.free p hp
theorem gf_lst {ms : SE (List D)} (hs : GA K mg r X O E es ts ms) : GF K mg r X O E (.List es pos) (tLst ts) (lstE ms) := by
  obtain ⟨hts, h2⟩ := hs
  refine ⟨pe_lst hts, fun Hs0 H0 Hs H σ env tp Q R P => ?_⟩
  unfold lstE at P
  refine h2 _ _ _ _ _ _ _ _ R ?_
  cases q : ms env tp with
  | ok ds tp1 =>
    rw [q] at P
    intro vs Hs1 H1 g w rs
    by_cases q : ds.length ≤ sizeLine
    · simp only [RE.bind_ok, if_pos q] at P
      refine ⟨by rw [rs.length]; exact q, fun p hp => ?_⟩
      obtain ⟨a, b, c⟩ := fresh_new (o := .lst vs) (d := .lst ds) g w hp ⟨vs, upd_same, rs⟩
      exact P _ _ _ a b c
    · simp only [RE.bind_ok, if_neg q] at P; exact P.elim
  | exn c fs tp1 => rw [q] at P; exact P
  | stuck => rw [q] at P; exact P
def OpS (K : PySem.W.Frag) (mg : Str → Option Value) (r : Addr) (R : R2) (f : D → D → Option D) : Prop := ∀ Hs H tp x y d e z Q, Wd K mg r Hs H tp → RepT K mg r Hs H x d → RepT K mg r Hs H y e → f d e = some z →
  (∀ v Hs' H', Grow r Hs H Hs' H' → Wd K mg r Hs' H' tp → RepD K mg r Hs' v z → Q v H') → R x y H Q
def binE (f : D → D → Option D) (ma mb : SE D) : SE D := fun env tp => (ma env tp).bind fun d tp1 => (mb env tp1).bind fun e tp2 => RE.of (f d e) tp2
theorem bin_sound {R : R2} {f : D → D → Option D} {ma mb : SE D} {ta tb : TE} (hf : OpS K mg r R f) (h1 : ∀ Hs0 H0 Hs H σ env tp Q, Rel K mg r O Hs0 H0 Hs H σ env tp → PostO K mg r E Hs H (ma env tp) Q → ta σ H Q)
    (h2 : ∀ Hs0 H0 Hs H σ env tp Q, Rel K mg r O Hs0 H0 Hs H σ env tp → PostO K mg r E Hs H (mb env tp) Q → tb σ H Q) :
    ∀ Hs0 H0 Hs H σ env tp Q, Rel K mg r O Hs0 H0 Hs H σ env tp → PostE K mg r E Hs H (binE f ma mb env tp) Q → tOp R ta tb σ H Q := by
  intro Hs0 H0 Hs H σ env tp Q Rl P
  refine h1 _ _ _ _ _ _ _ _ Rl (Post.bind P fun v Hs1 H1 d tp1 _ g w rv P1 => ?_)
  refine h2 _ _ _ _ _ _ _ _ (Rl.grow g w) (Post.bind P1 fun u Hs2 H2 e tp2 _ g2 w2 ru P2 => ?_)
  obtain ⟨z, hz, k⟩ := Post.ok_of P2
  exact hf _ _ _ _ _ _ _ _ _ w2 (rv.grow g2) ru hz k
theorem ge_op {op : Operator} {R : R2} {f : D → D → Option D} {ma mb : SE D} (ho : OpR X (binaryOp op) R) (hf : OpS K mg r R f) (ha : GO K mg r X O E a ta ma) (hb : GO K mg r X O E b tb mb) : GE K mg r X O E (.BinOp a op b pos) (tOp R ta tb) (binE f ma mb) :=
  ⟨pe_op ho ha.pe hb.pe, bin_sound hf ha.snd hb.snd⟩
theorem ge_cmp {op : CmpOp} {R : R2} {f : D → D → Option D} {ma mb : SE D} (ho : OpR X (compareOp op) R) (hf : OpS K mg r R f) (ha : GO K mg r X O E a ta ma) (hb : GO K mg r X O E b tb mb) (hm : behindInMarks op b = false) : GE K mg r X O E (.Compare a [op] [b] pos) (tOp R ta tb) (binE f ma mb) :=
  ⟨pe_cmpR ho ha.pe hb.pe hm, bin_sound hf ha.snd hb.snd⟩
/-- two rules for one operator: f is told by the one or the other -/
theorem OpS.or {R R' : R2} {f f1 f2 : D → D → Option D} (h : OpS K mg r R f1) (h' : OpS K mg r R' f2) (hf : ∀ d e z, f d e = some z → f1 d e = some z ∨ f2 d e = some z) : OpS K mg r (fun x y H Q => R x y H Q ∨ R' x y H Q) f := by
  intro Hs H tp x y d e z Q w rx ry hz k
  rcases hf d e z hz with q | q
  · exact .inl (h Hs H tp x y d e z Q w rx ry q k)
  · exact .inr (h' Hs H tp x y d e z Q w rx ry q k)
def chainE (f g : D → D → Option D) (ma mb mc : SE D) : SE D := fun env tp => (ma env tp).bind fun d tp1 => (mb env tp1).bind fun e tp2 => match f d e with
  | some (.bl true) => (mc env tp2).bind fun c tp3 => RE.of (g e c) tp3
  | some (.bl false) => .ok (.bl false) tp2
  | _ => .stuck
theorem chain_sound {R R' : R2} {f g : D → D → Option D} {ma mb mc : SE D} (hf : OpS K mg r R f) (hg : OpS K mg r R' g) (ha : GO K mg r X O E a ta ma) (hb : GO K mg r X O E b tb mb) (hc : GO K mg r X O E c tc mc) :
    ∀ Hs0 H0 Hs H σ env tp Q, Rel K mg r O Hs0 H0 Hs H σ env tp → PostE K mg r E Hs H (chainE f g ma mb mc env tp) Q → tChain R R' ta tb tc σ H Q := by
  intro Hs0 H0 Hs H σ env tp Q Rl P
  refine ha.snd _ _ _ _ _ _ _ _ Rl (Post.bind P fun v Hs1 H1 d tp1 _ g1 w rv P1 => ?_)
  refine hb.snd _ _ _ _ _ _ _ _ (Rl.grow g1 w) (Post.bind P1 fun u Hs2 H2 e tp2 _ g2 w2 ru P2 => ?_)
  cases q : f d e with
  | none => rw [q] at P2; exact P2.elim
  | some z =>
    rw [q] at P2
    refine hf _ _ _ _ _ _ _ _ _ w2 (rv.grow g2) ru q fun y Hs3 H3 g3 w3 ry => ?_
    have P3 := Post.shift g3 P2
    cases z with
    | bl k =>
      cases ry
      refine ⟨k, rfl, ?_⟩
      cases k with
      | false => exact iteF (P3 _ Hs3 H3 (Grow.refl _ _) w3 (.bl _))
      | true =>
        refine iteT (hc.snd _ _ _ _ _ _ _ _ (Rl.grow ((g1.trans g2).trans g3) w3) (Post.bind P3 fun x Hs4 H4 c tp4 _ g4 w4 rx P4 => ?_))
        obtain ⟨z, hz, k⟩ := Post.ok_of P4
        exact hg _ _ _ _ _ _ _ _ _ w4 ((ru.grow g3).grow g4) rx hz k
    | _ => exact P3.elim
theorem ge_chain {op op' : CmpOp} {R R' : R2} {f g : D → D → Option D} {ma mb mc : SE D} (ho : OpR X (compareOp op) R) (ho' : OpR X (compareOp op') R') (hf : OpS K mg r R f) (hg : OpS K mg r R' g) (ha : GO K mg r X O E a ta ma) (hb : GO K mg r X O E b tb mb) (hc : GO K mg r X O E c tc mc)
    (hm : lastMarks [op, op'] [b, c] = false := by with_unfolding_all rfl) : GE K mg r X O E (.Compare a [op, op'] [b, c] pos) (tChain R R' ta tb tc) (chainE f g ma mb mc) :=
  ⟨pe_chain ho ho' ha.pe hb.pe hc.pe hm, chain_sound hf hg ha hb hc⟩
theorem ge_ix {R : R2} {f : D → D → Option D} {ma mb : SE D} (ho : IxR X R) (hf : OpS K mg r R f) (ha : GO K mg r X O E a ta ma) (hb : GO K mg r X O E b tb mb) (hs : PlainIx b := by exact fun _ _ => rfl) : GE K mg r X O E (.Subscript a b pos) (tOp R ta tb) (binE f ma mb) :=
  ⟨pe_ix ho ha.pe hb.pe hs, bin_sound hf ha.snd hb.snd⟩
def CallS (K : PySem.W.Frag) (mg : Str → Option Value) (r : Addr) (R : List V → Hp → VK → Prop) (f : List D → Option D) : Prop := ∀ Hs H tp xs ds z Q, Wd K mg r Hs H tp → Paired (RepT K mg r Hs H) xs ds → f ds = some z →
  (∀ v Hs' H', Grow r Hs H Hs' H' → Wd K mg r Hs' H' tp → RepD K mg r Hs' v z → Q v H') → R xs H Q
def callB (f : List D → Option D) (ms : SE (List D)) : SE D := fun env tp => (ms env tp).bind fun ds tp1 => RE.of (f ds) tp1
theorem callB_sound {R : List V → Hp → VK → Prop} {f : List D → Option D} {ms : SE (List D)} (hf : CallS K mg r R f) (h2 : ∀ Hs0 H0 Hs H σ env tp Q, Rel K mg r O Hs0 H0 Hs H σ env tp → PostAO K mg r E Hs H (ms env tp) Q → ts σ H Q) :
    ∀ Hs0 H0 Hs H σ env tp Q, Rel K mg r O Hs0 H0 Hs H σ env tp → PostE K mg r E Hs H (callB f ms env tp) Q → tCB R ts σ H Q := by
  intro Hs0 H0 Hs H σ env tp Q Rl P
  refine h2 _ _ _ _ _ _ _ _ Rl (Post.bind P fun v Hs1 H1 d tp1 _ g w rv P1 => ?_)
  obtain ⟨z, hz, k⟩ := Post.ok_of P1
  exact hf _ _ _ _ _ _ _ w rv hz k
theorem ge_callB {x : Str} {id : String} {p : Pos} {R : List V → Hp → VK → Prop} {f : List D → Option D} {ms : SE (List D)} (hc : CallR X (.builtin id) R) (hf : CallS K mg r R f) (hm : X.mg x = none) (ha : GAO K mg r X O E (e :: es) ts ms) (hg : Gl X x := by rfl)
    (hv : bootBuiltins x = some (.builtin id) := by decide +kernel) (hn : x ≠ "__name__" := by decide) (hdb : (x == ("__debug__" : Str)) = false := by decide)
    (he : starEach (e :: es) X.env = (false, eval e X.env) :: starEach es X.env := by rfl) (hpl : (backTo pos (starEach es X.env)).any (·.1) = false := by rfl) : GE K mg r X O E (.Call (.Name x p) (e :: es) [] pos) (tCB R ts) (callB f ms) :=
  ⟨pe_callB hc hg hm hv ha.pe hn hdb he hpl, callB_sound hf ha.snd⟩
theorem ge_callTy {x : Str} {T : String} {p : Pos} {R : List V → Hp → VK → Prop} {f : List D → Option D} {ms : SE (List D)} (hc : CallR X (.type T) R) (hf : CallS K mg r R f) (hm : X.mg x = none) (ha : GAO K mg r X O E (e :: es) ts ms) (hg : Gl X x := by rfl)
    (hv : bootBuiltins x = some (.type T) := by decide +kernel) (hn : x ≠ "__name__" := by decide) (hdb : (x == ("__debug__" : Str)) = false := by decide)
    (he : starEach (e :: es) X.env = (false, eval e X.env) :: starEach es X.env := by rfl) (hpl : (backTo pos (starEach es X.env)).any (·.1) = false := by rfl) : GE K mg r X O E (.Call (.Name x p) (e :: es) [] pos) (tCB R ts) (callB f ms) :=
  ⟨pe_callTy hc hg hm hv ha.pe hn hdb he hpl, callB_sound hf ha.snd⟩
theorem CallS.or {R R' : List V → Hp → VK → Prop} {f f1 f2 : List D → Option D} (h : CallS K mg r R f1) (h' : CallS K mg r R' f2) (hf : ∀ d z, f d = some z → f1 d = some z ∨ f2 d = some z) : CallS K mg r (fun x H Q => R x H Q ∨ R' x H Q) f := by
  intro Hs H tp xs ds z Q w rx hz k
  rcases hf ds z hz with q | q
  · exact .inl (h Hs H tp xs ds z Q w rx q k)
  · exact .inr (h' Hs H tp xs ds z Q w rx q k)
def isB : D → Option Bool
  | .bl b => some b
  | _ => none
def boolE (m : SE D) : SE Bool := fun env tp => (m env tp).bind fun d tp1 => RE.of (isB d) tp1
theorem repT_bl {Hs H : Hp} {v : V} {b : Bool} (h : RepT K mg r Hs H v (.bl b)) : v = .bl b := by
  rcases h with h | ⟨p, _, _, h⟩
  · cases h; rfl
  · exact h.elim
theorem repT_int {Hs H : Hp} {v : V} {b : Int} (h : RepT K mg r Hs H v (.int b)) : v = .int b := by
  rcases h with h | ⟨p, _, _, h⟩
  · cases h; rfl
  · exact h.elim
theorem repT_str {Hs H : Hp} {v : V} {b : Str} (h : RepT K mg r Hs H v (.str b)) : v = .str b := by
  rcases h with h | ⟨p, _, _, h⟩
  · cases h; rfl
  · exact h.elim
theorem repT_non {Hs H : Hp} {v : V} (h : RepT K mg r Hs H v .non) : v = .non := by
  rcases h with h | ⟨p, _, _, h⟩
  · cases h; rfl
  · exact h.elim
theorem repT_lst {Hs H : Hp} {tp : List D} {v : V} {ds : List D} (w : Wd K mg r Hs H tp) (h : RepT K mg r Hs H v (.lst ds)) : ∃ p vs, v = .ref p ∧ H p = some (.lst vs) ∧ RepDs K mg r Hs vs ds := by
  rcases h with h | ⟨p, e, _, vs, a, b⟩
  · cases h with
    | lst a b => exact ⟨_, _, rfl, (w.sub _ _ a).lst, b⟩
  · exact ⟨p, vs, e, a, b⟩
theorem repT_tup {Hs H : Hp} {tp : List D} {v : V} {ds : List D} (w : Wd K mg r Hs H tp) (h : RepT K mg r Hs H v (.tup ds)) : ∃ p vs, v = .ref p ∧ Rd Hs p (.tup vs) ∧ Rd H p (.tup vs) ∧ RepDs K mg r Hs vs ds := by
  rcases h with h | ⟨p, e, _, a⟩
  · cases h with
    | tupR a b => exact ⟨_, _, rfl, a, Same.rd w.sub a, b⟩
  · exact a.elim
theorem repT_scr {Hs H : Hp} {tp : List D} {v : V} {ns : List Int} (w : Wd K mg r Hs H tp) (h : RepT K mg r Hs H v (.scr ns)) : ∃ p, v = .ref p ∧ SqL K H p (ns.map V.int) := by
  rcases h with h | ⟨p, e, _, a⟩
  · cases h with
    | scr a => exact ⟨_, rfl, Same.seq w.sub a⟩
  · exact a.elim
theorem repT_tape {Hs H : Hp} {v : V} (h : RepT K mg r Hs H v .tape) : v = .ref r := by
  rcases h with h | ⟨p, e, _, a⟩
  · cases h; rfl
  · exact a.elim
theorem boolE_sound {t : TE} {m : SE D} (h1 : ∀ Hs0 H0 Hs H σ env tp Q, Rel K mg r O Hs0 H0 Hs H σ env tp → PostE K mg r E Hs H (m env tp) Q → t σ H Q) :
    ∀ Hs0 H0 Hs H σ env tp Q, Rel K mg r O Hs0 H0 Hs H σ env tp → PostB K mg r E Hs H (boolE m env tp) Q → t σ H (fun x H1 => ∃ c, x = .bl c ∧ Q c H1) := by
  intro Hs0 H0 Hs H σ env tp Q Rl P
  refine h1 _ _ _ _ _ _ _ _ Rl (Post.bind P fun v Hs1 H1 d tp1 _ g w rv P1 => ?_)
  obtain ⟨z, hz, k⟩ := Post.ok_of P1
  cases d with
  | bl b =>
    cases hz; cases rv
    exact ⟨_, rfl, k _ Hs1 H1 (Grow.refl _ _) w rfl⟩
  | _ => cases hz
theorem gt_val {m : SE D} (h : GE K mg r X O E e t m) (he : ∀ whole, isTrue e X.env whole = (do let v ← whole; standAt e.pos; holding [v] (truthy v)) := by intro _; rfl) : GT K mg r X O E e (tB t) (boolE m) :=
  ⟨pt_val h.pe he, boolE_sound h.snd⟩
theorem gt_cmp {op : CmpOp} {R : R2} {f : D → D → Option D} {ma mb : SE D} (ho : OpR X (compareOp op) R) (hf : OpS K mg r R f) (ha : GO K mg r X O E a ta ma) (hb : GO K mg r X O E b tb mb) (hm : behindInMarks op b = false) : GT K mg r X O E (.Compare a [op] [b] pos) (tTest (tOp R ta tb)) (boolE (binE f ma mb)) :=
  ⟨pt_cmpR ho ha.pe hb.pe hm, boolE_sound (bin_sound hf ha.snd hb.snd)⟩
theorem gt_chain {op op' : CmpOp} {R R' : R2} {f g : D → D → Option D} {ma mb mc : SE D} (ho : OpR X (compareOp op) R) (ho' : OpR X (compareOp op') R') (hf : OpS K mg r R f) (hg : OpS K mg r R' g) (ha : GO K mg r X O E a ta ma) (hb : GO K mg r X O E b tb mb) (hc : GO K mg r X O E c tc mc)
    (hm : lastMarks [op, op'] [b, c] = false := by with_unfolding_all rfl) : GT K mg r X O E (.Compare a [op, op'] [b, c] pos) (tTest (tChain R R' ta tb tc)) (boolE (chainE f g ma mb mc)) :=
  ⟨pt_chain ho ho' ha.pe hb.pe hc.pe hm, boolE_sound (chain_sound hf hg ha hb hc)⟩
def notT (m : SE Bool) : SE Bool := fun env tp => (m env tp).bind fun b tp1 => .ok (!b) tp1
def andT (m n : SE Bool) : SE Bool := fun env tp => (m env tp).bind fun b tp1 => if b = true then n env tp1 else .ok false tp1
def orT (m n : SE Bool) : SE Bool := fun env tp => (m env tp).bind fun b tp1 => if b = true then .ok true tp1 else n env tp1
theorem gt_not {m : SE Bool} (h : GT K mg r X O E e tt m) : GT K mg r X O E (.UnaryOp .Not e pos) (tNot tt) (notT m) := by
  refine ⟨pt_not h.pe, fun Hs0 H0 Hs H σ env tp Q Rl P => ?_⟩
  refine h.snd _ _ _ _ _ _ _ _ Rl (Post.bind P fun v Hs1 H1 d tp1 _ g w rv P1 => ?_)
  exact P1 _ Hs1 H1 (Grow.refl _ _) w (by rw [rv])
theorem GW.gt {m : SE Bool} (h : GW K mg r X O E e tt m) : GT K mg r X O E e tt m := ⟨h.pe.pt, h.snd⟩
theorem gw_and1 {m : SE Bool} (h : GT K mg r X O E e tt m) : GW K mg r X O E (.BoolOp .And [e] pos) tt m := ⟨pw_and1 h.pe, h.snd⟩
theorem gw_or1 {m : SE Bool} (h : GT K mg r X O E e tt m) : GW K mg r X O E (.BoolOp .Or [e] pos) tt m := ⟨pw_or1 h.pe, h.snd⟩
theorem gw_and {m n : SE Bool} (h : GT K mg r X O E e tt m) (hb : GW K mg r X O E (.BoolOp .And (b :: es) pos) tu n) : GW K mg r X O E (.BoolOp .And (e :: b :: es) pos) (tAnd tt tu) (andT m n) := by
  refine ⟨pw_and h.pe hb.pe, fun Hs0 H0 Hs H σ env tp Q Rl P => ?_⟩
  refine h.snd _ _ _ _ _ _ _ _ Rl (Post.bind P fun v Hs1 H1 d tp1 _ g w rv P1 => ?_)
  subst rv
  cases v with
  | true => exact iteT (hb.snd _ _ _ _ _ _ _ _ (Rl.grow g w) P1)
  | false => exact iteF (P1 _ Hs1 H1 (Grow.refl _ _) w rfl)
theorem gw_or {m n : SE Bool} (h : GT K mg r X O E e tt m) (hb : GW K mg r X O E (.BoolOp .Or (b :: es) pos) tu n) : GW K mg r X O E (.BoolOp .Or (e :: b :: es) pos) (tOr tt tu) (orT m n) := by
  refine ⟨pw_or h.pe hb.pe, fun Hs0 H0 Hs H σ env tp Q Rl P => ?_⟩
  refine h.snd _ _ _ _ _ _ _ _ Rl (Post.bind P fun v Hs1 H1 d tp1 _ g w rv P1 => ?_)
  subst rv
  cases v with
  | false => exact iteF (hb.snd _ _ _ _ _ _ _ _ (Rl.grow g w) P1)
  | true => exact iteT (P1 _ Hs1 H1 (Grow.refl _ _) w rfl)
def notE (m : SE D) : SE D := fun env tp => (m env tp).bind fun d tp1 => RE.of ((isB d).map fun b => .bl (!b)) tp1
def andE (m n : SE D) : SE D := fun env tp => (m env tp).bind fun d tp1 => match d with
  | .bl true => n env tp1
  | .bl false => .ok (.bl false) tp1
  | _ => .stuck
def orE (m n : SE D) : SE D := fun env tp => (m env tp).bind fun d tp1 => match d with
  | .bl false => n env tp1
  | .bl true => .ok (.bl true) tp1
  | _ => .stuck
theorem ge_one {op} {m : SE D} (h : GE K mg r X O E e t m) : GE K mg r X O E (.BoolOp op [e] pos) t m := ⟨pe_one h.pe, h.snd⟩
theorem ge_not {m : SE D} (h : GE K mg r X O E e t m) : GE K mg r X O E (.UnaryOp .Not e pos) (tNotV t) (notE m) := by
  refine ⟨pe_not h.pe, fun Hs0 H0 Hs H σ env tp Q Rl P => ?_⟩
  refine h.snd _ _ _ _ _ _ _ _ Rl (Post.bind P fun v Hs1 H1 d tp1 _ g w rv P1 => ?_)
  obtain ⟨z, hz, k⟩ := Post.ok_of P1
  cases d with
  | bl b =>
    cases hz; cases rv
    exact ⟨_, rfl, k _ Hs1 H1 (Grow.refl _ _) w (.bl _)⟩
  | _ => cases hz
theorem ge_and {m n : SE D} (h : GE K mg r X O E e ta m) (hb : GE K mg r X O E (.BoolOp .And (b :: es) pos) tb n) : GE K mg r X O E (.BoolOp .And (e :: b :: es) pos) (tAndV ta tb) (andE m n) := by
  refine ⟨pe_and h.pe hb.pe, fun Hs0 H0 Hs H σ env tp Q Rl P => ?_⟩
  refine h.snd _ _ _ _ _ _ _ _ Rl (Post.bind P fun v Hs1 H1 d tp1 _ g w rv P1 => ?_)
  cases d with
  | bl c =>
    cases rv
    refine ⟨c, rfl, ?_⟩
    cases c with
    | true => exact iteT (hb.snd _ _ _ _ _ _ _ _ (Rl.grow g w) P1)
    | false => exact iteF (P1 _ Hs1 H1 (Grow.refl _ _) w (.bl _))
  | _ => exact P1.elim
def ifE (c : SE Bool) (m n : SE D) : SE D := fun env tp => (c env tp).bind fun b tp1 => if b = true then m env tp1 else n env tp1
theorem ge_ifExp {mc : SE Bool} {m n : SE D} (hc : GT K mg r X O E c tt mc) (ha : GE K mg r X O E a ta m) (hb : GE K mg r X O E b tb n) : GE K mg r X O E (.IfExp c a b pos) (tIf tt ta tb) (ifE mc m n) := by
  refine ⟨pe_ifExp hc.pe ha.pe hb.pe, fun Hs0 H0 Hs H σ env tp Q Rl P => ?_⟩
  refine hc.snd _ _ _ _ _ _ _ _ Rl (Post.bind P fun v Hs1 H1 d tp1 _ g w rv P1 => ?_)
  subst rv
  cases v with
  | true => exact iteT (ha.snd _ _ _ _ _ _ _ _ (Rl.grow g w) P1)
  | false => exact iteF (hb.snd _ _ _ _ _ _ _ _ (Rl.grow g w) P1)
end
end G
set_option maxHeartbeats 1000000
namespace G
open PySem PySem.Spec PyProof.Rows L2
section
variable {r : Addr} {X : Cx} {K : PySem.W.Frag} {mg : Str → Option Value} {Hs H : Hp} {tp : List D}
def addD : D → D → Option D
  | .int i, .int j => some (.int (i + j))
  | .str a, .str b => if a.length + b.length ≤ sizeLine then some (.str (a ++ b)) else none
  | .tup a, .tup b => if a.length + b.length ≤ sizeLine then some (.tup (a ++ b)) else none
  | .lst a, .lst b => if a.length + b.length ≤ sizeLine then some (.lst (a ++ b)) else none
  | _, _ => none
abbrev rAddD (K : PySem.W.Frag) : R2 := fun x y H Q => (∃ i j, x = .int i ∧ y = .int j ∧ Q (.int (i + j)) H) ∨ (∃ i j, x = .str i ∧ y = .str j ∧ i.length + j.length ≤ sizeLine ∧ Q (.str (i ++ j)) H) ∨ rCatA K x y H Q ∨ rCat x y H Q
theorem opr_add : OpR X (binaryOp .Add) (rAddD X.K) := op_add.or (op_add_str.or (op_catA.or op_cat))
theorem ops_add : OpS K mg r (rAddD K) addD := by
  intro Hs H tp x y d e z Q w rx ry hz k
  unfold addD at hz
  split at hz
  · cases hz
    exact .inl ⟨_, _, repT_int rx, repT_int ry, k _ _ _ (Grow.refl _ _) w (.int _)⟩
  · split at hz
    · rename_i c
      cases hz
      exact .inr (.inl ⟨_, _, repT_str rx, repT_str ry, c, k _ _ _ (Grow.refl _ _) w (.str _)⟩)
    · cases hz
  · split at hz
    · rename_i c
      cases hz
      obtain ⟨p, vs, rfl, h1, h1', h2⟩ := repT_tup w rx
      obtain ⟨q, us, rfl, g1, g1', g2⟩ := repT_tup w ry
      refine .inr (.inr (.inl ⟨p, q, vs, us, rfl, rfl, .inl h1', .inl g1', by rw [h2.length, g2.length]; exact c, fun e => ?_, fun _ e => ?_, fun _ _ a ha => ?_⟩))
      · subst e; cases h2
        exact k _ _ _ (Grow.refl _ _) w (.tupR g1 g2)
      · subst e; cases g2
        rw [List.append_nil] at k
        exact k _ _ _ (Grow.refl _ _) w (.tupR h1 h2)
      · obtain ⟨g, w'⟩ := w.alloc (o := .tup (vs ++ us)) ha
        exact k _ _ _ g w' (.tup upd_same ((h2.append g2).mono g.ex))
    · cases hz
  · split at hz
    · rename_i c
      cases hz
      obtain ⟨p, vs, rfl, h1, h2⟩ := repT_lst w rx
      obtain ⟨q, us, rfl, g1, g2⟩ := repT_lst w ry
      refine .inr (.inr (.inr ⟨p, q, vs, us, rfl, rfl, h1, g1, by rw [h2.length, g2.length]; exact c, fun a ha => ?_⟩))
      obtain ⟨g, w'⟩ := w.alloc (o := .lst (vs ++ us)) ha
      exact k _ _ _ g w' (.lst upd_same ((h2.append g2).mono g.ex))
    · cases hz
  · cases hz
def subD : D → D → Option D
  | .int i, .int j => some (.int (i - j))
  | _, _ => none
theorem ops_sub : OpS K mg r (rI0 fun i j => .int (i - j)) subD := by
  intro Hs H tp x y d e z Q w rx ry hz k
  unfold subD at hz
  split at hz
  · cases hz
    exact ⟨_, _, repT_int rx, repT_int ry, k _ _ _ (Grow.refl _ _) w (.int _)⟩
  · cases hz
def cDiv (j : Int) : Bool := decide (0 < j) && decide (j.natAbs.log2 < 9000)
def fdivD : D → D → Option D
  | .int i, .int j => if cDiv j then some (.int (i / j)) else none
  | _, _ => none
theorem ops_fdiv : OpS K mg r (rI CDivW fun i j => .int (i / j)) fdivD := by
  intro Hs H tp x y d e z Q w rx ry hz k
  unfold fdivD at hz
  split at hz
  · split at hz
    · rename_i c
      cases hz
      have c := Bool.and_eq_true_iff.mp c
      exact ⟨_, _, repT_int rx, repT_int ry, ⟨of_decide_eq_true c.1, of_decide_eq_true c.2⟩, k _ _ _ (Grow.refl _ _) w (.int _)⟩
    · cases hz
  · cases hz
def modD : D → D → Option D
  | .int i, .int j => if 0 < j then some (.int (i % j)) else none
  | _, _ => none
theorem ops_mod : OpS K mg r (rI (fun _ j => 0 < j) fun i j => .int (i % j)) modD := by
  intro Hs H tp x y d e z Q w rx ry hz k
  unfold modD at hz
  split at hz
  · split at hz
    · rename_i c
      cases hz
      exact ⟨_, _, repT_int rx, repT_int ry, c, k _ _ _ (Grow.refl _ _) w (.int _)⟩
    · cases hz
  · cases hz
def cPow (i j : Int) : Bool := decide (0 ≤ j) && (decide (j ≤ 1000000) && decide (i.natAbs < 2 ^ 64))
theorem cPow_ok {i j : Int} (h : cPow i j = true) : CPow i j := by
  have h := Bool.and_eq_true_iff.mp h
  have h2 := Bool.and_eq_true_iff.mp h.2
  exact ⟨of_decide_eq_true h.1, of_decide_eq_true h2.1, of_decide_eq_true h2.2⟩
def powD : D → D → Option D
  | .int i, .int j => if cPow i j then some (.int (i ^ j.toNat)) else none
  | _, _ => none
theorem ops_pow : OpS K mg r (rI CPow fun i j => .int (i ^ j.toNat)) powD := by
  intro Hs H tp x y d e z Q w rx ry hz k
  unfold powD at hz
  split at hz
  · split at hz
    · rename_i c
      cases hz
      exact ⟨_, _, repT_int rx, repT_int ry, cPow_ok c, k _ _ _ (Grow.refl _ _) w (.int _)⟩
    · cases hz
  · cases hz
theorem mulOk_small {x : Str} {n : Int} (h0 : 0 ≤ n) (h : (x.length : Int) * n ≤ 16777216) (h1 : n ≤ 16777216) : MulOk x n := by
  have hm : x.length * n.toNat ≤ 16777216 := by
    obtain ⟨k, rfl⟩ := Int.eq_ofNat_of_zero_le h0
    have : ((x.length * k : Nat) : Int) ≤ 16777216 := by rw [Int.natCast_mul]; exact h
    rw [Int.toNat_natCast]; omega
  refine ⟨by simp only [Bool.or_eq_false_iff, decide_eq_false_iff_not]; omega, fun a b => ?_, fun a b => ?_⟩
  · have h2 : (x.length : Int) ≤ (2 ^ 63 - 1) / n := (Int.le_ediv_iff_mul_le (by omega)).mpr (by omega)
    omega
  · unfold Builtin.Str.tooLong; simp only [decide_eq_false_iff_not]; rw [sizeLine_eq]; omega
theorem op_mul_str : OpR X (binaryOp .Mult) (fun x y H Q => ∃ (a : Str) (n : Int), x = .str a ∧ y = .int n ∧ 0 ≤ n ∧ (a.length : Int) * n ≤ 16777216 ∧ n ≤ 16777216 ∧ Q (.str (Txt.mul a n)) H) := by
  intro pins s σ H x y v u Q I rx ry h
  obtain ⟨a, n, rfl, rfl, h0, h1, h2, q⟩ := h
  obtain ⟨t, rfl⟩ := rx
  obtain ⟨t', rfl⟩ := ry
  exact SB.mul (mulOk_small h0 h1 h2) fun t2 k => ⟨.str _, H, I.tok _, ⟨_, rfl⟩, q⟩
def cMul (i j : Int) : Bool := decide (i.natAbs.log2 + j.natAbs.log2 < 1000000)
def cRep (n : Nat) (k : Int) : Bool := decide (0 ≤ k) && (decide ((n : Int) * k ≤ 16777216) && decide (k ≤ 16777216))
theorem cRep_ok {n : Nat} {k : Int} (h : cRep n k = true) : 0 ≤ k ∧ (n : Int) * k ≤ 16777216 ∧ k ≤ 16777216 := by
  have h := Bool.and_eq_true_iff.mp h
  have h2 := Bool.and_eq_true_iff.mp h.2
  exact ⟨of_decide_eq_true h.1, of_decide_eq_true h2.1, of_decide_eq_true h2.2⟩
theorem tuple_mul1 (l : Addr) (items : Array Value) (n : Nat) (dd : Option Addr) (sl : Array (Option Value)) (u : Tok) :
    Meets (Builtin.«tuple.__mul__» ⟨[.ref l, .int 1 u], []⟩) (fun _ R s => s.heap.get? l = some { cls := .type "tuple", dict := dd, data := .seq items n, slots := sl } ∧
      R (.ok (.ret (Value.ref l))) s) :=
  .of_wp fun prog w A R s h => by
    obtain ⟨hp, g, d, tk, os⟩ := s
    obtain ⟨hl, h⟩ := h
    have f1 := AutoSeq1.idx_int
    have c1 : (items.isEmpty || (1 : Int) == 1) = true := by simp
    have c0 : (decide ((1 : Int) < -(2 ^ 63)) || decide ((1 : Int) ≥ 2 ^ 63)) = false := by decide
    wp_walk using wpAny_loadPart' hl
    exact ⟨_, rfl, h⟩
def rRepT1 (K : PySem.W.Frag) : R2 := fun x y H Q => ∃ l xs, x = .ref l ∧ y = .int 1 ∧ SqT K H l xs ∧ Q (.ref l) H
theorem op_repT1 {X : Cx} : OpR X (binaryOp .Mult) (rRepT1 X.K) := by
  intro pins s σ H x y v u Q I rx ry h
  obtain ⟨l, xs, rfl, rfl, hT, q⟩ := h
  cases rx
  obtain ⟨t, rfl⟩ := ry
  obtain ⟨its, r, ⟨⟨cls, dd, data, sl⟩, ho, hc, n, hd⟩, hs⟩ := I.tuple hT
  simp only at hc hd
  subst hc hd
  refine wpAny_binaryOp_repeat_ref (T := "tuple") (U := "int") (by decide) ⟨_, ho, rfl⟩ (fun s' => typeIs_int s' 1 t) noFill_tuple_mul F.fills_int_mul F.slot_int_rmul repeat_tuple F.slot_int_index.lookup
    (call_meets F.slot_int_rmul (typeIs_int s 1 t) F.entry_int_rmul (F.args_int_rmul_2 _ _) (int_rmul_tuple 1 t l its.toArray n dd sl)
      ⟨ho, rfl, ⟨_, ho, rfl⟩, call_meets F.slot_tuple_mul ⟨_, ho, rfl⟩ F.entry_tuple_mul (F.args_tuple_mul_2 _ _) (tuple_mul1 l its.toArray n dd sl t) ⟨ho, ?_⟩⟩)
  exact ⟨.ref l, H, I, rfl, q⟩
theorem tuple_mul0 (l : Addr) (items : Array Value) (n : Nat) (dd : Option Addr) (sl : Array (Option Value)) (u : Tok) (c1 : (items.isEmpty || (0 : Int) == 1) = false) :
    Meets (Builtin.«tuple.__mul__» ⟨[.ref l, .int 0 u], []⟩) (fun _ R s => s.heap.get? l = some { cls := .type "tuple", dict := dd, data := .seq items n, slots := sl } ∧
      R (.ok (.ret (Value.ref s.heap.objs.size))) { s with heap := s.heap.push { cls := Value.type "tuple", data := Data.seq #[] }, toks := s.toks }) :=
  .of_wp fun prog w A R s h => by
    obtain ⟨hp, g, d, tk, os⟩ := s
    obtain ⟨hl, h⟩ := h
    have f1 := AutoSeq1.idx_int
    have c0 : (decide ((0 : Int) < -(2 ^ 63)) || decide ((0 : Int) ≥ 2 ^ 63)) = false := by decide
    have c2 : (decide ((0 : Int) ≤ 0) || items.isEmpty) = true := by simp
    wp_walk using wpAny_loadPart' hl
    repeat (first
      | (refine wpAny_ite_false (decide_eq_false (by rw [c0]; exact Bool.false_ne_true)) ?_; wp_walk using wpAny_loadPart' hl)
      | (refine wpAny_ite_false (decide_eq_false (by rw [c1]; exact Bool.false_ne_true)) ?_; wp_walk using wpAny_loadPart' hl)
      | (refine wpAny_ite_true (decide_eq_true c2) ?_; wp_walk using wpAny_loadPart' hl))
    exact ⟨_, rfl, h⟩
def rRepT0 (K : PySem.W.Frag) : R2 := fun x y H Q => ∃ l xs, x = .ref l ∧ y = .int 0 ∧ SqT K H l xs ∧ xs ≠ [] ∧ ∀ p, H p = none → Q (.ref p) (upd H p (.tup []))
theorem op_repT0 {X : Cx} : OpR X (binaryOp .Mult) (rRepT0 X.K) := by
  intro pins s σ H x y v u Q I rx ry h
  obtain ⟨l, xs, rfl, rfl, hT, hne, q⟩ := h
  cases rx
  obtain ⟨t, rfl⟩ := ry
  obtain ⟨its, r, ⟨⟨cls, dd, data, sl⟩, ho, hc, n, hd⟩, hs⟩ := I.tuple hT
  simp only at hc hd
  subst hc hd
  have hi : its.toArray.isEmpty = false := by
    cases its with
    | nil => exact absurd (List.eq_nil_of_length_eq_zero r.length) hne
    | cons a b => rfl
  have c1 : (its.toArray.isEmpty || (0 : Int) == 1) = false := by rw [hi]; rfl
  refine wpAny_binaryOp_repeat_ref (T := "tuple") (U := "int") (by decide) ⟨_, ho, rfl⟩ (fun s' => typeIs_int s' 0 t) noFill_tuple_mul F.fills_int_mul F.slot_int_rmul repeat_tuple F.slot_int_index.lookup
    (call_meets F.slot_int_rmul (typeIs_int s 0 t) F.entry_int_rmul (F.args_int_rmul_2 _ _) (int_rmul_tuple 0 t l its.toArray n dd sl)
      ⟨ho, rfl, ⟨_, ho, rfl⟩, call_meets F.slot_tuple_mul ⟨_, ho, rfl⟩ F.entry_tuple_mul (F.args_tuple_mul_2 _ _) (tuple_mul0 l its.toArray n dd sl t c1) ⟨ho, ?_⟩⟩)
  refine ⟨.ref s.heap.objs.size, _, I.laid (t' := s.toks) (o := .tup []) (fun b ob q => Heap.get?_push_of_some _ q) (Nat.le_refl _) ?_, rfl, q _ (I.hok.fresh (Nat.le_refl _))⟩
  exact ⟨Nat.zero_le _, [], .nil, IsTup.new _ _⟩
def cRepT (n : Nat) (k : Int) : Bool := decide (0 < n) && (decide (n ≤ 1000) && (decide (0 ≤ k) && decide (k ≤ 1000)))
theorem cRepT_ok {n : Nat} {k : Int} (h : cRepT n k = true) : 0 < n ∧ n ≤ 1000 ∧ 0 ≤ k ∧ k ≤ 1000 := by
  have h := Bool.and_eq_true_iff.mp h
  have h2 := Bool.and_eq_true_iff.mp h.2
  have h3 := Bool.and_eq_true_iff.mp h2.2
  exact ⟨of_decide_eq_true h.1, of_decide_eq_true h2.1, of_decide_eq_true h3.1, of_decide_eq_true h3.2⟩
def mulD : D → D → Option D
  | .int i, .int j => if cMul i j then some (.int (i * j)) else none
  | .str a, .int n => if cRep a.length n then some (.str (Txt.mul a n)) else none
  | .lst a, .int n => if cRep a.length n then some (.lst (List.replicate n.toNat a).flatten) else none
  | .tup a, .int n => if cRepT a.length n then some (.tup (List.replicate n.toNat a).flatten) else none
  | _, _ => none
abbrev rMulD (K : PySem.W.Frag) : R2 := fun x y H Q => (∃ i j, x = .int i ∧ y = .int j ∧ CMulW i j ∧ Q (.int (i * j)) H) ∨ (∃ (a : Str) (n : Int), x = .str a ∧ y = .int n ∧ 0 ≤ n ∧ (a.length : Int) * n ≤ 16777216 ∧ n ≤ 16777216 ∧ Q (.str (Txt.mul a n)) H) ∨ rRep x y H Q ∨ rRepT K x y H Q ∨ rRepT1 K x y H Q ∨ rRepT0 K x y H Q
theorem opr_mul : OpR X (binaryOp .Mult) (rMulD X.K) := op_mulW.or (op_mul_str.or (op_rep.or (op_repT.or (op_repT1.or op_repT0))))
theorem RepDs.rep {vs : List V} {ds : List D} (h : RepDs K mg r Hs vs ds) : ∀ n : Nat, RepDs K mg r Hs (List.replicate n vs).flatten (List.replicate n ds).flatten
  | 0 => .nil
  | n + 1 => by
    rw [List.replicate_succ, List.replicate_succ, List.flatten_cons, List.flatten_cons]
    exact h.append (RepDs.rep h n)
theorem ops_mul : OpS K mg r (rMulD K) mulD := by
  intro Hs H tp x y d e z Q w rx ry hz k
  unfold mulD at hz
  split at hz
  · split at hz
    · rename_i c
      cases hz
      exact .inl ⟨_, _, repT_int rx, repT_int ry, (show _ < _ from of_decide_eq_true c), k _ _ _ (Grow.refl _ _) w (.int _)⟩
    · cases hz
  · split at hz
    · rename_i c
      cases hz
      have c := cRep_ok c
      exact .inr (.inl ⟨_, _, repT_str rx, repT_int ry, c.1, c.2.1, c.2.2, k _ _ _ (Grow.refl _ _) w (.str _)⟩)
    · cases hz
  · split at hz
    · rename_i a n c
      cases hz
      have c := cRep_ok c
      obtain ⟨p, vs, rfl, h1, h2⟩ := repT_lst w rx
      rw [repT_int ry]
      refine .inr (.inr (.inl ⟨p, n, vs, rfl, rfl, h1, by omega, by omega, ?_, fun q hq => ?_⟩))
      · rw [h2.length, sizeLine_eq]
        have : ((a.length * n.toNat : Nat) : Int) ≤ 16777216 := by
          rw [Int.natCast_mul, Int.toNat_of_nonneg c.1]; exact c.2.1
        omega
      · obtain ⟨g, w'⟩ := w.alloc (o := .lst (List.replicate n.toNat vs).flatten) hq
        exact k _ _ _ g w' (.lst upd_same ((h2.rep _).mono g.ex))
    · cases hz
  · split at hz
    · rename_i a n c
      cases hz
      have c := cRepT_ok c
      obtain ⟨p, vs, rfl, h0, h1, h2⟩ := repT_tup w rx
      rw [repT_int ry]
      have lv : vs.length = a.length := h2.length
      by_cases n1 : n = 1
      · subst n1
        refine .inr (.inr (.inr (.inr (.inl ⟨p, vs, rfl, rfl, .inl h1, k _ _ _ (Grow.refl _ _) w (.tupR h0 ?_)⟩))))
        have e : (List.replicate (Int.toNat 1) a).flatten = a := by show (List.replicate 1 a).flatten = a; simp
        rw [e]; exact h2
      · by_cases n0 : n = 0
        · subst n0
          refine .inr (.inr (.inr (.inr (.inr ⟨p, vs, rfl, rfl, .inl h1, ?_, fun q hq => ?_⟩))))
          · intro e; subst e; simp at lv; omega
          · obtain ⟨g, w'⟩ := w.alloc (o := .tup []) hq
            exact k _ _ _ g w' (.tup upd_same .nil)
        refine .inr (.inr (.inr (.inl ⟨p, n, vs, rfl, rfl, .inl h1, ?_, by omega, by omega, by omega, fun q hq => ?_⟩)))
        · intro e; subst e; simp at lv; omega
        · obtain ⟨g, w'⟩ := w.alloc (o := .tup (List.replicate n.toNat vs).flatten) hq
          exact k _ _ _ g w' (.tup upd_same ((h2.rep _).mono g.ex))
    · cases hz
  · cases hz
def ltD : D → D → Option D
  | .int i, .int j => some (.bl (decide (i < j)))
  | .str i, .str j => some (.bl (decide (i.cps.toList < j.cps.toList)))
  | _, _ => none
theorem ops_lt : OpS K mg r (fun x y H Q => (∃ i j, x = .int i ∧ y = .int j ∧ Q (.bl (decide (i < j))) H) ∨ (∃ i j, x = .str i ∧ y = .str j ∧ Q (.bl (decide (i.cps.toList < j.cps.toList))) H)) ltD := by
  intro Hs H tp x y d e z Q w rx ry hz k
  unfold ltD at hz
  split at hz
  · cases hz
    exact .inl ⟨_, _, repT_int rx, repT_int ry, k _ _ _ (Grow.refl _ _) w (.bl _)⟩
  · cases hz
    exact .inr ⟨_, _, repT_str rx, repT_str ry, k _ _ _ (Grow.refl _ _) w (.bl _)⟩
  · cases hz
theorem opr_lt : OpR X (compareOp .Lt) (fun x y H Q => (∃ i j, x = .int i ∧ y = .int j ∧ Q (.bl (decide (i < j))) H) ∨ (∃ i j, x = .str i ∧ y = .str j ∧ Q (.bl (decide (i.cps.toList < j.cps.toList))) H)) := op_lt.or op_lt_str
def leD : D → D → Option D
  | .int i, .int j => some (.bl (decide (i ≤ j)))
  | _, _ => none
def gtD : D → D → Option D
  | .int i, .int j => some (.bl (decide (j < i)))
  | _, _ => none
def geD : D → D → Option D
  | .int i, .int j => some (.bl (decide (j ≤ i)))
  | _, _ => none
theorem ops_le : OpS K mg r (rI0 fun i j => .bl (decide (i ≤ j))) leD := by
  intro Hs H tp x y d e z Q w rx ry hz k
  unfold leD at hz
  split at hz
  · cases hz
    exact ⟨_, _, repT_int rx, repT_int ry, k _ _ _ (Grow.refl _ _) w (.bl _)⟩
  · cases hz
theorem ops_gt : OpS K mg r (rI0 fun i j => .bl (decide (j < i))) gtD := by
  intro Hs H tp x y d e z Q w rx ry hz k
  unfold gtD at hz
  split at hz
  · cases hz
    exact ⟨_, _, repT_int rx, repT_int ry, k _ _ _ (Grow.refl _ _) w (.bl _)⟩
  · cases hz
theorem ops_ge : OpS K mg r (rI0 fun i j => .bl (decide (j ≤ i))) geD := by
  intro Hs H tp x y d e z Q w rx ry hz k
  unfold geD at hz
  split at hz
  · cases hz
    exact ⟨_, _, repT_int rx, repT_int ry, k _ _ _ (Grow.refl _ _) w (.bl _)⟩
  · cases hz
theorem dpAll_ints {H : Hp} : ∀ ns : List Int, DpAll K H (ns.map V.int) (ns.map PyData.int)
  | [] => .nil
  | n :: ns => .cons (.int n) (dpAll_ints ns)
mutual
theorem RepD.dp (w : Same Hs H) : ∀ {v : V} {d : D}, RepD K mg r Hs v d → d.pd.plain = true → Dp K H v d.pd
  | _, _, .non, _ => .non
  | _, _, .bl b, _ => .bl b
  | _, _, .int i, _ => .int i
  | _, _, .str s, _ => .str s
  | _, _, .tupR (ds := ds) h q, p => .tup (.inl (Same.rd w h)) (RepDs.dp w q (by simpa only [D.pd, PyData.plain] using p))
  | _, _, .tuq (ds := ds) h _ q, p => .tup (.inl (.inr ⟨_, (w _ _ h).frz⟩)) (RepDs.dp w q (by simpa only [D.pd, PyData.plain] using p))
  | _, _, .lst (ds := ds) h q, p => .lst (.of (w _ _ h).lst) (RepDs.dp w q (by simpa only [D.pd, PyData.plain] using p))
  | _, _, .scr (ns := ns) h, _ => .lst (Same.seq w h) (dpAll_ints ns)
  | _, _, .dicK _ _, p => by simp only [D.pd, PyData.plain] at p; cases p
  | _, _, .dicT _ _, p => by simp only [D.pd, PyData.plain] at p; cases p
  | _, _, .tape, p => by simp only [D.pd, PyData.plain] at p; cases p
  | _, _, .fn _, p => by simp only [D.pd, PyData.plain] at p; cases p
  | _, _, .ty _, p => by simp only [D.pd, PyData.plain] at p; cases p
theorem RepDs.dp (w : Same Hs H) : ∀ {vs : List V} {ds : List D}, RepDs K mg r Hs vs ds → PyData.plainAll (pdAll ds) = true → DpAll K H vs (pdAll ds)
  | _, _, .nil, _ => .nil
  | _, _, .cons h q, p => by
    simp only [pdAll, PyData.plainAll, Bool.and_eq_true] at p
    exact .cons (RepD.dp w h p.1) (RepDs.dp w q p.2)
end
theorem RepT.dp {v : V} {d : D} (w : Wd K mg r Hs H tp) (h : RepT K mg r Hs H v d) (p : d.pd.plain = true) : Dp K H v d.pd := by
  rcases h with h | ⟨a, rfl, _, h⟩
  · exact RepD.dp w.sub h p
  · cases d with
    | lst ds =>
      obtain ⟨vs, h1, h2⟩ := h
      exact .lst (.of h1) (RepDs.dp w.sub h2 (by simpa only [D.pd, PyData.plain] using p))
    | dic ds => simp only [D.pd, PyData.plain] at p; cases p
    | dct ds => simp only [D.pd, PyData.plain] at p; cases p
    | _ => exact h.elim
/-- may be compared -/
def D.okq (d : D) : Bool := d.pd.plain && decide (d.pd.depth ≤ 60)
theorem okq_ok {d : D} (h : d.okq = true) : d.pd.plain = true ∧ d.pd.depth ≤ 60 := by
  have h := Bool.and_eq_true_iff.mp h
  exact ⟨h.1, of_decide_eq_true h.2⟩
def eqD (d e : D) : Option D := if d.okq && e.okq then some (.bl (PyData.eqv d.pd e.pd)) else none
def neD (d e : D) : Option D := if d.okq && e.okq then some (.bl (!PyData.eqv d.pd e.pd)) else none
def rEqP (K : PySem.W.Frag) : R2 := fun x y H Q => ∃ d e, Dp K H x d ∧ Dp K H y e ∧ d.plain = true ∧ e.plain = true ∧ d.depth ≤ 60 ∧ Q (.bl (PyData.eqv d e)) H
def rNeP (K : PySem.W.Frag) : R2 := fun x y H Q => ∃ d e, Dp K H x d ∧ Dp K H y e ∧ d.plain = true ∧ e.plain = true ∧ d.depth ≤ 60 ∧ Q (.bl (!PyData.eqv d e)) H
theorem op_eqP (hu : X.A.units + 64 < cLine) : OpR X (compareOp .Eq) (rEqP X.K) := by
  intro pins s σ H x y v u Q I rx ry h
  obtain ⟨d, e, hd, he, sd, se, dd, q⟩ := h
  obtain ⟨as, r1⟩ := Dp.reads I d x v hd rx
  obtain ⟨bs, r2⟩ := Dp.reads I e y u he ry
  have : min d.depth e.depth ≤ d.depth := Nat.min_le_left _ _
  exact SeqAt.eq_plain r1 r2 sd se (by omega) ⟨.bl _, H, I, rfl, q⟩
theorem op_neP (hu : X.A.units + 64 < cLine) : OpR X (compareOp .NotEq) (rNeP X.K) := by
  intro pins s σ H x y v u Q I rx ry h
  obtain ⟨d, e, hd, he, sd, se, dd, q⟩ := h
  obtain ⟨as, r1⟩ := Dp.reads I d x v hd rx
  obtain ⟨bs, r2⟩ := Dp.reads I e y u he ry
  have : min d.depth e.depth ≤ d.depth := Nat.min_le_left _ _
  exact SeqAt.ne_plain r1 r2 sd se (by omega) ⟨.bl _, H, I, rfl, q⟩
theorem ops_eq : OpS K mg r (rEqP K) eqD := by
  intro Hs H tp x y d e z Q w rx ry hz k
  unfold eqD at hz
  split at hz
  · rename_i c
    cases hz
    have c := Bool.and_eq_true_iff.mp c
    have c1 := okq_ok c.1
    have c2 := okq_ok c.2
    exact ⟨d.pd, e.pd, rx.dp w c1.1, ry.dp w c2.1, c1.1, c2.1, c1.2, k _ _ _ (Grow.refl _ _) w (.bl _)⟩
  · cases hz
theorem ops_ne : OpS K mg r (rNeP K) neD := by
  intro Hs H tp x y d e z Q w rx ry hz k
  unfold neD at hz
  split at hz
  · rename_i c
    cases hz
    have c := Bool.and_eq_true_iff.mp c
    have c1 := okq_ok c.1
    have c2 := okq_ok c.2
    exact ⟨d.pd, e.pd, rx.dp w c1.1, ry.dp w c2.1, c1.1, c2.1, c1.2, k _ _ _ (Grow.refl _ _) w (.bl _)⟩
  · cases hz
/-- x in a list | tuple -/
def itemsD : D → Option (List D)
  | .lst xs => some xs
  | .tup xs => some xs
  | _ => none
def memD (d : D) (xs : List D) : Bool := xs.any fun z => PyData.eqv z.pd d.pd
def inD (d e : D) : Option D := (itemsD e).bind fun xs => if d.okq && e.okq then some (.bl (memD d xs)) else none
def rInP (K : PySem.W.Frag) (neg : Bool) : R2 := fun x y H Q => ∃ d ds, Dp K H x d ∧ (Dp K H y (.list ds) ∨ Dp K H y (.tuple ds)) ∧ d.plain = true ∧ PyData.plainAll ds = true ∧ d.depth ≤ 60 ∧ Q (.bl (if neg then !(ds.any fun z => PyData.eqv z d) else ds.any fun z => PyData.eqv z d)) H
theorem op_inP (hu : X.A.units + 64 < cLine) : OpR X (compareOp .In) (rInP X.K false) := by
  intro pins s σ H x y v u Q I rx ry h
  obtain ⟨d, ds, hd, he, sd, se, dd, q⟩ := h
  obtain ⟨as, r1⟩ := Dp.reads I d x v hd rx
  have hm : min (PyData.depthAll ds) d.depth ≤ d.depth := Nat.min_le_right _ _
  rcases he with he | he
  · obtain ⟨bs, r2⟩ := Dp.reads I _ y u he ry
    exact SeqAt.in_list_data r2 r1 se sd (by omega) ⟨.bl _, H, I, rfl, q⟩
  · obtain ⟨bs, r2⟩ := Dp.reads I _ y u he ry
    exact SeqAt.in_tuple_data r2 r1 se sd (by omega) ⟨.bl _, H, I, rfl, q⟩
theorem any_pd (d : D) (xs : List D) : ((pdAll xs).any fun z => PyData.eqv z d.pd) = memD d xs := by
  unfold memD
  rw [pdAll_map, List.any_map]
  rfl
theorem in_core {neg : Bool} {Hs H tp x y d e} {Q : VK} {xs : List D} (w : Wd K mg r Hs H tp) (rx : RepT K mg r Hs H x d) (ry : RepT K mg r Hs H y e) (hi : itemsD e = some xs) (hc : (d.okq && e.okq) = true)
    (k : Q (V.bl (if neg then !memD d xs else memD d xs)) H) : rInP K neg x y H Q := by
  have c := Bool.and_eq_true_iff.mp hc
  have c1 := okq_ok c.1
  have c2 := okq_ok c.2
  have hy := ry.dp w c2.1
  refine ⟨d.pd, pdAll xs, rx.dp w c1.1, ?_, c1.1, ?_, c1.2, by rw [any_pd]; exact k⟩
  · cases e with
    | lst es => cases hi; exact .inl hy
    | tup es => cases hi; exact .inr hy
    | _ => cases hi
  · cases e with
    | lst es => cases hi; simpa only [D.pd, PyData.plain] using c2.1
    | tup es => cases hi; simpa only [D.pd, PyData.plain] using c2.1
    | _ => cases hi
theorem ops_in : OpS K mg r (rInP K false) inD := by
  intro Hs H tp x y d e z Q w rx ry hz k
  unfold inD at hz
  obtain ⟨xs, h1, h2⟩ := Option.bind_eq_some_iff.mp hz
  split at h2
  · rename_i c
    cases h2
    exact in_core w rx ry h1 c (k _ _ _ (Grow.refl _ _) w (.bl _))
  · cases h2
def isNoneD (d e : D) : Option D := match d, e with
  | .non, .non => some (.bl true)
  | .bl a, .bl b => some (.bl (decide (a = b)))
  | _, .non => some (.bl false)
  | _, _ => none
def isNotNoneD (d e : D) : Option D := match d, e with
  | .non, .non => some (.bl false)
  | .bl a, .bl b => some (.bl (!decide (a = b)))
  | _, .non => some (.bl true)
  | _, _ => none
theorem repT_ne_non {v : V} {d : D} (h : RepT K mg r Hs H v d) (n : d ≠ .non) : decide (v = .non) = false := by
  refine decide_eq_false fun e => ?_
  subst e
  rcases h with h | ⟨p, e, _⟩
  · cases h; exact n rfl
  · cases e
theorem ops_is : OpS K mg r (fun x y H Q => (y = .non ∧ Q (.bl (decide (x = .non))) H) ∨ ∃ a b, x = .bl a ∧ y = .bl b ∧ Q (.bl (decide (a = b))) H) isNoneD := by
  intro Hs H tp x y d e z Q w rx ry hz k
  unfold isNoneD at hz
  split at hz
  · cases hz
    rw [repT_non rx, repT_non ry]
    exact .inl ⟨rfl, k _ _ _ (Grow.refl _ _) w (.bl _)⟩
  · cases hz
    rw [repT_bl rx, repT_bl ry]
    exact .inr ⟨_, _, rfl, rfl, k _ _ _ (Grow.refl _ _) w (.bl _)⟩
  · cases hz
    refine .inl ⟨repT_non ry, ?_⟩
    rw [repT_ne_non rx (by intro e; subst e; simp_all)]
    exact k _ _ _ (Grow.refl _ _) w (.bl _)
  · cases hz
theorem ops_isNot : OpS K mg r (fun x y H Q => (y = .non ∧ Q (.bl (!decide (x = .non))) H) ∨ ∃ a b, x = .bl a ∧ y = .bl b ∧ Q (.bl (!decide (a = b))) H) isNotNoneD := by
  intro Hs H tp x y d e z Q w rx ry hz k
  unfold isNotNoneD at hz
  split at hz
  · cases hz
    rw [repT_non rx, repT_non ry]
    exact .inl ⟨rfl, k _ _ _ (Grow.refl _ _) w (.bl _)⟩
  · cases hz
    rw [repT_bl rx, repT_bl ry]
    exact .inr ⟨_, _, rfl, rfl, k _ _ _ (Grow.refl _ _) w (.bl _)⟩
  · cases hz
    refine .inl ⟨repT_non ry, ?_⟩
    rw [repT_ne_non rx (by intro e; subst e; simp_all)]
    exact k _ _ _ (Grow.refl _ _) w (.bl _)
  · cases hz
theorem opr_is : OpR X (compareOp .Is) (fun x y H Q => (y = .non ∧ Q (.bl (decide (x = .non))) H) ∨ ∃ a b, x = .bl a ∧ y = .bl b ∧ Q (.bl (decide (a = b))) H) := op_isN.or op_is_bl
theorem opr_isNot : OpR X (compareOp .IsNot) (fun x y H Q => (y = .non ∧ Q (.bl (!decide (x = .non))) H) ∨ ∃ a b, x = .bl a ∧ y = .bl b ∧ Q (.bl (!decide (a = b))) H) := op_notN.or op_isnot_bl
def ixD : D → D → Option D
  | .lst xs, .int i => atI xs i
  | .tup xs, .int i => atI xs i
  | .scr ns, .int i => (atI ns i).map .int
  | .str s, .int i => if s.length ≤ sizeLine then (atI s.cps.toList i).map fun c => .str ⟨#[c]⟩ else none
  | _, _ => none
theorem atI_rep {vs : List V} {ds : List D} {i : Int} {d : D} (h : RepDs K mg r Hs vs ds) (e : atI ds i = some d) : ∃ v, atI vs i = some v ∧ RepD K mg r Hs v d := by
  unfold atI at e ⊢
  rw [h.length]
  obtain ⟨j, h1, h2⟩ := Option.bind_eq_some_iff.mp e
  obtain ⟨v, h3, h4⟩ := h.get' h2
  exact ⟨v, by rw [h1]; exact h3, h4⟩
theorem atI_map {α β : Type} (f : α → β) (xs : List α) (i : Int) : atI (xs.map f) i = (atI xs i).map f := by
  unfold atI
  rw [List.length_map]
  cases ixN xs.length i with
  | none => rfl
  | some j => simp
theorem ops_ix : OpS K mg r (rIx K) ixD := by
  intro Hs H tp x y d e z Q w rx ry hz k
  unfold ixD at hz
  split at hz
  · obtain ⟨p, vs, rfl, h1, h2⟩ := repT_lst w rx
    obtain ⟨v, h3, h4⟩ := atI_rep h2 hz
    exact .inl ⟨p, vs, _, v, rfl, repT_int ry, .of h1, h3, k _ _ _ (Grow.refl _ _) w h4⟩
  · obtain ⟨p, vs, rfl, _, h1, h2⟩ := repT_tup w rx
    obtain ⟨v, h3, h4⟩ := atI_rep h2 hz
    exact .inr (.inl ⟨p, vs, _, v, rfl, repT_int ry, .inl h1, h3, k _ _ _ (Grow.refl _ _) w h4⟩)
  · obtain ⟨p, rfl, h1⟩ := repT_scr w rx
    obtain ⟨n, h2, h3⟩ := Option.map_eq_some_iff.mp hz
    subst h3
    exact .inl ⟨p, _, _, _, rfl, repT_int ry, h1, by rw [atI_map, h2]; rfl, k _ _ _ (Grow.refl _ _) w (.int _)⟩
  · split at hz
    · rename_i c
      obtain ⟨n, h2, h3⟩ := Option.map_eq_some_iff.mp hz
      subst h3
      exact .inr (.inr ⟨_, _, _, repT_str rx, repT_int ry, c, h2, k _ _ _ (Grow.refl _ _) w (.str _)⟩)
    · cases hz
  · cases hz
/-- a slice's part -/
def optI (m : Option (SE D)) : SE (Option Int) := fun env tp => match m with
  | none => .ok none tp
  | some m => (m env tp).bind fun d tp1 => match d with
    | .int i => .ok (some i) tp1
    | _ => .stuck
structure GP (K : PySem.W.Frag) (mg : Str → Option Value) (r : Addr) (X : Cx) (O : List Nat) (E : XK) (e : Option Expr) (t : TO) (m : SE (Option Int)) : Prop where
  pe : PO X e t
  snd : ∀ Hs0 H0 Hs H σ env tp Q, Rel K mg r O Hs0 H0 Hs H σ env tp → Post K mg r (fun _ _ (a b : Option Int) => a = b) E Hs H (m env tp) Q → t σ H Q
variable {O : List Nat} {E : XK}
theorem gp_none : GP K mg r X O E none tNoPart (optI none) := ⟨po_none, fun Hs0 H0 Hs H σ env tp Q R P => P _ Hs H (Grow.refl _ _) R.wd rfl⟩
theorem gp_some {e : Expr} {t : TE} {m : SE D} (h : GE K mg r X O E e t m) : GP K mg r X O E (some e) (tPart t) (optI (some m)) := by
  refine ⟨po_some h.pe, fun Hs0 H0 Hs H σ env tp Q Rl P => ?_⟩
  refine h.snd _ _ _ _ _ _ _ _ Rl (Post.bind P fun v Hs1 H1 d tp1 _ g w rv P1 => ?_)
  cases d with
  | int i => cases rv; exact ⟨i, rfl, P1 _ Hs1 H1 (Grow.refl _ _) w rfl⟩
  | _ => exact P1.elim
def cutD {α : Type} (xs : List α) (lo hi : Option Int) : List α := (xs.drop (HT.sIx xs.length 0 lo)).take (HT.sIx xs.length xs.length hi - HT.sIx xs.length 0 lo)
def sliceD (d : D) (lo hi : Option Int) : Option D := match d with
  | .lst xs => some (.lst (cutD xs lo hi))
  | .tup xs => some (.tup (cutD xs lo hi))
  | .str s => if s.length ≤ sizeLine then some (.str (cutS s lo hi)) else none
  | _ => none
def sliceE (m : SE D) (ml mh : SE (Option Int)) : SE D := fun env tp => (m env tp).bind fun d tp1 => (ml env tp1).bind fun lo tp2 => (mh env tp2).bind fun hi tp3 => RE.of (sliceD d lo hi) tp3
theorem cut_rep {vs : List V} {ds : List D} (h : RepDs K mg r Hs vs ds) (lo hi : Option Int) : RepDs K mg r Hs (cutV vs lo hi) (cutD ds lo hi) := by
  unfold cutV cutD
  rw [h.length]
  exact (h.drop _).take _
theorem cut_whole {vs : List V} {lo hi : Option Int} (h : HT.sIx vs.length 0 lo = 0 ∧ HT.sIx vs.length vs.length hi = vs.length) : cutV vs lo hi = vs := by
  unfold cutV
  rw [h.1, h.2]
  simp
abbrev rSlD (K : PySem.W.Frag) : V → Option Int → Option Int → Hp → VK → Prop := fun x lo hi H Q => rSlL K x lo hi H Q ∨ rSlA K x lo hi H Q ∨ rSlS x lo hi H Q
theorem ge_slice {e : Expr} {lo hi : Option Expr} {p2 pos : Pos} {t : TE} {tl th : TO} {m : SE D} {ml mh : SE (Option Int)} (h : GO K mg r X O E e t m) (hl : GP K mg r X O E lo tl ml) (hh : GP K mg r X O E hi th mh) (hK : X.K = K := by rfl) : GE K mg r X O E (.Subscript e (.Slice lo hi none p2) pos) (tSl (rSlD K) t tl th) (sliceE m ml mh) := by
  subst hK
  refine ⟨pe_slice (sl_list.or (sl_tupA.or sl_str)) h.pe hl.pe hh.pe, fun Hs0 H0 Hs H σ env tp Q Rl P => ?_⟩
  refine h.snd _ _ _ _ _ _ _ _ Rl (Post.bind P fun v Hs1 H1 d tp1 _ g w rv P1 => ?_)
  refine hl.snd _ _ _ _ _ _ _ _ (Rl.grow g w) (Post.bind P1 fun l Hs2 H2 l' tp2 _ g2 w2 el P2 => ?_)
  refine hh.snd _ _ _ _ _ _ _ _ (Rl.grow (g.trans g2) w2) (Post.bind P2 fun u Hs3 H3 u' tp3 _ g3 w3 eu P3 => ?_)
  subst el eu
  obtain ⟨z, hz, k⟩ := Post.ok_of P3
  have rv := rv.grow (g2.trans g3)
  unfold sliceD at hz
  split at hz
  · cases hz
    obtain ⟨p, vs, rfl, h1, h2⟩ := repT_lst w3 rv
    refine .inl ⟨p, vs, rfl, .of h1, fun q hq => ?_⟩
    obtain ⟨g', w'⟩ := w3.alloc (o := .lst (cutV vs l u)) hq
    exact k _ _ _ g' w' (.lst upd_same ((cut_rep h2 l u).mono g'.ex))
  · cases hz
    obtain ⟨p, vs, rfl, h0, h1, h2⟩ := repT_tup w3 rv
    refine .inr (.inl ⟨p, vs, rfl, .inl h1, fun e => ?_, fun _ q hq => ?_⟩)
    · have h4 := cut_rep h2 l u
      rw [cut_whole e] at h4
      exact k _ _ _ (Grow.refl _ _) w3 (.tupR h0 h4)
    · obtain ⟨g', w'⟩ := w3.alloc (o := .tup (cutV vs l u)) hq
      exact k _ _ _ g' w' (.tup upd_same ((cut_rep h2 l u).mono g'.ex))
  · split at hz
    · rename_i c
      cases hz
      exact .inr (.inr ⟨_, repT_str rv, c, k _ _ _ (Grow.refl _ _) w3 (.str _)⟩)
    · cases hz
  · cases hz
theorem paired1 {α β : Type} {F : α → β → Prop} {xs : List α} {y : β} (h : Paired F xs [y]) : ∃ x, xs = [x] ∧ F x y := by
  cases h with
  | cons a b => cases b; exact ⟨_, rfl, a⟩
theorem paired2 {α β : Type} {F : α → β → Prop} {xs : List α} {y y' : β} (h : Paired F xs [y, y']) : ∃ x x', xs = [x, x'] ∧ F x y ∧ F x' y' := by
  cases h with
  | cons a b =>
    obtain ⟨x', rfl, h⟩ := paired1 b
    exact ⟨_, _, rfl, a, h⟩
theorem RepP.length : ∀ {vs : List (D × V)} {ds : List (D × D)}, RepP K mg r Hs vs ds → vs.length = ds.length
  | _, _, .nil => rfl
  | _, _, .cons _ q => by simp only [List.length_cons, RepP.length q]
def lenD : List D → Option D
  | [.lst xs] => some (.int xs.length)
  | [.tup xs] => some (.int xs.length)
  | [.scr xs] => some (.int xs.length)
  | [.str s] => if s.length ≤ sizeLine then some (.int s.length) else none
  | _ => none
theorem cs_len : CallS K mg r (fun xs H Q => (∃ p ys, xs = [.ref p] ∧ (SqL K H p ys ∨ SqT K H p ys) ∧ Q (.int ys.length) H) ∨ ∃ z, xs = [.str z] ∧ z.length ≤ sizeLine ∧ Q (.int z.length) H) lenD := by
  intro Hs H tp xs ds z Q w rx hz k
  unfold lenD at hz
  split at hz
  · cases hz
    obtain ⟨x, rfl, h⟩ := paired1 rx
    obtain ⟨p, vs, rfl, h1, h2⟩ := repT_lst w h
    refine .inl ⟨p, vs, rfl, .inl (.of h1), ?_⟩
    rw [h2.length]
    exact k _ _ _ (Grow.refl _ _) w (.int _)
  · cases hz
    obtain ⟨x, rfl, h⟩ := paired1 rx
    obtain ⟨p, vs, rfl, _, h1, h2⟩ := repT_tup w h
    refine .inl ⟨p, vs, rfl, .inr (.inl h1), ?_⟩
    rw [h2.length]
    exact k _ _ _ (Grow.refl _ _) w (.int _)
  · cases hz
    obtain ⟨x, rfl, h⟩ := paired1 rx
    obtain ⟨p, rfl, h1⟩ := repT_scr w h
    refine .inl ⟨p, _, rfl, .inl h1, ?_⟩
    rw [List.length_map]
    exact k _ _ _ (Grow.refl _ _) w (.int _)
  · split at hz
    · rename_i c
      cases hz
      obtain ⟨x, rfl, h⟩ := paired1 rx
      exact .inr ⟨_, by rw [repT_str h], c, k _ _ _ (Grow.refl _ _) w (.int _)⟩
    · cases hz
  · cases hz
theorem cr_len : CallR X (.builtin "len") (fun xs H Q => (∃ p ys, xs = [.ref p] ∧ (SqL X.K H p ys ∨ SqT X.K H p ys) ∧ Q (.int ys.length) H) ∨ ∃ z, xs = [.str z] ∧ z.length ≤ sizeLine ∧ Q (.int z.length) H) := call_len_seq.or call_len_str
def intD : List D → Option D
  | [.int i] => some (.int i)
  | [.bl b] => some (.int (if b then 1 else 0))
  | _ => none
theorem cs_int : CallS K mg r (fun xs H Q => (∃ i, xs = [.int i] ∧ Q (.int i) H) ∨ ∃ k, xs = [.bl k] ∧ Q (.int (if k then 1 else 0)) H) intD := by
  intro Hs H tp xs ds z Q w rx hz k
  unfold intD at hz
  split at hz
  · cases hz
    obtain ⟨x, rfl, h⟩ := paired1 rx
    exact .inl ⟨_, by rw [repT_int h], k _ _ _ (Grow.refl _ _) w (.int _)⟩
  · cases hz
    obtain ⟨x, rfl, h⟩ := paired1 rx
    exact .inr ⟨_, by rw [repT_bl h], k _ _ _ (Grow.refl _ _) w (.int _)⟩
  · cases hz
def tupleD : List D → Option D
  | [.lst xs] => some (.tup xs)
  | [.tup xs] => some (.tup xs)
  | _ => none
theorem cs_tuple : CallS K mg r (fun xs H Q => ∃ p ys, xs = [.ref p] ∧ ((SqL K H p ys ∧ ∀ l, H l = none → Q (.ref l) (upd H l (.tup ys))) ∨ (SqT K H p ys ∧ Q (.ref p) H))) tupleD := by
  intro Hs H tp xs ds z Q w rx hz k
  unfold tupleD at hz
  split at hz
  · cases hz
    obtain ⟨x, rfl, h⟩ := paired1 rx
    obtain ⟨p, vs, rfl, h1, h2⟩ := repT_lst w h
    refine ⟨p, vs, rfl, .inl ⟨.of h1, fun q hq => ?_⟩⟩
    obtain ⟨g', w'⟩ := w.alloc (o := .tup vs) hq
    exact k _ _ _ g' w' (.tup upd_same (h2.mono g'.ex))
  · cases hz
    obtain ⟨x, rfl, h⟩ := paired1 rx
    obtain ⟨p, vs, rfl, h0, h1, h2⟩ := repT_tup w h
    exact ⟨p, vs, rfl, .inr ⟨.inl h1, k _ _ _ (Grow.refl _ _) w (.tupR h0 h2)⟩⟩
  · cases hz
def listD : List D → Option D
  | [.lst xs] => some (.lst xs)
  | [.tup xs] => some (.lst xs)
  | [.scr ns] => some (.lst (ns.map .int))
  | _ => none
def unB : List D → Option (List Bool)
  | [] => some []
  | .bl b :: r => (unB r).map (b :: ·)
  | _ => none
def unI : List D → Option (List Int)
  | [] => some []
  | .int b :: r => (unI r).map (b :: ·)
  | _ => none
def unS : List D → Option (List Str)
  | [] => some []
  | .str b :: r => (unS r).map (b :: ·)
  | _ => none
theorem unB_ok : ∀ {ds : List D} {bs : List Bool}, unB ds = some bs → ds = bs.map .bl
  | [], _, h => by cases h; rfl
  | d :: ds, bs, h => by
    cases d with
    | bl b =>
      obtain ⟨cs, h1, h2⟩ := Option.map_eq_some_iff.mp (show (unB ds).map (b :: ·) = some bs from h)
      subst h2
      rw [unB_ok h1]; rfl
    | _ => cases h
theorem unI_ok : ∀ {ds : List D} {bs : List Int}, unI ds = some bs → ds = bs.map .int
  | [], _, h => by cases h; rfl
  | d :: ds, bs, h => by
    cases d with
    | int b =>
      obtain ⟨cs, h1, h2⟩ := Option.map_eq_some_iff.mp (show (unI ds).map (b :: ·) = some bs from h)
      subst h2
      rw [unI_ok h1]; rfl
    | _ => cases h
theorem unS_ok : ∀ {ds : List D} {bs : List Str}, unS ds = some bs → ds = bs.map .str
  | [], _, h => by cases h; rfl
  | d :: ds, bs, h => by
    cases d with
    | str b =>
      obtain ⟨cs, h1, h2⟩ := Option.map_eq_some_iff.mp (show (unS ds).map (b :: ·) = some bs from h)
      subst h2
      rw [unS_ok h1]; rfl
    | _ => cases h
@[simp] theorem unB_map : ∀ bs : List Bool, unB (bs.map .bl) = some bs
  | [] => rfl
  | b :: bs => by show (unB (bs.map .bl)).map (b :: ·) = _; rw [unB_map bs]; rfl
@[simp] theorem unI_map : ∀ bs : List Int, unI (bs.map .int) = some bs
  | [] => rfl
  | b :: bs => by show (unI (bs.map .int)).map (b :: ·) = _; rw [unI_map bs]; rfl
@[simp] theorem unS_map : ∀ bs : List Str, unS (bs.map .str) = some bs
  | [] => rfl
  | b :: bs => by show (unS (bs.map .str)).map (b :: ·) = _; rw [unS_map bs]; rfl
def allD : List D → Option D
  | [.lst xs] => (unB xs).map fun bs => .bl (bs.all id)
  | _ => none
def anyD : List D → Option D
  | [.lst xs] => (unB xs).map fun bs => .bl (bs.any id)
  | _ => none
theorem lst_typed {α : Type} {f : α → D} {g : α → V} (hfg : ∀ {Hs : Hp} {ns : List α} {vs : List V}, RepDs K mg r Hs vs (ns.map f) → vs = ns.map g) {v : V} {ns : List α} (w : Wd K mg r Hs H tp) (h : RepT K mg r Hs H v (.lst (ns.map f))) : ∃ p, v = .ref p ∧ H p = some (.lst (ns.map g)) := by
  obtain ⟨p, vs, rfl, h1, h2⟩ := repT_lst w h
  rw [hfg h2] at h1
  exact ⟨p, rfl, h1⟩
theorem cs_all : CallS K mg r (rAll K) allD := by
  intro Hs H tp xs ds z Q w rx hz k
  unfold allD at hz
  split at hz
  · obtain ⟨bs, h1, h2⟩ := Option.map_eq_some_iff.mp hz
    subst h2
    obtain ⟨x, rfl, h⟩ := paired1 rx
    rw [unB_ok h1] at h
    obtain ⟨p, rfl, h3⟩ := lst_typed RepDs.bls_of w h
    exact ⟨p, bs, rfl, .of h3, k _ _ _ (Grow.refl _ _) w (.bl _)⟩
  · cases hz
theorem cs_any : CallS K mg r (rAny K) anyD := by
  intro Hs H tp xs ds z Q w rx hz k
  unfold anyD at hz
  split at hz
  · obtain ⟨bs, h1, h2⟩ := Option.map_eq_some_iff.mp hz
    subst h2
    obtain ⟨x, rfl, h⟩ := paired1 rx
    rw [unB_ok h1] at h
    obtain ⟨p, rfl, h3⟩ := lst_typed RepDs.bls_of w h
    exact ⟨p, bs, rfl, .of h3, k _ _ _ (Grow.refl _ _) w (.bl _)⟩
  · cases hz
def tyN : D → Option String
  | .non => some "NoneType"
  | .bl _ => some "bool"
  | .int _ => some "int"
  | .str _ => some "str"
  | .tup _ => some "tuple"
  | .lst _ => some "list"
  | _ => none
def unT : List D → Option (List String)
  | [] => some []
  | .ty n :: r => (unT r).map (n :: ·)
  | _ => none
theorem unT_ok : ∀ {ds : List D} {bs : List String}, unT ds = some bs → ds = bs.map .ty
  | [], _, h => by cases h; rfl
  | d :: ds, bs, h => by
    cases d with
    | ty b =>
      obtain ⟨cs, h1, h2⟩ := Option.map_eq_some_iff.mp (show (unT ds).map (b :: ·) = some bs from h)
      subst h2
      rw [unT_ok h1]; rfl
    | _ => cases h
theorem RepDs.tys_of : ∀ {ns : List String} {vs : List V}, RepDs K mg r Hs vs (ns.map D.ty) → vs = ns.map V.ty
  | [], _, .nil => rfl
  | n :: ns, _, .cons h q => by cases h; rw [RepDs.tys_of q]; rfl
def kitBs (a : String) : List String → Option Bool
  | [] => some false
  | b :: bs => match kitB a b, kitBs a bs with
    | some true, some _ => some true
    | some false, some c => some c
    | _, _ => none
theorem kitBs_ok {a : String} : ∀ {bs : List String} {c : Bool}, kitBs a bs = some c → PySem.W.kitAny K (.type a) (bs.map Value.type) = some c
  | [], c, h => by cases h; exact kitAny_nil
  | b :: bs, c, h => by
    have h : (match kitB a b, kitBs a bs with
      | some true, some _ => some true
      | some false, some c => some c
      | _, _ => none) = some c := h
    cases e1 : kitB a b with
    | none => rw [e1] at h; cases h
    | some x =>
      cases e2 : kitBs a bs with
      | none => rw [e1, e2] at h; cases x <;> cases h
      | some y =>
        rw [e1, e2] at h
        refine kitAny_cons (b := x) (kit_ty e1) (fun hb => ?_) (fun hb => ?_)
        · subst hb; cases h; exact kitBs_ok e2
        · subst hb; cases h; rfl
def isiD : List D → Option D
  | [d, .ty n] => (tyN d).bind fun t => (kitB t n).map .bl
  | [d, .tup ds] => (tyN d).bind fun t => (unT ds).bind fun ns => (kitBs t ns).map .bl
  | _ => none
theorem tyx_of {v : V} {d : D} {t : String} (w : Wd K mg r Hs H tp) (h : RepT K mg r Hs H v d) (e : tyN d = some t) : TyX K H v (.type t) := by
  cases d with
  | non => cases e; rw [repT_non h]; exact .base .non
  | bl b => cases e; rw [repT_bl h]; exact .base (.bl _)
  | int b => cases e; rw [repT_int h]; exact .base (.int _)
  | str b => cases e; rw [repT_str h]; exact .base (.str _)
  | tup ds => cases e; obtain ⟨p, vs, rfl, _, h1, h2⟩ := repT_tup w h; exact h1.elim (fun h1 => .base (.tup h1)) fun ⟨_, h1⟩ => .fTuple h1
  | lst ds => cases e; obtain ⟨p, vs, rfl, h1, h2⟩ := repT_lst w h; exact .base (.lst h1)
  | _ => cases e
theorem cls_all : ∀ ns : List String, Paired ClsV (ns.map V.ty) (ns.map Value.type)
  | [] => .nil
  | n :: ns => .cons (.ty n) (cls_all ns)
/-- isinstance(x, t), t a tuple of classes, standing still or not -/
def rIsiQ (K : PySem.W.Frag) : List V → Hp → VK → Prop := fun xs H Q => ∃ (x : V) (tp : Addr) (cs : List V) (t : Value) (us : List Value) (b : Bool), xs = [x, .ref tp] ∧ Rd H tp (.tup cs) ∧ Paired ClsV cs us ∧ TyX K H x t ∧ PySem.W.kitAny K t us = some b ∧ Q (.bl b) H
theorem call_isiQ {X : Cx} : CallR X (.builtin "isinstance") (rIsiQ X.K) := by
  intro pins s σ H xs us Q I r h
  obtain ⟨x, tp, cs, t, ws, b, rfl, hT, k, ty, e, q⟩ := h
  obtain ⟨u1, u2, rfl, r1, r2⟩ := vals2 r
  cases (show u2 = Value.ref tp from r2)
  obtain ⟨P, Z, p, hx⟩ := kit_of I r1 ty
  obtain ⟨_, its, rv, o, h1, h2, n, h3⟩ := (show ObjOk X.prog X.w H s.heap tp (.tup cs) from hT.ok I.hok)
  have e3 := ClsV.all k rv
  subst e3
  obtain ⟨oc, od, dt, sl⟩ := o
  simp only at h2 h3
  subst h2 h3
  exact PySem.W.kia_tup Z I.kIn p h1 e hx fun tk => ⟨.bl b, H, I.tok tk, rfl, q⟩
theorem cs_isi : CallS K mg r (fun x H Q => rIsi K x H Q ∨ rIsiQ K x H Q) isiD := by
  intro Hs H tp xs ds z Q w rx hz k
  unfold isiD at hz
  split at hz
  · obtain ⟨t, h1, h2⟩ := Option.bind_eq_some_iff.mp hz
    obtain ⟨b, h3, h4⟩ := Option.map_eq_some_iff.mp h2
    subst h4
    obtain ⟨x, x', rfl, r1, r2⟩ := paired2 rx
    rcases r2 with r2 | ⟨_, _, _, r2⟩
    · cases r2
      exact .inl ⟨x, _, _, _, b, rfl, .ty _, tyx_of w r1 h1, kit_ty h3, k _ _ _ (Grow.refl _ _) w (.bl _)⟩
    · exact r2.elim
  · obtain ⟨t, h1, h2⟩ := Option.bind_eq_some_iff.mp hz
    obtain ⟨ns, h3, h4⟩ := Option.bind_eq_some_iff.mp h2
    obtain ⟨b, h5, h6⟩ := Option.map_eq_some_iff.mp h4
    subst h6
    obtain ⟨x, x', rfl, r1, r2⟩ := paired2 rx
    obtain ⟨p, vs, rfl, _, g1, g2⟩ := repT_tup w r2
    rw [unT_ok h3] at g2
    rw [RepDs.tys_of g2] at g1
    exact .inr ⟨x, p, _, _, _, b, rfl, g1, cls_all ns, tyx_of w r1 h1, kitBs_ok h5, k _ _ _ (Grow.refl _ _) w (.bl _)⟩
  · cases hz
theorem cr_isi : CallR X (.builtin "isinstance") (fun x H Q => rIsi X.K x H Q ∨ rIsiQ X.K x H Q) := call_isi.or call_isiQ
theorem ge_ty {x : Str} {T : String} {pos : Pos} (hm : X.mg x = none) (hv : bootBuiltins x = some (.type T) := by decide +kernel) (hg : Gl X x := by rfl) (hn : x ≠ "__name__" := by decide) (hd : (x == ("__debug__" : Str)) = false := by decide) : GE K mg r X O E (.Name x pos) (tC (.ty T)) (cE (.ty T)) :=
  ge_c (v := .ty T) (pe_bltn hg hm hv rfl hn hd) fun _ => .ty T
variable {a b c : Expr} {pos : Pos} {ta tb tc : TE} {ma mb mc : SE D}
theorem ge_add (ha : GO K mg r X O E a ta ma) (hb : GO K mg r X O E b tb mb) (hK : X.K = K := by rfl) : GE K mg r X O E (.BinOp a .Add b pos) (tOp (rAddD K) ta tb) (binE addD ma mb) := by subst hK; exact ge_op opr_add ops_add ha hb
theorem ge_sub (ha : GO K mg r X O E a ta ma) (hb : GO K mg r X O E b tb mb) : GE K mg r X O E (.BinOp a .Sub b pos) (tOp (rI0 fun i j => .int (i - j)) ta tb) (binE subD ma mb) := ge_op op_sub ops_sub ha hb
theorem ge_mul (ha : GO K mg r X O E a ta ma) (hb : GO K mg r X O E b tb mb) (hK : X.K = K := by rfl) : GE K mg r X O E (.BinOp a .Mult b pos) (tOp (rMulD K) ta tb) (binE mulD ma mb) := by subst hK; exact ge_op opr_mul ops_mul ha hb
theorem ge_fdiv (ha : GO K mg r X O E a ta ma) (hb : GO K mg r X O E b tb mb) : GE K mg r X O E (.BinOp a .FloorDiv b pos) (tOp (rI CDivW fun i j => .int (i / j)) ta tb) (binE fdivD ma mb) := ge_op op_fdivW ops_fdiv ha hb
theorem ge_mod (ha : GO K mg r X O E a ta ma) (hb : GO K mg r X O E b tb mb) : GE K mg r X O E (.BinOp a .Mod b pos) (tOp (rI (fun _ j => 0 < j) fun i j => .int (i % j)) ta tb) (binE modD ma mb) := ge_op op_mod ops_mod ha hb
theorem ge_pow (ha : GO K mg r X O E a ta ma) (hb : GO K mg r X O E b tb mb) : GE K mg r X O E (.BinOp a .Pow b pos) (tOp (rI CPow fun i j => .int (i ^ j.toNat)) ta tb) (binE powD ma mb) := ge_op op_pow ops_pow ha hb
abbrev rLtD : R2 := fun x y H Q => (∃ i j, x = .int i ∧ y = .int j ∧ Q (.bl (decide (i < j))) H) ∨ (∃ i j, x = .str i ∧ y = .str j ∧ Q (.bl (decide (i.cps.toList < j.cps.toList))) H)
abbrev rLeD : R2 := rI0 fun i j => .bl (decide (i ≤ j))
abbrev rGtD : R2 := rI0 fun i j => .bl (decide (j < i))
abbrev rGeD : R2 := rI0 fun i j => .bl (decide (j ≤ i))
theorem ge_lt (ha : GO K mg r X O E a ta ma) (hb : GO K mg r X O E b tb mb) : GE K mg r X O E (.Compare a [.Lt] [b] pos) (tOp rLtD ta tb) (binE ltD ma mb) := ge_cmp opr_lt ops_lt ha hb (nomark _)
theorem ge_gt (ha : GO K mg r X O E a ta ma) (hb : GO K mg r X O E b tb mb) : GE K mg r X O E (.Compare a [.Gt] [b] pos) (tOp rGtD ta tb) (binE gtD ma mb) := ge_cmp op_gt ops_gt ha hb (nomark _)
theorem ge_eq (hu : X.A.units + 64 < cLine) (ha : GO K mg r X O E a ta ma) (hb : GO K mg r X O E b tb mb) (hK : X.K = K := by rfl) : GE K mg r X O E (.Compare a [.Eq] [b] pos) (tOp (rEqP K) ta tb) (binE eqD ma mb) := by subst hK; exact ge_cmp (op_eqP hu) ops_eq ha hb (nomark _)
theorem ge_in (hu : X.A.units + 64 < cLine) (ha : GO K mg r X O E a ta ma) (hb : GO K mg r X O E b tb mb) (hm : behindInMarks .In b = false := by rfl) (hK : X.K = K := by rfl) : GE K mg r X O E (.Compare a [.In] [b] pos) (tOp (rInP K false) ta tb) (binE inD ma mb) := by subst hK; exact ge_cmp (op_inP hu) ops_in ha hb hm
abbrev rIsD : R2 := fun x y H Q => (y = .non ∧ Q (.bl (decide (x = .non))) H) ∨ ∃ a b, x = .bl a ∧ y = .bl b ∧ Q (.bl (decide (a = b))) H
abbrev rIsNotD : R2 := fun x y H Q => (y = .non ∧ Q (.bl (!decide (x = .non))) H) ∨ ∃ a b, x = .bl a ∧ y = .bl b ∧ Q (.bl (!decide (a = b))) H
theorem ge_is (ha : GO K mg r X O E a ta ma) (hb : GO K mg r X O E b tb mb) : GE K mg r X O E (.Compare a [.Is] [b] pos) (tOp rIsD ta tb) (binE isNoneD ma mb) := ge_cmp opr_is ops_is ha hb (nomark _)
theorem ge_sub1 (ha : GO K mg r X O E a ta ma) (hb : GO K mg r X O E b tb mb) (hs : PlainIx b := by exact fun _ _ => rfl) (hK : X.K = K := by rfl) : GE K mg r X O E (.Subscript a b pos) (tOp (rIx K) ta tb) (binE ixD ma mb) := by subst hK; exact ge_ix ix_seq ops_ix ha hb hs
variable {ts : TA} {ms : SE (List D)} {p : Pos} {es : List Expr} {e : Expr}
abbrev rLenD (K : PySem.W.Frag) : List V → Hp → VK → Prop := fun xs H Q => (∃ p ys, xs = [.ref p] ∧ (SqL K H p ys ∨ SqT K H p ys) ∧ Q (.int ys.length) H) ∨ ∃ z, xs = [.str z] ∧ z.length ≤ sizeLine ∧ Q (.int z.length) H
theorem ge_len (hm : X.mg "len" = none) (ha : GAO K mg r X O E [e] ts ms) (hg : Gl X "len" := by rfl) (he : starEach [e] X.env = (false, eval e X.env) :: starEach [] X.env := by rfl) (hpl : (backTo pos (starEach [] X.env)).any (·.1) = false := by rfl) (hK : X.K = K := by rfl) : GE K mg r X O E (.Call (.Name "len" p) [e] [] pos) (tCB (rLenD K) ts) (callB lenD ms) := by
  subst hK; exact ge_callB (R := rLenD X.K) cr_len cs_len hm ha hg PySem.boot_len (by decide) (by decide) he hpl
abbrev rIntD : List V → Hp → VK → Prop := fun xs H Q => (∃ i, xs = [.int i] ∧ Q (.int i) H) ∨ ∃ k, xs = [.bl k] ∧ Q (.int (if k then 1 else 0)) H
theorem ge_int1 (hm : X.mg "int" = none) (ha : GAO K mg r X O E [e] ts ms) (hg : Gl X "int" := by rfl) (he : starEach [e] X.env = (false, eval e X.env) :: starEach [] X.env := by rfl) (hpl : (backTo pos (starEach [] X.env)).any (·.1) = false := by rfl) : GE K mg r X O E (.Call (.Name "int" p) [e] [] pos) (tCB rIntD ts) (callB intD ms) :=
  ge_callTy (R := rIntD) call_int1 cs_int hm ha hg (by decide +kernel) (by decide) (by decide) he hpl
abbrev rTupleD (K : PySem.W.Frag) : List V → Hp → VK → Prop := fun xs H Q => ∃ p ys, xs = [.ref p] ∧ ((SqL K H p ys ∧ ∀ l, H l = none → Q (.ref l) (upd H l (.tup ys))) ∨ (SqT K H p ys ∧ Q (.ref p) H))
theorem ge_tuple (hm : X.mg "tuple" = none) (ha : GAO K mg r X O E [e] ts ms) (hg : Gl X "tuple" := by rfl) (he : starEach [e] X.env = (false, eval e X.env) :: starEach [] X.env := by rfl) (hpl : (backTo pos (starEach [] X.env)).any (·.1) = false := by rfl) (hK : X.K = K := by rfl) : GE K mg r X O E (.Call (.Name "tuple" p) [e] [] pos) (tCB (rTupleD K) ts) (callB tupleD ms) := by
  subst hK; exact ge_callTy (R := rTupleD X.K) call_tuple_of cs_tuple hm ha hg (by decide +kernel) (by decide) (by decide) he hpl
abbrev rListD1 (K : PySem.W.Frag) : List V → Hp → VK → Prop := fun xs H Q => ∃ p ys, xs = [.ref p] ∧ (SqL K H p ys ∨ SqT K H p ys) ∧ ∀ l, H l = none → Q (.ref l) (upd H l (.lst ys))
theorem ge_all (hc : X.calm = true) (hm : X.mg "all" = none) (ha : GAO K mg r X O E [e] ts ms) (hg : Gl X "all" := by rfl) (he : starEach [e] X.env = (false, eval e X.env) :: starEach [] X.env := by rfl) (hpl : (backTo pos (starEach [] X.env)).any (·.1) = false := by rfl) (hK : X.K = K := by rfl) : GE K mg r X O E (.Call (.Name "all" p) [e] [] pos) (tCB (rAll K) ts) (callB allD ms) := by
  subst hK; exact ge_callB (cr_all hc) cs_all hm ha hg (by decide +kernel) (by decide) (by decide) he hpl
theorem ge_any (hc : X.calm = true) (hm : X.mg "any" = none) (ha : GAO K mg r X O E [e] ts ms) (hg : Gl X "any" := by rfl) (he : starEach [e] X.env = (false, eval e X.env) :: starEach [] X.env := by rfl) (hpl : (backTo pos (starEach [] X.env)).any (·.1) = false := by rfl) (hK : X.K = K := by rfl) : GE K mg r X O E (.Call (.Name "any" p) [e] [] pos) (tCB (rAny K) ts) (callB anyD ms) := by
  subst hK; exact ge_callB (cr_any hc) cs_any hm ha hg (by decide +kernel) (by decide) (by decide) he hpl
abbrev rIsiD (K : PySem.W.Frag) : List V → Hp → VK → Prop := fun x H Q => rIsi K x H Q ∨ rIsiQ K x H Q
theorem ge_isi {e2 : Expr} (hm : X.mg "isinstance" = none) (ha : GAO K mg r X O E [e, e2] ts ms) (hg : Gl X "isinstance" := by rfl) (he : starEach [e, e2] X.env = (false, eval e X.env) :: starEach [e2] X.env := by rfl) (hpl : (backTo pos (starEach [e2] X.env)).any (·.1) = false := by rfl) (hK : X.K = K := by rfl) : GE K mg r X O E (.Call (.Name "isinstance" p) [e, e2] [] pos) (tCB (rIsiD K) ts) (callB isiD ms) := by
  subst hK; exact ge_callB (R := rIsiD X.K) cr_isi cs_isi hm ha hg (by decide +kernel) (by decide) (by decide) he hpl
end
end G
set_option maxHeartbeats 1000000
namespace G
open PySem PySem.Spec PyProof.Rows L2
inductive RS where
  | nx (env : DEnv) (tp : List D)
  | rt (d : D) (tp : List D)
  | bk (env : DEnv) (tp : List D)
  | ct (env : DEnv) (tp : List D)
  | exn (c : Str) (fs : List (Str × D)) (tp : List D)
  | stuck
abbrev SS := DEnv → List D → RS
def RE.bindS {α : Type} (x : RE α) (k : α → List D → RS) : RS := match x with
  | .ok a tp => k a tp
  | .exn c fs tp => .exn c fs tp
  | .stuck => .stuck
@[simp] theorem RE.bindS_ok {α : Type} (a : α) (tp : List D) (k : α → List D → RS) : (RE.ok a tp).bindS k = k a tp := rfl
@[simp] theorem RE.bindS_exn {α : Type} (c : Str) (fs : List (Str × D)) (tp : List D) (k : α → List D → RS) : (RE.exn c fs tp : RE α).bindS k = .exn c fs tp := rfl
@[simp] theorem RE.bindS_stuck {α : Type} (k : α → List D → RS) : (RE.stuck : RE α).bindS k = .stuck := rfl
section
variable {K : PySem.W.Frag} {mg : Str → Option Value} {r : Addr} {Hs0 H0 Hs Hs' H H' : Hp} {O O' : List Nat} {σ : L2.St} {env : DEnv} {tp tp' : List D} {p : Addr} {d : D} {v : V}
theorem get_set {α : Type} {xs : List (Option α)} {i j : Nat} {v : α} {w : α} (h : (xs.set i (some v))[j]? = some (some w)) : (j = i ∧ v = w ∧ i < xs.length) ∨ (j ≠ i ∧ xs[j]? = some (some w)) := by
  by_cases q : j = i
  · subst q
    rw [List.getElem?_set] at h
    simp only [if_true] at h
    split at h
    · cases h; exact .inl ⟨rfl, rfl, by assumption⟩
    · cases h
  · rw [List.getElem?_set_ne (Ne.symm q)] at h
    exact .inr ⟨q, h⟩
theorem set_get {α : Type} {xs : List (Option α)} {i : Nat} {v : α} (h : i < xs.length) : (xs.set i (some v))[i]? = some (some v) := by
  rw [List.getElem?_set_self h]
theorem set_gne {α : Type} {xs : List (Option α)} {i j : Nat} {v : Option α} (h : j ≠ i) : (xs.set i v)[j]? = xs[j]? := List.getElem?_set_ne (Ne.symm h)
/-- some owned objects come to stand still -/
theorem Rel.freeze (R : Rel K mg r O Hs0 H0 Hs H σ env tp) (h : ∀ i ∈ O', i ∈ O) : ∃ Hs', Same Hs Hs' ∧ Rel K mg r O' Hs0 H0 Hs' H σ env tp := by
  classical
  let fz : Addr → Prop := fun b => ∃ i, i ∈ O ∧ i ∉ O' ∧ σ[i]? = some (some (.ref b))
  let Hs' : Hp := fun b => if fz b then H b else Hs b
  have fzn : ∀ b, fz b → Hs b = none ∧ H0 b = none ∧ b ≠ r := fun b ⟨i, h1, _, h3⟩ => by
    obtain ⟨d, p, _, b2, c, c0, n, _⟩ := R.own i h1
    rw [h3] at b2; cases b2
    exact ⟨c, c0, n⟩
  have e : Same Hs Hs' := .of fun b o q => by
    show (if fz b then H b else Hs b) = some o
    by_cases z : fz b
    · rw [(fzn b z).1] at q; cases q
    · rw [if_neg z]; exact q
  have sub : Same Hs' H := fun b o q => by
    have q : (if fz b then H b else Hs b) = some o := q
    by_cases z : fz b
    · rw [if_pos z] at q; exact .inl q
    · rw [if_neg z] at q; exact R.wd.sub b o q
  have tn : Hs' r = none := by
    show (if fz r then H r else Hs r) = none
    rw [if_neg fun z => (fzn r z).2.2 rfl]; exact R.wd.tn
  refine ⟨Hs', e, ⟨⟨sub, tn, ?_, fun b φ q => ?_⟩, ⟨R.gr.keep, R.gr.free, R.gr.ex.trans e, fun b o n q => ?_, R.gr.tup⟩, R.len, fun i d a n => ?_, fun i hi => ?_, fun i j p hi hj a b => R.dis i j p (h i hi) (h j hj) a b⟩⟩
  · obtain ⟨vs, a, b⟩ := R.wd.tH
    exact ⟨vs, a, b.mono e⟩
  · have q : (if fz b then H b else Hs b) = some (.ext φ) := q
    by_cases z : fz b
    · rw [if_pos z] at q
      obtain ⟨i, h1, _, h3⟩ := z
      obtain ⟨d, p, _, b2, _, _, _, oa⟩ := R.own i h1
      rw [h3] at b2; cases b2
      exact oa.next φ q
    · rw [if_neg z] at q; exact R.wd.nx b φ q
  · have q : (if fz b then H b else Hs b) = some o := q
    by_cases z : fz b
    · exact .inr (.inl (fzn b z).2.1)
    · rw [if_neg z] at q; exact R.gr.new b o n q
  · by_cases m : i ∈ O
    · obtain ⟨d', p, b1, b2, c, c0, ne, oa⟩ := R.own i m
      rw [a] at b1; cases b1
      refine ⟨_, b2, oa.rep e fun o q => ?_⟩
      show (if fz p then H p else Hs p) = some o
      rw [if_pos ⟨i, m, n, b2⟩]; exact q
    · obtain ⟨v, b1, b2⟩ := R.vars i d a m
      exact ⟨v, b1, b2.mono e⟩
  · obtain ⟨d', p, b1, b2, c, c0, ne, oa⟩ := R.own i (h i hi)
    refine ⟨d', p, b1, b2, ?_, c0, ne, oa.grow e fun o q => q⟩
    show (if fz p then H p else Hs p) = none
    rw [if_neg]
    · exact c
    · rintro ⟨j, hj, hj', q⟩
      have := R.dis i j p (h i hi) hj b2 q
      subst this
      exact hj' hi
/-- a name gets a value that stands still -/
theorem Rel.set (R : Rel K mg r O Hs0 H0 Hs H σ env tp) (i : Nat) (hr : RepD K mg r Hs v d) : Rel K mg r (O.filter (· != i)) Hs0 H0 Hs H (σ.set i (some v)) (env.set i (some d)) tp where
  wd := R.wd
  gr := R.gr
  len := by rw [List.length_set, List.length_set]; exact R.len
  vars := fun j e a n => by
    rcases get_set a with ⟨rfl, rfl, hl⟩ | ⟨ne, a⟩
    · exact ⟨v, set_get (by rw [R.len]; exact hl), hr⟩
    · have n' : j ∉ O := fun m => n (List.mem_filter.mpr ⟨m, by simpa using ne⟩)
      obtain ⟨w, b1, b2⟩ := R.vars j e a n'
      exact ⟨w, by rw [set_gne ne]; exact b1, b2⟩
  own := fun j hj => by
    obtain ⟨m, ne⟩ := List.mem_filter.mp hj
    have ne : j ≠ i := by simpa using ne
    obtain ⟨d', p, b1, b2, c⟩ := R.own j m
    exact ⟨d', p, by rw [set_gne ne]; exact b1, by rw [set_gne ne]; exact b2, c⟩
  dis := fun j l p hj hl a b => by
    obtain ⟨m, ne⟩ := List.mem_filter.mp hj
    obtain ⟨m', ne'⟩ := List.mem_filter.mp hl
    rw [set_gne (by simpa using ne)] at a
    rw [set_gne (by simpa using ne')] at b
    exact R.dis j l p m m' a b
/-- a name gets a fresh object -/
theorem Rel.setF (R : Rel K mg r O Hs0 H0 Hs H σ env tp) (i : Nat) (hi : i < env.length) (h0 : H0 p = none) (hs : Hs p = none) (ne : p ≠ r) (ho : OwnAt K mg r Hs H p d) (hd : ∀ j ∈ O, σ[j]? ≠ some (some (.ref p))) :
    Rel K mg r (i :: O.filter (· != i)) Hs0 H0 Hs H (σ.set i (some (.ref p))) (env.set i (some d)) tp where
  wd := R.wd
  gr := R.gr
  len := by rw [List.length_set, List.length_set]; exact R.len
  vars := fun j e a n => by
    rcases get_set a with ⟨rfl, rfl, hl⟩ | ⟨ne, a⟩
    · exact absurd List.mem_cons_self n
    · have n' : j ∉ O := fun m => n (List.mem_cons_of_mem _ (List.mem_filter.mpr ⟨m, by simpa using ne⟩))
      obtain ⟨w, b1, b2⟩ := R.vars j e a n'
      exact ⟨w, by rw [set_gne ne]; exact b1, b2⟩
  own := fun j hj => by
    rcases List.mem_cons.mp hj with rfl | hj
    · exact ⟨d, p, set_get hi, set_get (by rw [R.len]; exact hi), hs, h0, ne, ho⟩
    · obtain ⟨m, ne⟩ := List.mem_filter.mp hj
      have ne : j ≠ i := by simpa using ne
      obtain ⟨d', p, b1, b2, c⟩ := R.own j m
      exact ⟨d', p, by rw [set_gne ne]; exact b1, by rw [set_gne ne]; exact b2, c⟩
  dis := fun j l q hj hl a b => by
    rcases List.mem_cons.mp hj with rfl | hj
    · rcases List.mem_cons.mp hl with rfl | hl
      · rfl
      · obtain ⟨m', ne'⟩ := List.mem_filter.mp hl
        rw [set_gne (by simpa using ne')] at b
        rw [set_get (by rw [R.len]; exact hi)] at a
        cases a
        exact absurd b (hd l m')
    · obtain ⟨m, ne⟩ := List.mem_filter.mp hj
      rw [set_gne (by simpa using ne)] at a
      rcases List.mem_cons.mp hl with rfl | hl
      · rw [set_get (by rw [R.len]; exact hi)] at b
        cases b
        exact absurd a (hd j m)
      · obtain ⟨m', ne'⟩ := List.mem_filter.mp hl
        rw [set_gne (by simpa using ne')] at b
        exact R.dis j l q m m' a b
/-- an owned object is changed -/
theorem Rel.write {o : HO} {i : Nat} (R : Rel K mg r O Hs0 H0 Hs H σ env tp) (hi : i ∈ O) (hp : σ[i]? = some (some (.ref p))) (ho : OwnAt K mg r Hs (upd H p o) p d) : Rel K mg r O Hs0 H0 Hs (upd H p o) σ (env.set i (some d)) tp := by
  obtain ⟨d0, p0, b1, b2, c, c0, ne, oa⟩ := R.own i hi
  rw [hp] at b2; cases b2
  have hl : i < env.length := by
    rcases Nat.lt_or_ge i env.length with q | q
    · exact q
    · rw [List.getElem?_eq_none q] at b1; cases b1
  refine ⟨R.wd.write c ne (fun xs z => st_no (oa.ntup _ z) xs rfl), ⟨fun b u q n hs => ?_, fun b e => R.gr.free b (upd_free e), R.gr.ex, R.gr.new, fun b xs e => by rw [upd_ne (ne_of_none e c0)]; exact R.gr.tup b xs e⟩, by rw [List.length_set]; exact R.len, fun j e a n => ?_, fun j hj => ?_, R.dis⟩
  · rw [upd_ne (ne_of_none q c0)]; exact R.gr.keep b u q n hs
  · rcases get_set a with ⟨rfl, rfl, _⟩ | ⟨_, a⟩
    · exact absurd hi n
    · exact R.vars j e a n
  · by_cases q : j = i
    · subst q
      exact ⟨d, p, set_get hl, hp, c, c0, ne, ho⟩
    · obtain ⟨d', p', e1, e2, f, f0, fn, fo⟩ := R.own j hj
      have np : p' ≠ p := fun z => q (by subst z; exact R.dis j i p' hj hi e2 hp)
      exact ⟨d', p', by rw [set_gne q]; exact e1, e2, f, f0, fn, fo.grow (Same.refl _) fun u z => by rw [upd_ne np]; exact z⟩
/-- the tape is written -/
theorem Rel.tape {vs : List V} {j : Nat} (R : Rel K mg r O Hs0 H0 Hs H σ env tp) (h : H r = some (.lst vs)) (hv : RepDs K mg r Hs vs tp) (hr : RepD K mg r Hs v d) : Rel K mg r O Hs0 H0 Hs (upd H r (.lst (vs.set j v))) σ env (tp.set j d) := by
  refine ⟨⟨fun b u q => ?_, R.wd.tn, ⟨_, upd_same, hv.set j hr⟩, R.wd.nx⟩, ⟨fun b u q n hs => ?_, fun b e => R.gr.free b (upd_free e), R.gr.ex, R.gr.new, fun b xs e => by have q := R.gr.tup b xs e; rw [upd_ne (ne_of q h (fun z => st_no (o := .lst vs) rfl xs z.symm))]; exact q⟩, R.len, R.vars, fun i hi => ?_, R.dis⟩
  · exact (R.wd.sub b u q).upd (ne_of_none q R.wd.tn) fun xs z => by rw [h] at z; first | exact st_no rfl xs (Option.some.inj z) | cases z
  · rw [upd_ne n]; exact R.gr.keep b u q n hs
  · obtain ⟨d', p, b1, b2, c, c0, ne, oa⟩ := R.own i hi
    exact ⟨d', p, b1, b2, c, c0, ne, oa.grow (Same.refl _) fun u z => by rw [upd_ne ne]; exact z⟩
end
section
variable (K : PySem.W.Frag) (mg : Str → Option Value) (r : Addr) (X : Cx) (E : XK) (O On Ol : List Nat)
def PostS (Hs0 H0 Hs : Hp) (res : RS) (D : Ends) : Prop := match res with
  | .nx env' tp' => ∀ σ' Hs' H', Same Hs Hs' → Rel K mg r On Hs0 H0 Hs' H' σ' env' tp' → D.nx σ' H'
  | .rt d tp' => ∀ v Hs' H', Grow r Hs0 H0 Hs' H' → Wd K mg r Hs' H' tp' → RepD K mg r Hs' v d → D.rt v H'
  | .bk env' tp' => ∀ σ' Hs' H', Same Hs Hs' → Rel K mg r Ol Hs0 H0 Hs' H' σ' env' tp' → D.bk σ' H'
  | .ct env' tp' => ∀ σ' Hs' H', Same Hs Hs' → Rel K mg r Ol Hs0 H0 Hs' H' σ' env' tp' → D.ct σ' H'
  | .exn c fs tp' => ∀ cv dx Hs' H', Grow r Hs0 H0 Hs' H' → Wd K mg r Hs' H' tp' → mg c = some cv → ExD K mg r Hs' fs dx → E cv dx H'
  | .stuck => False
structure GS (st : Stmt) (t : TS) (m : SS) : Prop where
  pe : PS X st t
  snd : ∀ Hs0 H0 Hs H σ env tp D, Rel K mg r O Hs0 H0 Hs H σ env tp → PostS K mg r E On Ol Hs0 H0 Hs (m env tp) D → t D σ H
structure GSs (st : List Stmt) (t : TS) (m : SS) : Prop where
  pe : PSs X st t
  snd : ∀ Hs0 H0 Hs H σ env tp D, Rel K mg r O Hs0 H0 Hs H σ env tp → PostS K mg r E On Ol Hs0 H0 Hs (m env tp) D → t D σ H
end
section
variable {K : PySem.W.Frag} {mg : Str → Option Value} {r : Addr} {X : Cx} {E : XK} {O O1 On Ol : List Nat} {e a b : Expr} {es : List Expr} {pos : Pos} {t ta tb : TE} {tt : TT} {ts : TA} {s1 : Stmt} {ss : List Stmt} {u u1 u2 : TS}
theorem PostS.shift {Hs0 H0 Hs Hs1 : Hp} {res : RS} {D : Ends} (e : Same Hs Hs1) (h : PostS K mg r E On Ol Hs0 H0 Hs res D) : PostS K mg r E On Ol Hs0 H0 Hs1 res D := by
  cases res with
  | nx env tp => exact fun σ Hs' H' e' R => h σ Hs' H' (e.trans e') R
  | bk env tp => exact fun σ Hs' H' e' R => h σ Hs' H' (e.trans e') R
  | ct env tp => exact fun σ Hs' H' e' R => h σ Hs' H' (e.trans e') R
  | _ => exact h
/-- an expression's value, then the rest of a statement -/
theorem PostS.bind {β α : Type} {R1 : Hp → Hp → β → α → Prop} {Hs0 H0 Hs H : Hp} {σ : L2.St} {env : DEnv} {tp : List D} {res : RE α} {k : α → List D → RS} {D : Ends} {Q1 : β → Hp → Prop} (R : Rel K mg r O Hs0 H0 Hs H σ env tp) (h : PostS K mg r E On Ol Hs0 H0 Hs (res.bindS k) D)
    (step : ∀ v Hs1 H1 d tp1, res = .ok d tp1 → Grow r Hs H Hs1 H1 → Wd K mg r Hs1 H1 tp1 → Rel K mg r O Hs0 H0 Hs1 H1 σ env tp1 → R1 Hs1 H1 v d → PostS K mg r E On Ol Hs0 H0 Hs1 (k d tp1) D → Q1 v H1) : Post K mg r R1 E Hs H res Q1 := by
  cases res with
  | ok d tp1 => exact fun v Hs1 H1 g w q => step v Hs1 H1 d tp1 rfl g w (R.grow g w) q (PostS.shift g.ex h)
  | exn c fs tp1 => exact fun cv dx Hs1 H1 g w m x => h cv dx Hs1 H1 (R.gr.trans g) w m x
  | stuck => exact h
theorem PostS.weak {On' : List Nat} {Hs0 H0 Hs : Hp} {res : RS} {D : Ends} (h : PostS K mg r E On' Ol Hs0 H0 Hs res D) (hO : ∀ i ∈ On', i ∈ On) : PostS K mg r E On Ol Hs0 H0 Hs res D := by
  cases res with
  | nx env tp =>
    intro σ Hs1 H e1 R
    obtain ⟨Hs', e, R'⟩ := R.freeze hO
    exact h σ Hs' H (e1.trans e) R'
  | _ => exact h
/-- ahead of it some owned objects come to stand still -/
theorem GS.pre {O' : List Nat} {m : SS} (hO : ∀ i ∈ O', i ∈ O) (h : GS K mg r X E O' On Ol s1 u m) : GS K mg r X E O On Ol s1 u m :=
  ⟨h.pe, fun Hs0 H0 Hs H σ env tp D R P => by
    obtain ⟨Hs', e, R'⟩ := R.freeze hO
    exact h.snd _ _ _ _ _ _ _ _ R' (P.shift e)⟩
/-- behind it -/
theorem GS.post {On' : List Nat} {m : SS} (hO : ∀ i ∈ On', i ∈ On) (h : GS K mg r X E O On Ol s1 u m) : GS K mg r X E O On' Ol s1 u m :=
  ⟨h.pe, fun Hs0 H0 Hs H σ env tp D R P => h.snd _ _ _ _ _ _ _ _ R (P.weak hO)⟩
theorem GSs.post {On' : List Nat} {m : SS} (hO : ∀ i ∈ On', i ∈ On) (h : GSs K mg r X E O On Ol ss u m) : GSs K mg r X E O On' Ol ss u m :=
  ⟨h.pe, fun Hs0 H0 Hs H σ env tp D R P => h.snd _ _ _ _ _ _ _ _ R (P.weak hO)⟩
def skipS : SS := fun env tp => .nx env tp
def seqS (m n : SS) : SS := fun env tp => match m env tp with
  | .nx e tp1 => n e tp1
  | x => x
theorem gss_nil : GSs K mg r X E O O Ol [] tNext skipS := ⟨pss_nil, fun Hs0 H0 Hs H σ env tp D R P => P _ _ _ (Same.refl _) R⟩
theorem gss_cons {m n : SS} (h1 : GS K mg r X E O O1 Ol s1 u1 m) (h2 : GSs K mg r X E O1 On Ol ss u2 n) : GSs K mg r X E O On Ol (s1 :: ss) (tSeq u1 u2) (seqS m n) := by
  refine ⟨pss_cons h1.pe h2.pe, fun Hs0 H0 Hs H σ env tp D R P => ?_⟩
  refine h1.snd _ _ _ _ _ _ _ _ R ?_
  unfold seqS at P
  cases q : m env tp with
  | nx e tp1 => rw [q] at P; exact fun σ' Hs' H' e' R' => h2.snd _ _ _ _ _ _ _ _ R' (P.shift e')
  | rt d tp1 => rw [q] at P; exact P
  | bk e tp1 => rw [q] at P; exact P
  | ct e tp1 => rw [q] at P; exact P
  | exn c fs tp1 => rw [q] at P; exact P
  | stuck => rw [q] at P; exact P
theorem gss_one {m : SS} (h1 : GS K mg r X E O On Ol s1 u1 m) : GSs K mg r X E O On Ol [s1] u1 m := ⟨pss_one h1.pe, h1.snd⟩
def setS (i : Nat) (m : SE D) : SS := fun env tp => (m env tp).bindS fun d tp1 => .nx (env.set i (some d)) tp1
def retS (m : SE D) : SS := fun env tp => (m env tp).bindS fun d tp1 => .rt d tp1
def dropS (m : SE D) : SS := fun env tp => (m env tp).bindS fun _ tp1 => .nx env tp1
def ifS (c : SE Bool) (m n : SS) : SS := fun env tp => (c env tp).bindS fun b tp1 => if b = true then m env tp1 else n env tp1
theorem setS_sound {m : SE D} (i : Nat) (h : ∀ Hs0 H0 Hs H σ env tp Q, Rel K mg r O Hs0 H0 Hs H σ env tp → PostE K mg r E Hs H (m env tp) Q → t σ H Q) :
    ∀ Hs0 H0 Hs H σ env tp D, Rel K mg r O Hs0 H0 Hs H σ env tp → PostS K mg r E (O.filter (· != i)) Ol Hs0 H0 Hs (setS i m env tp) D → tAsg t (gName i) D σ H := by
  intro Hs0 H0 Hs H σ env tp D R P
  exact h _ _ _ _ _ _ _ _ R (PostS.bind R P fun v Hs1 H1 d tp1 _ g w R1 rv P1 => P1 _ _ _ (Same.refl _) (R1.set i rv))
def setFS (i : Nat) (m : SE D) : SS := fun env tp => (m env tp).bindS fun d tp1 => if i < env.length then .nx (env.set i (some d)) tp1 else .stuck
theorem Rel.new_ne {Hs0 H0 Hs H : Hp} {σ : L2.St} {env : DEnv} {tp : List D} {p : Addr} (R : Rel K mg r O Hs0 H0 Hs H σ env tp) (h1 : H p = none) (h3 : p ≠ r) : H0 p = none ∧ ∀ j ∈ O, σ[j]? ≠ some (some (.ref p)) := by
  refine ⟨?_, fun j hj q => ?_⟩
  · exact R.gr.free p h1
  · obtain ⟨d', p', b1, b2, c, c0, ne, oa⟩ := R.own j hj
    rw [q] at b2; cases b2
    obtain ⟨o, ho⟩ := oa.there
    rw [ho] at h1; cases h1
theorem setF_sound {m : SE D} (i : Nat) (h : ∀ Hs0 H0 Hs H σ env tp Q, Rel K mg r O Hs0 H0 Hs H σ env tp → Post K mg r (Fresh K mg r H) E Hs H (m env tp) Q → t σ H Q) :
    ∀ Hs0 H0 Hs H σ env tp D, Rel K mg r O Hs0 H0 Hs H σ env tp → PostS K mg r E (i :: O.filter (· != i)) Ol Hs0 H0 Hs (setFS i m env tp) D → tAsg t (gName i) D σ H := by
  intro Hs0 H0 Hs H σ env tp D R P
  refine h _ _ _ _ _ _ _ _ R (PostS.bind R P fun v Hs1 H1 d tp1 _ g w R1 rv P1 => ?_)
  obtain ⟨p, rfl, h1, h2, h3, h4⟩ := rv
  split at P1
  · rename_i hl
    obtain ⟨n1, n2⟩ := R.new_ne h1 h3
    exact P1 _ _ _ (Same.refl _) (R1.setF i hl n1 h2 h3 h4 n2)
  · exact P1.elim
theorem gs_set {m : SE D} (i : Nat) {x : Str} {pos' : Pos} (hN : X.N.Nodup) (h : GE K mg r X O E e t m) (hi : X.N[i]? = some x := by rfl) (hx : Loc X.env.scope x := by first | exact Or.inl rfl | exact Or.inr rfl) (hs : swapsWith e (some (.Name x pos')) pos.line X.env = pure false := by rfl)
    (hf : X.fn x = true ∨ X.env.scope.names.lookup x = some .local := by first | exact .inl rfl | exact .inr rfl) : GS K mg r X E O (O.filter (· != i)) Ol (.Assign [.Name x pos'] e pos) (tAsg t (gName i)) (setS i m) :=
  ⟨ps_set hN hi hx h.pe hs hf, setS_sound i h.snd⟩
theorem gs_setF {m : SE D} (i : Nat) {x : Str} {pos' : Pos} (hN : X.N.Nodup) (h : GF K mg r X O E e t m) (hi : X.N[i]? = some x := by rfl) (hx : Loc X.env.scope x := by first | exact Or.inl rfl | exact Or.inr rfl) (hs : swapsWith e (some (.Name x pos')) pos.line X.env = pure false := by rfl)
    (hf : X.fn x = true ∨ X.env.scope.names.lookup x = some .local := by first | exact .inl rfl | exact .inr rfl) : GS K mg r X E O (i :: O.filter (· != i)) Ol (.Assign [.Name x pos'] e pos) (tAsg t (gName i)) (setFS i m) :=
  ⟨ps_set hN hi hx h.pe hs hf, setF_sound i h.snd⟩
theorem gs_ret {m : SE D} (h : GE K mg r X O E e t m) : GS K mg r X E O On Ol (.Return (some e) pos) (tRet t) (retS m) :=
  ⟨ps_ret h.pe, fun Hs0 H0 Hs H σ env tp D R P => h.snd _ _ _ _ _ _ _ _ R (PostS.bind R P fun v Hs1 H1 d tp1 _ g w R1 rv P1 => P1 v Hs1 H1 R1.gr w rv)⟩
/-- a slot's own object is handed back -/
theorem gs_retO (i : Nat) {x : Str} (hO : i ∈ O) (hN : X.N[i]? = some x := by rfl) {p2 : Pos} (hv : Vis X.env.scope x := by first | exact Or.inl rfl | exact Or.inr (Or.inl rfl) | exact Or.inr (Or.inr rfl)) (hd : (x == ("__debug__" : Str)) = false := by decide)
    (hcd : (x == ("__classdict__" : Str)) = false := by decide) : GS K mg r X E O On Ol (.Return (some (.Name x p2)) pos) (tRet (tVar i)) (retS (vE i)) :=
  GS.pre (O' := []) (fun _ h => nomatch h) (gs_ret (ge_var i (by simp) hN hv hd hcd))
theorem gs_drop {m : SE D} (h : GE K mg r X O E e t m) (hs : swapsWith e none pos.line X.env = pure false := by rfl) : GS K mg r X E O O Ol (.Expr e pos) (tDrop t) (dropS m) :=
  ⟨ps_expr h.pe hs, fun Hs0 H0 Hs H σ env tp D R P => h.snd _ _ _ _ _ _ _ _ R (PostS.bind R P fun v Hs1 H1 d tp1 _ g w R1 rv P1 => P1 _ _ _ (Same.refl _) R1)⟩
theorem gs_never : GS K mg r X E O On Ol s1 tNever (fun _ _ => .stuck) := ⟨ps_never, fun Hs0 H0 Hs H σ env tp D R P => P⟩
theorem gs_if {mc : SE Bool} {m n : SS} {bs : List Stmt} (hc : GT K mg r X O E e tt mc) (h1 : GSs K mg r X E O On Ol ss u1 m) (h2 : GSs K mg r X E O On Ol bs u2 n) : GS K mg r X E O On Ol (.If e ss bs pos) (tIfS tt u1 u2) (ifS mc m n) := by
  refine ⟨ps_if hc.pe h1.pe h2.pe, fun Hs0 H0 Hs H σ env tp D R P => ?_⟩
  refine hc.snd _ _ _ _ _ _ _ _ R (PostS.bind R P fun v Hs1 H1 d tp1 _ g w R1 rv P1 => ?_)
  subst rv
  cases v with
  | true => exact iteT (h1.snd _ _ _ _ _ _ _ _ R1 P1)
  | false => exact iteF (h2.snd _ _ _ _ _ _ _ _ R1 P1)
def appS (i : Nat) (m : SE D) : SS := fun env tp => match env[i]? with
  | some (some (.lst ds)) => (m env tp).bindS fun d tp1 => if ds.length < sizeLine then .nx (env.set i (some (.lst (ds ++ [d])))) tp1 else .stuck
  | _ => .stuck
theorem gs_append {m : SE D} (i : Nat) {x : Str} {p1 p2 p3 : Pos} (hO : i ∈ O) (h : GE K mg r X O E e t m) (hK : X.K = K := by rfl) (hN : X.N[i]? = some x := by rfl) (hv : Vis X.env.scope x := by first | exact Or.inl rfl | exact Or.inr (Or.inl rfl) | exact Or.inr (Or.inr rfl)) (hd : (x == ("__debug__" : Str)) = false := by decide)
    (hcd : (x == ("__classdict__" : Str)) = false := by decide)
    (hbase : attributeBase (.Name x p1) "append" X.env (eval (.Name x p1) X.env) = eval (.Name x p1) X.env := by rfl)
    (hfew : ((backTo p3 (starEach [e] X.env)).all (fun x => !x.1) && (backToKw p3 (keywordEach [] X.env)).all (fun x => x.1.isSome) && decide ([e].length + ([] : List Keyword).length + (if ([] : List Keyword).isEmpty then 0 else 1) < 30)) = true := by rfl)
    (hline : (p2.endLine == p3.line) = true := by rfl) (hs : starEach [e] X.env = (false, eval e X.env) :: starEach [] X.env := by rfl) (hplain : (backTo p3 (starEach [] X.env)).any (·.1) = false := by rfl)
    (hsw : swapsWith (.Call (.Attribute (.Name x p1) "append" p2) [e] [] p3) none pos.line X.env = pure false := by rfl) :
    GS K mg r X E O O Ol (.Expr (.Call (.Attribute (.Name x p1) "append" p2) [e] [] p3) pos) (tDrop (tBM K "list" rAppend (tVar i) (tCons t tNil))) (appS i m) := by
  subst hK
  refine ⟨ps_expr (pe_bm PySem.F.plainAttrs_list PySem.F.slot_list_append PySem.F.type_list_append mt_append (pe_var hN hv hd hcd) (pa_cons h.pe pa_nil hs) hbase hfew hline hs hplain) hsw, fun Hs0 H0 Hs H σ env tp D R P => ?_⟩
  obtain ⟨d0, p, b1, b2, c, c0, ne, oa⟩ := R.own i hO
  unfold appS at P
  rw [b1] at P
  cases d0 with
  | lst ds =>
    obtain ⟨vs0, k1, _⟩ := oa
    refine ⟨_, b2, .inl ⟨rfl, vs0, .of k1⟩, ?_⟩
    refine h.snd _ _ _ _ _ _ _ _ R (PostS.bind R P fun v Hs1 H1 d tp1 _ g w R1 rv P1 => ?_)
    obtain ⟨d1, p1, e1, e2, f, f0, fn, fo⟩ := R1.own i hO
    rw [b2] at e2; cases e2
    rw [b1] at e1; cases e1
    obtain ⟨vs, h1, h2⟩ := fo
    split at P1
    · rename_i hz
      refine ⟨p, vs, v, rfl, rfl, h1, by rw [h2.length]; exact hz, ?_⟩
      exact P1 _ _ _ (Same.refl _) (R1.write hO b2 ⟨_, upd_same, h2.append (.cons rv .nil)⟩)
    · exact P1.elim
  | _ => exact P.elim
def tixE (ma mb : SE D) : SE D := fun env tp => (ma env tp).bind fun d tp1 => match d with
  | .tape => (mb env tp1).bind fun e tp2 => match e with
    | .int i => RE.of (atI tp2 i) tp2
    | _ => .stuck
  | _ => .stuck
theorem ge_tix {ma mb : SE D} (ha : GO K mg r X O E a ta ma) (hb : GO K mg r X O E b tb mb) (hs : PlainIx b := by exact fun _ _ => rfl) (hK : X.K = K := by rfl) : GE K mg r X O E (.Subscript a b pos) (tOp (rIx K) ta tb) (tixE ma mb) := by
  subst hK
  refine ⟨pe_ix ix_seq ha.pe hb.pe hs, fun Hs0 H0 Hs H σ env tp Q R P => ?_⟩
  refine ha.snd _ _ _ _ _ _ _ _ R (Post.bind P fun v Hs1 H1 d tp1 _ g w rv P1 => ?_)
  cases d with
  | tape =>
    refine hb.snd _ _ _ _ _ _ _ _ (R.grow g w) (Post.bind P1 fun u Hs2 H2 e tp2 _ g2 w2 ru P2 => ?_)
    cases e with
    | int i =>
      obtain ⟨z, hz, k⟩ := Post.ok_of P2
      obtain ⟨vs, h1, h2⟩ := w2.tH
      obtain ⟨y, h3, h4⟩ := atI_rep h2 hz
      exact .inl ⟨r, vs, i, y, repT_tape rv, repT_int ru, .of h1, h3, k _ _ _ (Grow.refl _ _) w2 h4⟩
    | _ => exact P2.elim
  | _ => exact P1.elim
def tsetS (j : Nat) (ma mi m : SE D) : SS := fun env tp => (m env tp).bindS fun d tp1 => (ma env tp1).bindS fun o tp2 => (mi env tp2).bindS fun i tp3 => match o, i with
  | .tape, .int k => if ixN tp3.length k = some j then .nx env (tp3.set j d) else .stuck
  | _, _ => .stuck
theorem gs_tset {ma mi m : SE D} (j : Nat) {p1 : Pos} (h : GE K mg r X O E e t m) (ha : GO K mg r X O E a ta ma) (hb : GO K mg r X O E b tb mi)
    (hg : ∀ v, assign (.Subscript a b p1) X.env v = (do
      let ov ← holding [v] (eval a X.env)
      let iv ← holding [v, ov] (eval b X.env)
      standAt p1
      holding [v, ov, iv] (setItem ov iv v)
      release [v, ov, iv] []) := by intro _; rfl)
    (hs : swapsWithSole [.Subscript a b p1] e pos.line X.env = pure false := by rfl) (hw : swappedStores [.Subscript a b p1] e X.env = pure none := by rfl)
    (h1 : (assignEach [.Subscript a b p1] X.env).map (·.2) = [assign (.Subscript a b p1) X.env] := by rfl) :
    GS K mg r X E O O Ol (.Assign [.Subscript a b p1] e pos) (tAsg t (gSub ta tb rSetL)) (tsetS j ma mi m) := by
  refine ⟨ps_asg h.pe (pg_sub ha.pe hb.pe set_list hg) hs hw h1, fun Hs0 H0 Hs H σ env tp D R P => ?_⟩
  refine h.snd _ _ _ _ _ _ _ _ R (PostS.bind R P fun v Hs1 H1 d tp1 _ g w R1 rv P1 => ?_)
  refine ha.snd _ _ _ _ _ _ _ _ R1 (PostS.bind R1 P1 fun o Hs2 H2 od tp2 _ g2 w2 R2 ro P2 => ?_)
  refine hb.snd _ _ _ _ _ _ _ _ R2 (PostS.bind R2 P2 fun i Hs3 H3 id tp3 _ g3 w3 R3 ri P3 => ?_)
  split at P3
  · split at P3
    · rename_i q
      obtain ⟨vs, h1, h2⟩ := w3.tH
      refine ⟨r, vs, _, j, repT_tape ro, repT_int ri, h1, by rw [h2.length]; exact q, ?_⟩
      exact P3 _ _ _ (Same.refl _) (R3.tape h1 h2 (rv.mono (g2.ex.trans g3.ex)))
    · exact P3.elim
  · exact P3.elim
def setAll {α : Type} : List (Option α) → List Nat → List α → List (Option α)
  | s, i :: is, v :: vs => setAll (s.set i (some v)) is vs
  | s, _, _ => s
/-- the target of a loop: the slots that are set -/
structure GG (K : PySem.W.Frag) (mg : Str → Option Value) (r : Addr) (X : Cx) (tg : Expr) (g : TG) (is : List Nat) (f : D → Option (List D)) : Prop where
  pe : PG X tg g
  snd : ∀ v d ds Hs H tp σ (Q : L2.St → Hp → Prop), Wd K mg r Hs H tp → RepD K mg r Hs v d → f d = some ds → (∀ vs, RepDs K mg r Hs vs ds → vs.length = is.length → Q (setAll σ is vs) H) → g v σ H Q
def t1 : D → Option (List D) := fun d => some [d]
def tN (n : Nat) : D → Option (List D)
  | .tup ds => if ds.length = n then some ds else none
  | _ => none
theorem gg_name (i : Nat) {x : Str} (hN : X.N.Nodup) (hi : X.N[i]? = some x := by rfl) (hx : Loc X.env.scope x := by first | exact Or.inl rfl | exact Or.inr rfl) (hf : X.fn x = true ∨ X.env.scope.names.lookup x = some .local := by first | exact .inl rfl | exact .inr rfl) :
    GG K mg r X (.Name x pos) (gName i) [i] t1 :=
  ⟨pg_name hN hi hx hf, fun v d ds Hs H tp σ Q w rv hf q => by
    cases hf
    exact q [v] (.cons rv .nil) rfl⟩
structure GGs (K : PySem.W.Frag) (mg : Str → Option Value) (r : Addr) (X : Cx) (tg : List Expr) (g : TGs) (is : List Nat) : Prop where
  pe : PGs X tg g
  snd : ∀ vs σ H (Q : L2.St → Hp → Prop), vs.length = is.length → Q (setAll σ is vs) H → g vs σ H Q
theorem ggs_nil : GGs K mg r X [] gNil [] := ⟨pgs_nil, fun vs σ H Q hl q => by
  cases vs with
  | nil => exact ⟨rfl, q⟩
  | cons _ _ => cases hl⟩
theorem ggs_cons (i : Nat) {is : List Nat} {x : Str} {g : TGs} (hN : X.N.Nodup) (h : GGs K mg r X es g is) (hi : X.N[i]? = some x := by rfl) (hx : Loc X.env.scope x := by first | exact Or.inl rfl | exact Or.inr rfl) (hf : X.fn x = true ∨ X.env.scope.names.lookup x = some .local := by first | exact .inl rfl | exact .inr rfl)
    (hs : (assignEach (.Name x pos :: es) X.env).map (·.2) = assign (.Name x pos) X.env :: (assignEach es X.env).map (·.2) := by rfl) : GGs K mg r X (.Name x pos :: es) (gCons (gName i) g) (i :: is) :=
  ⟨pgs_cons (pg_name hN hi hx hf) h.pe hs, fun vs σ H Q hl q => by
    cases vs with
    | nil => cases hl
    | cons v vs => exact ⟨v, vs, rfl, h.snd vs _ H Q (by simpa using hl) q⟩⟩
theorem gg_tup {is : List Nat} {g : TGs} {k : Nat} {n : Nat} (hc : X.calm = true) (h : GGs K mg r X es g is) (hn : is.length = n) (hK : X.K = K := by rfl) (hn1 : (assignEach es X.env).length = n := by rfl) (hst : (assignEach es X.env).findIdx? (·.1) = none := by rfl) : GG K mg r X (.Tuple es k pos) (gTup K n g) is (tN n) := by
  subst hK
  refine ⟨pg_tup hc h.pe hn1 hst, fun v d ds Hs H tp σ Q w rv hf q => ?_⟩
  cases d with
  | tup xs =>
    have hf : (if xs.length = n then some xs else none) = some ds := hf
    split at hf
    · rename_i hl
      cases hf
      cases rv with
      | tupR h1 h2 => exact ⟨_, _, rfl, .inl (Same.rd w.sub h1), by rw [h2.length]; exact hl, h.snd _ σ H Q (by rw [h2.length, hn]; exact hl) (q _ h2 (by rw [h2.length, hn]; exact hl))⟩
    · cases hf
  | _ => cases hf
theorem filt_id {O : List Nat} {i : Nat} (h : i ∉ O) : O.filter (· != i) = O := List.filter_eq_self.mpr fun a ha => by
  have : a ≠ i := fun e => h (e ▸ ha)
  simpa using this
theorem rel_setAll {Hs0 H0 Hs H : Hp} {tp : List D} : ∀ (is : List Nat) (σ : L2.St) (env : DEnv) (vs : List V) (ds : List D), Rel K mg r O Hs0 H0 Hs H σ env tp → (∀ i ∈ is, i ∉ O) → RepDs K mg r Hs vs ds → vs.length = is.length → Rel K mg r O Hs0 H0 Hs H (setAll σ is vs) (setAll env is ds) tp
  | [], σ, env, vs, ds, R, _, h, hl => by
    cases vs with
    | nil => cases h; exact R
    | cons _ _ => cases hl
  | i :: is, σ, env, vs, ds, R, hn, h, hl => by
    cases h with
    | nil => cases hl
    | cons h1 h2 =>
      have R1 := R.set i h1
      rw [filt_id (hn i List.mem_cons_self)] at R1
      exact rel_setAll is _ _ _ _ R1 (fun j hj => hn j (List.mem_cons_of_mem _ hj)) h2 (by simpa using hl)
def WalksD (K : PySem.W.Frag) (mg : Str → Option Value) (r : Addr) (J : It) (Hs1 : Hp) (items : List D) : Prop :=
  ∃ (Gd : Hp → Prop) (Y : Nat → Hp → V → Hp → Prop), Walk J items.length Gd Y ∧ (∀ Hs H, Same Hs1 Hs → Same Hs H → Gd H) ∧
    ∀ i Hs H tp x H', i < items.length → Same Hs1 Hs → Wd K mg r Hs H tp → Y i H x H' → ∃ Hs' d, Grow r Hs H Hs' H' ∧ Wd K mg r Hs' H' tp ∧ items[i]? = some d ∧ RepD K mg r Hs' x d
structure GI (K : PySem.W.Frag) (mg : Str → Option Value) (r : Addr) (X : Cx) (O : List Nat) (E : XK) (tg : Expr) (e : Expr) (wi : TI) (m : SE (List D)) : Prop where
  pe : PI X tg e wi
  snd : ∀ Hs0 H0 Hs H σ env tp Q, Rel K mg r O Hs0 H0 Hs H σ env tp → Post K mg r (fun Hs _ J items => WalksD K mg r J Hs items) E Hs H (m env tp) Q → wi σ H Q
theorem pi_or {tg : Expr} {w1 w2 : TI} (h1 : PI X tg e w1) (h2 : PI X tg e w2) : PI X tg e (fun σ H R => w1 σ H R ∨ w2 σ H R) :=
  ⟨fun pins s σ H R I h => h.elim (h1.run pins s σ H R I) (h2.run pins s σ H R I)⟩
/-- the items of a list, a tuple, a text -/
def seqD : D → Option (List D)
  | .lst xs => some xs
  | .tup xs => some xs
  | .scr ns => some (ns.map .int)
  | .str s => some (s.cps.toList.map fun c => .str ⟨#[c]⟩)
  | _ => none
def seqI (m : SE D) : SE (List D) := fun env tp => (m env tp).bind fun d tp1 => RE.of (seqD d) tp1
abbrev iSeq (K : PySem.W.Frag) (t : TE) : TI := fun σ H R => iList K t σ H R ∨ iTup K t σ H R ∨ iStr t σ H R
theorem walks_list {K : PySem.W.Frag} {mg : Str → Option Value} {r : Addr} {Hs : Hp} {a : Addr} {vs : List V} {ds : List D} (h : SqL K Hs a vs) (hr : RepDs K mg r Hs vs ds) : WalksD K mg r (Itl K a) Hs ds := by
  refine ⟨_, _, by rw [← hr.length]; exact walk_list (K := K) (a := a) (xs := vs), fun Hs2 H e1 e2 => Same.seq e2 (Same.seq e1 h), fun i Hs2 H tp x H' hi e w y => ?_⟩
  obtain ⟨rfl, y⟩ := y
  obtain ⟨d, h1, h2⟩ := hr.get y
  exact ⟨Hs2, d, Grow.refl _ _, w, h1, h2.mono e⟩
theorem sqt_mono {K : PySem.W.Frag} {H H' : Hp} {a : Addr} {xs : List V} (e : Same H H') (h : SqT K H a xs) : SqT K H' a xs := e.sqt h
theorem walks_tup {K : PySem.W.Frag} {mg : Str → Option Value} {r : Addr} {Hs : Hp} {a : Addr} {vs : List V} {ds : List D} (h : SqT K Hs a vs) (hr : RepDs K mg r Hs vs ds) : WalksD K mg r (Itt K a) Hs ds := by
  refine ⟨_, _, by rw [← hr.length]; exact walk_tup (K := K) (a := a) (xs := vs), fun Hs2 H e1 e2 => sqt_mono e2 (sqt_mono e1 h), fun i Hs2 H tp x H' hi e w y => ?_⟩
  obtain ⟨rfl, y⟩ := y
  obtain ⟨d, h1, h2⟩ := hr.get y
  exact ⟨Hs2, d, Grow.refl _ _, w, h1, h2.mono e⟩
theorem walks_str {K : PySem.W.Frag} {mg : Str → Option Value} {r : Addr} {Hs : Hp} {z : Str} : WalksD K mg r (Its z) Hs (z.cps.toList.map fun c => .str ⟨#[c]⟩) := by
  refine ⟨_, _, by rw [List.length_map, Array.length_toList]; exact walk_str (z := z), fun Hs2 H e1 e2 => trivial, fun i Hs2 H tp x H' hi e w y => ?_⟩
  obtain ⟨rfl, c, y, rfl⟩ := y
  refine ⟨Hs2, .str ⟨#[c]⟩, Grow.refl _ _, w, ?_, .str _⟩
  rw [List.getElem?_map, Array.getElem?_toList, y]
  rfl
theorem gi_seq {tg : Expr} {m : SE D} (h : GE K mg r X O E e t m) (hK : X.K = K := by rfl) : GI K mg r X O E tg e (iSeq K t) (seqI m) := by
  subst hK
  refine ⟨pi_or (pi_list h.pe) (pi_or (pi_tup h.pe) (pi_str h.pe)), fun Hs0 H0 Hs H σ env tp Q R P => ?_⟩
  unfold seqI at P
  cases q : m env tp with
  | stuck => rw [q] at P; exact P.elim
  | exn c fs tp1 =>
    rw [q] at P
    refine .inl (h.snd _ _ _ _ _ _ _ _ R ?_)
    rw [q]; exact P
  | ok d tp1 =>
    rw [q] at P
    obtain ⟨items, hz, k⟩ := Post.ok_of (show Post X.K mg r (fun Hs _ J items => WalksD X.K mg r J Hs items) E Hs H (RE.of (seqD d) tp1) Q from P)
    cases d with
    | lst xs =>
      cases hz
      refine .inl (h.snd _ _ _ _ _ _ _ _ R ?_)
      rw [q]
      intro v Hs1 H1 g w rv
      cases rv with
      | lst h1 h2 => exact ⟨_, rfl, ⟨_, .of (w.sub _ _ h1).lst⟩, k _ Hs1 H1 g w (walks_list (.of h1) h2)⟩
    | scr ns =>
      cases hz
      refine .inl (h.snd _ _ _ _ _ _ _ _ R ?_)
      rw [q]
      intro v Hs1 H1 g w rv
      cases rv with
      | scr h1 => exact ⟨_, rfl, ⟨_, Same.seq w.sub h1⟩, k _ Hs1 H1 g w (walks_list h1 (RepDs.ints ns))⟩
    | tup xs =>
      cases hz
      refine .inr (.inl (h.snd _ _ _ _ _ _ _ _ R ?_))
      rw [q]
      intro v Hs1 H1 g w rv
      cases rv with
      | tupR h1 h2 => exact ⟨_, rfl, ⟨_, .inl (Same.rd w.sub h1)⟩, k _ Hs1 H1 g w (walks_tup (.inl h1) h2)⟩
    | str s =>
      cases hz
      refine .inr (.inr (h.snd _ _ _ _ _ _ _ _ R ?_))
      rw [q]
      intro v Hs1 H1 g w rv
      cases rv
      exact ⟨_, rfl, k _ Hs1 H1 g w walks_str⟩
    | _ => cases hz
/-- range -/
def cRg (i : Int) : Bool := decide (-(2 ^ 62) ≤ i) && decide (i < 2 ^ 62)
theorem cRg_ok {i : Int} (h : cRg i = true) : -(2 ^ 62) ≤ i ∧ i < 2 ^ 62 := by
  have h := Bool.and_eq_true_iff.mp h
  exact ⟨of_decide_eq_true h.1, of_decide_eq_true h.2⟩
def rangeL (lo hi : Int) : List D := (List.range (hi - lo).toNat).map fun (i : Nat) => .int (lo + i)
def range1D : List D → Option (List D)
  | [.int j] => if cRg j then some (rangeL 0 j) else none
  | _ => none
def range2D : List D → Option (List D)
  | [.int i, .int j] => if cRg i && cRg j then some (rangeL i j) else none
  | _ => none
def rangeI (f : List D → Option (List D)) (ms : SE (List D)) : SE (List D) := fun env tp => (ms env tp).bind fun ds tp1 => RE.of (f ds) tp1
theorem walks_range {K : PySem.W.Frag} {mg : Str → Option Value} {r : Addr} {Hs : Hp} {lo hi : Int} : WalksD K mg r (Itr lo (hi - lo).toNat) Hs (rangeL lo hi) := by
  have hl : (rangeL lo hi).length = (hi - lo).toNat := by unfold rangeL; rw [List.length_map, List.length_range]
  refine ⟨_, _, by rw [hl]; exact walk_range, fun Hs2 H e1 e2 => trivial, fun i Hs2 H tp x H' hi e w y => ?_⟩
  obtain ⟨rfl, rfl⟩ := y
  refine ⟨Hs2, .int (lo + i), Grow.refl _ _, w, ?_, .int _⟩
  rw [hl] at hi
  unfold rangeL
  rw [List.getElem?_map, List.getElem?_range hi]
  rfl
theorem gi_range1 {tg : Expr} {m : SE (List D)} {p : Pos} (hm : X.mg "range" = none) (h : GAO K mg r X O E [e] ts m) (hg : Gl X "range" := by rfl) (hs : starEach [e] X.env = [(false, eval e X.env)] := by rfl) : GI K mg r X O E tg (.Call (.Name "range" p) [e] [] pos) (iRng1 ts) (rangeI range1D m) := by
  refine ⟨pi_range1 hg hm h.pe hs, fun Hs0 H0 Hs H σ env tp Q R P => ?_⟩
  refine h.snd _ _ _ _ _ _ _ _ R (Post.bind P fun vs Hs1 H1 ds tp1 _ g w rv P1 => ?_)
  obtain ⟨items, hz, k⟩ := Post.ok_of P1
  unfold range1D at hz
  split at hz
  · split at hz
    · rename_i c
      cases hz
      obtain ⟨x, rfl, h1⟩ := paired1 rv
      have c := cRg_ok c
      refine ⟨_, by rw [repT_int h1], c.1, c.2, ?_⟩
      refine k _ Hs1 H1 (Grow.refl _ _) w ?_
      have q := fun j => walks_range (K := K) (mg := mg) (r := r) (Hs := Hs1) (lo := 0) (hi := j)
      simp only [Int.sub_zero] at q
      exact q _
    · cases hz
  · cases hz
theorem gi_range2 {tg e2 : Expr} {m : SE (List D)} {p : Pos} (hm : X.mg "range" = none) (h : GAO K mg r X O E [e, e2] ts m) (hg : Gl X "range" := by rfl) (hs : starEach [e, e2] X.env = [(false, eval e X.env), (false, eval e2 X.env)] := by rfl) (hs2 : starEach [e2] X.env = [(false, eval e2 X.env)] := by rfl) :
    GI K mg r X O E tg (.Call (.Name "range" p) [e, e2] [] pos) (iRng2 ts) (rangeI range2D m) := by
  refine ⟨pi_range2 hg hm h.pe hs hs2, fun Hs0 H0 Hs H σ env tp Q R P => ?_⟩
  refine h.snd _ _ _ _ _ _ _ _ R (Post.bind P fun vs Hs1 H1 ds tp1 _ g w rv P1 => ?_)
  obtain ⟨items, hz, k⟩ := Post.ok_of P1
  unfold range2D at hz
  split at hz
  · split at hz
    · rename_i c
      cases hz
      obtain ⟨x, x', rfl, h1, h2⟩ := paired2 rv
      have c := Bool.and_eq_true_iff.mp c
      have c1 := cRg_ok c.1
      have c2 := cRg_ok c.2
      exact ⟨_, _, by rw [repT_int h1, repT_int h2], ⟨c1.1, c1.2, c2.1, c2.2⟩, k _ Hs1 H1 (Grow.refl _ _) w walks_range⟩
    · cases hz
  · cases hz
def forL (tgt : D → Option (List D)) (is : List Nat) (body : SS) : List D → SS
  | [], env, tp => .nx env tp
  | d :: ds, env, tp => match tgt d with
    | some es => (match body (setAll env is es) tp with
      | .nx e t => forL tgt is body ds e t
      | .ct e t => forL tgt is body ds e t
      | .bk e t => .nx e t
      | x => x)
    | none => .stuck
def forS (mi : SE (List D)) (tgt : D → Option (List D)) (is : List Nat) (body : SS) : SS := fun env tp => (mi env tp).bindS fun items tp1 => forL tgt is body items env tp1
theorem gs_for {tg : Expr} {mi : SE (List D)} {wi : TI} {g : TG} {is : List Nat} {tgt : D → Option (List D)} {body : SS} (hp : PassesOwn (model X.prog X.w) X.A X.env X.xe) (hc : X.calm = true) (hi : GI K mg r X O E tg e wi mi) (hg : GG K mg r X tg g is tgt) (hb : GSs K mg r X E O O O ss u body) (hO : ∀ i ∈ is, i ∉ O)
    (hlen : ∀ d ds, tgt d = some ds → ds.length = is.length) (hs : ∀ x, foldedSetIterable e X.env x = pure x := by intro _; rfl) : GS K mg r X E O O Ol (.For tg e ss [] pos) (tFor wi g u) (forS mi tgt is body) := by
  refine ⟨ps_for hp hc hi.pe hg.pe hb.pe hs, fun Hs0 H0 Hs H σ env tp D R P => ?_⟩
  refine hi.snd _ _ _ _ _ _ _ _ R (PostS.bind R P fun J Hs1 H1 items tp1 _ gg w R1 wd P1 => ?_)
  obtain ⟨Gd, Y, wk, hG, hY⟩ := wd
  refine for_it wk (fun i σ H => ∃ Hs env tp, Rel K mg r O Hs0 H0 Hs H σ env tp ∧ Same Hs1 Hs ∧ PostS K mg r E O Ol Hs0 H0 Hs (forL tgt is body (items.drop i) env tp) D) ⟨Hs1, env, tp1, R1, Same.refl _, P1⟩ (fun i σ H _ ⟨Hs2, _, _, R2, e2, _⟩ => hG Hs2 H e2 R2.wd.sub) (fun i x σ H H' hi ⟨Hs2, env2, tp2, R2, e2, P2⟩ y => ?_) (fun σ H ⟨Hs2, env2, tp2, R2, e2, P2⟩ => ?_)
  · obtain ⟨Hs3, d, g3, w3, hd, rd⟩ := hY i Hs2 H tp2 x H' hi e2 R2.wd y
    rw [List.drop_eq_getElem_cons hi] at P2
    have hd' : items[i] = d := by rw [List.getElem?_eq_getElem hi] at hd; exact Option.some.inj hd
    rw [hd'] at P2
    unfold forL at P2
    cases q : tgt d with
    | none => rw [q] at P2; exact P2.elim
    | some es =>
      rw [q] at P2
      simp only at P2
      refine hg.snd x d es Hs3 H' tp2 σ _ w3 rd q fun vs rs hl => ?_
      have R3 := rel_setAll is _ _ _ _ (R2.grow g3 w3) hO rs hl
      refine hb.snd _ _ _ _ _ _ _ _ R3 ?_
      have P2 := P2.shift g3.ex
      have e3 := e2.trans g3.ex
      have again : ∀ {e t}, PostS K mg r E O Ol Hs0 H0 Hs3 (forL tgt is body (items.drop (i + 1)) e t) D → ∀ σ' Hs' H', Same Hs3 Hs' → Rel K mg r O Hs0 H0 Hs' H' σ' e t → ∃ Hs env tp, Rel K mg r O Hs0 H0 Hs H' σ' env tp ∧ Same Hs1 Hs ∧ PostS K mg r E O Ol Hs0 H0 Hs (forL tgt is body (items.drop (i + 1)) env tp) D := fun P σ' Hs' H' e4 R' => ⟨Hs', _, _, R', e3.trans e4, P.shift e4⟩
      cases q2 : body (setAll env2 is es) tp2 with
      | nx e t => rw [q2] at P2; exact again P2
      | ct e t => rw [q2] at P2; exact again P2
      | bk e t => rw [q2] at P2; exact P2
      | rt d t => rw [q2] at P2; exact P2
      | exn c fs t => rw [q2] at P2; exact P2
      | stuck => rw [q2] at P2; exact P2
  · rw [List.drop_length] at P2
    exact P2 _ _ _ (Same.refl _) R2
end
end G
set_option maxHeartbeats 1000000
namespace G
open PySem PySem.Spec PyProof.Rows L2
section
variable {K : PySem.W.Frag} {mg : Str → Option Value} {r : Addr} {X : Cx} {E : XK} {O O1 On Ol : List Nat} {e a b : Expr} {es : List Expr} {pos : Pos} {t ta tb : TE} {tt : TT} {ts : TA} {s1 : Stmt} {ss : List Stmt} {u u1 u2 : TS}
def whileF (c : SE Bool) (body : SS) : Nat → SS
  | 0, _, _ => .stuck
  | n + 1, env, tp => (c env tp).bindS fun b tp1 => if b = true then (match body env tp1 with
      | .nx e t => whileF c body n e t
      | .ct e t => whileF c body n e t
      | .bk e t => .nx e t
      | x => x)
    else .nx env tp1
def whileS (n : Nat) (c : SE Bool) (body : SS) : SS := whileF c body n
theorem gs_while (n : Nat) {mc : SE Bool} {body : SS} (hp : PassesOwn (model X.prog X.w) X.A X.env X.xe) (hc : GT K mg r X O E e tt mc) (hb : GSs K mg r X E O O O ss u body) : GS K mg r X E O O Ol (.While e ss [] pos) (tWhile tt u) (whileS n mc body) := by
  refine ⟨ps_while hp hc.pe hb.pe, fun Hs0 H0 Hs H σ env tp D R P => ?_⟩
  refine ⟨fun m σ H => ∃ Hs env tp, Rel K mg r O Hs0 H0 Hs H σ env tp ∧ PostS K mg r E O Ol Hs0 H0 Hs (whileF mc body m env tp) D, ⟨n, Hs, env, tp, R, P⟩, ?_⟩
  rintro m σ1 H1 ⟨Hs1, env1, tp1, R1, P1⟩
  cases m with
  | zero => exact P1.elim
  | succ m =>
    unfold whileF at P1
    refine hc.snd _ _ _ _ _ _ _ _ R1 (PostS.bind R1 P1 fun v Hs2 H2 d tp2 _ g w R2 rv P2 => ?_)
    subst rv
    cases v with
    | false => exact iteF (P2 _ _ _ (Same.refl _) R2)
    | true =>
      refine iteT ⟨fun σ H => ∃ Hs env tp, Rel K mg r O Hs0 H0 Hs H σ env tp ∧ PostS K mg r E O Ol Hs0 H0 Hs (whileF mc body m env tp) D, fun σ' H' q => ⟨m, Nat.lt_succ_self m, q⟩, ?_⟩
      rw [if_pos rfl] at P2
      refine hb.snd _ _ _ _ _ _ _ _ R2 ?_
      have again : ∀ {e t}, PostS K mg r E O Ol Hs0 H0 Hs2 (whileF mc body m e t) D → ∀ σ' Hs' H', Same Hs2 Hs' → Rel K mg r O Hs0 H0 Hs' H' σ' e t → ∃ Hs env tp, Rel K mg r O Hs0 H0 Hs H' σ' env tp ∧ PostS K mg r E O Ol Hs0 H0 Hs (whileF mc body m env tp) D := fun P σ' Hs' H' e4 R' => ⟨Hs', _, _, R', P.shift e4⟩
      cases q2 : body env1 tp2 with
      | nx e t => rw [q2] at P2; exact again P2
      | ct e t => rw [q2] at P2; exact again P2
      | bk e t => rw [q2] at P2; exact P2
      | rt d t => rw [q2] at P2; exact P2
      | exn c fs t => rw [q2] at P2; exact P2
      | stuck => rw [q2] at P2; exact P2
def wipeE {α : Type} (σ : List (Option α)) : List Nat → List (Option α)
  | [] => σ
  | v :: vs => (wipeE σ vs).set v none
theorem wipe_eq (σ : L2.St) : ∀ vs : List Nat, wipe σ vs = wipeE σ vs
  | [] => rfl
  | v :: vs => by unfold wipe wipeE; rw [wipe_eq σ vs]
theorem Rel.unset {Hs0 H0 Hs H : Hp} {σ : L2.St} {env : DEnv} {tp : List D} (R : Rel K mg r O Hs0 H0 Hs H σ env tp) (i : Nat) (hi : i ∉ O) : Rel K mg r O Hs0 H0 Hs H (σ.set i none) (env.set i none) tp where
  wd := R.wd
  gr := R.gr
  len := by rw [List.length_set, List.length_set]; exact R.len
  vars := fun j d a n => by
    have ne : j ≠ i := fun q => by
      subst q
      rw [List.getElem?_set] at a
      simp only [if_true] at a
      split at a <;> cases a
    rw [set_gne ne] at a ⊢
    exact R.vars j d a n
  own := fun j hj => by
    have ne : j ≠ i := fun q => hi (q ▸ hj)
    rw [set_gne ne, set_gne ne]
    exact R.own j hj
  dis := fun j l p hj hl a b => by
    rw [set_gne (by rintro rfl; exact hi hj)] at a
    rw [set_gne (by rintro rfl; exact hi hl)] at b
    exact R.dis j l p hj hl a b
theorem Rel.wiped {Hs0 H0 Hs H : Hp} {σ : L2.St} {env : DEnv} {tp : List D} (R : Rel K mg r O Hs0 H0 Hs H σ env tp) : ∀ vs : List Nat, (∀ i ∈ vs, i ∉ O) → Rel K mg r O Hs0 H0 Hs H (wipeE σ vs) (wipeE env vs) tp
  | [], _ => R
  | v :: vs, h => (Rel.wiped R vs fun i hi => h i (List.mem_cons_of_mem _ hi)).unset v (h v List.mem_cons_self)
theorem wipe_get {α : Type} {σ : List (Option α)} {i : Nat} : ∀ {vs : List Nat}, i ∉ vs → (wipeE σ vs)[i]? = σ[i]?
  | [], _ => rfl
  | v :: vs, h => by
    unfold wipeE
    rw [set_gne (by rintro rfl; exact h List.mem_cons_self), wipe_get fun q => h (List.mem_cons_of_mem _ q)]
theorem wipe_len {α : Type} {σ : List (Option α)} : ∀ {vs : List Nat}, (wipeE σ vs).length = σ.length
  | [] => rfl
  | v :: vs => by unfold wipeE; rw [List.length_set, wipe_len]
theorem wipe_none {α : Type} {σ : List (Option α)} {i : Nat} : ∀ {vs : List Nat}, i ∈ vs → (wipeE σ vs)[i]? = some none ∨ (wipeE σ vs)[i]? = none
  | v :: vs, h => by
    unfold wipeE
    by_cases q : i = v
    · subst q
      rw [List.getElem?_set]
      simp only [if_true]
      split
      · exact .inl rfl
      · exact .inr rfl
    · rw [set_gne q]
      rcases List.mem_cons.mp h with z | z
      · exact absurd z q
      · exact wipe_none z
theorem wipe_set {α : Type} {σ : List (Option α)} {i : Nat} {v : Option α} {vs : List Nat} (h : i ∈ vs) : wipeE (σ.set i v) vs = wipeE σ vs := by
  apply List.ext_getElem?
  intro j
  by_cases hj : j ∈ vs
  · have l1 : (wipeE (σ.set i v) vs).length = (wipeE σ vs).length := by rw [wipe_len, wipe_len, List.length_set]
    rcases Nat.lt_or_ge j (wipeE σ vs).length with q | q
    · rcases wipe_none (σ := σ.set i v) hj with a | a
      · rcases wipe_none (σ := σ) hj with b | b
        · rw [a, b]
        · rw [List.getElem?_eq_none_iff] at b; omega
      · rw [List.getElem?_eq_none_iff] at a; omega
    · rw [List.getElem?_eq_none q, List.getElem?_eq_none (by omega)]
  · rw [wipe_get hj, wipe_get hj, set_gne (by rintro rfl; exact hj h)]
theorem wipe_wipe {α : Type} {σ : List (Option α)} {vs : List Nat} : ∀ ws : List Nat, (∀ i ∈ ws, i ∈ vs) → wipeE (wipeE σ ws) vs = wipeE σ vs
  | [], _ => rfl
  | w :: ws, h => by
    show wipeE ((wipeE σ ws).set w none) vs = _
    rw [wipe_set (h w List.mem_cons_self), wipe_wipe ws fun i hi => h i (List.mem_cons_of_mem _ hi)]
theorem wipe_setAll {α : Type} {vs : List Nat} : ∀ (is : List Nat) (σ : List (Option α)) (ws : List α), (∀ i ∈ is, i ∈ vs) → wipeE (setAll σ is ws) vs = wipeE σ vs
  | [], σ, ws, _ => by unfold setAll; rfl
  | i :: is, σ, [], _ => by unfold setAll; rfl
  | i :: is, σ, w :: ws, h => by
    show wipeE (setAll (σ.set i (some w)) is ws) vs = _
    rw [wipe_setAll is _ ws fun j hj => h j (List.mem_cons_of_mem _ hj), wipe_set (h i List.mem_cons_self)]
/-- the items that a comprehension makes -/
def compL (f : D → List D → RE (Option D)) : List D → List D → RE (List D)
  | [], tp => .ok [] tp
  | d :: ds, tp => match f d tp with
    | .ok o tp1 => (match compL f ds tp1 with
      | .ok xs tp2 => .ok (o.toList ++ xs) tp2
      | _ => .stuck)
    | _ => .stuck
def yesT : SE Bool := fun _ tp => .ok true tp
def compTurn1 (tgt : D → Option (List D)) (is : List Nat) (c : SE Bool) (m : SE D) (env : DEnv) (d : D) (tp : List D) : RE (Option D) := match tgt d with
  | some ds => (c (setAll env is ds) tp).bind fun b tp1 => if b = true then (m (setAll env is ds) tp1).bind fun x tp2 => .ok (some x) tp2 else .ok none tp1
  | none => .stuck
def compE (mi : SE (List D)) (vs : List Nat) (tgt : D → Option (List D)) (is : List Nat) (c : SE Bool) (m : SE D) : SE D := fun env tp => (mi env tp).bind fun items tp1 =>
  if items.length ≤ sizeLine then (match compL (compTurn1 tgt is c m (wipeE env vs)) items tp1 with
    | .ok xs tp2 => .ok (.lst xs) tp2
    | _ => .stuck) else .stuck
/-- a clause's tests -/
structure GTs (K : PySem.W.Frag) (mg : Str → Option Value) (r : Addr) (X : Cx) (O : List Nat) (E : XK) (es : List Expr) (t : TT) (m : SE Bool) : Prop where
  pe : PTs X es t
  snd : ∀ Hs0 H0 Hs H σ env tp Q, Rel K mg r O Hs0 H0 Hs H σ env tp → PostB K mg r E Hs H (m env tp) Q → t σ H Q
theorem gts_nil : GTs K mg r X O E [] tYes yesT := ⟨pts_nil, fun Hs0 H0 Hs H σ env tp Q R P => P true Hs H (Grow.refl _ _) R.wd rfl⟩
theorem gts_one {m : SE Bool} (h : GT K mg r X O E e tt m) : GTs K mg r X O E [e] tt m := ⟨pts_one h.pe, h.snd⟩
theorem compL_cons {f : D → List D → RE (Option D)} {d : D} {ds : List D} {tp tpE : List D} {xs : List D} (h : compL f (d :: ds) tp = .ok xs tpE) : ∃ o tp1 xs', f d tp = .ok o tp1 ∧ compL f ds tp1 = .ok xs' tpE ∧ xs = o.toList ++ xs' := by
  unfold compL at h
  cases q : f d tp with
  | ok o tp1 =>
    rw [q] at h
    simp only at h
    cases q2 : compL f ds tp1 with
    | ok xs' tp2 =>
      rw [q2] at h
      simp only [RE.ok.injEq] at h
      exact ⟨o, tp1, xs', rfl, by rw [q2, h.2], h.1.symm⟩
    | _ => rw [q2] at h; cases h
  | _ => rw [q] at h; cases h
theorem Rel.other {Hs0 H0 Hs H : Hp} {σ : L2.St} {env : DEnv} {tp : List D} {p : Addr} {o : HO} (R : Rel K mg r O Hs0 H0 Hs H σ env tp) (hs : Hs p = none) (h0 : H0 p = none) (ne : p ≠ r) (hO : ∀ j ∈ O, σ[j]? ≠ some (some (.ref p))) (nt : ∀ xs : StU, H p ≠ some xs.1 := by (intro xs z; first | (rw [upd_same] at z; exact st_no rfl xs (Option.some.inj z)) | (rename_i zh _; rw [zh] at z; exact st_no rfl xs (Option.some.inj z)) | (exfalso; simp [*] at z; done))) : Rel K mg r O Hs0 H0 Hs (upd H p o) σ env tp := by
  refine ⟨R.wd.write hs ne nt, ⟨fun b u q n hs => ?_, fun b e => R.gr.free b (upd_free e), R.gr.ex, R.gr.new, fun b xs e => by rw [upd_ne (ne_of_none e h0)]; exact R.gr.tup b xs e⟩, R.len, R.vars, fun j hj => ?_, R.dis⟩
  · rw [upd_ne (ne_of_none q h0)]; exact R.gr.keep b u q n hs
  · obtain ⟨d', p', b1, b2, c, c0, n, oa⟩ := R.own j hj
    have np : p' ≠ p := fun z => hO j hj (z ▸ b2)
    exact ⟨d', p', b1, b2, c, c0, n, oa.grow (Same.refl _) fun u z => by rw [upd_ne np]; exact z⟩
theorem Grow.other {Hs H Hs' H' : Hp} {p : Addr} {o : HO} (g : Grow r Hs H Hs' H') (h : H p = none) : Grow r Hs H Hs' (upd H' p o) :=
  ⟨fun b u q n hs => by rw [upd_ne (ne_of_none q h)]; exact g.keep b u q n hs, fun b e => g.free b (upd_free e), g.ex, g.new, fun b xs e => by rw [upd_ne (ne_of_none e h)]; exact g.tup b xs e⟩
theorem comp_sound {wi : TI} {g : TG} {te : TE} {is vs : List Nat} {tgt : D → Option (List D)} {mi : SE (List D)} {c : SE Bool} {m : SE D}
    (hi : ∀ Hs0 H0 Hs H σ env tp Q, Rel K mg r O Hs0 H0 Hs H σ env tp → Post K mg r (fun Hs _ J items => WalksD K mg r J Hs items) E Hs H (mi env tp) Q → wi σ H Q)
    (hg : ∀ v d ds Hs H tp σ (Q : L2.St → Hp → Prop), Wd K mg r Hs H tp → RepD K mg r Hs v d → tgt d = some ds → (∀ vs, RepDs K mg r Hs vs ds → vs.length = is.length → Q (setAll σ is vs) H) → g v σ H Q)
    (ht : ∀ Hs0 H0 Hs H σ env tp Q, Rel K mg r O Hs0 H0 Hs H σ env tp → PostB K mg r E0 Hs H (c env tp) Q → tt σ H Q)
    (he : ∀ Hs0 H0 Hs H σ env tp Q, Rel K mg r O Hs0 H0 Hs H σ env tp → PostE K mg r E0 Hs H (m env tp) Q → te σ H Q)
    (hvs : ∀ i ∈ vs, i ∉ O) (his : ∀ i ∈ is, i ∈ vs) :
    ∀ Hs0 H0 Hs H σ env tp Q, Rel K mg r O Hs0 H0 Hs H σ env tp → Post K mg r (Fresh K mg r H) E Hs H (compE mi vs tgt is c m env tp) Q → tLc wi g tt te vs σ H Q := by
  intro Hs0 H0 Hs H σ env tp Q R P
  refine hi _ _ _ _ _ _ _ _ R ?_
  unfold compE at P
  cases q : mi env tp with
  | stuck => rw [q] at P; exact P.elim
  | exn cc fs tp1 => rw [q] at P; exact P
  | ok items tp1 =>
    rw [q] at P
    intro J Hs1 H1 g1 w1 wd Dl hD
    simp only [RE.bind_ok] at P
    by_cases hz : items.length ≤ sizeLine
    case neg => rw [if_neg hz] at P; exact P.elim
    rw [if_pos hz] at P
    cases q2 : compL (compTurn1 tgt is c m (wipeE env vs)) items tp1 with
    | stuck => rw [q2] at P; exact P.elim
    | exn cc fs tp2 => rw [q2] at P; exact P.elim
    | ok all tpE =>
      rw [q2] at P
      have P : ∀ v Hs' H', Grow r Hs H Hs' H' → Wd K mg r Hs' H' tpE → Fresh K mg r H Hs' H' v (.lst all) → Q v H' := P
      obtain ⟨Gd, Y, wk, hG, hY⟩ := wd
      have R1 := R.grow g1 w1
      obtain ⟨fD, neD⟩ := w1.fresh hD
      have h0D : H Dl = none := g1.free Dl hD
      have Rw := R1.wiped vs hvs
      obtain ⟨gl, wl⟩ := w1.lay (o := .lst []) hD
      obtain ⟨n1, n2⟩ := R.new_ne h0D neD
      have n3 : ∀ j ∈ O, (wipeE σ vs)[j]? ≠ some (some (.ref Dl)) := fun j hj z => n2 j hj (by rw [← z, wipe_get fun q => hvs j q hj])
      have hisO : ∀ i ∈ is, i ∉ O := fun i hi => hvs i (his i hi)
      refine lc_it wk (Qd := fun H' => Q (.ref Dl) H') (fun i H' => ∃ Hs2 vsL dsL tp xs, Rel K mg r O Hs0 H0 Hs2 H' (wipeE σ vs) (wipeE env vs) tp ∧ Same Hs1 Hs2 ∧ Grow r Hs H Hs2 H' ∧ Hs2 Dl = none ∧ H' Dl = some (.lst vsL) ∧ RepDs K mg r Hs2 vsL dsL ∧ dsL.length ≤ i ∧
        compL (compTurn1 tgt is c m (wipeE env vs)) (items.drop i) tp = .ok xs tpE ∧ dsL ++ xs = all) ⟨Hs1, [], [], tp1, all, Rw.grow gl wl, Same.refl _, g1.trans gl, fD, upd_same, .nil, Nat.le_refl _, q2, rfl⟩ ?_ ?_ ?_
      · rintro i H' _ ⟨Hs2, vsL, dsL, tp2, xs, R2, e2, _⟩
        exact hG Hs2 H' e2 R2.wd.sub
      · rintro i x H2 H3 hi2 ⟨Hs2, vsL, dsL, tp2, xs, R2, e2, g2, f2, hD2, rs2, hl2, hc2, ha2⟩ y
        obtain ⟨Hs3, d, g3, w3, hd, rd⟩ := hY i Hs2 H2 tp2 x H3 hi2 e2 R2.wd y
        rw [List.drop_eq_getElem_cons hi2] at hc2
        have hd' : items[i] = d := by rw [List.getElem?_eq_getElem hi2] at hd; exact Option.some.inj hd
        rw [hd'] at hc2
        obtain ⟨o, tp3, xs', hf, hrest, hxs⟩ := compL_cons hc2
        unfold compTurn1 at hf
        cases qt : tgt d with
        | none => rw [qt] at hf; cases hf
        | some es =>
          rw [qt] at hf
          simp only at hf
          rw [wipe_eq]
          refine hg x d es Hs3 H3 tp2 _ _ w3 rd qt fun ws rs hl => ⟨by rw [wipe_eq, wipe_setAll is _ _ his, wipe_wipe vs fun _ h => h], ?_⟩
          have R3 := rel_setAll is _ _ _ _ (R2.grow g3 w3) hisO rs hl
          have f3 := g3.no f2 hD2 neD
          have hD3 := g3.keep Dl _ hD2 neD f2
          refine ht _ _ _ _ _ _ _ _ R3 ?_
          cases qb : c (setAll (wipeE env vs) is es) tp2 with
          | stuck => rw [qb] at hf; cases hf
          | exn cc fs tp4 => rw [qb] at hf; cases hf
          | ok b tpb =>
            rw [qb] at hf
            simp only [RE.bind_ok] at hf
            intro v Hs4 H4 g4 w4 ev
            subst ev
            have f4 := g4.no f3 hD3 neD
            have hD4 := g4.keep Dl _ hD3 neD f3
            cases v with
            | false =>
              rw [if_neg Bool.false_ne_true] at hf
              simp only [RE.ok.injEq] at hf
              obtain ⟨ho, htp⟩ := hf
              subst ho htp
              refine iteF ⟨Hs4, vsL, dsL, tpb, xs', R2.grow (g3.trans g4) w4, e2.trans (g3.ex.trans g4.ex), g2.trans (g3.trans g4), f4, hD4, rs2.mono (g3.ex.trans g4.ex), by omega, hrest, ?_⟩
              rw [← ha2, hxs]; rfl
            | true =>
              rw [if_pos rfl] at hf
              refine iteT (he _ _ _ _ _ _ _ _ (R3.grow g4 w4) ?_)
              cases qm : m (setAll (wipeE env vs) is es) tpb with
              | stuck => rw [qm] at hf; cases hf
              | exn cc fs tp4 => rw [qm] at hf; cases hf
              | ok z tpz =>
                rw [qm] at hf
                simp only [RE.bind_ok, RE.ok.injEq] at hf
                obtain ⟨ho, htp⟩ := hf
                subst ho htp
                intro y5 Hs5 H5 g5 w5 ry
                have f5 := g5.no f4 hD4 neD
                have hD5 := g5.keep Dl _ hD4 neD f4
                have e5 := g3.ex.trans (g4.ex.trans g5.ex)
                refine ⟨vsL, hD5, by rw [rs2.length]; omega, Hs5, vsL ++ [y5], dsL ++ [z], tpz, xs', ?_, e2.trans e5, ?_, f5, upd_same, (rs2.mono e5).append (.cons ry .nil), by rw [List.length_append, List.length_singleton]; omega, hrest, ?_⟩
                · exact (R2.grow (g3.trans (g4.trans g5)) w5).other f5 n1 neD n3 (fun xs z => by rw [hD5] at z; first | exact st_no rfl xs (Option.some.inj z) | cases z)
                · exact (g2.trans (g3.trans (g4.trans g5))).other h0D
                · rw [← ha2, hxs, List.append_assoc]; rfl
      · rintro H2 ⟨Hs2, vsL, dsL, tp2, xs, R2, e2, g2, f2, hD2, rs2, hl2, hc2, ha2⟩
        rw [List.drop_length] at hc2
        unfold compL at hc2
        simp only [RE.ok.injEq] at hc2
        obtain ⟨hx, htp⟩ := hc2
        subst hx htp
        rw [List.append_nil] at ha2
        subst ha2
        exact P _ Hs2 H2 g2 R2.wd ⟨Dl, rfl, h0D, f2, neD, vsL, hD2, rs2⟩
/-- a list comprehension (one clause) -/
theorem gf_lc {elt tg iter : Expr} {ifs : List Expr} {scope : Scope} {own : List (Str × Nat)} {wi : TI} {g : TG} {te : TE} {is : List Nat} {tgt : D → Option (List D)} {mi : SE (List D)} {c : SE Bool} {m : SE D} (hc : X.calm = true) (hN : X.N.Nodup) (hi : GI K mg r X O E tg iter wi mi) (ok : BlkOk X.N X.env.scope scope own)
    (hg : ∀ (s : Shared) (H : Hp) (C : Addr) (cl : List (Str × Addr)) (fp : List Addr), GG K mg r (X.blk s H scope (compEnvC scope cl C X.env) fp) tg g is tgt)
    (ht : ∀ (s : Shared) (H : Hp) (C : Addr) (cl : List (Str × Addr)) (fp : List Addr), GTs K mg r (X.blk s H scope (compEnvC scope cl C X.env) fp) O E0 ifs tt c)
    (he : ∀ (s : Shared) (H : Hp) (C : Addr) (cl : List (Str × Addr)) (fp : List Addr), GE K mg r (X.blk s H scope (compEnvC scope cl C X.env) fp) O E0 elt te m)
    (hvs : ∀ i ∈ own.map (·.2), i ∉ O) (his : ∀ i ∈ is, i ∈ own.map (·.2)) (hs : ∀ x, foldedSetIterable iter X.env x = pure x := by intro _; rfl) :
    GF K mg r X O E (.ListComp elt [⟨tg, iter, ifs, 0⟩] scope pos) (tLc wi g tt te (own.map (·.2))) (compE mi (own.map (·.2)) tgt is c m) :=
  ⟨pe_lc hc hN hi.pe ok (fun s H C cl fp => (hg s H C cl fp).pe) (fun s H C cl fp => (ht s H C cl fp).pe) (fun s H C cl fp => (he s H C cl fp).pe) hs,
    comp_sound hi.snd (hg X.s_0 X.H_0 0 [] []).snd (ht X.s_0 X.H_0 0 [] []).snd (he X.s_0 X.H_0 0 [] []).snd hvs his⟩
/-- name = [..] on one line, the name a local -/
theorem lc_stmt {i : Nat} {y : Str} {py : Pos} {elt tg iter : Expr} {ifs : List Expr} {scope : Scope} {own : List (Str × Nat)} {pos spos : Pos} {wi : TI} {g : TG} {te : TE} {is : List Nat} {tgt : D → Option (List D)} {mi : SE (List D)} {c : SE Bool} {m : SE D} (hc : X.calm = true) (hN : X.N.Nodup) (hi : GI K mg r X O E tg iter wi mi) (ok : BlkOk X.N X.env.scope scope own)
    (hg : ∀ (s : Shared) (H : Hp) (C : Addr) (cl : List (Str × Addr)) (fp : List Addr), GG K mg r (X.blk s H scope (compEnvC scope cl C X.env) fp) tg g is tgt)
    (ht : ∀ (s : Shared) (H : Hp) (C : Addr) (cl : List (Str × Addr)) (fp : List Addr), GTs K mg r (X.blk s H scope (compEnvC scope cl C X.env) fp) O E0 ifs tt c)
    (he : ∀ (s : Shared) (H : Hp) (C : Addr) (cl : List (Str × Addr)) (fp : List Addr), GE K mg r (X.blk s H scope (compEnvC scope cl C X.env) fp) O E0 elt te m)
    (hvs : ∀ i ∈ own.map (·.2), i ∉ O) (his : ∀ i ∈ is, i ∈ own.map (·.2)) (hy : X.N[i]? = some y := by rfl) (hyl : X.env.scope.names.lookup y = some .local := by rfl)
    (hsw : swapsWith (.ListComp elt [⟨tg, iter, ifs, 0⟩] scope pos) (some (.Name y py)) spos.line X.env = pure true := by exact sw_true rfl rfl rfl (by decide +kernel)) (hs : ∀ x, foldedSetIterable iter X.env x = pure x := by intro _; rfl) :
    PS X (.Assign [.Name y py] (.ListComp elt [⟨tg, iter, ifs, 0⟩] scope pos) spos) (tAsg (tLc wi g tt te (own.map (·.2))) (gName i)) ∧
    ∀ Hs0 H0 Hs H σ env tp Q, Rel K mg r O Hs0 H0 Hs H σ env tp → Post K mg r (Fresh K mg r H) E Hs H (compE mi (own.map (·.2)) tgt is c m env tp) Q → tLc wi g tt te (own.map (·.2)) σ H Q :=
  ⟨ps_setLc hc hN hy hyl hsw hi.pe ok (fun s H C cl fp => (hg s H C cl fp).pe) (fun s H C cl fp => (ht s H C cl fp).pe) (fun s H C cl fp => (he s H C cl fp).pe) hs,
    comp_sound hi.snd (hg X.s_0 X.H_0 0 [] []).snd (ht X.s_0 X.H_0 0 [] []).snd (he X.s_0 X.H_0 0 [] []).snd hvs his⟩
theorem ge_of_gf {m : SE D} (h : ∀ Hs0 H0 Hs H σ env tp Q, Rel K mg r O Hs0 H0 Hs H σ env tp → Post K mg r (Fresh K mg r H) E Hs H (m env tp) Q → t σ H Q) : ∀ Hs0 H0 Hs H σ env tp Q, Rel K mg r O Hs0 H0 Hs H σ env tp → PostE K mg r E Hs H (m env tp) Q → t σ H Q := by
  intro Hs0 H0 Hs H σ env tp Q R P
  refine h _ _ _ _ _ _ _ _ R ?_
  unfold PostE at P
  cases q : m env tp with
  | ok d tp' =>
    rw [q] at P
    intro v Hs' H' g w x
    obtain ⟨Hs2, e, w2, rv, nw⟩ := freeze_fresh w x
    refine P v Hs2 H' ⟨g.keep, g.free, g.ex.trans e, fun b o n z => ?_, g.tup⟩ w2 rv
    rcases nw b o z with ⟨u, z⟩ | z
    · exact g.new b u n z
    · exact .inr (.inl z)
  | exn c fs tp' => rw [q] at P; exact P
  | stuck => rw [q] at P; exact P
theorem gs_setLc {i : Nat} {st : Stmt} {m : SE D} (h : PS X st (tAsg t (gName i)) ∧ ∀ Hs0 H0 Hs H σ env tp Q, Rel K mg r O Hs0 H0 Hs H σ env tp → Post K mg r (Fresh K mg r H) E Hs H (m env tp) Q → t σ H Q) : GS K mg r X E O (O.filter (· != i)) Ol st (tAsg t (gName i)) (setS i m) :=
  ⟨h.1, setS_sound i (ge_of_gf h.2)⟩
def spOf (K : PySem.W.Frag) (mg : Str → Option Value) (r : Addr) (n : Nat) (m : List D → List D → RE D) : Sp := fun vs H Q E => ∃ Hs ds tp, vs.length = n ∧ Wd K mg r Hs H tp ∧ RepDs K mg r Hs vs ds ∧ PostE K mg r E Hs H (m ds tp) Q
structure DefOk (P : Program) (w : World) (K : PySem.W.Frag) (mg : Str → Option Value) (base : Heap) (CX : CXT) (r : Addr) (x : Str) (k n : Nat) (m : List D → List D → RE D) : Prop where
  ex : ∃ f fd ps, FnOk P w K mg base CX k f fd ps (spOf K mg r n m) ∧ mg x = some (.ref f) ∧ PySem.W.keepIn K (.ref f) = true ∧ Binds K fd ps []
def callE (n : Nat) (m : List D → List D → RE D) (ms : SE (List D)) : SE D := fun env tp => (ms env tp).bind fun ds tp1 => if ds.length = n then m ds tp1 else .stuck
theorem call_sound {n : Nat} {m : List D → List D → RE D} {ms : SE (List D)} (h : ∀ Hs0 H0 Hs H σ env tp Q, Rel K mg r O Hs0 H0 Hs H σ env tp → PostA K mg r E Hs H (ms env tp) Q → ts σ H Q) :
    ∀ Hs0 H0 Hs H σ env tp Q, Rel K mg r O Hs0 H0 Hs H σ env tp → PostE K mg r E Hs H (callE n m ms env tp) Q → tCall (spOf K mg r n m) [] E ts σ H Q := by
  intro Hs0 H0 Hs H σ env tp Q R P
  refine h _ _ _ _ _ _ _ _ R (Post.bind P fun vs Hs1 H1 ds tp1 _ g w rs P1 => ?_)
  split at P1
  · rename_i hl
    exact ⟨Hs1, ds, tp1, by rw [List.append_nil, rs.length]; exact hl, w, by rw [List.append_nil]; exact rs, P1⟩
  · exact P1.elim
theorem ge_call {CX : CXT} {x : Str} {k n : Nat} {m : List D → List D → RE D} {ms : SE (List D)} {p : Pos} (dk : DefOk X.prog X.w X.K X.mg X.base CX r x k n m) (hr : Room k X.A) (hx : Passes CX X E) (ha : GA K mg r X O E (e :: es) ts ms) (hK : X.K = K := by rfl) (hmg : X.mg = mg := by rfl) (hg : Gl X x := by rfl)
    (hdb : (x == ("__debug__" : Str)) = false := by decide) (he : starEach (e :: es) X.env = (false, eval e X.env) :: starEach es X.env := by rfl) (hpl : (backTo pos (starEach es X.env)).any (·.1) = false := by rfl) :
    GE K mg r X O E (.Call (.Name x p) (e :: es) [] pos) (tCall (spOf K mg r n m) [] E ts) (callE n m ms) := by
  subst hK hmg
  obtain ⟨f, fd, ps, F, hm, hk, hb⟩ := dk.ex
  exact ⟨pe_call F hr hg hm hk hb .nil hx ha.pe hdb he hpl, call_sound ha.snd⟩
/-- a body's result as a def's -/
def retR : RS → RE D
  | .rt d tp => .ok d tp
  | .nx _ tp => .ok .non tp
  | _ => .stuck
def defD (N : Nat) (body : SS) : List D → List D → RE D := fun ds tp => retR (body (ds.map some ++ List.replicate (N - ds.length) none) tp)
theorem rel_start {Hs H : Hp} {tp : List D} {N : List Str} {vs : List V} {ds : List D} (w : Wd K mg r Hs H tp) (rs : RepDs K mg r Hs vs ds) : Rel K mg r [] Hs H Hs H (L2.start N vs) (ds.map some ++ List.replicate (N.length - ds.length) none) tp where
  wd := w
  gr := Grow.refl _ _
  len := by unfold L2.start; rw [List.length_append, List.length_append, List.length_map, List.length_map, List.length_replicate, List.length_replicate, rs.length]
  vars := fun i d a _ => by
    have hi : i < ds.length := by
      rcases Nat.lt_or_ge i ds.length with q | q
      · exact q
      · rw [List.getElem?_append_right (by rw [List.length_map]; exact q), List.getElem?_replicate] at a
        split at a <;> cases a
    rw [List.getElem?_append_left (by rw [List.length_map]; exact hi), List.getElem?_map] at a
    obtain ⟨d', h1, h2⟩ := Option.map_eq_some_iff.mp a
    cases h2
    obtain ⟨v, h3, h4⟩ := rs.get' h1
    refine ⟨v, ?_, h4⟩
    unfold L2.start
    rw [List.getElem?_append_left (by rw [List.length_map, rs.length]; exact hi), List.getElem?_map, h3]
    rfl
  own := fun i hi => nomatch hi
  dis := fun i j p hi => nomatch hi
section
variable {P : Program} {w : World} {base : Heap}
theorem fn_def {x qual : Str} {params : Arguments} {body : List Stmt} {scope : Scope} {f : Addr} {fd : FuncData} {N ps : List Str} {k : Nat} {m : SS} (F : FunD K x qual params body scope [] [] f fd) (S : FnScope N ps scope) (hm : mg x = some (.ref f))
    (hb : ∀ (kV doc pm : Value) (an : Option Addr) (cdv ct : Value) (us : List Value), us.length = ps.length → bindArgs (PySem.W.fnOf x qual params body scope .none kV doc pm an cdv ct) ⟨us, []⟩ = pure (ps.zip us))
    (h : ∀ (cdv : Value) (A : Around) (outer : List Env) (s : Shared) (H : Hp) (E : XK), Room k (A.deeper (envOfC qual scope s.heap.objs.size f cdv)) → ∃ On u, GSs K mg r (cxOf CX0 P w K mg base N qual scope f cdv A outer s H E).nox E0 [] On [] body u m) :
    DefOk P w K mg base CX0 r x (k + 1) ps.length (defD N.length m) := by
  refine ⟨f, fd, ps, F.ok S (fun vs H Q E q => ?_) (fun cdv A outer s H vs Q E hr q => ?_), hm, F.kp, F.bindsN hb⟩
  · obtain ⟨_, _, _, h1, _⟩ := q
    exact h1
  · obtain ⟨Hs, ds, tp, hl, wd, rs, P1⟩ := q
    obtain ⟨On, u, hG⟩ := h cdv A outer s H E hr
    refine ⟨u, hG.pe.nox, hG.snd _ _ _ _ _ _ _ _ (rel_start wd rs) ?_⟩
    unfold defD at P1
    cases q : m (ds.map some ++ List.replicate (N.length - ds.length) none) tp with
    | rt d tp' =>
      rw [q] at P1
      exact fun v Hs' H' g w rv => P1 v Hs' H' g w rv
    | nx env' tp' =>
      rw [q] at P1
      exact fun σ' Hs' H' e R => P1 .non Hs' H' R.gr R.wd .non
    | bk env' tp' => rw [q] at P1; exact P1.elim
    | ct env' tp' => rw [q] at P1; exact P1.elim
    | exn c fs tp' => rw [q] at P1; exact P1.elim
    | stuck => rw [q] at P1; exact P1.elim
/-- the law: its first statement makes the tape -/
def spLaw (K : PySem.W.Frag) : Sp := fun vs H Q _ => ∃ (a : Addr) (ns : List Int), vs = [.ref a] ∧ SqL K H a (ns.map V.int) ∧ ns.length ≤ 63 ∧ ∀ H', Q (.bl true) H'
/-- the heap without its other things -/
def noX (H : Hp) : Hp := fun b => match H b with
  | some (.ext _) => none
  | o => o
theorem noX_some {H : Hp} {b : Addr} {o : HO} (h : noX H b = some o) : H b = some o := by
  unfold noX at h
  split at h
  · cases h
  · exact h
theorem noX_next {H : Hp} {b : Addr} {φ : Heap → Prop} : noX H b ≠ some (.ext φ) := fun h => by
  have e := noX_some h
  unfold noX at h
  rw [e] at h
  cases h
theorem noX_none {H : Hp} {b : Addr} (h : H b = none) : noX H b = none := by unfold noX; rw [h]
theorem noX_seq {H : Hp} {a : Addr} {xs : List V} (h : SqL K H a xs) : SqL K (noX H) a xs := h.imp (fun h => by
  rcases h with h | ⟨o, h⟩
  · exact .inl (by unfold noX; rw [h])
  · exact .inr ⟨o, by unfold noX; rw [h]⟩) id
theorem fn_law {x qual : Str} {params : Arguments} {body : List Stmt} {scope : Scope} {f : Addr} {fd : FuncData} {N : List Str} {k : Nat} {sx rx : Str} {p1 p2 p3 p4 p5 p6 p7 : Pos} {k0 k1 k2 : Nat} {c : Int} {m : SS}
    (F : FunD K x qual params (.Assign [.Name rx p1] (.List [.Name sx p2, .Constant (.int 0) k0 p3, .Constant (.int c) k1 p4, .Constant (.int 0) k2 p5] p6) p7 :: body) scope [] [] f fd) (S : FnScope (sx :: rx :: N) [sx] scope) (hlx : scope.names.lookup sx = some .local ∨ scope.names.lookup sx = some .cell) (hlr : scope.names.lookup rx = some .local ∨ scope.names.lookup rx = some .cell)
    (hd : (sx == ("__debug__" : Str)) = false := by decide) (hcd : (sx == ("__classdict__" : Str)) = false := by decide)
    (h : ∀ (r : Addr) (cdv : Value) (A : Around) (outer : List Env) (s : Shared) (H : Hp) (E : XK), Room k (A.deeper (envOfC qual scope s.heap.objs.size f cdv)) → ∃ On u, GSs K mg r (cxOf CX0 P w K mg base (sx :: rx :: N) qual scope f cdv A outer s H E).nox E0 [] On [] body u m)
    (hv : ∀ ns : List Int, ns.length ≤ 63 → ∃ tp', retR (m (some (.scr ns) :: some .tape :: List.replicate N.length none) [.scr ns, .int 0, .int c, .int 0]) = .ok (.bl true) tp') :
    FnOk P w K mg base CX0 (k + 1) f fd [sx] (spLaw K) := by
  refine F.ok S (fun vs H Q E q => ?_) (fun cdv A outer s H vs Q E hr q => ?_)
  · obtain ⟨a, ns, rfl, _⟩ := q
    rfl
  · obtain ⟨a, ns, rfl, hS, hlen, kq⟩ := q
    have vs1 : Vis scope sx := hlx.elim .inl fun q => .inr (.inl q)
    refine ⟨tSeq (tAsg (tLst (tCons (tVar 0) (tCons (tC (.int 0)) (tCons (tC (.int c)) (tCons (tC (.int 0)) tNil))))) (gName 1)) (fun D σ H1 => ∃ p, H p = none ∧ H1 = upd H p (.lst [.ref a, .int 0, .int c, .int 0]) ∧ σ = some (.ref a) :: some (.ref p) :: List.replicate N.length none ∧ ∀ v H', v = .bl true → D.rt v H'), ?_, ?_⟩
    · refine PSs.nox (pss_cons (ps_set (i := 1) S.nd rfl hlr (pe_lst (pa_cons (pe_var (i := 0) rfl vs1 hd hcd) (pa_cons pe_int (pa_cons pe_int (pa_cons pe_int pa_nil)))))) ?_)
      refine ⟨fun pins s2 σ H1 D I q => ?_⟩
      obtain ⟨p, hp, rfl, rfl, hq⟩ := q
      obtain ⟨On, u, hG⟩ := h p cdv A outer s H E hr
      refine hG.pe.run pins s2 _ _ D I (hG.snd (noX H) (upd H p (.lst [.ref a, .int 0, .int c, .int 0])) (noX H) _ _ (some (.scr ns) :: some .tape :: List.replicate N.length none) [.scr ns, .int 0, .int c, .int 0] _ ⟨⟨.of fun b o e => upd_new hp _ _ (noX_some e), noX_none hp, ⟨_, upd_same, ?_⟩, fun _ _ => noX_next⟩, Grow.refl _ _, ?_, ?_, (fun i hi => nomatch hi), (fun i j p hi => nomatch hi)⟩ ?_)
      · exact .cons (.scr (noX_seq hS)) (.cons (.int 0) (.cons (.int c) (.cons (.int 0) .nil)))
      · simp
      · intro i d hi _
        match i, hi with
        | 0, hi => cases hi; exact ⟨_, rfl, .scr (noX_seq hS)⟩
        | 1, hi => cases hi; exact ⟨_, rfl, .tape⟩
        | i + 2, hi =>
          rw [List.getElem?_cons_succ, List.getElem?_cons_succ, List.getElem?_replicate] at hi
          split at hi <;> cases hi
      · obtain ⟨tp', e⟩ := hv ns hlen
        cases q : m (some (.scr ns) :: some .tape :: List.replicate N.length none) [.scr ns, .int 0, .int c, .int 0] with
        | rt d tp2 =>
          rw [q] at e
          cases e
          intro v Hs' H' g w rv
          cases rv
          exact hq _ _ rfl
        | nx env' tp2 => rw [q] at e; cases e
        | bk env' tp' => rw [q] at e; cases e
        | ct env' tp' => rw [q] at e; cases e
        | exn c fs tp' => rw [q] at e; cases e
        | stuck => rw [q] at e; cases e
    · refine ⟨_, rfl, by show 4 ≤ sizeLine; rw [sizeLine_eq]; decide, fun p hp => ⟨p, hp, rfl, ?_, fun v H' ev => ev ▸ kq H'⟩⟩
      show List.set (L2.start (sx :: rx :: N) [.ref a]) 1 (some (.ref p)) = _
      unfold L2.start
      simp [List.replicate_succ]
end
end
end G
set_option maxHeartbeats 1000000
namespace G
open PySem PySem.Spec PyProof.Rows L2
section
variable {K : PySem.W.Frag} {mg : Str → Option Value} {r : Addr} {X : Cx} {E : XK} {O O1 On Ol : List Nat} {e a b c : Expr} {es : List Expr} {pos : Pos} {t ta tb : TE} {tt : TT} {ts : TA} {s1 : Stmt} {ss : List Stmt} {u u1 u2 : TS}
inductive RepK (K : PySem.W.Frag) (mg : Str → Option Value) (r : Addr) (Hs H : Hp) : List Bool → List V → List D → List Addr → Prop
  | nil : RepK K mg r Hs H [] [] [] []
  | st {v : V} {d : D} {ks : List Bool} {vs : List V} {ds : List D} {ps : List Addr} : RepD K mg r Hs v d → RepK K mg r Hs H ks vs ds ps → RepK K mg r Hs H (false :: ks) (v :: vs) (d :: ds) ps
  | fr {p : Addr} {d : D} {ks : List Bool} {vs : List V} {ds : List D} {ps : List Addr} : Hs p = none → p ≠ r → OwnAt K mg r Hs H p d → RepK K mg r Hs H ks vs ds ps → RepK K mg r Hs H (true :: ks) (.ref p :: vs) (d :: ds) (p :: ps)
theorem RepK.len {Hs H : Hp} : ∀ {ks : List Bool} {vs : List V} {ds : List D} {ps : List Addr}, RepK K mg r Hs H ks vs ds ps → vs.length = ks.length ∧ ds.length = ks.length
  | _, _, _, _, .nil => ⟨rfl, rfl⟩
  | _, _, _, _, .st _ q => by simp only [List.length_cons, q.len.1, q.len.2, and_self]
  | _, _, _, _, .fr _ _ _ q => by simp only [List.length_cons, q.len.1, q.len.2, and_self]
/-- the tuple that holds them (or any other object of no one's) is laid -/
theorem RepK.lay {Hs H : Hp} {q : Addr} {o : HO} (hq : H q = none) : ∀ {ks : List Bool} {vs : List V} {ds : List D} {ps : List Addr}, RepK K mg r Hs H ks vs ds ps → RepK K mg r Hs (upd H q o) ks vs ds ps
  | _, _, _, _, .nil => .nil
  | _, _, _, _, .st h k => .st h (RepK.lay hq k)
  | _, _, _, _, .fr h n oa k => .fr h n (oa.grow (Same.refl _) fun u z => by rw [upd_ne (ne_of_none z hq)]; exact z) (RepK.lay hq k)
structure GAK (K : PySem.W.Frag) (mg : Str → Option Value) (r : Addr) (X : Cx) (O : List Nat) (E : XK) (es : List Expr) (t : TA) (ks : List Bool) (m : SE (List D)) : Prop where
  pe : PA X es t
  snd : ∀ Hs0 H0 Hs H σ env tp Q, Rel K mg r O Hs0 H0 Hs H σ env tp → Post K mg r (fun Hs' H' vs ds => ∃ ps, RepK K mg r Hs' H' ks vs ds ps ∧ ps.Nodup ∧ ∀ p ∈ ps, H p = none) E Hs H (m env tp) Q → t σ H Q
theorem gak_nil : GAK K mg r X O E [] tNil [] nilA := ⟨pa_nil, fun Hs0 H0 Hs H σ env tp Q R P => P [] Hs H (Grow.refl _ _) R.wd ⟨[], .nil, List.nodup_nil, fun _ h => nomatch h⟩⟩
theorem free_back {Hs H Hs' H' : Hp} {p : Addr} (g : Grow r Hs H Hs' H') (h : H' p = none) (ne : p ≠ r) : H p = none := g.free p h
theorem RepK.ner {Hs H : Hp} : ∀ {ks : List Bool} {vs : List V} {ds : List D} {ps : List Addr}, RepK K mg r Hs H ks vs ds ps → ∀ p ∈ ps, p ≠ r
  | _, _, _, _, .nil, _, h => nomatch h
  | _, _, _, _, .st _ k, p, h => RepK.ner k p h
  | _, _, _, _, .fr _ n _ k, p, h => by
    rcases List.mem_cons.mp h with rfl | h
    · exact n
    · exact RepK.ner k p h
theorem gak_st {ks : List Bool} {m : SE D} {ms : SE (List D)} (h : GE K mg r X O E e t m) (hs : GAK K mg r X O E es ts ks ms) (hst : starEach (e :: es) X.env = (false, eval e X.env) :: starEach es X.env := by rfl) : GAK K mg r X O E (e :: es) (tCons t ts) (false :: ks) (consA m ms) := by
  refine ⟨pa_cons h.pe hs.pe hst, fun Hs0 H0 Hs H σ env tp Q R P => ?_⟩
  refine h.snd _ _ _ _ _ _ _ _ R ?_
  unfold consA at P
  cases q : m env tp with
  | stuck => rw [q] at P; exact P
  | exn c fs tp1 => rw [q] at P; exact P
  | ok d tp1 =>
    rw [q] at P
    intro v Hs1 H1 g w rv
    refine hs.snd _ _ _ _ _ _ _ _ (R.grow g w) ?_
    simp only [RE.bind_ok] at P
    cases q2 : ms env tp1 with
    | stuck => rw [q2] at P; exact P
    | exn c fs tp2 => rw [q2] at P; exact Post.shift g P
    | ok ds tp2 =>
      rw [q2] at P
      rintro vs Hs2 H2 g2 w2 ⟨ps, hk, nd, fr⟩
      exact P _ Hs2 H2 (g.trans g2) w2 ⟨ps, .st (rv.mono g2.ex) hk, nd, fun p hp => free_back g (fr p hp) (hk.ner p hp)⟩
theorem gak_fr {ks : List Bool} {m : SE D} {ms : SE (List D)} (h : GF K mg r X O E e t m) (hs : GAK K mg r X O E es ts ks ms) (hst : starEach (e :: es) X.env = (false, eval e X.env) :: starEach es X.env := by rfl) : GAK K mg r X O E (e :: es) (tCons t ts) (true :: ks) (consA m ms) := by
  refine ⟨pa_cons h.pe hs.pe hst, fun Hs0 H0 Hs H σ env tp Q R P => ?_⟩
  refine h.snd _ _ _ _ _ _ _ _ R ?_
  unfold consA at P
  cases q : m env tp with
  | stuck => rw [q] at P; exact P
  | exn c fs tp1 => rw [q] at P; exact P
  | ok d tp1 =>
    rw [q] at P
    rintro v Hs1 H1 g w ⟨p, rfl, hb, hp, ne, oa⟩
    refine hs.snd _ _ _ _ _ _ _ _ (R.grow g w) ?_
    simp only [RE.bind_ok] at P
    cases q2 : ms env tp1 with
    | stuck => rw [q2] at P; exact P
    | exn c fs tp2 => rw [q2] at P; exact Post.shift g P
    | ok ds tp2 =>
      rw [q2] at P
      rintro vs Hs2 H2 g2 w2 ⟨ps, hk, nd, fr⟩
      obtain ⟨o, ho⟩ := oa.there
      refine P _ Hs2 H2 (g.trans g2) w2 ⟨p :: ps, .fr (g2.no hp ho ne (oa.ntup o ho)) ne (oa.grow g2.ex fun u z => g2.keep p u z ne hp) hk, List.nodup_cons.mpr ⟨fun m => ?_, nd⟩, fun p' hp' => ?_⟩
      · have := fr p m; rw [ho] at this; cases this
      · rcases List.mem_cons.mp hp' with rfl | hp'
        · exact hb
        · exact free_back g (fr p' hp') (hk.ner p' hp')
/-- who owns behind it -/
def ownAll : List Nat → List Nat → List Bool → List Nat
  | O, i :: is, k :: ks => ownAll (if k = true then i :: O.filter (· != i) else O.filter (· != i)) is ks
  | O, _, _ => O
theorem repK_setAll {Hs0 H0 Hs H : Hp} {tp : List D} : ∀ (is : List Nat) (ks : List Bool) (O : List Nat) (σ : L2.St) (env : DEnv) (vs : List V) (ds : List D) (ps : List Addr), Rel K mg r O Hs0 H0 Hs H σ env tp → RepK K mg r Hs H ks vs ds ps → ps.Nodup → (∀ p ∈ ps, H0 p = none ∧ ∀ j ∈ O, σ[j]? ≠ some (some (.ref p))) → is.length = ks.length → (∀ i ∈ is, i < env.length) →
    Rel K mg r (ownAll O is ks) Hs0 H0 Hs H (setAll σ is vs) (setAll env is ds) tp
  | [], ks, O, σ, env, vs, ds, ps, R, hk, _, _, hl, _ => by
    cases ks with
    | nil => cases hk; exact R
    | cons _ _ => cases hl
  | i :: is, [], O, σ, env, vs, ds, ps, R, hk, _, _, hl, _ => by cases hl
  | i :: is, k :: ks, O, σ, env, vs, ds, ps, R, hk, nd, hp, hl, hi => by
    cases hk with
    | st h1 h2 =>
      refine repK_setAll is ks _ _ _ _ _ ps (R.set i h1) h2 nd (fun p q => ⟨(hp p q).1, fun j hj => ?_⟩) (by simpa using hl) fun j hj => by rw [List.length_set]; exact hi j (List.mem_cons_of_mem _ hj)
      obtain ⟨m, ne⟩ := List.mem_filter.mp hj
      rw [set_gne (by simpa using ne)]
      exact (hp p q).2 j m
    | @fr p d ks vs ds ps h1 n oa h2 =>
      obtain ⟨np, nd'⟩ := List.nodup_cons.mp nd
      have hp0 := hp p List.mem_cons_self
      refine repK_setAll is ks _ _ _ _ _ ps (R.setF i (hi i List.mem_cons_self) hp0.1 h1 n oa hp0.2) h2 nd' (fun p' q => ⟨(hp p' (List.mem_cons_of_mem _ q)).1, fun j hj z => ?_⟩) (by simpa using hl) fun j hj => by rw [List.length_set]; exact hi j (List.mem_cons_of_mem _ hj)
      rcases List.mem_cons.mp hj with rfl | hj
      · rcases get_set z with ⟨_, e, _⟩ | ⟨ne, _⟩
        · cases e; exact np q
        · exact ne rfl
      · obtain ⟨m, ne⟩ := List.mem_filter.mp hj
        rw [set_gne (by simpa using ne)] at z
        exact (hp p' (List.mem_cons_of_mem _ q)).2 j m z
def parS (is : List Nat) (ms : SE (List D)) : SS := fun env tp => (ms env tp).bindS fun ds tp1 => if is.all (fun i => decide (i < env.length)) = true then .nx (setAll env is ds) tp1 else .stuck
theorem par_sound {is : List Nat} {ks : List Bool} {ms : SE (List D)} {k : L2.Ends → L2.St → Hp → List V → Hp → Prop} (hl : is.length = ks.length) (h : ∀ Hs0 H0 Hs H σ env tp Q, Rel K mg r O Hs0 H0 Hs H σ env tp → Post K mg r (fun Hs' H' vs ds => ∃ ps, RepK K mg r Hs' H' ks vs ds ps ∧ ps.Nodup ∧ ∀ p ∈ ps, H p = none) E Hs H (ms env tp) Q → ts σ H Q)
    (hk : ∀ D σ vs Hs H tp ds ps, Wd K mg r Hs H tp → RepK K mg r Hs H ks vs ds ps → (∀ H', (H' = H ∨ ∃ q o, H q = none ∧ H' = upd H q o) → D.nx (setAll σ is vs) H') → k D σ H vs H) :
    ∀ Hs0 H0 Hs H σ env tp D, Rel K mg r O Hs0 H0 Hs H σ env tp → PostS K mg r E (ownAll O is ks) Ol Hs0 H0 Hs (parS is ms env tp) D → ts σ H (fun vs H1 => k D σ H1 vs H1) := by
  intro Hs0 H0 Hs H σ env tp D R P
  refine h _ _ _ _ _ _ _ _ R (PostS.bind R P fun vs Hs1 H1 ds tp1 _ g w R1 rv P1 => ?_)
  obtain ⟨ps, hrk, nd, fr⟩ := rv
  split at P1
  · rename_i hi
    have hi : ∀ i ∈ is, i < env.length := fun i m => of_decide_eq_true (List.all_eq_true.mp hi i m)
    have hfr : ∀ p ∈ ps, H0 p = none ∧ ∀ j ∈ O, σ[j]? ≠ some (some (.ref p)) := fun p hp => R.new_ne (fr p hp) (hrk.ner p hp)
    refine hk D σ vs Hs1 H1 tp1 ds ps w hrk fun H' hH' => ?_
    rcases hH' with rfl | ⟨q, o, hq, rfl⟩
    · exact P1 _ _ _ (Same.refl _) (repK_setAll is ks _ _ _ _ _ ps R1 hrk nd hfr hl hi)
    · obtain ⟨g2, w2⟩ := w.lay (o := o) hq
      exact P1 _ _ _ (Same.refl _) (repK_setAll is ks _ _ _ _ _ ps (R1.grow g2 w2) (hrk.lay hq) nd hfr hl hi)
  · exact P1.elim
/-- a, b = x, y (two local names) -/
theorem gs_par2 (i j : Nat) {ks : List Bool} {x y : Str} {ms : SE (List D)} {px py pt : Pos} {kt k2 pt2} (hN : X.N.Nodup) (ha : GAK K mg r X O E [a, b] ts ks ms) (hks : ks.length = 2 := by rfl) (hc : X.calm = true := by rfl) (hi : X.N[i]? = some x := by rfl) (hj : X.N[j]? = some y := by rfl) (hij : i ≠ j := by decide)
    (hx : X.env.scope.names.lookup x = some .local := by rfl) (hy : X.env.scope.names.lookup y = some .local := by rfl)
    (hw : swappedStores [.Tuple [.Name x px, .Name y py] kt pt] (.Tuple [a, b] k2 pt2) X.env = pure (some [x, y]) := by rfl)
    (hs : swapsWithSole [.Tuple [.Name x px, .Name y py] kt pt] (.Tuple [a, b] k2 pt2) pos.line X.env = pure false := by rfl) :
    GS K mg r X E O (ownAll O [i, j] ks) Ol (.Assign [.Tuple [.Name x px, .Name y py] kt pt] (.Tuple [a, b] k2 pt2) pos) (tPar i j ts) (parS [i, j] ms) := by
  refine ⟨ps_par hc hN hi hj hij hx hy ha.pe hw hs, ?_⟩
  refine par_sound (k := fun D σ _ vs H1 => ∃ v w, vs = [v, w] ∧ D.nx ((σ.set i (some v)).set j (some w)) H1) (by rw [hks]; rfl) ha.snd ?_
  intro D σ vs Hs H tp ds ps _ hrk q
  have hl := hrk.len.1
  rw [hks] at hl
  match vs, hl with
  | [v, w], _ => exact ⟨v, w, rfl, q H (.inl rfl)⟩
/-- a, b, c = x, y, z (three local names) -/
theorem gs_par3 (i j l : Nat) {ks : List Bool} {x y z : Str} {ms : SE (List D)} {px py pz pt : Pos} {kt k2 pt2} (hN : X.N.Nodup) (ha : GAK K mg r X O E [a, b, c] ts ks ms) (hks : ks.length = 3 := by rfl) (hc : X.calm = true := by rfl) (hi : X.N[i]? = some x := by rfl) (hj : X.N[j]? = some y := by rfl) (hl : X.N[l]? = some z := by rfl) (hij : i ≠ j := by decide) (hil : i ≠ l := by decide) (hjl : j ≠ l := by decide)
    (hx : X.env.scope.names.lookup x = some .local := by rfl) (hy : X.env.scope.names.lookup y = some .local := by rfl) (hz : X.env.scope.names.lookup z = some .local := by rfl)
    (hw : swappedStores [.Tuple [.Name x px, .Name y py, .Name z pz] kt pt] (.Tuple [a, b, c] k2 pt2) X.env = pure (some [x, y, z]) := by rfl)
    (hs : swapsWithSole [.Tuple [.Name x px, .Name y py, .Name z pz] kt pt] (.Tuple [a, b, c] k2 pt2) pos.line X.env = pure false := by rfl) :
    GS K mg r X E O (ownAll O [i, j, l] ks) Ol (.Assign [.Tuple [.Name x px, .Name y py, .Name z pz] kt pt] (.Tuple [a, b, c] k2 pt2) pos) (tPar3 i j l ts) (parS [i, j, l] ms) := by
  refine ⟨ps_par3 hc hN hi hj hl hij hil hjl hx hy hz ha.pe hw hs, ?_⟩
  refine par_sound (k := fun D σ _ vs H1 => ∃ u v w, vs = [u, v, w] ∧ D.nx (((σ.set i (some u)).set j (some v)).set l (some w)) H1) (by rw [hks]; rfl) ha.snd ?_
  intro D σ vs Hs H tp ds ps _ hrk q
  have hl := hrk.len.1
  rw [hks] at hl
  match vs, hl with
  | [u, v, w], _ => exact ⟨u, v, w, rfl, q H (.inl rfl)⟩
/-- the plain way: a tuple is made and unpacked -/
theorem gs_tup {is : List Nat} {n : Nat} {ks : List Bool} {ms : SE (List D)} {tgs : List Expr} {g : TGs} {pt pt2 : Pos} {kt k2} (ha : GAK K mg r X O E es ts ks ms) (hg : GGs K mg r X tgs g is) (hl : is.length = ks.length := by rfl) (hn : is.length = n := by rfl) (hz : n ≤ sizeLine := by decide) (hc : X.calm = true := by rfl) (hK : X.K = K := by rfl) (hn1 : (assignEach tgs X.env).length = n := by rfl) (hst : (assignEach tgs X.env).findIdx? (·.1) = none := by rfl)
    (hs : swapsWithSole [.Tuple tgs kt pt] (.Tuple es k2 pt2) pos.line X.env = pure false := by rfl) (hw : swappedStores [.Tuple tgs kt pt] (.Tuple es k2 pt2) X.env = pure none := by rfl) (h1 : (assignEach [.Tuple tgs kt pt] X.env).map (·.2) = [assign (.Tuple tgs kt pt) X.env] := by rfl) :
    GS K mg r X E O (ownAll O is ks) Ol (.Assign [.Tuple tgs kt pt] (.Tuple es k2 pt2) pos) (tAsg (tTup ts) (gTup K n g)) (parS is ms) := by
  subst hK
  refine ⟨ps_asg (pe_tup ha.pe) (pg_tup hc hg.pe hn1 hst) hs hw h1, ?_⟩
  refine par_sound (k := fun D σ _ vs H1 => vs.length ≤ sizeLine ∧ ∀ p, H1 p = none → gTup X.K n g (.ref p) σ (upd H1 p (.tup vs)) D.nx) hl ha.snd ?_
  intro D σ vs Hs H tp ds ps _ hrk q
  have hv : vs.length = n := by rw [hrk.len.1, ← hl, hn]
  refine ⟨by rw [hv]; exact hz, fun p hp => ⟨p, vs, rfl, .of upd_same, hv, hg.snd vs σ _ _ (by rw [hv, hn]) (q _ (.inr ⟨p, _, hp, rfl⟩))⟩⟩
/-- a value that is a tuple is unpacked -/
def unpS (n : Nat) (is : List Nat) (m : SE D) : SS := fun env tp => (m env tp).bindS fun d tp1 => match tN n d with
  | some ds => .nx (setAll env is ds) tp1
  | none => .stuck
theorem gs_unp {is : List Nat} {n : Nat} {m : SE D} {tgs : List Expr} {g : TGs} {pt : Pos} {kt} (h : GE K mg r X O E e t m) (hg : GGs K mg r X tgs g is) (hO : ∀ i ∈ is, i ∉ O) (hn : is.length = n := by rfl) (hc : X.calm = true := by rfl) (hK : X.K = K := by rfl) (hn1 : (assignEach tgs X.env).length = n := by rfl) (hst : (assignEach tgs X.env).findIdx? (·.1) = none := by rfl)
    (hs : swapsWithSole [.Tuple tgs kt pt] e pos.line X.env = pure false := by rfl) (hw : swappedStores [.Tuple tgs kt pt] e X.env = pure none := by rfl) (h1 : (assignEach [.Tuple tgs kt pt] X.env).map (·.2) = [assign (.Tuple tgs kt pt) X.env] := by rfl) :
    GS K mg r X E O O Ol (.Assign [.Tuple tgs kt pt] e pos) (tAsg t (gTup K n g)) (unpS n is m) := by
  have gg := gg_tup (mg := mg) (r := r) (X := X) (pos := pt) (k := kt) hc hg hn hK hn1 hst
  refine ⟨ps_asg h.pe gg.pe hs hw h1, fun Hs0 H0 Hs H σ env tp D R P => ?_⟩
  refine h.snd _ _ _ _ _ _ _ _ R (PostS.bind R P fun v Hs1 H1 d tp1 _ g w R1 rv P1 => ?_)
  cases q : tN n d with
  | none => rw [q] at P1; exact P1.elim
  | some ds =>
    rw [q] at P1
    exact gg.snd v d ds Hs1 H1 tp1 σ _ w rv q fun vs rs hl => P1 _ _ _ (Same.refl _) (rel_setAll is _ _ _ _ R1 hO rs hl)
def methE (p : D → Bool) (f : D → D → Option D) (ma mb : SE D) : SE D := fun env tp => (ma env tp).bind fun d tp1 => if p d = true then (mb env tp1).bind fun e tp2 => RE.of (f d e) tp2 else .stuck
def isStrD : D → Bool
  | .str _ => true
  | _ => false
def isLstD : D → Bool
  | .lst _ => true
  | _ => false
theorem ty_str {Hs H : Hp} {tp : List D} {v : V} {d : D} (w : Wd K mg r Hs H tp) (h : RepT K mg r Hs H v d) (p : isStrD d = true) : tyV K "str" v H := by
  cases d with
  | str z => rw [repT_str h]; rfl
  | _ => cases p
theorem ty_lst {Hs H : Hp} {tp : List D} {v : V} {d : D} (w : Wd K mg r Hs H tp) (h : RepT K mg r Hs H v d) (p : isLstD d = true) : tyV K "list" v H := by
  cases d with
  | lst z =>
    obtain ⟨p, vs, rfl, k1, k2⟩ := repT_lst w h
    exact .inl ⟨rfl, vs, .of k1⟩
  | _ => cases p
def MethS (K : PySem.W.Frag) (mg : Str → Option Value) (r : Addr) (R : V → List V → Hp → VK → Prop) (f : D → D → Option D) : Prop := ∀ Hs H tp x y d e z Q, Wd K mg r Hs H tp → RepT K mg r Hs H x d → RepT K mg r Hs H y e → f d e = some z →
  (∀ v Hs' H', Grow r Hs H Hs' H' → Wd K mg r Hs' H' tp → RepD K mg r Hs' v z → Q v H') → R x [y] H Q
theorem ge_m1 {T id : String} {name : Str} {R : V → List V → Hp → VK → Prop} {f : D → D → Option D} {p : D → Bool} {ma mb : SE D} {p1 : Pos} (pa : PlainAttrs T) (slot : Slot T name id) (hty : typeOf (.builtin id) = pure (.type "method_descriptor")) (hm : MtR X id R)
    (hp : ∀ Hs H tp v d, Wd K mg r Hs H tp → RepT K mg r Hs H v d → p d = true → tyV K T v H) (hf : MethS K mg r R f) (ha : GO K mg r X O E a ta ma) (hb : GO K mg r X O E b tb mb) (hK : X.K = K := by rfl)
    (hbase : attributeBase a name X.env (eval a X.env) = eval a X.env := by rfl)
    (hfew : ((backTo pos (starEach [b] X.env)).all (fun x => !x.1) && (backToKw pos (keywordEach [] X.env)).all (fun x => x.1.isSome) && decide ([b].length + ([] : List Keyword).length + (if ([] : List Keyword).isEmpty then 0 else 1) < 30)) = true := by rfl)
    (hline : (p1.endLine == pos.line) = true := by rfl) (hs : starEach [b] X.env = (false, eval b X.env) :: starEach [] X.env := by rfl) (hplain : (backTo pos (starEach [] X.env)).any (·.1) = false := by rfl) :
    GE K mg r X O E (.Call (.Attribute a name p1) [b] [] pos) (tBM K T R ta (tCons tb tNil)) (methE p f ma mb) := by
  subst hK
  refine ⟨pe_bm pa slot hty hm ha.pe (pa_cons hb.pe pa_nil hs) hbase hfew hline hs hplain, fun Hs0 H0 Hs H σ env tp Q Rl P => ?_⟩
  refine ha.snd _ _ _ _ _ _ _ _ Rl (Post.bind P fun v Hs1 H1 d tp1 _ g w rv P1 => ?_)
  split at P1
  · rename_i hpd
    refine ⟨hp _ _ _ _ _ w rv hpd, ?_⟩
    refine hb.snd _ _ _ _ _ _ _ _ (Rl.grow g w) (Post.bind P1 fun y Hs2 H2 e tp2 _ g2 w2 ry P2 => ?_)
    obtain ⟨z, hz, k⟩ := Post.ok_of P2
    exact hf _ _ _ _ _ _ _ _ _ w2 (rv.grow g2) ry hz k
  · exact P1.elim
def joinD (d e : D) : Option D := match d with
  | .str a => (itemsD e).bind fun xs => (unS xs).bind fun ys => if (ys.map (·.length)).sum + ys.length * a.length ≤ 16777216 then some (.str (Txt.join a ys)) else none
  | _ => none
abbrev rJoin (K : PySem.W.Frag) : V → List V → Hp → VK → Prop := fun x xs H Q => ∃ a p, ∃ ys : List Str, x = .str a ∧ xs = [.ref p] ∧ (SqL K H p (ys.map V.str) ∨ SqT K H p (ys.map V.str)) ∧ (ys.map (·.length)).sum + ys.length * a.length ≤ 16777216 ∧ Q (.str (Txt.join a ys)) H
theorem ms_join : MethS K mg r (rJoin K) joinD := by
  intro Hs H tp x y d e z Q w rx ry hz k
  unfold joinD at hz
  split at hz
  · obtain ⟨xs, h1, h2⟩ := Option.bind_eq_some_iff.mp hz
    obtain ⟨ys, h3, h4⟩ := Option.bind_eq_some_iff.mp h2
    split at h4
    · rename_i hg
      cases h4
      rw [unS_ok h3] at h1
      rw [repT_str rx]
      cases e with
      | lst es =>
        cases h1
        obtain ⟨p, vs, rfl, k1, k2⟩ := repT_lst w ry
        rw [RepDs.strs_of k2] at k1
        exact ⟨_, p, ys, rfl, rfl, .inl (.of k1), hg, k _ _ _ (Grow.refl _ _) w (.str _)⟩
      | tup es =>
        cases h1
        obtain ⟨p, vs, rfl, _, k1, k2⟩ := repT_tup w ry
        rw [RepDs.strs_of k2] at k1
        exact ⟨_, p, ys, rfl, rfl, .inr (.inl k1), hg, k _ _ _ (Grow.refl _ _) w (.str _)⟩
      | _ => cases h1
    · cases h4
  · cases hz
theorem ge_join {ma mb : SE D} {p1 : Pos} (ha : GO K mg r X O E a ta ma) (hb : GO K mg r X O E b tb mb) (hK : X.K = K := by rfl)
    (hbase : attributeBase a "join" X.env (eval a X.env) = eval a X.env := by rfl)
    (hfew : ((backTo pos (starEach [b] X.env)).all (fun x => !x.1) && (backToKw pos (keywordEach [] X.env)).all (fun x => x.1.isSome) && decide ([b].length + ([] : List Keyword).length + (if ([] : List Keyword).isEmpty then 0 else 1) < 30)) = true := by rfl)
    (hline : (p1.endLine == pos.line) = true := by rfl) (hs : starEach [b] X.env = (false, eval b X.env) :: starEach [] X.env := by rfl) (hplain : (backTo pos (starEach [] X.env)).any (·.1) = false := by rfl) :
    GE K mg r X O E (.Call (.Attribute a "join" p1) [b] [] pos) (tBM K "str" (rJoin K) ta (tCons tb tNil)) (methE isStrD joinD ma mb) := by
  subst hK
  exact ge_m1 PySem.F.plainAttrs_str PySem.F.slot_str_join PySem.F.type_str_join mt_join (fun _ _ _ _ _ => ty_str) ms_join ha hb rfl hbase hfew hline hs hplain
def appPopS (i j : Nat) (m : SE D) : SS := fun env tp => match env[i]?, env[j]? with
  | some (some (.lst ds)), some (some (.lst es)) => (m env tp).bindS fun k tp1 => match k with
    | .int q => if (decide (-(2 ^ 63) ≤ q) && (decide (q < 2 ^ 63) && decide (ds.length < sizeLine))) = true then (match ixN es.length q with
      | some c => (match es[c]? with
        | some y => .nx ((env.set j (some (.lst (es.eraseIdx c)))).set i (some (.lst (ds ++ [y])))) tp1
        | none => .stuck)
      | none => .stuck) else .stuck
    | _ => .stuck
  | _, _ => .stuck
theorem gs_appPop {m : SE D} (i j : Nat) {x y : Str} {p1 p2 p3 p4 p5 p6 : Pos} (hi : i ∈ O) (hj : j ∈ O) (hij : i ≠ j) (h : GE K mg r X O E e t m) (hK : X.K = K := by rfl) (hN : X.N[i]? = some x := by rfl) (hNy : X.N[j]? = some y := by rfl)
    (hv : Vis X.env.scope x := by first | exact Or.inl rfl | exact Or.inr (Or.inl rfl) | exact Or.inr (Or.inr rfl)) (hvy : Vis X.env.scope y := by first | exact Or.inl rfl | exact Or.inr (Or.inl rfl) | exact Or.inr (Or.inr rfl)) (hd : (x == ("__debug__" : Str)) = false := by decide) (hcd : (x == ("__classdict__" : Str)) = false := by decide)
    (hdy : (y == ("__debug__" : Str)) = false := by decide) (hcdy : (y == ("__classdict__" : Str)) = false := by decide)
    (hb1 : attributeBase (.Name x p1) "append" X.env (eval (.Name x p1) X.env) = eval (.Name x p1) X.env := by rfl)
    (hf1 : ((backTo p3 (starEach [Expr.Call (.Attribute (.Name y p4) "pop" p5) [e] [] p6] X.env)).all (fun x => !x.1) && (backToKw p3 (keywordEach [] X.env)).all (fun x => x.1.isSome) && decide ([Expr.Call (.Attribute (.Name y p4) "pop" p5) [e] [] p6].length + ([] : List Keyword).length + (if ([] : List Keyword).isEmpty then 0 else 1) < 30)) = true := by rfl)
    (hl1 : (p2.endLine == p3.line) = true := by rfl) (hs1 : starEach [Expr.Call (.Attribute (.Name y p4) "pop" p5) [e] [] p6] X.env = (false, eval (Expr.Call (.Attribute (.Name y p4) "pop" p5) [e] [] p6) X.env) :: starEach [] X.env := by rfl) (hpl1 : (backTo p3 (starEach [] X.env)).any (·.1) = false := by rfl)
    (hb2 : attributeBase (.Name y p4) "pop" X.env (eval (.Name y p4) X.env) = eval (.Name y p4) X.env := by rfl)
    (hf2 : ((backTo p6 (starEach [e] X.env)).all (fun x => !x.1) && (backToKw p6 (keywordEach [] X.env)).all (fun x => x.1.isSome) && decide ([e].length + ([] : List Keyword).length + (if ([] : List Keyword).isEmpty then 0 else 1) < 30)) = true := by rfl)
    (hl2 : (p5.endLine == p6.line) = true := by rfl) (hs2 : starEach [e] X.env = (false, eval e X.env) :: starEach [] X.env := by rfl) (hpl2 : (backTo p6 (starEach [] X.env)).any (·.1) = false := by rfl)
    (hsw : swapsWith (.Call (.Attribute (.Name x p1) "append" p2) [.Call (.Attribute (.Name y p4) "pop" p5) [e] [] p6] [] p3) none pos.line X.env = pure false := by rfl) :
    GS K mg r X E O O Ol (.Expr (.Call (.Attribute (.Name x p1) "append" p2) [.Call (.Attribute (.Name y p4) "pop" p5) [e] [] p6] [] p3) pos) (tDrop (tBM K "list" rAppend (tVar i) (tCons (tBM K "list" rPopAt (tVar j) (tCons t tNil)) tNil))) (appPopS i j m) := by
  subst hK
  refine ⟨ps_expr (pe_bm PySem.F.plainAttrs_list PySem.F.slot_list_append PySem.F.type_list_append mt_append (pe_var hN hv hd hcd)
    (pa_cons (pe_bm PySem.F.plainAttrs_list PySem.F.slot_list_pop PySem.F.type_list_pop mt_popAt (pe_var hNy hvy hdy hcdy) (pa_cons h.pe pa_nil hs2) hb2 hf2 hl2 hs2 hpl2) pa_nil hs1) hb1 hf1 hl1 hs1 hpl1) hsw, fun Hs0 H0 Hs H σ env tp D R P => ?_⟩
  obtain ⟨d0, p, b1, b2, c, c0, ne, oa⟩ := R.own i hi
  obtain ⟨d0', p', b1', b2', c', c0', ne', oa'⟩ := R.own j hj
  unfold appPopS at P
  rw [b1, b1'] at P
  split at P
  · rename_i ds es q1 q2
    cases q1; cases q2
    obtain ⟨vs0, k1, _⟩ := oa
    obtain ⟨vs0', k1', _⟩ := oa'
    refine ⟨_, b2, .inl ⟨rfl, vs0, .of k1⟩, ?_⟩
    refine ⟨_, b2', .inl ⟨rfl, vs0', .of k1'⟩, ?_⟩
    refine h.snd _ _ _ _ _ _ _ _ R (PostS.bind R P fun v Hs1 H1 d tp1 _ g w R1 rv P1 => ?_)
    cases d with
    | int q =>
      cases rv
      obtain ⟨d1, p1, e1, e2, f, f0, fn, fo⟩ := R1.own i hi
      rw [b2] at e2; cases e2
      rw [b1] at e1; cases e1
      obtain ⟨vs, h1, h2⟩ := fo
      obtain ⟨d1', p1', e1', e2', f', f0', fn', fo'⟩ := R1.own j hj
      rw [b2'] at e2'; cases e2'
      rw [b1'] at e1'; cases e1'
      obtain ⟨us, h1', h2'⟩ := fo'
      have P1 : PostS X.K mg r E O Ol Hs0 H0 Hs1 (if (decide (-(2 ^ 63) ≤ q) && (decide (q < 2 ^ 63) && decide (ds.length < sizeLine))) = true then (match ixN es.length q with
        | some c => (match es[c]? with
          | some y => .nx ((env.set j (some (.lst (es.eraseIdx c)))).set i (some (.lst (ds ++ [y])))) tp1
          | none => .stuck)
        | none => .stuck) else .stuck) D := P1
      split at P1
      · rename_i hc
        have hc := Bool.and_eq_true_iff.mp hc
        have hc2 := Bool.and_eq_true_iff.mp hc.2
        cases qx : ixN es.length q with
        | none => rw [qx] at P1; exact P1.elim
        | some cc =>
          rw [qx] at P1
          simp only at P1
          cases qy : es[cc]? with
          | none => rw [qy] at P1; exact P1.elim
          | some yd =>
            rw [qy] at P1
            obtain ⟨yv, hy1, hy2⟩ := h2'.get' qy
            rw [← h2'.length] at qx
            refine ⟨p', us, q, cc, yv, rfl, rfl, h1', of_decide_eq_true hc.1, of_decide_eq_true hc2.1, (ixN_seq qx).1, hy1, ?_⟩
            have np : p ≠ p' := fun z => hij (R.dis i j p hi hj b2 (z ▸ b2'))
            refine ⟨p, vs, yv, rfl, rfl, by rw [upd_ne np]; exact h1, by rw [h2.length]; exact of_decide_eq_true hc2.2, ?_⟩
            have W1 := R1.write (d := .lst (es.eraseIdx cc)) (o := .lst (us.eraseIdx cc)) hj b2' ⟨_, upd_same, h2'.eraseIdx cc⟩
            exact P1 _ _ _ (Same.refl _) (W1.write hi b2 ⟨_, upd_same, h2.append (.cons hy2 .nil)⟩)
      · exact P1.elim
    | _ => exact P1.elim
  · exact P.elim
end
end G
namespace G
open PySem PySem.Spec PyProof.Rows L2
section
variable {K : PySem.W.Frag} {mg : Str → Option Value} {r : Addr} {X : Cx} {E : XK} {O O1 On Ol : List Nat} {e a b c : Expr} {es : List Expr} {pos p : Pos} {t ta tb tc : TE} {tt : TT} {ts : TA} {ma mb mc : SE D} {ms : SE (List D)}
theorem gt_eq (hu : X.A.units + 64 < cLine) (ha : GO K mg r X O E a ta ma) (hb : GO K mg r X O E b tb mb) (hK : X.K = K := by rfl) : GT K mg r X O E (.Compare a [.Eq] [b] pos) (tTest (tOp (rEqP K) ta tb)) (boolE (binE eqD ma mb)) := by subst hK; exact gt_cmp (op_eqP hu) ops_eq ha hb (nomark _)
theorem gt_ne (hu : X.A.units + 64 < cLine) (ha : GO K mg r X O E a ta ma) (hb : GO K mg r X O E b tb mb) (hK : X.K = K := by rfl) : GT K mg r X O E (.Compare a [.NotEq] [b] pos) (tTest (tOp (rNeP K) ta tb)) (boolE (binE neD ma mb)) := by subst hK; exact gt_cmp (op_neP hu) ops_ne ha hb (nomark _)
theorem gt_in (hu : X.A.units + 64 < cLine) (ha : GO K mg r X O E a ta ma) (hb : GO K mg r X O E b tb mb) (hm : behindInMarks .In b = false := by rfl) (hK : X.K = K := by rfl) : GT K mg r X O E (.Compare a [.In] [b] pos) (tTest (tOp (rInP K false) ta tb)) (boolE (binE inD ma mb)) := by subst hK; exact gt_cmp (op_inP hu) ops_in ha hb hm
theorem gt_lt (ha : GO K mg r X O E a ta ma) (hb : GO K mg r X O E b tb mb) : GT K mg r X O E (.Compare a [.Lt] [b] pos) (tTest (tOp rLtD ta tb)) (boolE (binE ltD ma mb)) := gt_cmp opr_lt ops_lt ha hb (nomark _)
theorem gt_gt (ha : GO K mg r X O E a ta ma) (hb : GO K mg r X O E b tb mb) : GT K mg r X O E (.Compare a [.Gt] [b] pos) (tTest (tOp rGtD ta tb)) (boolE (binE gtD ma mb)) := gt_cmp op_gt ops_gt ha hb (nomark _)
theorem gt_ge (ha : GO K mg r X O E a ta ma) (hb : GO K mg r X O E b tb mb) : GT K mg r X O E (.Compare a [.GtE] [b] pos) (tTest (tOp rGeD ta tb)) (boolE (binE geD ma mb)) := gt_cmp op_ge ops_ge ha hb (nomark _)
theorem gt_isNot (ha : GO K mg r X O E a ta ma) (hb : GO K mg r X O E b tb mb) : GT K mg r X O E (.Compare a [.IsNot] [b] pos) (tTest (tOp rIsNotD ta tb)) (boolE (binE isNotNoneD ma mb)) := gt_cmp opr_isNot ops_isNot ha hb (nomark _)
theorem gt_leLe (ha : GO K mg r X O E a ta ma) (hb : GO K mg r X O E b tb mb) (hc : GO K mg r X O E c tc mc) (hm : lastMarks [.LtE, .LtE] [b, c] = false := by with_unfolding_all rfl) : GT K mg r X O E (.Compare a [.LtE, .LtE] [b, c] pos) (tTest (tChain rLeD rLeD ta tb tc)) (boolE (chainE leD leD ma mb mc)) := gt_chain op_le op_le ops_le ops_le ha hb hc hm
theorem ge_leLe (ha : GO K mg r X O E a ta ma) (hb : GO K mg r X O E b tb mb) (hc : GO K mg r X O E c tc mc) (hm : lastMarks [.LtE, .LtE] [b, c] = false := by with_unfolding_all rfl) : GE K mg r X O E (.Compare a [.LtE, .LtE] [b, c] pos) (tChain rLeD rLeD ta tb tc) (chainE leD leD ma mb mc) := ge_chain op_le op_le ops_le ops_le ha hb hc hm
theorem gf_list1 (hm : X.mg "list" = none) (ha : GAO K mg r X O E [e] ts ms) (hg : Gl X "list" := by rfl) (he : starEach [e] X.env = (false, eval e X.env) :: starEach [] X.env := by rfl) (hpl : (backTo pos (starEach [] X.env)).any (·.1) = false := by rfl) (hK : X.K = K := by rfl) : GF K mg r X O E (.Call (.Name "list" p) [e] [] pos) (tCB (rListD1 K) ts) (callB listD ms) := by
  subst hK
  refine ⟨pe_callTy (r := rListD1 X.K) call_list_of hg hm (by decide +kernel) ha.pe (by decide) (by decide) he hpl, fun Hs0 H0 Hs H σ env tp Q Rl P => ?_⟩
  refine ha.snd _ _ _ _ _ _ _ _ Rl ?_
  unfold callB at P
  cases q : ms env tp with
  | stuck => rw [q] at P; exact P
  | exn cc fs tp1 => rw [q] at P; exact P
  | ok ds tp1 =>
    rw [q] at P
    intro xs Hs1 H1 g w rx
    obtain ⟨z, hz, k⟩ := Post.ok_of (show Post X.K mg r (Fresh X.K mg r H) E Hs H (RE.of (listD ds) tp1) Q from P)
    unfold listD at hz
    split at hz
    · cases hz
      obtain ⟨x, rfl, h⟩ := paired1 rx
      obtain ⟨p, vs, rfl, h1, h2⟩ := repT_lst w h
      refine ⟨p, vs, rfl, .inl (.of h1), fun q hq => ?_⟩
      obtain ⟨a, b, c⟩ := fresh_new (o := .lst vs) (d := .lst _) g w hq ⟨vs, upd_same, h2⟩
      exact k _ _ _ a b c
    · cases hz
      obtain ⟨x, rfl, h⟩ := paired1 rx
      obtain ⟨p, vs, rfl, h0, h1, h2⟩ := repT_tup w h
      refine ⟨p, vs, rfl, .inr (.inl h1), fun q hq => ?_⟩
      obtain ⟨a, b, c⟩ := fresh_new (o := .lst vs) (d := .lst _) g w hq ⟨vs, upd_same, h2⟩
      exact k _ _ _ a b c
    · cases hz
      obtain ⟨x, rfl, h⟩ := paired1 rx
      obtain ⟨p, rfl, h1⟩ := repT_scr w h
      refine ⟨p, _, rfl, .inl h1, fun q hq => ?_⟩
      obtain ⟨a, b, c⟩ := fresh_new (o := .lst (List.map V.int _)) (d := .lst _) g w hq ⟨_, upd_same, RepDs.ints _⟩
      exact k _ _ _ a b c
    · cases hz
def cRgOk (a b : Int) : Bool := cRg a && (cRg b && decide ((b - a).toNat ≤ 16777216))
theorem cRgOk_ok {a b : Int} (h : cRgOk a b = true) : RgOk a b := by
  have h := Bool.and_eq_true_iff.mp h
  have h2 := Bool.and_eq_true_iff.mp h.2
  have h1 := cRg_ok h.1
  have h3 := cRg_ok h2.1
  have h4 := of_decide_eq_true h2.2
  exact ⟨h1.1, h1.2, h3.1, h3.2, h4⟩
theorem reps_range {Hs : Hp} (a b : Int) : RepDs K mg r Hs (rgV a b) (rangeL a b) := by
  unfold rgV rangeL
  induction (List.range (b - a).toNat) with
  | nil => exact .nil
  | cons x xs ih => exact .cons (.int _) ih
def rg1E (k : List D → D) (ma : SE D) : SE D := fun env tp => (ma env tp).bind fun d tp1 => match d with
  | .int n => if cRgOk 0 n = true then .ok (k (rangeL 0 n)) tp1 else .stuck
  | _ => .stuck
theorem gf_listRg1 {pa pb : Pos} (hm : X.mg "list" = none) (hm2 : X.mg "range" = none) (ha : GO K mg r X O E a ta ma) (hc : X.calm = true := by rfl) (hg : Gl X "list" := by rfl) (hg2 : Gl X "range" := by rfl) (na : starEach [a] X.env = (false, eval a X.env) :: starEach [] X.env := by rfl) (nb : starEach [Expr.Call (.Name "range" pa) [a] [] pb] X.env = (false, eval (Expr.Call (.Name "range" pa) [a] [] pb) X.env) :: starEach [] X.env := by rfl) :
    GF K mg r X O E (.Call (.Name "list" p) [.Call (.Name "range" pa) [a] [] pb] [] pos) (tLstRg (tRg1 ta)) (rg1E .lst ma) := by
  refine ⟨pe_listRg hc hg hm (prg_1 hg2 hm2 ha.pe na) nb, fun Hs0 H0 Hs H σ env tp Q Rl P => ?_⟩
  refine ha.snd _ _ _ _ _ _ _ _ Rl ?_
  unfold rg1E at P
  cases q : ma env tp with
  | stuck => rw [q] at P; exact P
  | exn cc fs tp1 => rw [q] at P; exact P
  | ok d tp1 =>
    rw [q] at P
    intro x Hs1 H1 g w rx
    simp only [RE.bind_ok] at P
    cases d with
    | int n =>
      have P : Post K mg r (Fresh K mg r H) E Hs H (if cRgOk 0 n = true then .ok (.lst (rangeL 0 n)) tp1 else .stuck) Q := P
      split at P
      · rename_i c
        refine ⟨n, repT_int rx, cRgOk_ok c, fun q hq => ?_⟩
        obtain ⟨a, b, c⟩ := fresh_new (o := .lst (rgV 0 n)) (d := .lst _) g w hq ⟨_, upd_same, reps_range 0 n⟩
        exact P _ _ _ a b c
      · exact P.elim
    | _ => exact P.elim
theorem tN_len {n : Nat} {d : D} {ds : List D} (h : tN n d = some ds) : ds.length = n := by
  cases d with
  | tup xs =>
    have h : (if xs.length = n then some xs else none) = some ds := h
    split at h
    · cases h; assumption
    · cases h
  | _ => cases h
end
end G
set_option maxHeartbeats 1000000
namespace G
open PySem PySem.Spec PyProof.Rows L2
theorem meets_enum1 {v : Value} {o : Obj} {Ho : Heap → Prop} (B : Begins v o Ho) :
    Meets (Builtin.«enumerate.__new__» ⟨[.type "enumerate", v], []⟩) (fun _ R s => Ho s.heap ∧
      R (.ok (.ret (.ref (s.heap.push o).objs.size))) { s with heap := (s.heap.push o).push { cls := .type "enumerate", data := .fields #[.none, .bool false, .ref s.heap.objs.size, rawInt 0, .none, .none] } }) :=
  .of_wp fun prog w A R s h => by
    obtain ⟨hp, g, d, tk, os⟩ := s; obtain ⟨h1, h⟩ := h
    have hsub := sub_enumerate
    have q1 : ∀ {A' : Around} {E : Value → Shared → Prop} {Q : Value → Shared → Prop}, Q (.ref hp.objs.size) ⟨hp.push o, g, d, tk, os⟩ → wpAny (model prog w) A' (pyIter v) Q E ⟨hp, g, d, tk, os⟩ :=
      fun q => B.iter prog w _ _ ⟨hp, g, d, tk, os⟩ _ h1 q
    wp_walk using q1
    refine wpAny_stack_any fun st => wpAny_pure ?_
    split
    · rename_i c _ _ _ _ _
      cases (c == Value.type "enumerate")
      · wp_walk using q1
        exact ⟨_, rfl, h⟩
      · wp_walk using q1
        exact ⟨_, rfl, h⟩
    · wp_walk using q1
      exact ⟨_, rfl, h⟩
section
variable {prog : Program} {w : World} {A : Around} {E : Value → Shared → Prop} {s : Shared}
theorem call_enum1 {v : Value} {o : Obj} {Ho : Heap → Prop} {Q : Value → Shared → Prop} (B : Begins v o Ho) (h1 : Ho s.heap)
    (h : ∀ h', IsEnum h' (s.heap.objs.size + 1) s.heap.objs.size 0 .none → h'.get? s.heap.objs.size = some o → h'.objs.size = s.heap.objs.size + 2 →
      (∀ b o, s.heap.get? b = some o → h'.get? b = some o) → Q (.ref (s.heap.objs.size + 1)) { s with heap := h' }) :
    wpAny (model prog w) A (call (.type "enumerate") [v]) Q E s := by
  refine callType_new F.called_enumerate (by decide) (F.typeCall_enumerate_1 _) (F.newCall_enumerate_1 _) (fun obj => F.args_object_init_2 obj _) F.entry_enumerate_new
    (meets_enum1 B) ⟨h1, ?_⟩
  have hz : (s.heap.push o).objs.size = s.heap.objs.size + 1 := Heap.size_push ..
  show _ ∧ _
  rw [hz]
  have he : IsEnum ((s.heap.push o).push { cls := .type "enumerate", data := .fields #[.none, .bool false, .ref s.heap.objs.size, rawInt 0, .none, .none] }) (s.heap.objs.size + 1) s.heap.objs.size 0 .none := by
    have := Heap.get?_push_size (s.heap.push o) (o := { cls := .type "enumerate", data := .fields #[.none, .bool false, .ref s.heap.objs.size, rawInt 0, .none, .none] }) rfl
    rw [hz] at this; exact this
  refine ⟨⟨_, he, rfl⟩, h _ he (Heap.get?_push_of_some _ (Heap.get?_push_size _ B.free)) (by rw [Heap.size_push, hz]) fun b o x => Heap.get?_push_of_some _ (Heap.get?_push_of_some _ x)⟩
end
/-- the items of what a Draws tells, numbered; V's items by Pv -/
def IteD (n : Nat) (Gd : Hp → Prop) (Pv : Nat → Hp → V → Prop) : It :=
  ⟨fun i H => i < n ∧ Gd H, fun i H v H' => ∃ T x, v = .ref T ∧ H T = none ∧ H' = upd H T (.tup [.int (i : Nat), x]) ∧ Pv i H x, fun i H => i = n ∧ Gd H⟩
theorem turn_enumS {P : Program} {w : World} {K : PySem.W.Frag} {elts : List Expr} {kk : Nat} {tpos : Pos} (e it : Addr) (z : Str) (t : Tok) :
    Turn P w K (.Tuple elts kk tpos) (IteD z.cps.size (fun _ => True) (fun i _ x => ∃ c, z.cps[i]? = some c ∧ x = .str ⟨#[c]⟩)) [e, it] e (fun i h => (∃ old, IsEnum h e it ((i : Nat) : Int) old) ∧ h.IsStrIter it (strIterType z) z t i ∧ e ≠ it) where
  mem := by simp
  obj := fun i h st b hb => by
    obtain ⟨⟨old, he⟩, ⟨o, ho, hc, hd⟩, _⟩ := st
    have e' : b = e ∨ b = it := by simpa using hb
    rcases e' with z | z
    · rw [z]; exact ⟨_, he, fun v q => nomatch q⟩
    · rw [z]; exact ⟨o, ho, fun v q => by rw [hd] at q; cases q⟩
  keep := fun i h h' st k => by
    obtain ⟨⟨old, he⟩, ⟨o, ho, r⟩, hne⟩ := st
    exact ⟨⟨old, k e (by simp) _ he⟩, ⟨o, k it (by simp) o ho, r⟩, hne⟩
  item := by
    intro X hP hw hK hc i pins s σ H E I hf st hg
    subst hP hw hK
    obtain ⟨⟨old, he⟩, hit, hne⟩ := st
    have hel : e < s.heap.objs.size := Heap.lt_size he
    have hil : it < s.heap.objs.size := by obtain ⟨_, q, _⟩ := hit; exact Heap.lt_size q
    refine wpAny_pyNext_enum_itemD (Draws.text (A := X.A.in1) (I.ok.hd hc) it z t) he hit hg.1 hne (by simp [hne]) fun v h' tk hv ho hit' hT hsz hk => ?_
    obtain ⟨c, u, hcx, rfl⟩ := hv
    refine ⟨_, rfl, wpAny_letOwnedTupleGo_enum (s := { s with heap := h', toks := tk + 1 }) ho fun h'' he' sb => ?_⟩
    have hT2 : h''.get? s.heap.objs.size = some { cls := .type "tuple", data := .seq #[.int i tk, .str ⟨#[c]⟩ u] } := (sb.2 _ (Nat.ne_of_gt hel)).trans hT
    have new : ObjOk X.prog X.w (upd H s.heap.objs.size (.tup [.int (i : Nat), .str ⟨#[c]⟩])) h'' s.heap.objs.size (.tup [.int (i : Nat), .str ⟨#[c]⟩]) :=
      ⟨by show 2 ≤ sizeLine; decide, [.int i tk, .str ⟨#[c]⟩ u], .cons ⟨_, rfl⟩ (.cons ⟨_, rfl⟩ .nil), ⟨_, hT2, rfl, _, rfl⟩⟩
    have I1 : Inv X pins σ (upd H s.heap.objs.size (.tup [.int (i : Nat), .str ⟨#[c]⟩])) { s with heap := h'', toks := tk + 1 } :=
      I.turnedNew (ch := [e, it]) (fun b ob hb q => (sb.2 b (fun z => hb (by simp [z]))).trans (hk b ob (fun z => hb (by simp [z])) (fun z => hb (by simp [z])) q)) hf (Nat.le_refl _) new
    refine ⟨.ref s.heap.objs.size, _, I1, rfl, ⟨_, _, rfl, I.hok.fresh (Nat.le_refl _), rfl, c, hcx, rfl⟩, ⟨⟨.str ⟨#[c]⟩ u, ?_⟩, ?_, hne⟩, fun b hb => ?_⟩
    · have e1 : ((i + 1 : Nat) : Int) = (i : Int) + 1 := by omega
      rw [e1]; exact he'
    · obtain ⟨o, q, r⟩ := hit'
      exact ⟨o, (sb.2 it (Ne.symm hne)).trans q, r⟩
    · have hb' : b < s.heap.objs.size := by
        have e' : b = e ∨ b = it := by simpa using hb
        rcases e' with z | z
        · rw [z]; exact hel
        · rw [z]; exact hil
      rw [upd_ne (Nat.ne_of_lt hb')]
      exact (hf b hb).1
  done := by
    intro X hP hw hK hc i pins s σ H E I hf st hg
    subst hP hw hK
    obtain ⟨⟨old, he⟩, hit, hne⟩ := st
    obtain ⟨f0, f1, f2, f3, f4, f5⟩ := hf it (by simp)
    obtain ⟨rfl, _⟩ := hg
    exact wpAny_pyNext_enum_endD (Draws.text (A := X.A.in1) (I.ok.hd hc) it z t) he hit fun h' eb => ⟨rfl, I.turned (t' := s.toks) (fun b o hb q => eb b o hb q) f0 f1 f3 f4 f5⟩
  self := fun A i s Q E st h => let ⟨⟨_, he⟩, _⟩ := st; wpAny_pyIter_enum he h
theorem turn_enumT {P : Program} {w : World} {K : PySem.W.Frag} {elts : List Expr} {kk : Nat} {tpos : Pos} (e it a : Addr) (xs : List V) :
    Turn P w K (.Tuple elts kk tpos) (IteD xs.length (fun H => SqT K H a xs) (fun i _ x => xs[i]? = some x)) [e, it] e (fun i h => (∃ old, IsEnum h e it ((i : Nat) : Int) old) ∧ h.IsTupleIter it a i ∧ e ≠ it) where
  mem := by simp
  obj := fun i h st b hb => by
    obtain ⟨⟨old, he⟩, ⟨o, ho, hc, hd⟩, _⟩ := st
    have e' : b = e ∨ b = it := by simpa using hb
    rcases e' with z | z
    · rw [z]; exact ⟨_, he, fun v q => nomatch q⟩
    · rw [z]; exact ⟨o, ho, fun v q => by rw [hd] at q; cases q⟩
  keep := fun i h h' st k => by
    obtain ⟨⟨old, he⟩, hi, hne⟩ := st
    exact ⟨⟨old, k e (by simp) _ he⟩, hi.at fun o q => k it (by simp) o q, hne⟩
  item := by
    intro X hP hw hK hc i pins s σ H E I hf st hg
    subst hP hw hK
    obtain ⟨⟨old, he⟩, hit, hne⟩ := st
    obtain ⟨hi, hq⟩ := hg
    obtain ⟨its, rv, p, hz⟩ := I.tuple hq
    have hel : e < s.heap.objs.size := Heap.lt_size he
    have hil : it < s.heap.objs.size := by obtain ⟨_, q, _⟩ := hit; exact Heap.lt_size q
    have hea : e ≠ a := by
      rintro rfl
      obtain ⟨o, q1, q2, _⟩ := id p
      rw [show s.heap.get? e = _ from he] at q1
      cases q1
      have q2' : (Value.type "enumerate") = .type "tuple" := q2
      exact absurd q2' (by decide)
    have hia : a ≠ it := by
      rintro rfl
      obtain ⟨o, q1, q2, _⟩ := id p
      obtain ⟨o', q3, q4, _⟩ := id hit
      rw [q1] at q3
      cases q3
      rw [q2] at q4
      exact absurd q4 (by decide)
    have hl : its.toArray.size = xs.length := by rw [List.size_toArray]; exact rv.length.symm
    refine wpAny_pyNext_enum_itemD (Draws.tuple (A := X.A.in1) (I.ok.hd hc) it a hia its.toArray) he ⟨hit, p⟩ (by rw [hl]; exact hi) hne (by simp [hne, hea]) fun v h' tk hv ho hit' hT hsz hk => ?_
    obtain ⟨x, hx⟩ : ∃ x, xs[i]? = some x := ⟨xs[i], List.getElem?_eq_getElem hi⟩
    obtain ⟨u, hu, ru⟩ := rv.get hx
    have ev : v = u := by
      have hv' : its[i]? = some v := by simpa using hv
      rw [hu] at hv'
      exact (Option.some.inj hv').symm
    subst ev
    refine ⟨_, rfl, wpAny_letOwnedTupleGo_enum (s := { s with heap := h', toks := tk + 1 }) ho fun h'' he' sb => ?_⟩
    have hT2 : h''.get? s.heap.objs.size = some { cls := .type "tuple", data := .seq #[.int i tk, v] } := (sb.2 _ (Nat.ne_of_gt hel)).trans hT
    have new : ObjOk X.prog X.w (upd H s.heap.objs.size (.tup [.int (i : Nat), x])) h'' s.heap.objs.size (.tup [.int (i : Nat), x]) :=
      ⟨by show 2 ≤ sizeLine; decide, [.int i tk, v], .cons ⟨_, rfl⟩ (.cons ru .nil), ⟨_, hT2, rfl, _, rfl⟩⟩
    have I1 : Inv X pins σ (upd H s.heap.objs.size (.tup [.int (i : Nat), x])) { s with heap := h'', toks := tk + 1 } :=
      I.turnedNew (ch := [e, it]) (fun b ob hb q => (sb.2 b (fun z => hb (by simp [z]))).trans (hk b ob (fun z => hb (by simp [z])) (fun z => hb (by simp [z])) q)) hf (Nat.le_refl _) new
    refine ⟨.ref s.heap.objs.size, _, I1, rfl, ⟨_, _, rfl, I.hok.fresh (Nat.le_refl _), rfl, hx⟩, ⟨⟨v, ?_⟩, ?_, hne⟩, fun b hb => ?_⟩
    · have e1 : ((i + 1 : Nat) : Int) = (i : Int) + 1 := by omega
      rw [e1]; exact he'
    · exact hit'.1.at fun o q => (sb.2 it (Ne.symm hne)).trans q
    · have hb' : b < s.heap.objs.size := by
        have e' : b = e ∨ b = it := by simpa using hb
        rcases e' with z | z
        · rw [z]; exact hel
        · rw [z]; exact hil
      rw [upd_ne (Nat.ne_of_lt hb')]
      exact (hf b hb).1
  done := by
    intro X hP hw hK hc i pins s σ H E I hf st hg
    subst hP hw hK
    obtain ⟨⟨old, he⟩, hit, hne⟩ := st
    obtain ⟨rfl, hq⟩ := hg
    obtain ⟨its, rv, p, hz⟩ := I.tuple hq
    have hia : a ≠ it := by
      rintro rfl
      obtain ⟨o, q1, q2, _⟩ := id p
      obtain ⟨o', q3, q4, _⟩ := id hit
      rw [q1] at q3
      cases q3
      rw [q2] at q4
      exact absurd q4 (by decide)
    have hl : its.toArray.size = xs.length := by rw [List.size_toArray]; exact rv.length.symm
    obtain ⟨f0, f1, f2, f3, f4, f5⟩ := hf it (by simp)
    exact wpAny_pyNext_enum_endD (Draws.tuple (A := X.A.in1) (I.ok.hd hc) it a hia its.toArray) he ⟨by rw [hl]; exact hit, p⟩ fun h' eb => ⟨rfl, I.turned (t' := s.toks) (fun b o hb q => eb b o hb q) f0 f1 f3 f4 f5⟩
  self := fun A i s Q E st h => let ⟨⟨_, he⟩, _⟩ := st; wpAny_pyIter_enum he h
def iEnumA (K : PySem.W.Frag) (ta : TA) : TI := fun σ H R => ta σ H fun vs H1 => (∃ a xs, vs = [.ref a] ∧ SqT K H1 a xs ∧ R (IteD xs.length (fun H => SqT K H a xs) (fun i _ x => xs[i]? = some x)) H1) ∨ (∃ z, vs = [.str z] ∧ R (IteD z.cps.size (fun _ => True) (fun i _ x => ∃ c, z.cps[i]? = some c ∧ x = .str ⟨#[c]⟩)) H1) ∨ ∃ a xs, vs = [.ref a] ∧ SqL K H1 a xs ∧ R (Ite K a) H1
theorem pi_enumA {X : Cx} {e : Expr} {ta : TA} {p pos tpos : Pos} {elts : List Expr} {kk : Nat} (hg : Gl X "enumerate") (hm : X.mg "enumerate" = none) (ha : PA X [e] ta) (hs : starEach [e] X.env = [(false, eval e X.env)] := by rfl) :
    PI X (.Tuple elts kk tpos) (.Call (.Name "enumerate" p) [e] [] pos) (iEnumA X.K ta) := by
  refine ⟨fun pins s σ H R I h => ?_⟩
  refine Call_ (ld_blt I hg hm boot_enumerate (PyProof.Rows.callWith_type1 (thn (ha.run pos pins s σ H _ I h) fun us s1 ⟨vs, H1, I1, r1, q1⟩ => ?_) hs rfl))
  have fin : ∀ b, b ∈ [s1.heap.objs.size + 1, s1.heap.objs.size] → FpOk X pins H1 b := fun b hb => by
    have e' : b = s1.heap.objs.size + 1 ∨ b = s1.heap.objs.size := by simpa using hb
    have hle : s1.heap.objs.size ≤ b := by
      rcases e' with z | z
      · rw [z]; exact Nat.le_add_right _ _
      · rw [z]; exact Nat.le_refl _
    exact I1.fpOk hle (I1.hok.fresh hle)
  rcases q1 with ⟨a, xs, ex, hq, q⟩ | ⟨z, ex, q⟩ | ⟨a, xs, ex, hq, q⟩
  · subst ex
    cases r1 with
    | cons r rr =>
      cases rr
      cases r
      obtain ⟨its, rv, p', hz⟩ := I1.tuple hq
      refine call_enum1 (begins_tuple a its.toArray) p' fun h' he hit hsz hk => wpAny_pyIter_enum he ?_
      have I2 : Inv X pins σ H1 { s1 with heap := h' } := I1.kept (t' := s1.toks) hk
      exact ⟨s1.heap.objs.size + 1, [s1.heap.objs.size + 1, s1.heap.objs.size], _, _, H1, rfl, I2, turn_enumT (s1.heap.objs.size + 1) s1.heap.objs.size a xs, ⟨⟨.none, he⟩, ⟨_, hit, rfl, rfl⟩, Nat.succ_ne_self _⟩, fin, q⟩
  · subst ex
    cases r1 with
    | cons r rr =>
      cases rr
      obtain ⟨t, rfl⟩ := r
      refine call_enum1 (begins_text z t) trivial fun h' he hit hsz hk => wpAny_pyIter_enum he ?_
      have I2 : Inv X pins σ H1 { s1 with heap := h' } := I1.kept (t' := s1.toks) hk
      exact ⟨s1.heap.objs.size + 1, [s1.heap.objs.size + 1, s1.heap.objs.size], _, _, H1, rfl, I2, turn_enumS (s1.heap.objs.size + 1) s1.heap.objs.size z t, ⟨⟨.none, he⟩, ⟨_, hit, rfl, rfl⟩, Nat.succ_ne_self _⟩, fin, q⟩
  · subst ex
    cases r1 with
    | cons r rr =>
      cases rr
      cases r
      obtain ⟨its, rv, p', hz⟩ := I1.list hq
      refine call_enumerate_list p'.isList fun h' he hit hsz hk => wpAny_pyIter_enum he ?_
      have I2 : Inv X pins σ H1 { s1 with heap := h' } := I1.kept (t' := s1.toks) hk
      exact ⟨s1.heap.objs.size + 1, [s1.heap.objs.size + 1, s1.heap.objs.size], _, _, H1, rfl, I2, turn_enum a (s1.heap.objs.size + 1) s1.heap.objs.size, ⟨⟨.none, he⟩, hit, Nat.succ_ne_self _⟩, fin, q⟩
section
variable {r : Addr} {X : Cx} {K : PySem.W.Frag} {mg : Str → Option Value} {O : List Nat} {E : XK} {e : Expr} {ts : TA}
def numD (xs : List D) : List D := xs.mapIdx fun i x => .tup [.int (i : Int), x]
def enumD : List D → Option (List D)
  | [d] => (seqD d).map numD
  | _ => none
theorem numD_len (xs : List D) : (numD xs).length = xs.length := by unfold numD; simp
theorem numD_get {xs : List D} {i : Nat} {x : D} (h : xs[i]? = some x) : (numD xs)[i]? = some (.tup [.int (i : Int), x]) := by
  unfold numD; rw [List.getElem?_mapIdx, h]; rfl
theorem walks_pair {J : It} {Hs1 : Hp} {ds : List D} {Gd : Hp → Prop} {Y : Nat → Hp → V → Hp → Prop} (wk : Walk J ds.length Gd Y) (hG : ∀ Hs H, Same Hs1 Hs → Same Hs H → Gd H)
    (hY : ∀ i Hs H v H', i < ds.length → Same Hs1 Hs → Same Hs H → Y i H v H' → ∃ T x d, v = .ref T ∧ H T = none ∧ H' = upd H T (.tup [.int (i : Nat), x]) ∧ ds[i]? = some d ∧ RepD K mg r Hs x d) : WalksD K mg r J Hs1 (numD ds) := by
  refine ⟨Gd, Y, by rw [numD_len]; exact wk, hG, fun i Hs H tp v H' hi e w y => ?_⟩
  rw [numD_len] at hi
  obtain ⟨T, x, d, rfl, hT, rfl, hd, hx⟩ := hY i Hs H v H' hi e w.sub y
  obtain ⟨g', w'⟩ := w.alloc (o := .tup [.int (i : Nat), x]) hT
  exact ⟨_, _, g', w', numD_get hd, .tup upd_same (.cons (.int _) (.cons (hx.mono g'.ex) .nil))⟩
theorem enumD_ok {ds items : List D} (h : enumD ds = some items) : ∃ d xs, ds = [d] ∧ seqD d = some xs ∧ items = numD xs := by
  match ds, h with
  | [d], h =>
    obtain ⟨xs, h1, h2⟩ := Option.map_eq_some_iff.mp h
    exact ⟨d, xs, rfl, h1, h2.symm⟩
theorem gi_enum {p tpos : Pos} {pos : Pos} {elts : List Expr} {kk : Nat} {m : SE (List D)} (hm : X.mg "enumerate" = none) (h : GA K mg r X O E [e] ts m) (hg : Gl X "enumerate" := by rfl) (hs : starEach [e] X.env = [(false, eval e X.env)] := by rfl) (hK : X.K = K := by rfl) :
    GI K mg r X O E (.Tuple elts kk tpos) (.Call (.Name "enumerate" p) [e] [] pos) (iEnumA K ts) (rangeI enumD m) := by
  subst hK
  refine ⟨pi_enumA hg hm h.pe hs, fun Hs0 H0 Hs H σ env tp Q R P => ?_⟩
  refine h.snd _ _ _ _ _ _ _ _ R (Post.bind P fun vs Hs1 H1 ds tp1 _ g w rv P1 => ?_)
  obtain ⟨items, hz, k⟩ := Post.ok_of P1
  obtain ⟨d, xs, rfl, h1, rfl⟩ := enumD_ok hz
  cases rv with
  | cons rx rr =>
    cases rr
    cases d with
    | lst ys =>
      cases h1
      cases rx with
      | lst q1 q2 =>
        rename_i a vs
        refine .inr (.inr ⟨a, vs, rfl, .of (w.sub _ _ q1).lst, k _ Hs1 H1 (Grow.refl _ _) w ?_⟩)
        refine walks_pair (Gd := fun H => SqL X.K H a vs) (Y := fun i H v H' => ∃ T x, v = .ref T ∧ H T = none ∧ H' = upd H T (.tup [.int (i : Nat), x]) ∧ vs[i]? = some x) ?_ (fun Hs H e1 e2 => (e1.trans e2).seq (.of q1)) fun i Hs H v H' hi e e2 y => ?_
        · rw [← q2.length]
          exact ⟨fun i H hi q => ⟨vs, vs[i], q, List.getElem?_eq_getElem hi⟩, fun H q => ⟨vs, q, Nat.le_refl _⟩, fun i H x H' hi q y => by
            obtain ⟨T, z, h1, h2, h3, h4⟩ := y
            exact ⟨T, z, h1, h2, h3, h4 vs q⟩⟩
        · obtain ⟨T, x, h1, h2, h3, h4⟩ := y
          obtain ⟨d, h5, h6⟩ := q2.get h4
          exact ⟨T, x, d, h1, h2, h3, h5, h6.mono e⟩
    | tup ys =>
      cases h1
      cases rx with
      | tupR q1 q2 =>
        rename_i a vs
        refine .inl ⟨a, vs, rfl, .inl (Same.rd w.sub q1), k _ Hs1 H1 (Grow.refl _ _) w ?_⟩
        refine walks_pair (Gd := fun H => SqT X.K H a vs) (Y := fun i H v H' => ∃ T x, v = .ref T ∧ H T = none ∧ H' = upd H T (.tup [.int (i : Nat), x]) ∧ vs[i]? = some x) ?_ (fun Hs H e1 e2 => (e1.trans e2).sqt (.inl q1)) fun i Hs H v H' hi e e2 y => ?_
        · rw [← q2.length]
          exact ⟨fun i H hi q => ⟨hi, q⟩, fun H q => ⟨rfl, q⟩, fun i H x H' hi q y => y⟩
        · obtain ⟨T, x, h1, h2, h3, h4⟩ := y
          obtain ⟨d, h5, h6⟩ := q2.get h4
          exact ⟨T, x, d, h1, h2, h3, h5, h6.mono e⟩
    | scr ns =>
      cases h1
      cases rx with
      | scr q1 =>
        rename_i a
        refine .inr (.inr ⟨a, ns.map V.int, rfl, Same.seq w.sub q1, k _ Hs1 H1 (Grow.refl _ _) w ?_⟩)
        refine walks_pair (Gd := fun H => SqL X.K H a (ns.map V.int)) (Y := fun i H v H' => ∃ T x, v = .ref T ∧ H T = none ∧ H' = upd H T (.tup [.int (i : Nat), x]) ∧ (ns.map V.int)[i]? = some x) ?_ (fun Hs H e1 e2 => Same.seq e2 (Same.seq e1 q1)) fun i Hs H v H' hi e e2 y => ?_
        · rw [List.length_map]
          exact ⟨fun i H hi q => ⟨ns.map V.int, .int ns[i], q, by rw [List.getElem?_map, List.getElem?_eq_getElem hi]; rfl⟩, fun H q => ⟨ns.map V.int, q, by rw [List.length_map]; exact Nat.le_refl _⟩, fun i H x H' hi q y => by
            obtain ⟨T, z, h1, h2, h3, h4⟩ := y
            exact ⟨T, z, h1, h2, h3, h4 _ q⟩⟩
        · obtain ⟨T, x, h1, h2, h3, h4⟩ := y
          rw [List.getElem?_map] at h4
          obtain ⟨n, h5, rfl⟩ := Option.map_eq_some_iff.mp h4
          exact ⟨T, _, .int n, h1, h2, h3, by rw [List.getElem?_map, h5]; rfl, .int _⟩
    | str s =>
      cases h1
      cases rx
      refine .inr (.inl ⟨s, rfl, k _ Hs1 H1 (Grow.refl _ _) w ?_⟩)
      refine walks_pair (Gd := fun _ => True) (Y := fun i H v H' => ∃ T x, v = .ref T ∧ H T = none ∧ H' = upd H T (.tup [.int (i : Nat), x]) ∧ ∃ c, s.cps[i]? = some c ∧ x = .str ⟨#[c]⟩) ?_ (fun _ _ _ _ => trivial) fun i Hs H v H' hi e e2 y => ?_
      · rw [List.length_map, Array.length_toList]
        exact ⟨fun _ _ hi _ => ⟨hi, trivial⟩, fun _ _ => ⟨rfl, trivial⟩, fun _ _ _ _ _ _ y => y⟩
      · obtain ⟨T, x, rfl, hT, rfl, c, hc, rfl⟩ := y
        exact ⟨T, _, .str ⟨#[c]⟩, rfl, hT, rfl, by rw [List.getElem?_map, Array.getElem?_toList, hc]; rfl, .str _⟩
    | _ => cases h1
end
end G
set_option maxHeartbeats 1000000
namespace SrtT
open PySem PySem.Spec PyProof.Rows SrtO
section
variable {prog : Program} {w : World} {A : Around} {E : Value → Shared → Prop} {s : Shared}
theorem collect_tuple {l : Addr} {vs : List Value} {Q : List Value → Shared → Prop} (hl : s.heap.IsTuple l vs.toArray)
    (h : Q vs { s with heap := (s.heap.push (seqObj "list" #[] 0)).update s.heap.objs.size (Obj.mapSeq (· ++ vs.toArray)) }) (hsz : vs.length ≤ sizeLine) :
    wpAny (model prog w) A (collect (.ref l)) Q E s := by
  obtain ⟨o, ho, hc, n, hd⟩ := id hl
  unfold collect
  refine wpAny_bind (wpAny_runValue (codeAny_builtin entry_proto_collect' ?_))
  show wpAny _ _ (do again (.builtin "list.__iadd__" ⟨[← newList [], .ref l], []⟩)) _ _ s
  refine wpAny_bind (wpAny_newList (wpAny_pure ⟨Code.quiet_builtin _ (by decide +kernel), codeAny_builtin entry_list_iadd' ?_⟩))
  show wpAny _ _ (Builtin.List.listExtendWith (.ref s.heap.objs.size) (.ref l) (.ref s.heap.objs.size)) _ _ { s with heap := s.heap.push (seqObj "list" #[] 0) }
  unfold Builtin.List.listExtendWith
  have ho' : (s.heap.push (seqObj "list" #[] 0)).get? l = some o := Heap.get?_push_of_some _ ho
  refine wpAny_bind (wpAny_typeOf (T := "tuple") ⟨o, ho', hc⟩ ?_)
  have ht : (Value.type "tuple" == Value.type "tuple") = true := by rfl
  rw [if_pos (by rw [ht]; simp)]
  refine wpAny_bind (listItems_at ho' hd ?_)
  refine wpAny_bind (listItems_at (xs := #[]) (n := 0) (Heap.get?_push_size _ rfl) rfl ?_)
  rw [if_neg (by simp)]
  refine wpAny_bind (listUpdate_at (xs := #[]) (n := 0) (Heap.get?_push_size _ rfl) rfl ?_ (Nat.zero_le _) (by show (#[] ++ vs.toArray).size ≤ sizeLine + 1; simp only [Array.size_append, List.size_toArray, List.length_nil]; omega))
  refine wpAny_pure ?_
  show wpAny (model prog w) A (do
      let o ← load s.heap.objs.size
      match o.data with
      | .seq xs _ => pure xs.toList
      | _ => unsupported "internal:collect") Q E { s with heap := (s.heap.push (seqObj "list" #[] 0)).update s.heap.objs.size (Obj.mapSeq (· ++ vs.toArray)) }
  refine wpAny_bind (wpAny_load (get?_update_seq (Heap.get?_push_size _ rfl) _) ?_)
  show wpAny _ _ (pure ((#[] : Array Value) ++ vs.toArray).toList) Q E _
  rw [show ((#[] : Array Value) ++ vs.toArray).toList = vs by simp]
  exact wpAny_pure h
theorem sorted_ordT {l : Addr} {vs : List Value} {ltv : Value → Value → Bool} {Q : Value → Shared → Prop} (O : Swo ltv) (hl : s.heap.IsTuple l vs.toArray) (hz : vs.length ≤ sizeLine)
    (hS : 2 ≤ vs.length → ∀ (h₁ : Heap) (a : Addr), h₁.get? a = some (seqObj "list" vs.toArray 0) → (∀ b o, s.heap.get? b = some o → b ≠ a ∧ h₁.get? b = some o) → SortableO prog w A.in1.in1 { s with heap := h₁ } a vs ltv)
    (h : ∀ out : List Value, Srtd ltv out → Stb ltv out vs → Q (.ref (s.heap.objs.size + 1)) { s with heap := sortedAll s.heap vs out.toArray }) :
    wpAny (model prog w) A (call (.builtin "sorted") [.ref l]) Q E s := by
  refine Calls.call_function_entry kind_sorted plain_sorted entry_sorted (args_sorted1 _) ?_
  unfold Builtin.«sorted»
  refine wpAny_bind (m := checkCount "sorted" 1 1 _) (wpAny_pure ?_)
  refine wpAny_bind (collect_tuple hl ?_ hz)
  refine wpAny_bind (wpAny_newList ?_ hz)
  have hsz : ((s.heap.push (seqObj "list" #[] 0)).update s.heap.objs.size (Obj.mapSeq (· ++ vs.toArray))).objs.size = s.heap.objs.size + 1 := by
    rw [Heap.size_update, size_push']
  have hoL : (((s.heap.push (seqObj "list" #[] 0)).update s.heap.objs.size (Obj.mapSeq (· ++ vs.toArray))).push (seqObj "list" vs.toArray 0)).get? (s.heap.objs.size + 1) = some (seqObj "list" vs.toArray 0) := by
    rw [← hsz]; exact Heap.get?_push_size _ rfl
  have keep : ∀ b o, s.heap.get? b = some o → b ≠ s.heap.objs.size + 1 ∧ (((s.heap.push (seqObj "list" #[] 0)).update s.heap.objs.size (Obj.mapSeq (· ++ vs.toArray))).push (seqObj "list" vs.toArray 0)).get? b = some o := fun b o q => by
    have hlt : b < s.heap.objs.size := Heap.lt_size q
    refine ⟨Nat.ne_of_lt (Nat.lt_succ_of_lt hlt), Heap.get?_push_of_some _ ?_⟩
    rw [Heap.get?_update_ne _ _ _ _ (Nat.ne_of_lt hlt)]
    exact Heap.get?_push_of_some _ q
  show wpAny _ _ _ _ _ { s with heap := ((s.heap.push (seqObj "list" #[] 0)).update s.heap.objs.size (Obj.mapSeq (· ++ vs.toArray))).push (seqObj "list" vs.toArray 0) }
  rw [hsz]
  refine wpAny_bind (wpAny_holding (wpAny_call_entry slot_list_sort ⟨_, hoL, rfl⟩ entry_list_sort (list_sort_ord O hoL hz (fun h2 => hS h2 _ _ hoL keep) fun out hs hb => ⟨_, rfl, ?_⟩) (args_list_sort _)))
  exact wpAny_pure ⟨_, rfl, h out hs hb⟩
end
end SrtT
namespace G
open PySem PySem.Spec PyProof.Rows L2
def rSortedA (K : PySem.W.Frag) : List V → Hp → VK → Prop := fun vs H Q => ∃ (a : Addr) (ns : List Int), vs = [V.ref a] ∧ SqT K H a (ns.map V.int) ∧
  ∀ (ns' : List Int) (p : Addr), ns'.Perm ns → ns'.Pairwise (· ≤ ·) → H p = none → Q (.ref p) (upd H p (.lst (ns'.map V.int)))
theorem cr_sortedA {X : Cx} : CallR X (.builtin "sorted") (rSortedA X.K) := by
  intro pins s σ H vs us Q I r h
  obtain ⟨a, ns, rfl, hs, q⟩ := h
  obtain ⟨its, rv, hl, hz⟩ := I.tuple hs
  rw [Vals.ref1 r]
  have hi := rv.ints
  refine SrtT.sorted_ordT SrtO.swo_int hl (by rw [← rv.length]; exact hz) (fun h2 h₁ a' _ _ => SrtO.ints_sortable hi h2) fun out h1 h2 => ?_
  obtain ⟨k1, k2, k3⟩ := SrtO.ints_out hi h1 h2
  obtain ⟨ep, he'⟩ := PyProof.Rows.sortedAll_at s.heap its out.toArray
  have hlen : ((out.map SrtO.iv).map V.int).length ≤ sizeLine := by
    rw [List.length_map, k2.length_eq]
    rw [List.length_map] at hz
    exact hz
  exact ⟨.ref _, upd H (s.heap.objs.size + 1) (.lst ((out.map SrtO.iv).map V.int)), I.laid (t' := s.toks) (fun _ _ => PyProof.Rows.sortedAll_old) (Nat.le_succ _) ⟨hlen, out, ep, vals_of_ints k1, he'⟩, rfl, q _ _ k2 k3 (I.hok.fresh (Nat.le_succ _))⟩
theorem crr_or {X : Cx} {f : Value} {r1 r2 : List V → Hp → VK → Prop} (h1 : CallR X f r1) (h2 : CallR X f r2) : CallR X f (fun vs H Q => r1 vs H Q ∨ r2 vs H Q) := by
  intro pins s σ H vs us Q I r h
  rcases h with h | h
  · exact h1 pins s σ H vs us Q I r h
  · exact h2 pins s σ H vs us Q I r h
abbrev rSortedB (K : PySem.W.Frag) : List V → Hp → VK → Prop := fun vs H Q => rSortedI K vs H Q ∨ rSortedA K vs H Q
/-- ints in order -/
def insI (x : Int) : List Int → List Int
  | [] => [x]
  | y :: ys => if x ≤ y then x :: y :: ys else y :: insI x ys
def sortI : List Int → List Int
  | [] => []
  | x :: xs => insI x (sortI xs)
theorem insI_perm (x : Int) : ∀ ys, (insI x ys).Perm (x :: ys)
  | [] => .refl _
  | y :: ys => by
    unfold insI
    split
    · exact .refl _
    · exact ((insI_perm x ys).cons y).trans (.swap _ _ _)
theorem sortI_perm : ∀ xs, (sortI xs).Perm xs
  | [] => .refl _
  | x :: xs => (insI_perm x _).trans ((sortI_perm xs).cons x)
theorem insI_sorted (x : Int) : ∀ {ys : List Int}, ys.Pairwise (· ≤ ·) → (insI x ys).Pairwise (· ≤ ·)
  | [], _ => List.pairwise_singleton _ _
  | y :: ys, h => by
    unfold insI
    have h' := List.pairwise_cons.mp h
    split
    · rename_i c
      exact List.pairwise_cons.mpr ⟨fun z hz => (List.mem_cons.mp hz).elim (fun e => e ▸ c) (fun q => Int.le_trans c (h'.1 z q)), h⟩
    · rename_i c
      refine List.pairwise_cons.mpr ⟨fun z hz => ?_, insI_sorted x h'.2⟩
      rcases List.mem_cons.mp ((insI_perm x ys).mem_iff.mp hz) with e | q
      · subst e; omega
      · exact h'.1 z q
theorem sortI_sorted : ∀ xs, (sortI xs).Pairwise (· ≤ ·)
  | [] => .nil
  | x :: xs => insI_sorted x (sortI_sorted xs)
theorem sorted_unique : ∀ {xs ys : List Int}, xs.Perm ys → xs.Pairwise (· ≤ ·) → ys.Pairwise (· ≤ ·) → xs = ys
  | [], ys, p, _, _ => p.nil_eq
  | x :: xs, [], p, _, _ => absurd p.symm.nil_eq (by simp)
  | x :: xs, y :: ys, p, h1, h2 => by
    have h1' := List.pairwise_cons.mp h1
    have h2' := List.pairwise_cons.mp h2
    have e : x = y := by
      have a : x ∈ y :: ys := p.mem_iff.mp List.mem_cons_self
      have b : y ∈ x :: xs := p.mem_iff.mpr List.mem_cons_self
      rcases List.mem_cons.mp a with e | a
      · exact e
      rcases List.mem_cons.mp b with e | b
      · exact e.symm
      have := h1'.1 y b
      have := h2'.1 x a
      omega
    subst e
    rw [sorted_unique (List.Perm.cons_inv p) h1'.2 h2'.2]
section
variable {r : Addr} {X : Cx} {K : PySem.W.Frag} {mg : Str → Option Value} {O : List Nat} {E : XK} {e a : Expr} {ts : TA} {ta : TE} {p pos : Pos} {ms : SE (List D)} {ma : SE D}
def sortD : List D → Option D
  | [.lst xs] => (unI xs).map fun ns => .lst ((sortI ns).map .int)
  | [.scr ns] => some (.lst ((sortI ns).map .int))
  | [.tup xs] => (unI xs).map fun ns => .lst ((sortI ns).map .int)
  | _ => none
theorem gf_sorted (hm : X.mg "sorted" = none) (ha : GAO K mg r X O E [e] ts ms) (hg : Gl X "sorted" := by rfl) (he : starEach [e] X.env = (false, eval e X.env) :: starEach [] X.env := by rfl) (hpl : (backTo pos (starEach [] X.env)).any (·.1) = false := by rfl) (hK : X.K = K := by rfl) : GF K mg r X O E (.Call (.Name "sorted" p) [e] [] pos) (tCB (rSortedB K) ts) (callB sortD ms) := by
  subst hK
  refine ⟨pe_callB (r := rSortedB X.K) (crr_or cr_sortedI cr_sortedA) hg hm boot_sorted ha.pe (by decide) (by decide) he hpl, fun Hs0 H0 Hs H σ env tp Q Rl P => ?_⟩
  refine ha.snd _ _ _ _ _ _ _ _ Rl ?_
  unfold callB at P
  cases q : ms env tp with
  | stuck => rw [q] at P; exact P
  | exn cc fs tp1 => rw [q] at P; exact P
  | ok ds tp1 =>
    rw [q] at P
    intro xs Hs1 H1 g w rx
    obtain ⟨z, hz, k⟩ := Post.ok_of (show Post X.K mg r (Fresh X.K mg r H) E Hs H (RE.of (sortD ds) tp1) Q from P)
    unfold sortD at hz
    split at hz
    · obtain ⟨ns, h1, h2⟩ := Option.map_eq_some_iff.mp hz
      subst h2
      obtain ⟨x, rfl, h⟩ := paired1 rx
      rw [unI_ok h1] at h
      obtain ⟨p, rfl, h3⟩ := lst_typed RepDs.ints_of w h
      refine .inl ⟨p, ns, rfl, .of h3, fun ns' q hp hs hq => ?_⟩
      have e : ns' = sortI ns := sorted_unique (hp.trans (sortI_perm ns).symm) hs (sortI_sorted ns)
      subst e
      obtain ⟨a, b, c⟩ := fresh_new (o := .lst ((sortI ns).map V.int)) (d := .lst ((sortI ns).map D.int)) g w hq ⟨_, upd_same, RepDs.ints _⟩
      exact k _ _ _ a b c
    · cases hz
      rename_i ns
      obtain ⟨x, rfl, h⟩ := paired1 rx
      obtain ⟨p, rfl, h3⟩ := repT_scr w h
      refine .inl ⟨p, ns, rfl, h3, fun ns' q hp hs hq => ?_⟩
      have e : ns' = sortI ns := sorted_unique (hp.trans (sortI_perm ns).symm) hs (sortI_sorted ns)
      subst e
      obtain ⟨a, b, c⟩ := fresh_new (o := .lst ((sortI ns).map V.int)) (d := .lst ((sortI ns).map D.int)) g w hq ⟨_, upd_same, RepDs.ints _⟩
      exact k _ _ _ a b c
    · obtain ⟨ns, h1, h2⟩ := Option.map_eq_some_iff.mp hz
      subst h2
      obtain ⟨x, rfl, h⟩ := paired1 rx
      rw [unI_ok h1] at h
      obtain ⟨p, vs, rfl, h0, h3, h4⟩ := repT_tup w h
      rw [RepDs.ints_of h4] at h3
      refine .inr ⟨p, ns, rfl, .inl h3, fun ns' q hp hs hq => ?_⟩
      have e : ns' = sortI ns := sorted_unique (hp.trans (sortI_perm ns).symm) hs (sortI_sorted ns)
      subst e
      obtain ⟨a, b, c⟩ := fresh_new (o := .lst ((sortI ns).map V.int)) (d := .lst ((sortI ns).map D.int)) g w hq ⟨_, upd_same, RepDs.ints _⟩
      exact k _ _ _ a b c
    · cases hz
def revD : D → Option D
  | .lst xs => some (.lst xs.reverse)
  | _ => none
def revE (m : SE D) : SE D := fun env tp => (m env tp).bind fun d tp1 => RE.of (revD d) tp1
theorem RepDs.rev {Hs : Hp} {vs : List V} {ds : List D} (h : RepDs K mg r Hs vs ds) : RepDs K mg r Hs vs.reverse ds.reverse := by
  induction vs generalizing ds with
  | nil => cases h; exact .nil
  | cons v vs ih =>
    cases h with
    | cons h1 h2 =>
      rw [List.reverse_cons, List.reverse_cons]
      exact (ih h2).append (.cons h1 .nil)
theorem gf_rev {k : Nat} {p1 p2 p3 : Pos} (ha : GO K mg r X O E a ta ma) (hK : X.K = K := by rfl) : GF K mg r X O E (.Subscript a (.Slice none none (some (.UnaryOp .USub (.Constant (.int 1) k p1) p2)) p3) pos) (tRevL K ta) (revE ma) := by
  subst hK
  refine ⟨pe_revL ha.pe, fun Hs0 H0 Hs H σ env tp Q Rl P => ?_⟩
  refine ha.snd _ _ _ _ _ _ _ _ Rl ?_
  unfold revE at P
  cases q : ma env tp with
  | stuck => rw [q] at P; exact P
  | exn cc fs tp1 => rw [q] at P; exact P
  | ok d tp1 =>
    rw [q] at P
    intro x Hs1 H1 g w rx
    obtain ⟨z, hz, k⟩ := Post.ok_of (show Post X.K mg r (Fresh X.K mg r H) E Hs H (RE.of (revD d) tp1) Q from P)
    unfold revD at hz
    split at hz
    · cases hz
      obtain ⟨p, vs, rfl, h1, h2⟩ := repT_lst w rx
      refine ⟨p, vs, rfl, .of h1, fun q hq => ?_⟩
      obtain ⟨a, b, c⟩ := fresh_new (o := .lst vs.reverse) (d := .lst _) g w hq ⟨_, upd_same, RepDs.rev h2⟩
      exact k _ _ _ a b c
    · cases hz
end
end G
set_option maxHeartbeats 1000000
namespace G
open PySem PySem.Spec PyProof.Rows L2
section
variable {r : Addr} {X : Cx} {K : PySem.W.Frag} {mg : Str → Option Value} {O : List Nat} {E : XK} {e e2 a b : Expr} {ts : TA} {ta tb : TE} {p pos : Pos} {ms : SE (List D)}
def absD : List D → Option D
  | [.int i] => some (.int (if i < 0 then -i else i))
  | _ => none
abbrev rAbs : List V → Hp → VK → Prop := fun xs H Q => ∃ i, xs = [.int i] ∧ Q (.int (if i < 0 then -i else i)) H
theorem cs_abs : CallS K mg r rAbs absD := by
  intro Hs H tp xs ds z Q w rx hz k
  unfold absD at hz
  split at hz
  · cases hz
    obtain ⟨x, rfl, h⟩ := paired1 rx
    exact ⟨_, by rw [repT_int h], k _ _ _ (Grow.refl _ _) w (.int _)⟩
  · cases hz
theorem ge_abs (hm : X.mg "abs" = none) (ha : GAO K mg r X O E [e] ts ms) (hg : Gl X "abs" := by rfl) (he : starEach [e] X.env = (false, eval e X.env) :: starEach [] X.env := by rfl) (hpl : (backTo pos (starEach [] X.env)).any (·.1) = false := by rfl) : GE K mg r X O E (.Call (.Name "abs" p) [e] [] pos) (tCB rAbs ts) (callB absD ms) :=
  ge_callB call_abs cs_abs hm ha hg (by decide +kernel) (by decide) (by decide) he hpl
end
end G
set_option maxHeartbeats 1000000
namespace G
open PySem PySem.Spec PyProof.Rows L2
section
variable {r : Addr} {X : Cx} {K : PySem.W.Frag} {mg : Str → Option Value} {O : List Nat} {E : XK} {tt tt1 : TT}
theorem setAll_get {α : Type} : ∀ (is : List Nat) (s : List (Option α)) (ws : List α) {j : Nat}, j ∉ is → (setAll s is ws)[j]? = s[j]?
  | [], s, ws, j, _ => by unfold setAll; cases ws <;> rfl
  | i :: is, s, [], j, _ => rfl
  | i :: is, s, w :: ws, j, h => by
    show (setAll (s.set i (some w)) is ws)[j]? = _
    have ne : i ≠ j := fun q => h (by rw [← q]; exact List.mem_cons_self)
    rw [setAll_get is _ ws fun q => h (List.mem_cons_of_mem _ q), List.getElem?_set_ne ne]
def augS (i : Nat) (f : D → D → Option D) (m : SE D) : SS := fun env tp => match env[i]? with
  | some (some d) => (m env tp).bindS fun e tp1 => match d, e with
    | .int _, .int _ => (match f d e with
      | some z => .nx (env.set i (some z)) tp1
      | none => .stuck)
    | _, _ => .stuck
  | _ => .stuck
theorem aug_sound {m : SE D} {e : Expr} {t : TE} {Ol : List Nat} {f : D → D → Option D} {F : Int → Int → Int} {op : Operator} {pos pos' : Pos} (i : Nat) {x : Str} (hip : PIp X op (ipI F)) (hf : ∀ a b, f (.int a) (.int b) = some (.int (F a b))) (hO : i ∉ O) (hN : X.N.Nodup) (h : GE K mg r X O E e t m) (hi : X.N[i]? = some x) (hx : Loc X.env.scope x)
    (hfn : X.fn x = true ∨ X.env.scope.names.lookup x = some .local) : GS K mg r X E O O Ol (.AugAssign (.Name x pos') op e pos) (tAug i t (ipI F)) (augS i f m) := by
  refine ⟨ps_aug hN hi hx h.pe hip hfn, fun Hs0 H0 Hs H σ env tp Dn R P => ?_⟩
  unfold augS at P
  cases q : env[i]? with
  | none => rw [q] at P; exact P.elim
  | some od =>
    cases od with
    | none => rw [q] at P; exact P.elim
    | some d =>
      rw [q] at P
      simp only at P
      obtain ⟨v, hv, rv⟩ := R.vars i d q hO
      refine ⟨v, hv, h.snd _ _ _ _ _ _ _ _ R (PostS.bind R P fun u Hs1 H1 d1 tp1 _ g w R1 ru P1 => ?_)⟩
      cases d with
      | int a =>
        cases d1 with
        | int b =>
          simp only [hf] at P1
          cases rv
          cases ru
          exact ⟨a, b, rfl, rfl, P1 _ _ _ (Same.refl _) (by
            have := R1.set i (.int (F a b))
            have eO : O.filter (· != i) = O := List.filter_eq_self.mpr fun j hj => by
              have : j ≠ i := fun z => hO (z ▸ hj)
              simpa using this
            rw [eO] at this
            exact this)⟩
        | _ => exact P1.elim
      | _ => exact P1.elim
theorem gs_augAdd {m : SE D} {e : Expr} {t : TE} {Ol : List Nat} {pos pos' : Pos} (i : Nat) {x : Str} (hN : X.N.Nodup) (h : GE K mg r X O E e t m) (hO : i ∉ O := by decide) (hi : X.N[i]? = some x := by rfl) (hx : Loc X.env.scope x := by first | exact Or.inl rfl | exact Or.inr rfl)
    (hfn : X.fn x = true ∨ X.env.scope.names.lookup x = some .local := by first | exact .inl rfl | exact .inr rfl) : GS K mg r X E O O Ol (.AugAssign (.Name x pos') .Add e pos) (tAug i t (ipI fun i j => i + j)) (augS i addD m) :=
  aug_sound i ip_add (fun _ _ => rfl) hO hN h hi hx hfn
end
end G
set_option maxHeartbeats 1000000
namespace G
open PySem PySem.Spec PyProof.Rows L2
end G
set_option maxHeartbeats 1000000
namespace Dc2
open PySem PySem.Spec PyProof.Rows L2
abbrev two (kx vx t0 i0 t1 i1 : Expr) (sc : Scope) (ps : Pos) : Expr := .DictComp kx vx [⟨t0, i0, [], 0⟩, ⟨t1, i1, [], 0⟩] sc ps
theorem outTurn (kx vx t0 i0 t1 i1 : Expr) (sc : Scope) (ps : Pos) (it acc : Value) (en : Env) : compTurn (two kx vx t0 i0 t1 i1 sc ps) 0 it acc en = (do
    standAt i0.pos
    let nx ← pyNext it
    match nx with
    | none => pure (.done .next)
    | some u =>
      letOwnedTupleGo t0 it u
      assign t0 en u
      let a ← eval i1 en
      standAt i1.pos
      let b ← foldedSetIterable i1 en a
      let j ← holding [b] (pyIter b)
      let _ ← runOwn (.compStart (two kx vx t0 i0 t1 i1 sc ps) 1 j acc en) en
      again (.compLoop (two kx vx t0 i0 t1 i1 sc ps) 0 it acc en)) := by rfl
theorem inTurn (kx vx t0 i0 t1 i1 : Expr) (sc : Scope) (ps : Pos) (it : Value) (D : Addr) (en : Env) : compTurn (two kx vx t0 i0 t1 i1 sc ps) 1 it (.ref D) en = (do
    standAt i1.pos
    let nx ← pyNext it
    match nx with
    | none => pure (.done .next)
    | some u =>
      letOwnedTupleGo t1 it u
      assign t1 en u
      (do
        let a ← eval kx en
        let b ← holding [a] (eval vx en)
        standAt { kx.pos with endLine := vx.pos.endLine, endCol := vx.pos.endCol }
        holding [a, b] (dictSet D a b))
      again (.compLoop (two kx vx t0 i0 t1 i1 sc ps) 1 it (.ref D) en)) := by rfl
section
variable {P : Program} {w : World} {A : Around} {R : Result → Shared → Prop} {s : Shared} {kx vx t0 i0 t1 i1 : Expr} {sc : Scope} {ps : Pos} {it acc : Value} {en : Env}
/-- what is wanted if something is raised within -/
abbrev bad (P : Program) (w : World) (A : Around) (en : Env) (R : Result → Shared → Prop) : Value → Shared → Prop := notedBy (model P w) A en fun x z => R (.error x) z
theorem outLoop (hf : ∀ x, foldedSetIterable i1 en x = pure x) (J : Nat → Shared → Prop)
    (step : ∀ n z, J n z → wpAny (model P w) A (pyNext it) (fun nx z1 => match nx with
      | none => R (.ok .next) z1
      | some u => wpAny (model P w) A (letOwnedTupleGo t0 it u) (fun _ z2 => wpAny (model P w) A (assign t0 en u) (fun _ z3 => wpAny (model P w) A (eval i1 en) (fun a z4 => wpAny (model P w) A (pyIter a) (fun j z5 =>
          codeAny (model P w) A (.compStart (two kx vx t0 i0 t1 i1 sc ps) 1 j acc en) (fun e z6 => match e with
            | .ok _ => ∃ k, k < n ∧ J k z6
            | .error _ => False) z5) (bad P w A en R) z4) (bad P w A en R) z3) (bad P w A en R) z2) (bad P w A en R) z1) (bad P w A en R) z)
    (n : Nat) (h : J n s) : codeAny (model P w) A (.compLoop (two kx vx t0 i0 t1 i1 sc ps) 0 it acc en) R s := by
  refine codeAny_loop rfl J (fun n z hJ => ?_) n h
  show wpAny _ A ((compTurn (two kx vx t0 i0 t1 i1 sc ps) 0 it acc en).onRaise fun x => do noteFrame x en; theTreesLotGoes x) _ _ z
  refine wpAny_noted ?_
  rw [outTurn]
  refine wpAny_bind (wpAny_standAt (wpAny_bind (wpAny_mono (step n z hJ) (fun nx z1 q => ?_) fun _ _ y => y)))
  cases nx with
  | none => exact wpAny_pure q
  | some u =>
    refine wpAny_bind (wpAny_mono q (fun _ z2 q2 => ?_) fun _ _ y => y)
    refine wpAny_bind (wpAny_mono q2 (fun _ z3 q3 => ?_) fun _ _ y => y)
    refine wpAny_bind (wpAny_mono q3 (fun a z4 q4 => ?_) fun _ _ y => y)
    refine wpAny_bind (wpAny_standAt (wpAny_bind (wpAny_of_eq (hf a) (wpAny_bind (wpAny_holding (wpAny_mono q4 (fun j z5 q5 => ?_) fun _ _ y => y))))))
    refine wpAny_bind (wpAny_runOwn ?_)
    rw [Around.mark_none]
    refine codeAny_mono q5 fun e z6 q6 => ?_
    cases e with
    | ok _ => first | exact wpAny_pure ⟨rfl, q6⟩ | exact wpAny_bind (wpAny_pure (wpAny_pure ⟨rfl, q6⟩))
    | error _ => exact q6.elim
theorem inLoop {D : Addr} (J : Nat → Shared → Prop)
    (step : ∀ n z, J n z → wpAny (model P w) A (pyNext it) (fun nx z1 => match nx with
      | none => R (.ok .next) z1
      | some u => wpAny (model P w) A (letOwnedTupleGo t1 it u) (fun _ z2 => wpAny (model P w) A (assign t1 en u) (fun _ z3 => wpAny (model P w) A (eval kx en) (fun a z4 => wpAny (model P w) A (eval vx en) (fun b z5 =>
          wpAny (model P w) A (dictSet D a b) (fun _ z6 => ∃ k, k < n ∧ J k z6) (bad P w A en R) z5) (bad P w A en R) z4) (bad P w A en R) z3) (bad P w A en R) z2) (bad P w A en R) z1) (bad P w A en R) z)
    (n : Nat) (h : J n s) : codeAny (model P w) A (.compLoop (two kx vx t0 i0 t1 i1 sc ps) 1 it (.ref D) en) R s := by
  refine codeAny_loop rfl J (fun n z hJ => ?_) n h
  show wpAny _ A ((compTurn (two kx vx t0 i0 t1 i1 sc ps) 1 it (.ref D) en).onRaise fun x => do noteFrame x en; theTreesLotGoes x) _ _ z
  refine wpAny_noted ?_
  rw [inTurn]
  refine wpAny_bind (wpAny_standAt (wpAny_bind (wpAny_mono (step n z hJ) (fun nx z1 q => ?_) fun _ _ y => y)))
  cases nx with
  | none => exact wpAny_pure q
  | some u =>
    refine wpAny_bind (wpAny_mono q (fun _ z2 q2 => ?_) fun _ _ y => y)
    refine wpAny_bind (wpAny_mono q2 (fun _ z3 q3 => ?_) fun _ _ y => y)
    refine wpAny_bind (wpAny_bind (wpAny_mono q3 (fun a z4 q4 => ?_) fun _ _ y => y))
    refine wpAny_bind (wpAny_holding (wpAny_mono q4 (fun b z5 q5 => ?_) fun _ _ y => y))
    exact wpAny_bind (wpAny_standAt (wpAny_holding (wpAny_mono q5 (fun _ z6 q6 => wpAny_pure ⟨rfl, q6⟩) fun _ _ y => y)))
theorem inStart (h0 : codeAny (model P w) A (.compLoop (two kx vx t0 i0 t1 i1 sc ps) 1 it acc en) R s)
    (h : wpAny (model P w) A (pyIter it) (fun j z => codeAny (model P w) A (.compLoop (two kx vx t0 i0 t1 i1 sc ps) 1 j acc en) R z) (bad P w A en R) s) :
    codeAny (model P w) A (.compStart (two kx vx t0 i0 t1 i1 sc ps) 1 it acc en) R s := by
  refine codeAny_of_tree ?_
  show wpAny _ _ ((compStart (two kx vx t0 i0 t1 i1 sc ps) 1 it acc en).onRaise fun x => do noteFrame x en; standAt theWindowsPlace) _ _ s
  refine wpAny_notedAt ?_
  unfold compStart
  show wpAny _ _ (ask >>= _) _ _ s
  refine wpAny_bind (wpAny_askSetting (wpAny_ite ?_))
  split
  · first | exact wpAny_bind (wpAny_pure (wpAny_pure ⟨rfl, h0⟩)) | exact wpAny_pure ⟨rfl, h0⟩
  · first
    | exact wpAny_bind (wpAny_rule (wpAny_bind (wpAny_standAt (wpAny_bind (wpAny_mono h (fun j z q => wpAny_pure ⟨rfl, q⟩) fun _ _ y => y)))))
    | (refine wpAny_bind (wpAny_rule ?_)
       show wpAny _ _ (standAt i1.pos >>= _) _ _ s
       exact wpAny_bind (wpAny_standAt (wpAny_bind (wpAny_mono h (fun j z q => wpAny_pure ⟨rfl, q⟩) fun _ _ y => y))))
end
end Dc2
set_option maxHeartbeats 1000000
namespace Dc2
open PySem PySem.Spec PyProof.Rows L2
def wants (wi : TI) (g : TG) (wj : TI) (k : TG) (tk tv : TE) (vs us : List Nat) : TE := fun σ H Q => wi σ H fun J H1 => ∀ D, H1 D = none → ∃ W : Nat → Nat → Hp → Prop, (∃ m, W 0 m (upd H1 D (.dK []))) ∧ ∀ i m H2, W i m H2 →
  (J.stop i H2 ∧ Q (.ref D) H2) ∨ (J.go i H2 ∧ ∃ G : Hp → Prop, (∀ H3, G H3 → ∃ m', m' < m ∧ W (i + 1) m' H3) ∧ ∀ x H3, J.yld i H2 x H3 → g x (wipe σ vs) H3 fun σ2 H4 => wipe σ2 vs = wipe σ vs ∧
    wj σ2 H4 fun Jn H5 => ∃ U : Nat → Nat → Hp → Prop, (∃ m, U 0 m H5) ∧ ∀ j l H6, U j l H6 →
      (Jn.stop j H6 ∧ G H6) ∨ (Jn.go j H6 ∧ ∃ F : Hp → Prop, (∀ H7, F H7 → ∃ l', l' < l ∧ U (j + 1) l' H7) ∧ ∀ y H7, Jn.yld j H6 y H7 → k y (wipe σ2 us) H7 fun σ3 H8 => wipe σ3 us = wipe σ2 us ∧
        tk σ3 H8 fun a H9 => tv σ3 H9 fun b H10 => ∃ (kvs : List (Key × V)) (q : Key), a = kV q ∧ H10 D = some (.dK kvs) ∧ kvs.length < sizeLine ∧ F (upd H10 D (.dK (putK kvs q b)))))
/-- the blocks' contexts -/
abbrev BX (X : Cx) (sc : Scope) (s : Shared) (H : Hp) (C : Addr) (cl : List (Str × Addr)) (fp : List Addr) : Cx := X.blk s H sc (compEnvC sc cl C X.env) fp
section
variable {X : Cx}
theorem core {pins : List (Addr × Obj)} {s : Shared} {σ : L2.St} {H : Hp} {Q : VK} {kx vx t0 i0 t1 i1 : Expr} {sc : Scope} {own : List (Str × Nat)} {us : List Nat} {ps pp : Pos} {wi wj : TI} {g k : TG} {tk tv : TE} {use : Option (Value → Sem Unit)} {Qf : Value → Shared → Prop}
    (calm : X.calm = true) (nd : X.N.Nodup) (I : L2.Inv X pins σ H s) (p0 : PI X t0 i0 wi) (bo : BlkOk X.N X.env.scope sc own) (hus : ∀ i ∈ us, i ∈ own.map (·.2))
    (pg : ∀ s H C cl fp, PG (BX X sc s H C cl fp) t0 g) (pj : ∀ s H C cl fp, PI (BX X sc s H C cl fp) t1 i1 wj) (pk : ∀ s H C cl fp, PG (BX X sc s H C cl fp) t1 k)
    (pa : ∀ s H C cl fp, PE (BX X sc s H C cl fp) kx tk) (pb : ∀ s H C cl fp, PE (BX X sc s H C cl fp) vx tv)
    (f0 : ∀ x, foldedSetIterable i0 X.env x = pure x) (f1 : ∀ en x, foldedSetIterable i1 en x = pure x) (want : wants wi g wj k tk tv (own.map (·.2)) us σ H Q)
    (back : ∀ D C z m H', Inv X pins σ H' z → Q (.ref D) H' → z.heap.Ns C m → FpOk X pins H' C → compPost (model X.prog X.w) X.A X.xe use Qf (.ref D) C (.ok .next) z) :
    wpAny (model X.prog X.w) X.A (comprehension (two kx vx t0 i0 t1 i1 sc ps) sc X.env pp newDict false (eval i0 X.env) use) Qf X.xe s := by
  have caught : ∀ y ∈ sc.names, y.2 = .free → ∃ c, X.env.cells.lookup y.1 = some c := by
    intro y hy e
    cases bo.free y hy e with
    | inl z => exact I.ok.has _ (.inl z)
    | inr z => exact I.ok.has _ (.inr z)
  refine wpAny_comprehension_free (use := use) rfl f0 (closure_ok caught) bo.kind (fun y hy e => by rw [bo.uniq y hy, e]) ?_
  refine thn (p0.run pins s σ H _ I want) fun _ z1 w1 => thn w1 fun _ z2 ⟨it, fp, tn, J, H2, e2, I2, Tw, st2, fo2, w2⟩ => ?_
  subst e2
  refine wpAny_newObj_type (newEnv_comp ?_)
  generalize eD : z2.heap.objs.size = D
  have fr : H2 D = none := I2.hok.fresh (Nat.le_of_eq eD)
  obtain ⟨W, ⟨m0, W0⟩, turn⟩ := w2 D fr
  generalize e3 : ({ z2 with heap := z2.heap.push { cls := .type "dict", data := .dict #[] } } : Shared) = z3
  have hp3 : z3.heap = z2.heap.push { cls := .type "dict", data := .dict #[] } := by rw [← e3]
  have I3 : L2.Inv X pins σ (upd H2 D (.dK [])) z3 := by
    rw [← e3]
    refine I2.laid (t' := z2.toks) (fun _ _ e => Heap.get?_push_of_some _ e) (Nat.le_of_eq eD) ?_
    rw [← eD]
    exact dk_empty z2.heap I2.big
  have below : ∀ b ∈ fp, b < z2.heap.objs.size := by
    intro b hb
    obtain ⟨_, e, _⟩ := Tw.obj _ _ st2 b hb
    exact Heap.lt_size e
  have fo3 : ∀ b ∈ fp, FpOk X pins (upd H2 D (.dK [])) b ∧ b < z3.heap.objs.size := by
    intro b hb
    have lt := below b hb
    have ne : b ≠ D := by rw [← eD]; exact Nat.ne_of_lt lt
    refine ⟨⟨by rw [upd_ne ne]; exact (fo2 b hb).1, (fo2 b hb).2⟩, ?_⟩
    rw [hp3, Heap.size_push]
    exact Nat.lt_succ_of_lt lt
  have st3 : tn 0 z3.heap := Tw.keep _ _ _ st2 fun b _ _ e => by rw [hp3]; exact Heap.get?_push_of_some _ e
  have I4 := block_start I3 bo nd fo3
  have pg := pg z3 (upd H2 D (.dK [])) z3.heap.objs.size (cellsFrom (z3.heap.objs.size + 1) sc.names (cloFrom X.env.cells sc.names [])) fp
  have pj := pj z3 (upd H2 D (.dK [])) z3.heap.objs.size (cellsFrom (z3.heap.objs.size + 1) sc.names (cloFrom X.env.cells sc.names [])) fp
  have pk := pk z3 (upd H2 D (.dK [])) z3.heap.objs.size (cellsFrom (z3.heap.objs.size + 1) sc.names (cloFrom X.env.cells sc.names [])) fp
  have pa := pa z3 (upd H2 D (.dK [])) z3.heap.objs.size (cellsFrom (z3.heap.objs.size + 1) sc.names (cloFrom X.env.cells sc.names [])) fp
  have pb := pb z3 (upd H2 D (.dK [])) z3.heap.objs.size (cellsFrom (z3.heap.objs.size + 1) sc.names (cloFrom X.env.cells sc.names [])) fp
  show codeAny _ _ (.compStart (two kx vx t0 i0 t1 i1 sc ps) 0 (.ref it) (.ref D) (compEnvC sc (cellsFrom (z3.heap.objs.size + 1) sc.names (cloFrom X.env.cells sc.names [])) z3.heap.objs.size X.env)) (compPost (model X.prog X.w) X.A X.xe use Qf (.ref D) z3.heap.objs.size) { z3 with heap := pushCells (z3.heap.push { cls := .type "dict", data := .dict #[] }) sc.names }
  have none3 : ∀ b ∈ fp, (upd H2 D (.dK [])) b = none := fun b hb => (fo3 b hb).1.1
  unfold BX at pg pj pk pa pb
  generalize eC : compEnvC sc (cellsFrom (z3.heap.objs.size + 1) sc.names (cloFrom X.env.cells sc.names [])) z3.heap.objs.size X.env = ce at I4 pg pj pk pa pb ⊢
  have eL : ce.locals = z3.heap.objs.size := by subst eC; rfl
  generalize eH : upd H2 D (.dK []) = H3 at I3 I4 pg pj pk pa pb W0 none3 fo3
  generalize e4 : ({ z3 with heap := pushCells (z3.heap.push { cls := .type "dict", data := .dict #[] }) sc.names } : Shared) = z4 at I4 ⊢
  have st4 : tn 0 z4.heap := Tw.keep _ _ _ st3 fun b _ _ e => by rw [← e4]; exact pushCells_keeps _ _ _ _ (Heap.get?_push_of_some _ e)
  have own_fp : ∀ {σ' : L2.St} {H' : Hp} {z : Shared}, Inv (X.blk z3 H3 sc ce fp) [] σ' H' z → (∀ b ∈ fp, H' b = none) → ∀ b ∈ fp, FpOk (X.blk z3 H3 sc ce fp) [] H' b := by
    intro σ' H' z I' hn b hb
    refine ⟨hn b hb, (I'.ok.exf b hb).1, I'.ok.exfs b hb, .inl hb, fun x c e => (I'.ok.exf b hb).2 x c e, fun p hp => ?_⟩
    have hp : p ∈ ([] : List (Addr × Obj)) ++ [] := hp
    simp at hp
  have whole : codeAny (model X.prog X.w) X.A (.compLoop (two kx vx t0 i0 t1 i1 sc ps) 0 (.ref it) (.ref D) ce) (compPost (model X.prog X.w) X.A X.xe use Qf (.ref D) z3.heap.objs.size) z4 := by
    refine outLoop (f1 ce) (fun n z => ∃ i H', Inv (X.blk z3 H3 sc ce fp) [] (wipe σ (own.map (·.2))) H' z ∧ tn i z.heap ∧ (∀ b ∈ fp, H' b = none) ∧ W i n H') ?_ m0 ⟨0, H3, I4, st4, none3, W0⟩
    rintro n z5 ⟨i, H5, I5, st5, n5, w5⟩
    cases turn i n H5 w5 with
    | inl e =>
      obtain ⟨stop, q⟩ := e
      refine thnF (Tw.done (X.blk z3 H3 sc ce fp) rfl rfl rfl calm i [] z5 _ H5 (fun _ _ => False) I5 (own_fp I5 n5) st5 stop) fun nx z6 ⟨hr, I6⟩ => ?_
      subst hr
      have I7 : L2.Inv X pins σ H5 z6 := I3.call' (ch := fp) I6.os I6.base I6.hok I6.bare fun b hb => by
        obtain ⟨_, a1, a2, a3, a4, a5⟩ := (fo3 b hb).1
        exact ⟨a3, a1, a4, a5⟩
      have free : H5 z3.heap.objs.size = none := by
        have y : H5 ce.locals = none := I6.free
        rwa [eL] at y
      obtain ⟨m, hn, _⟩ := I6.loc
      have hn : z6.heap.Ns ce.locals m := hn
      rw [eL] at hn
      exact back D z3.heap.objs.size z6 m H5 I7 q hn (I3.fpOk (Nat.le_refl _) free)
    | inr e =>
      obtain ⟨go, G, hG, step⟩ := e
      refine thnF (Tw.item (X.blk z3 H3 sc ce fp) rfl rfl rfl calm i [] z5 _ H5 (fun _ _ => False) I5 (own_fp I5 n5) st5 go) fun nx z6 ⟨u, hr, h6⟩ => ?_
      subst hr
      refine thnF h6 fun _ z7 ⟨x, H7, I7, r7, y7, st7, n7⟩ => ?_
      have I7p := I7.pinned (own_fp I7 n7) (Tw.obj _ _ st7)
      refine thnF (pg.run _ z7 _ H7 x u _ I7p r7 (step x H7 y7)) fun _ z8 ⟨σ8, H8, I8, hw8, q8⟩ => ?_
      have len8 : (wipe σ (own.map (·.2))).length = (wipe σ8 us).length := by rw [← hw8, wipe_length, wipe_length]
      have kept8 : ∀ (j : Nat) v, (wipe σ (own.map (·.2)))[j]? = some (some v) → (wipe σ8 us)[j]? = some (some v) := by
        intro j v e
        rw [← hw8] at e
        obtain ⟨a, b⟩ := wipe_some e
        rw [wipe_out fun y => b (hus j y)]
        exact a
      have fin : ∀ {z : Shared} {H' : Hp}, Inv (X.blk z3 H3 sc ce fp) ([] ++ pinsAt fp z7.heap) (wipe σ8 us) H' z → G H' → ∃ k, k < n ∧ ∃ i H', Inv (X.blk z3 H3 sc ce fp) [] (wipe σ (own.map (·.2))) H' z ∧ tn i z.heap ∧ (∀ b ∈ fp, H' b = none) ∧ W i k H' := by
        intro z H' I' hg
        obtain ⟨m', lt, w'⟩ := hG H' hg
        have pin : ∀ b ∈ fp, ∀ o, z7.heap.get? b = some o → z.heap.get? b = some o ∧ H' b = none := by
          intro b hb o e
          have y := I'.pin (b, o) (List.mem_append_right _ (List.mem_append_right _ (mem_pinsAt hb e)))
          exact ⟨y.1, y.2.1⟩
        refine ⟨m', lt, i + 1, H', (I'.unpinned (pins := [])).weak len8 kept8, Tw.keep _ _ _ st7 fun b hb o e => (pin b hb o e).1, fun b hb => ?_, w'⟩
        obtain ⟨o, e, _⟩ := Tw.obj _ _ st7 b hb
        exact (pin b hb o e).2
      refine thnF (pj.run _ z8 σ8 H8 _ I8 q8) fun _ z9 w9 => thnF w9 fun _ z10 ⟨jt, fq, tm, Jn, H10, e10, I10, Tj, st10, fo10, U, ⟨l0, U0⟩, round⟩ => ?_
      subst e10
      have own_fq : ∀ {H' : Hp}, (∀ b ∈ fq, H' b = none) → ∀ b ∈ fq, FpOk (X.blk z3 H3 sc ce fp) ([] ++ pinsAt fp z7.heap) H' b := fun hn b hb => ⟨hn b hb, (fo10 b hb).2⟩
      have inner : codeAny (model X.prog X.w) X.A (.compLoop (two kx vx t0 i0 t1 i1 sc ps) 1 (.ref jt) (.ref D) ce)
          (fun e z => match e with
            | .ok _ => ∃ k, k < n ∧ ∃ i H', Inv (X.blk z3 H3 sc ce fp) [] (wipe σ (own.map (·.2))) H' z ∧ tn i z.heap ∧ (∀ b ∈ fp, H' b = none) ∧ W i k H'
            | .error _ => False) z10 := by
        refine inLoop (fun l z => ∃ j H', Inv (X.blk z3 H3 sc ce fp) ([] ++ pinsAt fp z7.heap) (wipe σ8 us) H' z ∧ tm j z.heap ∧ (∀ b ∈ fq, H' b = none) ∧ U j l H') ?_ l0 ⟨0, H10, I10.weak (wipe_length _ _) (fun j v e => (wipe_some e).1), st10, fun b hb => (fo10 b hb).1, U0⟩
        rintro l z11 ⟨j, H11, I11, st11, n11, u11⟩
        cases round j l H11 u11 with
        | inl e =>
          obtain ⟨stop, hg⟩ := e
          refine thnF (Tj.done (X.blk z3 H3 sc ce fp) rfl rfl rfl calm j _ z11 (wipe σ8 us) H11 (fun _ _ => False) I11 (own_fq n11) st11 stop) fun nx z12 ⟨hr, I12⟩ => ?_
          subst hr
          exact fin I12 hg
        | inr e =>
          obtain ⟨go, F, hF, step1⟩ := e
          refine thnF (Tj.item (X.blk z3 H3 sc ce fp) rfl rfl rfl calm j _ z11 (wipe σ8 us) H11 (fun _ _ => False) I11 (own_fq n11) st11 go) fun nx z12 ⟨u1, hr, h12⟩ => ?_
          subst hr
          refine thnF h12 fun _ z13 ⟨y1, H13, I13, r13, yy13, st13, n13⟩ => ?_
          have I13p := I13.pinned (own_fq n13) (Tj.obj _ _ st13)
          refine thnF (pk.run _ z13 (wipe σ8 us) H13 y1 u1 _ I13p r13 (step1 y1 H13 yy13)) fun _ z14 ⟨σ14, H14, I14, hw14, q14⟩ => ?_
          refine thnF (pa.run _ z14 σ14 H14 _ I14 q14) fun _ z15 ⟨ya, H15, I15, r15, q15⟩ => ?_
          refine thnF (pb.run _ z15 σ14 H15 _ I15 q15) fun _ z16 ⟨yb, H16, I16, r16, kvs, q, eq_, hD16, hz16, hf⟩ => ?_
          subst eq_
          refine d_dictSet (X := X.blk z3 H3 sc ce fp) I16 hD16 hz16 r15 r16 fun z17 I17 => ?_
          obtain ⟨l', lt, u'⟩ := hF _ hf
          have pin : ∀ b ∈ fq, ∀ o, z13.heap.get? b = some o → z17.heap.get? b = some o ∧ (upd H16 D (.dK (putK kvs q yb))) b = none := by
            intro b hb o e
            have y := I17.pin (b, o) (List.mem_append_right _ (List.mem_append_right _ (mem_pinsAt hb e)))
            exact ⟨y.1, y.2.1⟩
          refine ⟨l', lt, j + 1, _, I17.unpinned.weak (by rw [← hw14, wipe_length]) (fun j v e => by rw [← hw14] at e; exact (wipe_some e).1), Tj.keep _ _ _ st13 fun b hb o e => (pin b hb o e).1, fun b hb => ?_, u'⟩
          obtain ⟨o, e, _⟩ := Tj.obj _ _ st13 b hb
          exact (pin b hb o e).2
      exact inStart inner (Tj.self X.A 0 _ _ _ st10 inner)
  exact codeAny_compStart_dict whole (Tw.self X.A 0 _ _ _ st4 whole)
/-- as a value -/
theorem pe_dcTwo {kx vx t0 i0 t1 i1 : Expr} {sc : Scope} {own : List (Str × Nat)} {us : List Nat} {ps : Pos} {wi wj : TI} {g k : TG} {tk tv : TE}
    (calm : X.calm = true) (nd : X.N.Nodup) (p0 : PI X t0 i0 wi) (bo : BlkOk X.N X.env.scope sc own) (hus : ∀ i ∈ us, i ∈ own.map (·.2))
    (pg : ∀ s H C cl fp, PG (BX X sc s H C cl fp) t0 g) (pj : ∀ s H C cl fp, PI (BX X sc s H C cl fp) t1 i1 wj) (pk : ∀ s H C cl fp, PG (BX X sc s H C cl fp) t1 k)
    (pa : ∀ s H C cl fp, PE (BX X sc s H C cl fp) kx tk) (pb : ∀ s H C cl fp, PE (BX X sc s H C cl fp) vx tv)
    (f0 : ∀ x, foldedSetIterable i0 X.env x = pure x := by intro _; rfl) (f1 : ∀ en x, foldedSetIterable i1 en x = pure x := by intro _ _; rfl) :
    PE X (two kx vx t0 i0 t1 i1 sc ps) (wants wi g wj k tk tv (own.map (·.2)) us) := by
  refine ⟨fun pins s σ H Q I h => ?_⟩
  unfold two
  rw [arm_eval_DictComp]
  refine core calm nd I p0 bo hus pg pj pk pa pb f0 f1 h fun D C z m H' I' q hn fo => ⟨m, hn, fun h'' sb => ?_⟩
  obtain ⟨a0, a1, a2, a3, a4, a5⟩ := fo
  exact ⟨.ref D, H', I'.turned (t' := z.toks) (fun b o hb e => (sb.2 b hb).trans e) a0 a1 a3 a4 a5, rfl, q⟩
end
end Dc2
set_option maxHeartbeats 1000000
namespace G
open PySem PySem.Spec PyProof.Rows L2
def keyOf : D → Option Key
  | .int i => some (.inl i)
  | .str s => some (.inr s)
  | _ => none
def keysL : List D → Option (List Key)
  | [] => some []
  | d :: ds => (keyOf d).bind fun q => (keysL ds).map (q :: ·)
def keysOf : D → Option (List Key)
  | .tup ds => keysL ds
  | _ => none
def findP {κ : Type} [DecidableEq κ] (kf : D → Option κ) : List (D × D) → κ → Option D
  | [], _ => none
  | (a, b) :: r, q => if kf a = some q then some b else findP kf r q
def putP {κ : Type} [DecidableEq κ] (kf : D → Option κ) (kd : κ → D) (ds : List (D × D)) (q : κ) (v : D) : List (D × D) :=
  if (findP kf ds q).isSome = true then ds.map (fun p => if kf p.1 = some q then (p.1, v) else p) else ds ++ [(kd q, v)]
theorem keyOf_D (q : Key) : keyOf (keyD q) = some q := by cases q <;> rfl
section
variable {K : PySem.W.Frag} {mg : Str → Option Value} {r : Addr} {Hs Hs' H H' : Hp} {tp : List D}
theorem repT_key {v : V} {d : D} {q : Key} (h : RepT K mg r Hs H v d) (e : keyOf d = some q) : v = kV q := by
  cases d with
  | int i => cases e; rw [repT_int h]; rfl
  | str s => cases e; rw [repT_str h]; rfl
  | _ => cases e
theorem repT_dic {v : V} {ds : List (D × D)} (w : Wd K mg r Hs H tp) (h : RepT K mg r Hs H v (.dic ds)) : ∃ p kvs, v = .ref p ∧ Rd H p (.dK kvs) ∧ RepP K mg r Hs (kvs.map fun q => (keyD q.1, q.2)) ds := by
  rcases h with h | ⟨p, e, _, kvs, a, b⟩
  · cases h with
    | dicK a b => exact ⟨_, _, rfl, w.sub.rd a, b⟩
  · exact ⟨p, kvs, e, .of a, b⟩
section
variable {κ : Type} [DecidableEq κ] {kf : D → Option κ} {kd : κ → D}
theorem find_rep (hk : ∀ q, kf (kd q) = some q) (q : κ) : ∀ {kvs : List (κ × V)} {ds : List (D × D)}, RepP K mg r Hs (kvs.map fun p => (kd p.1, p.2)) ds →
    (∀ d, findP kf ds q = some d → ∃ v, valV kvs q = some v ∧ RepD K mg r Hs v d) ∧ (findP kf ds q = none → valV kvs q = none)
  | [], _, .nil => ⟨fun d e => (by cases e), fun _ => rfl⟩
  | p :: kvs, _, .cons (d := d0) (ds := ds) h hs => by
    obtain ⟨a, b⟩ := find_rep hk q (kvs := kvs) (ds := ds) hs
    by_cases e : p.1 = q
    · have ek : kf (kd p.1) = some q := by rw [hk, e]
      unfold findP
      rw [if_pos ek]
      refine ⟨fun d ed => ?_, fun ed => by cases ed⟩
      cases ed
      exact ⟨p.2, valV_pos e, h⟩
    · have ek : ¬ kf (kd p.1) = some q := by rw [hk]; intro z; exact e (Option.some.inj z)
      unfold findP
      rw [if_neg ek]
      refine ⟨fun d ed => ?_, fun ed => by rw [valV_neg e]; exact b ed⟩
      obtain ⟨v, h1, h2⟩ := a d ed
      exact ⟨v, by rw [valV_neg e]; exact h1, h2⟩
theorem repP_map (hk : ∀ q, kf (kd q) = some q) {q : κ} {z : V} {v : D} (hz : RepD K mg r Hs z v) : ∀ {kvs : List (κ × V)} {ds : List (D × D)}, RepP K mg r Hs (kvs.map fun p => (kd p.1, p.2)) ds →
    RepP K mg r Hs ((kvs.map fun kv => if kv.1 = q then (kv.1, z) else kv).map fun p => (kd p.1, p.2)) (ds.map fun p => if kf p.1 = some q then (p.1, v) else p)
  | [], _, .nil => .nil
  | p :: kvs, _, .cons (d := d0) (ds := ds) h hs => by
    have ih := repP_map (q := q) hk hz (kvs := kvs) (ds := ds) hs
    rw [List.map_cons, List.map_cons, List.map_cons]
    by_cases e : p.1 = q
    · rw [if_pos e, if_pos (by show kf (kd p.1) = some q; rw [hk, e])]
      exact .cons hz ih
    · rw [if_neg e, if_neg (by show ¬ kf (kd p.1) = some q; rw [hk]; intro y; exact e (Option.some.inj y))]
      exact .cons h ih
theorem repP_app {a b : List (D × V)} {ds es : List (D × D)} : RepP K mg r Hs a ds → RepP K mg r Hs b es → RepP K mg r Hs (a ++ b) (ds ++ es)
  | .nil, q => q
  | .cons h p, q => .cons h (repP_app p q)
theorem put_rep (hk : ∀ q, kf (kd q) = some q) {q : κ} {z : V} {v : D} {kvs : List (κ × V)} {ds : List (D × D)} (hz : RepD K mg r Hs z v) (h : RepP K mg r Hs (kvs.map fun p => (kd p.1, p.2)) ds) :
    RepP K mg r Hs ((putK kvs q z).map fun p => (kd p.1, p.2)) (putP kf kd ds q v) := by
  obtain ⟨a, b⟩ := find_rep hk q h
  unfold putK putP
  rw [valV_any]
  cases e : findP kf ds q with
  | some d =>
    obtain ⟨v0, h1, _⟩ := a d e
    rw [h1]
    exact repP_map hk hz h
  | none =>
    rw [b e]
    rw [if_neg (by simp), if_neg (by simp), List.map_append]
    exact repP_app h (.cons hz .nil)
theorem repP_len : ∀ {a : List (D × V)} {ds : List (D × D)}, RepP K mg r Hs a ds → a.length = ds.length
  | _, _, .nil => rfl
  | _, _, .cons _ q => by simp only [List.length_cons, repP_len q]
end
def dgetD (d k : D) : Option (Option D) := match d with
  | .dic ds => (keyOf k).map fun q => findP keyOf ds q
  | _ => none
theorem dget_ok {x y : V} {d k : D} {o : Option D} (w : Wd K mg r Hs H tp) (hx : RepT K mg r Hs H x d) (hy : RepT K mg r Hs H y k) (e : dgetD d k = some o) :
    ∃ a, x = .ref a ∧ IsD H a ∧ ∃ ov, DGet H a y ov ∧ ov.isSome = o.isSome ∧ ∀ z, o = some z → ∃ v, ov = some v ∧ RepD K mg r Hs v z := by
  unfold dgetD at e
  cases d with
  | dic ds =>
    obtain ⟨q, h1, h2⟩ := Option.map_eq_some_iff.mp e
    obtain ⟨p, kvs, rfl, a, b⟩ := repT_dic w hx
    obtain ⟨f1, f2⟩ := find_rep (K := K) (mg := mg) (r := r) keyOf_D q b
    refine ⟨p, rfl, .inl ⟨kvs, a⟩, valV kvs q, ?_, ?_, fun z hz => ?_⟩
    · rw [repT_key hy h1]; exact .inl ⟨kvs, q, a, rfl, rfl⟩
    · cases c : findP keyOf ds q with
      | none => rw [f2 c, ← h2, c]; rfl
      | some z => obtain ⟨v, e1, _⟩ := f1 z c; rw [e1, ← h2, c]; rfl
    · obtain ⟨v, e1, e2⟩ := f1 z (h2.trans hz)
      exact ⟨v, e1, e2⟩
  | _ => cases e
end
section
variable {r : Addr} {X : Cx} {K : PySem.W.Frag} {mg : Str → Option Value} {O : List Nat} {E : XK} {a b c : Expr} {ta tb tc : TE} {pos : Pos}
/-- k in d, k not in d: the key, then the dict -/
def inKD (neg : Bool) (k d : D) : Option D := (dgetD d k).map fun o => .bl (if neg then !o.isSome else o.isSome)
theorem ge_inK {ma mb : SE D} (hu : X.A.units + 64 < cLine) (ha : GO K mg r X O E a ta ma) (hb : GO K mg r X O E b tb mb) (hm : behindInMarks .In b = false := by rfl) : GE K mg r X O E (.Compare a [.In] [b] pos) (tDIn ta tb) (binE (inKD false) ma mb) := by
  refine ⟨pe_cmp (pc_din (by omega) ha.pe hb.pe) hm, fun Hs0 H0 Hs H σ env tp Q Rl P => ?_⟩
  refine ha.snd _ _ _ _ _ _ _ _ Rl (Post.bind P fun v Hs1 H1 d tp1 _ g w rv P1 => ?_)
  refine hb.snd _ _ _ _ _ _ _ _ (Rl.grow g w) (Post.bind P1 fun u Hs2 H2 e tp2 _ g2 w2 ru P2 => ?_)
  obtain ⟨z, hz, k⟩ := Post.ok_of P2
  obtain ⟨o, h1, h2⟩ := Option.map_eq_some_iff.mp hz
  obtain ⟨p, rfl, _, ov, dg, e1, _⟩ := dget_ok w2 ru (rv.grow g2) h1
  refine ⟨p, ov, rfl, dg, k _ Hs2 H2 (Grow.refl _ _) w2 ?_⟩
  rw [e1, ← h2]; exact .bl _
theorem ge_notInK {ma mb : SE D} (hu : X.A.units + 64 < cLine) (ha : GO K mg r X O E a ta ma) (hb : GO K mg r X O E b tb mb) (hm : behindInMarks .NotIn b = false := by rfl) : GE K mg r X O E (.Compare a [.NotIn] [b] pos) (tDNotIn ta tb) (binE (inKD true) ma mb) := by
  refine ⟨pe_cmp (pc_dnotin (by omega) ha.pe hb.pe) hm, fun Hs0 H0 Hs H σ env tp Q Rl P => ?_⟩
  refine ha.snd _ _ _ _ _ _ _ _ Rl (Post.bind P fun v Hs1 H1 d tp1 _ g w rv P1 => ?_)
  refine hb.snd _ _ _ _ _ _ _ _ (Rl.grow g w) (Post.bind P1 fun u Hs2 H2 e tp2 _ g2 w2 ru P2 => ?_)
  obtain ⟨z, hz, k⟩ := Post.ok_of P2
  obtain ⟨o, h1, h2⟩ := Option.map_eq_some_iff.mp hz
  obtain ⟨p, rfl, _, ov, dg, e1, _⟩ := dget_ok w2 ru (rv.grow g2) h1
  refine ⟨p, ov, rfl, dg, k _ Hs2 H2 (Grow.refl _ _) w2 ?_⟩
  rw [e1, ← h2]; exact .bl _
theorem gt_notInK {ma mb : SE D} (hu : X.A.units + 64 < cLine) (ha : GO K mg r X O E a ta ma) (hb : GO K mg r X O E b tb mb) (hm : behindInMarks .NotIn b = false := by rfl) : GT K mg r X O E (.Compare a [.NotIn] [b] pos) (tB (tDNotIn ta tb)) (boolE (binE (inKD true) ma mb)) :=
  ⟨pt_cmp (pc_dnotin (by omega) ha.pe hb.pe) hm, boolE_sound (ge_notInK (pos := pos) hu ha hb hm).snd⟩
/-- d[k] -/
def ixKD (d k : D) : Option D := (dgetD d k).bind id
theorem ge_ixK {ma mb : SE D} (hu : X.A.units + 64 < cLine) (ha : GO K mg r X O E a ta ma) (hb : GO K mg r X O E b tb mb) (hs : NoSl b := by exact fun _ _ => rfl) : GE K mg r X O E (.Subscript a b pos) (tDGet ta tb) (binE ixKD ma mb) := by
  refine ⟨pe_dget (by omega) ha.pe hb.pe hs, fun Hs0 H0 Hs H σ env tp Q Rl P => ?_⟩
  refine ha.snd _ _ _ _ _ _ _ _ Rl (Post.bind P fun v Hs1 H1 d tp1 _ g w rv P1 => ?_)
  refine hb.snd _ _ _ _ _ _ _ _ (Rl.grow g w) (Post.bind P1 fun u Hs2 H2 e tp2 _ g2 w2 ru P2 => ?_)
  obtain ⟨z, hz, k⟩ := Post.ok_of P2
  obtain ⟨o, h1, h2⟩ := Option.bind_eq_some_iff.mp hz
  have h2 : o = some z := h2
  obtain ⟨p, rfl, _, ov, dg, _, e1⟩ := dget_ok w2 (rv.grow g2) ru h1
  obtain ⟨v1, rfl, rv1⟩ := e1 z h2
  exact ⟨p, v1, rfl, dg, k _ Hs2 H2 (Grow.refl _ _) w2 rv1⟩
theorem gf_dnew : GF K mg r X O E (.Dict [] [] pos) tDNewK (cE (.dic [])) := by
  refine ⟨pe_dnewK, fun Hs0 H0 Hs H σ env tp Q R P p hp => ?_⟩
  obtain ⟨g, w, f⟩ := fresh_new (K := K) (mg := mg) (o := .dK []) (d := .dic []) (Grow.refl Hs H) R.wd hp ⟨[], upd_same, .nil⟩
  exact P _ _ _ g w f
def putD (d k v : D) : Option D := match d with
  | .dic ds => if ds.length < sizeLine then (keyOf k).map fun q => .dic (putP keyOf keyD ds q v) else none
  | _ => none
def dsetS (i : Nat) (mk mv : SE D) : SS := fun env tp => match env[i]? with
  | some (some d) => (mv env tp).bindS fun v tp1 => (mk env tp1).bindS fun k tp2 => (match putD d k v with
    | some d' => .nx (env.set i (some d')) tp2
    | none => .stuck)
  | _ => .stuck
theorem gs_dset {mk mv : SE D} {Ol : List Nat} (i : Nat) {x : Str} {p1 p2 : Pos} {k val : Expr} {tk tv : TE} (hu : X.A.units + 64 < cLine) (hO : i ∈ O) (hk : GE K mg r X O E k tk mk) (hv : GE K mg r X O E val tv mv) (hN : X.N[i]? = some x := by rfl)
    (hvis : Vis X.env.scope x := by first | exact Or.inl rfl | exact Or.inr (Or.inl rfl) | exact Or.inr (Or.inr rfl)) (hd : (x == ("__debug__" : Str)) = false := by decide) (hcd : (x == ("__classdict__" : Str)) = false := by decide)
    (hs : swapsWith val (some (.Subscript (.Name x p1) k p2)) pos.line X.env = pure false := by rfl) : GS K mg r X E O O Ol (.Assign [.Subscript (.Name x p1) k p2] val pos) (sDPut (tVar i) tk tv) (dsetS i mk mv) := by
  refine ⟨ps_dput (by omega) (pe_var hN hvis hd hcd) hk.pe hv.pe hs, fun Hs0 H0 Hs H σ env tp Dn R P => ?_⟩
  obtain ⟨d0, p, b1, b2, c, c0, ne, oa⟩ := R.own i hO
  unfold dsetS at P
  rw [b1] at P
  simp only at P
  refine hv.snd _ _ _ _ _ _ _ _ R (PostS.bind R P fun v Hs1 H1 dv tp1 _ g w R1 rv P1 => ?_)
  refine ⟨_, b2, ?_⟩
  refine hk.snd _ _ _ _ _ _ _ _ R1 (PostS.bind R1 P1 fun u Hs2 H2 dk tp2 _ g2 w2 R2 ru P2 => ?_)
  obtain ⟨d1, p1, e1, e2, f, f0, fn, fo⟩ := R2.own i hO
  rw [b2] at e2; cases e2
  rw [b1] at e1; cases e1
  cases e : putD d0 dk dv with
  | none => rw [e] at P2; exact P2.elim
  | some d' =>
    rw [e] at P2
    have rv2 := rv.mono g2.ex
    cases d0 with
    | dic ds =>
      obtain ⟨kvs, h1, h2⟩ := fo
      unfold putD at e
      simp only at e
      split at e
      · rename_i hz
        obtain ⟨q, hq, hd'⟩ := Option.map_eq_some_iff.mp e
        subst hd'
        have ek := repT_key (H := H2) ru.top hq
        subst ek
        have hl : kvs.length < sizeLine := by have := repP_len h2; rw [List.length_map] at this; omega
        exact ⟨p, _, rfl, .k h1 hl, P2 _ _ _ (Same.refl _) (R2.write hO b2 ⟨_, upd_same, put_rep keyOf_D rv2 h2⟩)⟩
      · cases e
    | _ => cases e
def putR (acc : List (D × D)) (k v : D) (tp : List D) : RE (List (D × D)) := if acc.length < sizeLine then (match keyOf k with
  | some q => .ok (putP keyOf keyD acc q v) tp
  | none => .stuck) else .stuck
def foldR (f : List (D × D) → D → List D → RE (List (D × D))) : List D → List (D × D) → List D → RE (List (D × D))
  | [], acc, tp => .ok acc tp
  | d :: ds, acc, tp => match f acc d tp with
    | .ok acc' tp' => foldR f ds acc' tp'
    | _ => .stuck
def pairT (mk mv : SE D) (env : DEnv) (acc : List (D × D)) (tp : List D) : RE (List (D × D)) := match mk env tp with
  | .ok k tp1 => (match mv env tp1 with
    | .ok v tp2 => putR acc k v tp2
    | _ => .stuck)
  | _ => .stuck
def dcTurn (tgt : D → Option (List D)) (is : List Nat) (mk mv : SE D) (env : DEnv) (acc : List (D × D)) (d : D) (tp : List D) : RE (List (D × D)) := match tgt d with
  | some ds => pairT mk mv (setAll env is ds) acc tp
  | none => .stuck
def dcE (mi : SE (List D)) (vs : List Nat) (tgt : D → Option (List D)) (is : List Nat) (mk mv : SE D) : SE D := fun env tp => (mi env tp).bind fun items tp1 => match foldR (dcTurn tgt is mk mv (wipeE env vs)) items [] tp1 with
  | .ok acc tp2 => .ok (.dic acc) tp2
  | _ => .stuck
def dcTurn2 (tgt : D → Option (List D)) (is : List Nat) (mi1 : SE (List D)) (vs1 : List Nat) (tgt1 : D → Option (List D)) (is1 : List Nat) (mk mv : SE D) (env : DEnv) (acc : List (D × D)) (d : D) (tp : List D) : RE (List (D × D)) := match tgt d with
  | some ds => (match mi1 (setAll env is ds) tp with
    | .ok items1 tp1 => foldR (dcTurn tgt1 is1 mk mv (wipeE (setAll env is ds) vs1)) items1 acc tp1
    | _ => .stuck)
  | none => .stuck
def dc2E (mi : SE (List D)) (vs : List Nat) (tgt : D → Option (List D)) (is : List Nat) (mi1 : SE (List D)) (vs1 : List Nat) (tgt1 : D → Option (List D)) (is1 : List Nat) (mk mv : SE D) : SE D := fun env tp => (mi env tp).bind fun items tp1 => match foldR (dcTurn2 tgt is mi1 vs1 tgt1 is1 mk mv (wipeE env vs)) items [] tp1 with
  | .ok acc tp2 => .ok (.dic acc) tp2
  | _ => .stuck
theorem foldR_cons {f : List (D × D) → D → List D → RE (List (D × D))} {d : D} {ds : List D} {acc z : List (D × D)} {tp tpE : List D} (h : foldR f (d :: ds) acc tp = .ok z tpE) : ∃ acc' tp', f acc d tp = .ok acc' tp' ∧ foldR f ds acc' tp' = .ok z tpE := by
  unfold foldR at h
  cases q : f acc d tp with
  | ok acc' tp' => rw [q] at h; exact ⟨acc', tp', rfl, h⟩
  | exn c fs t => rw [q] at h; cases h
  | stuck => rw [q] at h; cases h
theorem pairT_ok {mk mv : SE D} {env : DEnv} {acc z : List (D × D)} {tp tpE : List D} (h : pairT mk mv env acc tp = .ok z tpE) : ∃ k tp1 v q, mk env tp = .ok k tp1 ∧ mv env tp1 = .ok v tpE ∧ keyOf k = some q ∧ acc.length < sizeLine ∧ z = putP keyOf keyD acc q v := by
  unfold pairT at h
  cases q1 : mk env tp with
  | ok k tp1 =>
    rw [q1] at h
    simp only at h
    cases q2 : mv env tp1 with
    | ok v tp2 =>
      rw [q2] at h
      simp only at h
      unfold putR at h
      split at h
      · rename_i hl
        cases q3 : keyOf k with
        | some q =>
          rw [q3] at h
          simp only [RE.ok.injEq] at h
          obtain ⟨e1, e2⟩ := h
          subst e2
          exact ⟨k, tp1, v, q, rfl, q2, q3, hl, e1.symm⟩
        | none => rw [q3] at h; cases h
      · cases h
    | exn c fs t => rw [q2] at h; cases h
    | stuck => rw [q2] at h; cases h
  | exn c fs t => rw [q1] at h; cases h
  | stuck => rw [q1] at h; cases h
/-- what a turn's pair does to the world -/
theorem pair_sound {tk tv : TE} {mk mv : SE D} {Hs0 H0 Hs H : Hp} {σ : L2.St} {env : DEnv} {acc z : List (D × D)} {tp tpE : List D} {Dl : Addr} {kvs : List (Key × V)} {F : Hp → Prop}
    (hk : ∀ Hs0 H0 Hs H σ env tp Q, Rel K mg r O Hs0 H0 Hs H σ env tp → PostE K mg r E0 Hs H (mk env tp) Q → tk σ H Q)
    (hv : ∀ Hs0 H0 Hs H σ env tp Q, Rel K mg r O Hs0 H0 Hs H σ env tp → PostE K mg r E0 Hs H (mv env tp) Q → tv σ H Q)
    (R : Rel K mg r O Hs0 H0 Hs H σ env tp) (neD : Dl ≠ r) (fD : Hs Dl = none) (hD : H Dl = some (.dK kvs)) (rs : RepP K mg r Hs (kvs.map fun q => (keyD q.1, q.2)) acc) (h : pairT mk mv env acc tp = .ok z tpE)
    (next : ∀ Hs1 H1 q zv, Grow r Hs H Hs1 H1 → Wd K mg r Hs1 H1 tpE → Hs1 Dl = none → RepP K mg r Hs1 ((putK kvs q zv).map fun q => (keyD q.1, q.2)) z → F (upd H1 Dl (.dK (putK kvs q zv)))) :
    tk σ H fun y H9 => tv σ H9 fun b H10 => ∃ (kvs : List (Key × V)) (q : Key), y = kV q ∧ H10 Dl = some (.dK kvs) ∧ kvs.length < sizeLine ∧ F (upd H10 Dl (.dK (putK kvs q b))) := by
  obtain ⟨k, tp1, v, q, e1, e2, e3, hl, rfl⟩ := pairT_ok h
  refine hk _ _ _ _ _ _ _ _ R ?_
  rw [e1]
  intro y Hs1 H1 g1 w1 ry
  refine hv _ _ _ _ _ _ _ _ (R.grow g1 w1) ?_
  rw [e2]
  intro b Hs2 H2 g2 w2 rb
  have g := g1.trans g2
  refine ⟨kvs, q, repT_key (H := H1) ry.top e3, g.keep Dl _ hD neD fD, ?_, ?_⟩
  · have e := repP_len rs
    rw [List.length_map] at e
    omega
  · exact next Hs2 H2 q b g w2 (g.no fD hD neD) (put_rep keyOf_D rb (RepP.mono g.ex rs))
end
end G
set_option maxHeartbeats 1000000
namespace G
open PySem PySem.Spec PyProof.Rows L2
section
variable {r : Addr} {X : Cx} {K : PySem.W.Frag} {mg : Str → Option Value} {O : List Nat} {E : XK} {tt : TT}
theorem dc_sound {wi : TI} {g : TG} {tk tv : TE} {is vs : List Nat} {tgt : D → Option (List D)} {mi : SE (List D)} {mk mv : SE D}
    (hi : ∀ Hs0 H0 Hs H σ env tp Q, Rel K mg r O Hs0 H0 Hs H σ env tp → Post K mg r (fun Hs _ J items => WalksD K mg r J Hs items) E Hs H (mi env tp) Q → wi σ H Q)
    (hg : ∀ v d ds Hs H tp σ (Q : L2.St → Hp → Prop), Wd K mg r Hs H tp → RepD K mg r Hs v d → tgt d = some ds → (∀ vs, RepDs K mg r Hs vs ds → vs.length = is.length → Q (setAll σ is vs) H) → g v σ H Q)
    (ht : ∀ Hs0 H0 Hs H σ env tp Q, Rel K mg r O Hs0 H0 Hs H σ env tp → PostB K mg r E0 Hs H (yesT env tp) Q → tt σ H Q)
    (hk : ∀ Hs0 H0 Hs H σ env tp Q, Rel K mg r O Hs0 H0 Hs H σ env tp → PostE K mg r E0 Hs H (mk env tp) Q → tk σ H Q)
    (hv : ∀ Hs0 H0 Hs H σ env tp Q, Rel K mg r O Hs0 H0 Hs H σ env tp → PostE K mg r E0 Hs H (mv env tp) Q → tv σ H Q)
    (hvs : ∀ i ∈ vs, i ∉ O) (his : ∀ i ∈ is, i ∈ vs) :
    ∀ Hs0 H0 Hs H σ env tp Q, Rel K mg r O Hs0 H0 Hs H σ env tp → Post K mg r (Fresh K mg r H) E Hs H (dcE mi vs tgt is mk mv env tp) Q → tDc wi g tt tk tv vs σ H Q := by
  intro Hs0 H0 Hs H σ env tp Q R P
  refine hi _ _ _ _ _ _ _ _ R ?_
  unfold dcE at P
  cases q : mi env tp with
  | stuck => rw [q] at P; exact P.elim
  | exn cc fs tp1 => rw [q] at P; exact P
  | ok items tp1 =>
    rw [q] at P
    intro J Hs1 H1 ga w1 wd Dl hD
    simp only [RE.bind_ok] at P
    cases q2 : foldR (dcTurn tgt is mk mv (wipeE env vs)) items [] tp1 with
    | stuck => rw [q2] at P; exact P.elim
    | exn cc fs tp2 => rw [q2] at P; exact P.elim
    | ok all tpE =>
      rw [q2] at P
      have P : ∀ v Hs' H', Grow r Hs H Hs' H' → Wd K mg r Hs' H' tpE → Fresh K mg r H Hs' H' v (.dic all) → Q v H' := P
      obtain ⟨Gd, Y, wk, hG, hY⟩ := wd
      have R1 := R.grow ga w1
      obtain ⟨fD, neD⟩ := w1.fresh hD
      have h0D : H Dl = none := ga.free Dl hD
      have Rw := R1.wiped vs hvs
      obtain ⟨gl, wl⟩ := w1.lay (o := .dK []) hD
      obtain ⟨n1, n2⟩ := R.new_ne h0D neD
      have n3 : ∀ j ∈ O, (wipeE σ vs)[j]? ≠ some (some (.ref Dl)) := fun j hj z => n2 j hj (by rw [← z, wipe_get fun q => hvs j q hj])
      have hisO : ∀ i ∈ is, i ∉ O := fun i hi => hvs i (his i hi)
      let Pv : Nat → Hp → Prop := fun i H' => ∃ Hs2 kvs acc tp, Rel K mg r O Hs0 H0 Hs2 H' (wipeE σ vs) (wipeE env vs) tp ∧ Same Hs1 Hs2 ∧ Grow r Hs H Hs2 H' ∧ Hs2 Dl = none ∧ H' Dl = some (.dK kvs) ∧ RepP K mg r Hs2 (kvs.map fun q => (keyD q.1, q.2)) acc ∧
        foldR (dcTurn tgt is mk mv (wipeE env vs)) (items.drop i) acc tp = .ok all tpE
      have p0 : Pv 0 (upd H1 Dl (.dK [])) := ⟨Hs1, [], [], tp1, Rw.grow gl wl, Same.refl _, ga.trans gl, fD, upd_same, .nil, q2⟩
      refine ⟨fun i n H' => n = items.length - i ∧ i ≤ items.length ∧ Pv i H', ⟨items.length, by simp, Nat.zero_le _, p0⟩, ?_⟩
      rintro i n H2 ⟨rfl, hil, Hs2, kvs, acc, tp2, R2, e2, g2, f2, hD2, rs2, hc2⟩
      have gd := hG Hs2 H2 e2 R2.wd.sub
      by_cases hi2 : i < items.length
      case neg =>
        have e : i = items.length := by omega
        subst e
        refine .inl ⟨wk.stops _ gd, ?_⟩
        rw [List.drop_length] at hc2
        unfold foldR at hc2
        simp only [RE.ok.injEq] at hc2
        obtain ⟨hx, htp⟩ := hc2
        subst hx htp
        exact P _ Hs2 H2 g2 R2.wd ⟨Dl, rfl, h0D, f2, neD, kvs, hD2, rs2⟩
      refine .inr ⟨wk.goes i H2 hi2 gd, Pv (i + 1), fun H' p' => ⟨items.length - (i + 1), by omega, rfl, hi2, p'⟩, fun x H3 yy => ?_⟩
      obtain ⟨Hs3, d, g3, w3, hd, rd⟩ := hY i Hs2 H2 tp2 x H3 hi2 e2 R2.wd (wk.yields i H2 x H3 hi2 gd yy)
      rw [List.drop_eq_getElem_cons hi2] at hc2
      have hd' : items[i] = d := by rw [List.getElem?_eq_getElem hi2] at hd; exact Option.some.inj hd
      rw [hd'] at hc2
      obtain ⟨acc', tpI, hf, hrest⟩ := foldR_cons hc2
      unfold dcTurn at hf
      cases qt : tgt d with
      | none => rw [qt] at hf; cases hf
      | some es =>
        rw [qt] at hf
        simp only at hf
        rw [wipe_eq]
        refine hg x d es Hs3 H3 tp2 _ _ w3 rd qt fun ws rs hl => ⟨by rw [wipe_eq, wipe_setAll is _ _ his, wipe_wipe vs fun _ h => h], ?_⟩
        have R3 := rel_setAll is _ _ _ _ (R2.grow g3 w3) hisO rs hl
        have f3 := g3.no f2 hD2 neD
        have hD3 := g3.keep Dl _ hD2 neD f2
        refine ht _ _ _ _ _ _ _ _ R3 fun v Hs4 H4 g4 w4 ev => ?_
        subst ev
        have f4 := g4.no f3 hD3 neD
        have hD4 := g4.keep Dl _ hD3 neD f3
        refine iteT (pair_sound (F := Pv (i + 1)) hk hv (R3.grow g4 w4) neD f4 hD4 (RepP.mono (g3.ex.trans g4.ex) rs2) hf fun Hs5 H5 q zv g5 w5 f5 rp => ?_)
        have e5 := g3.ex.trans (g4.ex.trans g5.ex)
        exact ⟨Hs5, _, acc', tpI, (R2.grow (g3.trans (g4.trans g5)) w5).other f5 n1 neD n3 (fun xs z => by rw [g5.keep Dl _ hD4 neD f4] at z; first | exact st_no rfl xs (Option.some.inj z) | cases z), e2.trans e5, (g2.trans (g3.trans (g4.trans g5))).other h0D, f5, upd_same, rp, hrest⟩
theorem gf_dc {kx vx tg iter : Expr} {scope : Scope} {own : List (Str × Nat)} {pos : Pos} {wi : TI} {g : TG} {tk tv : TE} {is : List Nat} {tgt : D → Option (List D)} {mi : SE (List D)} {mk mv : SE D} (hc : X.calm = true) (hN : X.N.Nodup) (hi : GI K mg r X O E tg iter wi mi) (ok : BlkOk X.N X.env.scope scope own)
    (hg : ∀ s H C cl fp, GG K mg r (Dc2.BX X scope s H C cl fp) tg g is tgt) (ht : ∀ s H C cl fp, GTs K mg r (Dc2.BX X scope s H C cl fp) O E0 [] tt yesT)
    (hk : ∀ s H C cl fp, GE K mg r (Dc2.BX X scope s H C cl fp) O E0 kx tk mk) (hv : ∀ s H C cl fp, GE K mg r (Dc2.BX X scope s H C cl fp) O E0 vx tv mv)
    (hvs : ∀ i ∈ own.map (·.2), i ∉ O) (his : ∀ i ∈ is, i ∈ own.map (·.2)) (hs : ∀ x, foldedSetIterable iter X.env x = pure x := by intro _; rfl) :
    GF K mg r X O E (.DictComp kx vx [⟨tg, iter, [], 0⟩] scope pos) (tDc wi g tt tk tv (own.map (·.2))) (dcE mi (own.map (·.2)) tgt is mk mv) :=
  ⟨pe_dc hc hN hi.pe ok (fun s H C cl fp => (hg s H C cl fp).pe) (fun s H C cl fp => (ht s H C cl fp).pe) (fun s H C cl fp => (hk s H C cl fp).pe) (fun s H C cl fp => (hv s H C cl fp).pe) hs,
    dc_sound hi.snd (hg X.s_0 X.H_0 0 [] []).snd (ht X.s_0 X.H_0 0 [] []).snd (hk X.s_0 X.H_0 0 [] []).snd (hv X.s_0 X.H_0 0 [] []).snd hvs his⟩
theorem dc2_sound {wi wi1 : TI} {g g1 : TG} {tk tv : TE} {is vs is1 vs1 : List Nat} {tgt tgt1 : D → Option (List D)} {mi mi1 : SE (List D)} {mk mv : SE D}
    (hi : ∀ Hs0 H0 Hs H σ env tp Q, Rel K mg r O Hs0 H0 Hs H σ env tp → Post K mg r (fun Hs _ J items => WalksD K mg r J Hs items) E Hs H (mi env tp) Q → wi σ H Q)
    (hg : ∀ v d ds Hs H tp σ (Q : L2.St → Hp → Prop), Wd K mg r Hs H tp → RepD K mg r Hs v d → tgt d = some ds → (∀ vs, RepDs K mg r Hs vs ds → vs.length = is.length → Q (setAll σ is vs) H) → g v σ H Q)
    (hi1 : ∀ Hs0 H0 Hs H σ env tp Q, Rel K mg r O Hs0 H0 Hs H σ env tp → Post K mg r (fun Hs _ J items => WalksD K mg r J Hs items) E0 Hs H (mi1 env tp) Q → wi1 σ H Q)
    (hg1 : ∀ v d ds Hs H tp σ (Q : L2.St → Hp → Prop), Wd K mg r Hs H tp → RepD K mg r Hs v d → tgt1 d = some ds → (∀ vs, RepDs K mg r Hs vs ds → vs.length = is1.length → Q (setAll σ is1 vs) H) → g1 v σ H Q)
    (hk : ∀ Hs0 H0 Hs H σ env tp Q, Rel K mg r O Hs0 H0 Hs H σ env tp → PostE K mg r E0 Hs H (mk env tp) Q → tk σ H Q)
    (hv : ∀ Hs0 H0 Hs H σ env tp Q, Rel K mg r O Hs0 H0 Hs H σ env tp → PostE K mg r E0 Hs H (mv env tp) Q → tv σ H Q)
    (hvs : ∀ i ∈ vs, i ∉ O) (his : ∀ i ∈ is, i ∈ vs) (hv1 : ∀ i ∈ vs1, i ∈ vs) (his1 : ∀ i ∈ is1, i ∈ vs1) :
    ∀ Hs0 H0 Hs H σ env tp Q, Rel K mg r O Hs0 H0 Hs H σ env tp → Post K mg r (Fresh K mg r H) E Hs H (dc2E mi vs tgt is mi1 vs1 tgt1 is1 mk mv env tp) Q → Dc2.wants wi g wi1 g1 tk tv vs vs1 σ H Q := by
  intro Hs0 H0 Hs H σ env tp Q R P
  refine hi _ _ _ _ _ _ _ _ R ?_
  unfold dc2E at P
  cases q : mi env tp with
  | stuck => rw [q] at P; exact P.elim
  | exn cc fs tp1 => rw [q] at P; exact P
  | ok items tp1 =>
    rw [q] at P
    intro J Hs1 H1 ga w1 wd Dl hD
    simp only [RE.bind_ok] at P
    cases q2 : foldR (dcTurn2 tgt is mi1 vs1 tgt1 is1 mk mv (wipeE env vs)) items [] tp1 with
    | stuck => rw [q2] at P; exact P.elim
    | exn cc fs tp2 => rw [q2] at P; exact P.elim
    | ok all tpE =>
      rw [q2] at P
      have P : ∀ v Hs' H', Grow r Hs H Hs' H' → Wd K mg r Hs' H' tpE → Fresh K mg r H Hs' H' v (.dic all) → Q v H' := P
      obtain ⟨Gd, Y, wk, hG, hY⟩ := wd
      have R1 := R.grow ga w1
      obtain ⟨fD, neD⟩ := w1.fresh hD
      have h0D : H Dl = none := ga.free Dl hD
      have Rw := R1.wiped vs hvs
      obtain ⟨gl, wl⟩ := w1.lay (o := .dK []) hD
      obtain ⟨n1, n2⟩ := R.new_ne h0D neD
      have n3 : ∀ j ∈ O, (wipeE σ vs)[j]? ≠ some (some (.ref Dl)) := fun j hj z => n2 j hj (by rw [← z, wipe_get fun q => hvs j q hj])
      have hisO : ∀ i ∈ is, i ∉ O := fun i hi => hvs i (his i hi)
      have hv1O : ∀ i ∈ vs1, i ∉ O := fun i hi => hvs i (hv1 i hi)
      have his1O : ∀ i ∈ is1, i ∉ O := fun i hi => hv1O i (his1 i hi)
      let Pv : Nat → Hp → Prop := fun i H' => ∃ Hs2 kvs acc tp, Rel K mg r O Hs0 H0 Hs2 H' (wipeE σ vs) (wipeE env vs) tp ∧ Same Hs1 Hs2 ∧ Grow r Hs H Hs2 H' ∧ Hs2 Dl = none ∧ H' Dl = some (.dK kvs) ∧ RepP K mg r Hs2 (kvs.map fun q => (keyD q.1, q.2)) acc ∧
        foldR (dcTurn2 tgt is mi1 vs1 tgt1 is1 mk mv (wipeE env vs)) (items.drop i) acc tp = .ok all tpE
      have p0 : Pv 0 (upd H1 Dl (.dK [])) := ⟨Hs1, [], [], tp1, Rw.grow gl wl, Same.refl _, ga.trans gl, fD, upd_same, .nil, q2⟩
      refine ⟨fun i n H' => n = items.length - i ∧ i ≤ items.length ∧ Pv i H', ⟨items.length, by simp, Nat.zero_le _, p0⟩, ?_⟩
      rintro i n H2 ⟨rfl, hil, Hs2, kvs, acc, tp2, R2, e2, g2, f2, hD2, rs2, hc2⟩
      have gd := hG Hs2 H2 e2 R2.wd.sub
      by_cases hi2 : i < items.length
      case neg =>
        have e : i = items.length := by omega
        subst e
        refine .inl ⟨wk.stops _ gd, ?_⟩
        rw [List.drop_length] at hc2
        unfold foldR at hc2
        simp only [RE.ok.injEq] at hc2
        obtain ⟨hx, htp⟩ := hc2
        subst hx htp
        exact P _ Hs2 H2 g2 R2.wd ⟨Dl, rfl, h0D, f2, neD, kvs, hD2, rs2⟩
      refine .inr ⟨wk.goes i H2 hi2 gd, Pv (i + 1), fun H' p' => ⟨items.length - (i + 1), by omega, rfl, hi2, p'⟩, fun x H3 yy => ?_⟩
      obtain ⟨Hs3, d, g3, w3, hd, rd⟩ := hY i Hs2 H2 tp2 x H3 hi2 e2 R2.wd (wk.yields i H2 x H3 hi2 gd yy)
      rw [List.drop_eq_getElem_cons hi2] at hc2
      have hd' : items[i] = d := by rw [List.getElem?_eq_getElem hi2] at hd; exact Option.some.inj hd
      rw [hd'] at hc2
      obtain ⟨accT, tpI, hf, hrest⟩ := foldR_cons hc2
      unfold dcTurn2 at hf
      cases qt : tgt d with
      | none => rw [qt] at hf; cases hf
      | some es =>
        rw [qt] at hf
        simp only at hf
        rw [wipe_eq]
        refine hg x d es Hs3 H3 tp2 _ _ w3 rd qt fun ws rs hl => ⟨by rw [wipe_eq, wipe_setAll is _ _ his, wipe_wipe vs fun _ h => h], ?_⟩
        have R3 := rel_setAll is _ _ _ _ (R2.grow g3 w3) hisO rs hl
        have f3 := g3.no f2 hD2 neD
        have hD3 := g3.keep Dl _ hD2 neD f2
        refine hi1 _ _ _ _ _ _ _ _ R3 ?_
        cases qi : mi1 (setAll (wipeE env vs) is es) tp2 with
        | stuck => rw [qi] at hf; cases hf
        | exn cc fs tp5 => rw [qi] at hf; cases hf
        | ok items1 tpi =>
          rw [qi] at hf
          simp only at hf
          intro J1 Hs5 H5 g5 w5 wd1
          obtain ⟨Gd1, Y1, wk1, hG1, hY1⟩ := wd1
          have f5 := g5.no f3 hD3 neD
          have hD5 := g5.keep Dl _ hD3 neD f3
          have e5 := g3.ex.trans g5.ex
          have R5 := R3.grow g5 w5
          have Rb5 := R5.wiped vs1 hv1O
          have n3b : ∀ j ∈ O, (wipeE (setAll (wipeE σ vs) is ws) vs1)[j]? ≠ some (some (.ref Dl)) := fun j hj z => n3 j hj (by
            rw [← z, wipe_get fun q => hv1O j q hj, setAll_get is _ ws fun q => hisO j q hj])
          let Pv1 : Nat → Hp → Prop := fun j H' => ∃ Hs6 kvs' acc' tp', Rel K mg r O Hs0 H0 Hs6 H' (wipeE σ vs) (wipeE env vs) tp' ∧ Rel K mg r O Hs0 H0 Hs6 H' (wipeE (setAll (wipeE σ vs) is ws) vs1) (wipeE (setAll (wipeE env vs) is es) vs1) tp' ∧ Same Hs5 Hs6 ∧ Same Hs1 Hs6 ∧ Grow r Hs H Hs6 H' ∧ Hs6 Dl = none ∧ H' Dl = some (.dK kvs') ∧ RepP K mg r Hs6 (kvs'.map fun q => (keyD q.1, q.2)) acc' ∧
            foldR (dcTurn tgt1 is1 mk mv (wipeE (setAll (wipeE env vs) is es) vs1)) (items1.drop j) acc' tp' = .ok accT tpI
          have p1 : Pv1 0 H5 := ⟨Hs5, kvs, acc, tpi, R2.grow (g3.trans g5) w5, Rb5, Same.refl _, e2.trans e5, g2.trans (g3.trans g5), f5, hD5, RepP.mono e5 rs2, hf⟩
          refine ⟨fun j k H' => k = items1.length - j ∧ j ≤ items1.length ∧ Pv1 j H', ⟨items1.length, by simp, Nat.zero_le _, p1⟩, ?_⟩
          rintro j k H6 ⟨rfl, hjl, Hs6, kvs6, acc6, tp6, Ra6, Rb6, es6, e6, g6, f6, hD6, rs6, hc6⟩
          have gd1 := hG1 Hs6 H6 es6 Ra6.wd.sub
          by_cases hj2 : j < items1.length
          case neg =>
            have e : j = items1.length := by omega
            subst e
            refine .inl ⟨wk1.stops _ gd1, ?_⟩
            rw [List.drop_length] at hc6
            unfold foldR at hc6
            simp only [RE.ok.injEq] at hc6
            obtain ⟨hx, htp⟩ := hc6
            subst hx htp
            exact ⟨Hs6, kvs6, acc6, tp6, Ra6, e6, g6, f6, hD6, rs6, hrest⟩
          refine .inr ⟨wk1.goes j H6 hj2 gd1, Pv1 (j + 1), fun H' p' => ⟨items1.length - (j + 1), by omega, rfl, hj2, p'⟩, fun x1 H7 yy1 => ?_⟩
          obtain ⟨Hs7, d1, g7, w7, hd1, rd1⟩ := hY1 j Hs6 H6 tp6 x1 H7 hj2 es6 Ra6.wd (wk1.yields j H6 x1 H7 hj2 gd1 yy1)
          rw [List.drop_eq_getElem_cons hj2] at hc6
          have hd1' : items1[j] = d1 := by rw [List.getElem?_eq_getElem hj2] at hd1; exact Option.some.inj hd1
          rw [hd1'] at hc6
          obtain ⟨acc8, tp8, hf1, hrest1⟩ := foldR_cons hc6
          unfold dcTurn at hf1
          cases qt1 : tgt1 d1 with
          | none => rw [qt1] at hf1; cases hf1
          | some es1 =>
            rw [qt1] at hf1
            simp only at hf1
            rw [wipe_eq]
            refine hg1 x1 d1 es1 Hs7 H7 tp6 _ _ w7 rd1 qt1 fun ws1 rs1 hl1 => ⟨by rw [wipe_eq, wipe_setAll is1 _ _ his1, wipe_wipe vs1 fun _ h => h], ?_⟩
            have R7 := rel_setAll is1 _ _ _ _ (Rb6.grow g7 w7) his1O rs1 hl1
            have f7 := g7.no f6 hD6 neD
            have hD7 := g7.keep Dl _ hD6 neD f6
            refine pair_sound (F := Pv1 (j + 1)) hk hv R7 neD f7 hD7 (RepP.mono g7.ex rs6) hf1 fun Hs9 H9 q zv g9 w9 f9 rp => ?_
            have e9 := g7.ex.trans g9.ex
            exact ⟨Hs9, _, acc8, tp8, (Ra6.grow (g7.trans g9) w9).other f9 n1 neD n3 (fun xs z => by rw [g9.keep Dl _ hD7 neD f7] at z; first | exact st_no rfl xs (Option.some.inj z) | cases z), (Rb6.grow (g7.trans g9) w9).other f9 n1 neD n3b (fun xs z => by rw [g9.keep Dl _ hD7 neD f7] at z; first | exact st_no rfl xs (Option.some.inj z) | cases z), es6.trans e9, e6.trans e9, (g6.trans (g7.trans g9)).other h0D, f9, upd_same, rp, hrest1⟩
theorem gf_dc2 {kx vx tg iter tg1 iter1 : Expr} {scope : Scope} {own : List (Str × Nat)} {pos : Pos} {wi wi1 : TI} {g g1 : TG} {tk tv : TE} {is is1 vs1 : List Nat} {tgt tgt1 : D → Option (List D)} {mi mi1 : SE (List D)} {mk mv : SE D} (hc : X.calm = true) (hN : X.N.Nodup) (hi : GI K mg r X O E tg iter wi mi) (ok : BlkOk X.N X.env.scope scope own)
    (hg : ∀ s H C cl fp, GG K mg r (Dc2.BX X scope s H C cl fp) tg g is tgt) (hi1 : ∀ s H C cl fp, GI K mg r (Dc2.BX X scope s H C cl fp) O E0 tg1 iter1 wi1 mi1) (hg1 : ∀ s H C cl fp, GG K mg r (Dc2.BX X scope s H C cl fp) tg1 g1 is1 tgt1)
    (hk : ∀ s H C cl fp, GE K mg r (Dc2.BX X scope s H C cl fp) O E0 kx tk mk) (hv : ∀ s H C cl fp, GE K mg r (Dc2.BX X scope s H C cl fp) O E0 vx tv mv)
    (hvs : ∀ i ∈ own.map (·.2), i ∉ O) (his : ∀ i ∈ is, i ∈ own.map (·.2)) (hv1 : ∀ i ∈ vs1, i ∈ own.map (·.2)) (his1 : ∀ i ∈ is1, i ∈ vs1) (hs : ∀ x, foldedSetIterable iter X.env x = pure x := by intro _; rfl) (hs1 : ∀ env x, foldedSetIterable iter1 env x = pure x := by intro _ _; rfl) :
    GF K mg r X O E (.DictComp kx vx [⟨tg, iter, [], 0⟩, ⟨tg1, iter1, [], 0⟩] scope pos) (Dc2.wants wi g wi1 g1 tk tv (own.map (·.2)) vs1) (dc2E mi (own.map (·.2)) tgt is mi1 vs1 tgt1 is1 mk mv) :=
  ⟨Dc2.pe_dcTwo hc hN hi.pe ok hv1 (fun s H C cl fp => (hg s H C cl fp).pe) (fun s H C cl fp => (hi1 s H C cl fp).pe) (fun s H C cl fp => (hg1 s H C cl fp).pe) (fun s H C cl fp => (hk s H C cl fp).pe) (fun s H C cl fp => (hv s H C cl fp).pe) hs hs1,
    dc2_sound hi.snd (hg X.s_0 X.H_0 0 [] []).snd (hi1 X.s_0 X.H_0 0 [] []).snd (hg1 X.s_0 X.H_0 0 [] []).snd (hk X.s_0 X.H_0 0 [] []).snd (hv X.s_0 X.H_0 0 [] []).snd hvs his hv1 his1⟩
end
end G
set_option maxHeartbeats 1000000
namespace G
open PySem PySem.Spec PyProof.Rows L2
section
variable {r : Addr} {X : Cx} {K : PySem.W.Frag} {mg : Str → Option Value} {O : List Nat} {E : XK} {e e2 a b : Expr} {ts : TA} {ta tb : TE} {p pos : Pos} {ms : SE (List D)}
def indexD (d e : D) : Option D := match d, e with
  | .lst xs, .int i => (unI xs).bind fun ns => if ns.findIdx (fun n => decide (n = i)) < ns.length then some (.int ((ns.findIdx (fun n => decide (n = i)) : Nat) : Int)) else none
  | _, _ => none
theorem ms_index : MethS K mg r (rIndex K) indexD := by
  intro Hs H tp x y d e z Q w rx ry hz k
  unfold indexD at hz
  split at hz
  · rename_i xs i
    obtain ⟨ns, h1, h2⟩ := Option.bind_eq_some_iff.mp hz
    split at h2
    · rename_i hlt
      cases h2
      rw [unI_ok h1] at rx
      obtain ⟨p, rfl, h3⟩ := lst_typed RepDs.ints_of w rx
      have ey : y = V.int i := repT_int ry
      subst ey
      refine ⟨p, ns.map V.int, V.int i, ns.findIdx (fun n => decide (n = i)), V.int i, rfl, rfl, .of h3, rfl, ?_, ?_, ?_, ?_, k _ _ _ (Grow.refl _ _) w (.int _)⟩
      · rw [List.all_map]; exact List.all_eq_true.mpr fun n _ => rfl
      · have g := List.findIdx_getElem (w := hlt)
        rw [List.getElem?_map, List.getElem?_eq_getElem hlt]
        have g := of_decide_eq_true g
        rw [g]; rfl
      · simp [eqV]
      · intro m z' hm hz'
        rw [List.getElem?_map] at hz'
        obtain ⟨n, hn, rfl⟩ := Option.map_eq_some_iff.mp hz'
        have g := List.not_of_lt_findIdx hm
        obtain ⟨hl, e⟩ := List.getElem?_eq_some_iff.mp hn
        rw [e] at g
        have g := of_decide_eq_false g
        simp [eqV, g]
    · cases h2
  · cases hz
theorem ge_index {ma mb : SE D} {p1 : Pos} (ha : GO K mg r X O E a ta ma) (hb : GO K mg r X O E b tb mb) (hK : X.K = K := by rfl)
    (hbase : attributeBase a "index" X.env (eval a X.env) = eval a X.env := by rfl)
    (hfew : ((backTo pos (starEach [b] X.env)).all (fun x => !x.1) && (backToKw pos (keywordEach [] X.env)).all (fun x => x.1.isSome) && decide ([b].length + ([] : List Keyword).length + (if ([] : List Keyword).isEmpty then 0 else 1) < 30)) = true := by rfl)
    (hline : (p1.endLine == pos.line) = true := by rfl) (hs : starEach [b] X.env = (false, eval b X.env) :: starEach [] X.env := by rfl) (hplain : (backTo pos (starEach [] X.env)).any (·.1) = false := by rfl) :
    GE K mg r X O E (.Call (.Attribute a "index" p1) [b] [] pos) (tBM K "list" (rIndex K) ta (tCons tb tNil)) (methE isLstD indexD ma mb) := by
  subst hK
  exact ge_m1 PySem.F.plainAttrs_list PySem.F.slot_list_index PySem.F.type_list_index mt_index (fun _ _ _ _ _ => ty_lst) ms_index ha hb rfl hbase hfew hline hs hplain
end
end G
set_option maxHeartbeats 1000000
namespace G
open PySem PySem.Spec PyProof.Rows L2
end G
set_option maxHeartbeats 1000000
namespace G
open PySem PySem.Spec PyProof.Rows L2
end G
set_option maxHeartbeats 1000000
namespace G
open PySem PySem.Spec PyProof.Rows L2
end G
set_option maxHeartbeats 1000000
namespace G
open PySem PySem.Spec PyProof.Rows L2
section
variable {r : Addr} {X : Cx} {K : PySem.W.Frag} {mg : Str → Option Value} {O Ol : List Nat} {E : XK} {k val : Expr} {tk tv : TE} {pos : Pos}
theorem RepDs.setN {Hs : Hp} {v : V} {d : D} (h : RepD K mg r Hs v d) : ∀ {vs : List V} {ds : List D} (j : Nat), RepDs K mg r Hs vs ds → RepDs K mg r Hs (vs.set j v) (ds.set j d)
  | [], _, j, .nil => by rw [List.set_nil, List.set_nil]; exact .nil
  | _ :: _, _, 0, .cons _ t => .cons h t
  | _ :: _, _, j + 1, .cons a t => .cons a (RepDs.setN h j t)
end
end G
set_option maxHeartbeats 1000000
namespace G
open PySem PySem.Spec PyProof.Rows L2
end G
set_option maxHeartbeats 1000000
namespace G
open PySem PySem.Spec PyProof.Rows L2
end G
set_option maxHeartbeats 1000000
namespace G
open PySem PySem.Spec PyProof.Rows L2
end G
set_option maxHeartbeats 1000000
namespace RvT
open PySem PySem.Spec PyProof.Rows L2 HT
theorem adjust_rev (n : Nat) : Builtin.Slice.sliceAdjust none none (-1) (n : Int) = ((n : Int) - 1, -1) := by
  unfold Builtin.Slice.sliceAdjust
  simp
theorem places_rev (n : Nat) : Builtin.Slice.slicePlaces ((n : Int) - 1) (-1) (-1) = n := by
  unfold Builtin.Slice.slicePlaces
  rw [if_neg (by decide)]
  by_cases h : n = 0
  · subst h; rfl
  · rw [if_pos (by omega)]
    have : -(-1 : Int) = 1 := rfl
    rw [this, Int.ediv_one]
    omega
theorem filterMap_cong {α β : Type} {f g : α → Option β} : ∀ {xs : List α}, (∀ x ∈ xs, f x = g x) → xs.filterMap f = xs.filterMap g
  | [], _ => rfl
  | x :: xs, h => by rw [List.filterMap_cons, List.filterMap_cons, h x List.mem_cons_self, filterMap_cong fun y hy => h y (List.mem_cons_of_mem _ hy)]
theorem pick_rev (xs : Array Value) : ((List.range xs.size).filterMap fun (m : Nat) => xs[(((xs.size : Int) - 1) + (m : Int) * (-1)).toNat]?).toArray = xs.toList.reverse.toArray := by
  have h : ((List.range xs.size).filterMap fun (m : Nat) => xs[(((xs.size : Int) - 1) + (m : Int) * (-1)).toNat]?) = (List.range xs.size).reverse.filterMap (xs[·]?) := by
    rw [← PySem.W.krv_range, List.filterMap_map]
    refine filterMap_cong fun m hm => ?_
    have := List.mem_range.mp hm
    show xs[_]? = xs[xs.size - 1 - m]?
    congr 1
    omega
  rw [h, List.filterMap_reverse, PySem.W.krv_all]
section
variable {prog : Program} {w : World} {A : Around} {E : Value → Shared → Prop} {s : Shared}
theorem sliceApplied_rev {sl : Addr} {vl vu vs : Value} {n : Nat} {Q : Int × Int × Nat → Shared → Prop} (hs : s.heap.IsSliceOf sl vl vu vs) (pl : IsPart vl none) (pu : IsPart vu none) (ps : IsPart vs (some (-1)))
    (h : Q ((n : Int) - 1, -1, n) s) : wpAny (model prog w) A (Builtin.Slice.sliceApplied (.ref sl) (pure (n : Int))) Q E s := by
  obtain ⟨os, hos, hcs, hds⟩ := id hs
  unfold Builtin.Slice.sliceApplied Builtin.Slice.sliceFields
  refine wpAny_bind (wpAny_bind (wpAny_field hos hds (x := vl) rfl (wpAny_bind (wpAny_field hos hds (x := vu) rfl (wpAny_bind (wpAny_field hos hds (x := vs) rfl (wpAny_pure ?_)))))))
  refine wpAny_bind (slicePart_ ps ?_)
  show wpAny _ _ (if ((-1 : Int) == 0) = true then _ else _) _ _ s
  rw [if_neg (by decide)]
  refine wpAny_bind (slicePart_ pl (wpAny_bind (slicePart_ pu (wpAny_bind (wpAny_pure ?_)))))
  show wpAny _ _ (match Builtin.Slice.sliceAdjust none none (-1) (n : Int) with | (lo, hi) => pure (lo, (-1 : Int), Builtin.Slice.slicePlaces lo hi (-1))) _ _ s
  rw [adjust_rev n]
  show wpAny _ _ (pure ((n : Int) - 1, (-1 : Int), Builtin.Slice.slicePlaces ((n : Int) - 1) (-1) (-1))) _ _ s
  rw [places_rev]
  exact wpAny_pure h
theorem getItem_tuple_rev {t sl : Addr} {items : Array Value} {vl vu vs : Value} {Q : Value → Shared → Prop} (ht : IsTup s.heap t items) (hs : s.heap.IsSliceOf sl vl vu vs) (pl : IsPart vl none) (pu : IsPart vu none) (ps : IsPart vs (some (-1)))
    (h : Q (.ref s.heap.objs.size) { s with heap := s.heap.push { cls := .type "tuple", data := .seq items.toList.reverse.toArray } })
    (hsz : items.size ≤ sizeLine) : wpAny (model prog w) A (getItem (.ref t) (.ref sl)) Q E s := by
  have htake : sizeOk (.seq items.toList.reverse.toArray) := by
    show items.toList.reverse.toArray.size ≤ sizeLine
    rw [List.size_toArray, List.length_reverse, Array.length_toList]
    exact hsz
  obtain ⟨os, hos, hcs, hds⟩ := id hs
  have hTs : s.TypeIs (.ref sl) "slice" := ⟨os, hos, hcs⟩
  unfold getItem
  try with_reducible refine wpAny_holding ?_
  first | refine wpAny_bind (wpAny_pure ?_) | skip
  refine wpAny_bind (wpAny_sequenceKey ht.typeIs (by decide) ?_)
  refine wpAny_bind (wpAny_callSpecial?_slot (name := Str.ofString "__getitem__") ht.typeIs PyProof.Rows.slot_tuple_getitem
    (wpAny_call_entry PyProof.Rows.slot_tuple_getitem ht.typeIs entry_tuple_getitem ?_ (args_tuple_getitem _ _)))
  show wpAny _ _ (Builtin.Tuple.tupleItemsOf (.ref t) >>= _) _ _ s
  refine wpAny_bind (tupleItemsOf_ ht ?_)
  refine wpAny_bind (wpAny_typeOf hTs ?_)
  rw [if_pos (by decide)]
  refine wpAny_bind (sliceApplied_rev hs pl pu ps ?_)
  have hno : ¬ ((((items.size : Int) - 1) == 0 && (-1 : Int) == 1 && items.size == items.size) = true) := by
    intro q
    rw [Bool.and_eq_true, Bool.and_eq_true] at q
    exact absurd q.1.2 (by decide)
  show wpAny _ _ (if (((items.size : Int) - 1) == 0 && (-1 : Int) == 1 && items.size == items.size) = true then _ else _) _ _ s
  rw [if_neg hno, pick_rev]
  first
    | exact wpAny_bind (m := Builtin.Tuple.tupleExact _) (wpAny_newObj_type (wpAny_pure ⟨_, rfl, wpAny_pure h⟩) htake)
    | exact wpAny_bind (m := Builtin.Tuple.tupleExact _) (wpAny_newObj_type (wpAny_bind (wpAny_pure (wpAny_pure ⟨_, rfl, wpAny_pure h⟩))) htake)
    | exact wpAny_bind (wpAny_bind (m := Builtin.Tuple.tupleExact _) (wpAny_newObj_type (wpAny_pure (wpAny_pure ⟨_, rfl, wpAny_pure h⟩)) htake))
    | exact wpAny_bind (wpAny_bind (m := Builtin.Tuple.tupleExact _) (wpAny_newObj_type (wpAny_pure ⟨_, rfl, wpAny_pure h⟩) htake))
end
def tRevT (K : PySem.W.Frag) (te : TE) : TE := fun σ H Q => te σ H fun x H1 => ∃ a xs, x = .ref a ∧ SqT K H1 a xs ∧ ∀ p, H1 p = none → Q (.ref p) (upd H1 p (.tup xs.reverse))
section
variable {X : Cx}
theorem pe_revT {e : Expr} {te : TE} {k : Nat} {p1 p2 p3 pos : Pos} (he : PE X e te) : PE X (.Subscript e (.Slice none none (some (.UnaryOp .USub (.Constant (.int 1) k p1) p2)) p3) pos) (tRevT X.K te) := by
  refine ⟨fun pins s σ H Q I h => ?_⟩
  refine Subscript_ (thn (he.run pins s σ H _ I h) fun v s1 ⟨x, H1, I1, r1, q1⟩ => ?_)
  obtain ⟨a, xs, ex, hx, q⟩ := q1
  subst ex
  cases r1
  have hst : PO X (some (.UnaryOp .USub (.Constant (.int 1) k p1) p2)) (tPart (tUn (rU fun i => .int (-i)) (tC (.int 1)))) := po_some (pe_un un_neg pe_int)
  refine wpAny_Slice (thn (po_none.run pins s1 σ H1 (fun o H2 => o = none ∧ H2 = H1) I1 ⟨rfl, rfl⟩) fun vl s2 ⟨l, H2, I2, pl, el, e2⟩ => ?_)
  subst el e2
  refine thn (po_none.run pins s2 σ H2 (fun o H3 => o = none ∧ H3 = H2) I2 ⟨rfl, rfl⟩) fun vu s3 ⟨u, H3, I3, pu, eu, e3⟩ => ?_
  subst eu e3
  refine thn (hst.run pins s3 σ H3 (fun o H4 => o = some (-1) ∧ H4 = H3) I3 ⟨1, rfl, -1, rfl, rfl, rfl⟩) fun vs s4 ⟨o, H4, I4, ps, eo, e4⟩ => ?_
  subst eo e4
  have I5 : Inv X pins σ H4 { s4 with heap := s4.heap.push { cls := .type "slice", data := .fields #[vl, vu, vs] } } := I4.kept (t' := s4.toks) fun b ob q => Heap.get?_push_of_some _ q
  obtain ⟨its, r, ht, hz⟩ := I5.tuple hx
  have hlen := r.length
  show wpAny (model X.prog X.w) X.A (subscriptTail e (.Slice none none (some (.UnaryOp .USub (.Constant (.int 1) k p1) p2)) p3) (.ref a) (.ref s4.heap.objs.size)) (EP X pins σ Q) X.xe { s4 with heap := s4.heap.push { cls := .type "slice", data := .fields #[vl, vu, vs] } }
  refine tail_any (ops := [.ref a, .ref s4.heap.objs.size]) ht.typeIs (PyProof.Rows.slot_tuple_getitem.lookup) ?_ (by with_unfolding_all rfl)
  refine getItem_tuple_rev ht (Heap.IsSliceOf.new _ vl vu vs) pl pu ps ?_ (by rw [List.size_toArray]; omega)
  refine ⟨.ref _, _, I5.laid (t' := s4.toks) (o := .tup xs.reverse) (fun b ob q => Heap.get?_push_of_some _ q) (Nat.le_refl _) ?_, rfl, q _ (I5.hok.fresh (Nat.le_refl _))⟩
  exact ⟨by rw [List.length_reverse]; exact hz, _, r.reverse, IsTup.new _ _⟩
end
end RvT
namespace G
open PySem PySem.Spec PyProof.Rows L2 RvT
section
variable {r : Addr} {X : Cx} {K : PySem.W.Frag} {mg : Str → Option Value} {O : List Nat} {E : XK} {a b : Expr} {ta tb : TE} {p pos : Pos}
def revTD : D → Option D
  | .tup xs => some (.tup xs.reverse)
  | _ => none
def revTE (m : SE D) : SE D := fun env tp => (m env tp).bind fun d tp1 => RE.of (revTD d) tp1
theorem ge_revT {m : SE D} {k : Nat} {p1 p2 p3 : Pos} (ha : GO K mg r X O E a ta m) (hK : X.K = K := by rfl) : GE K mg r X O E (.Subscript a (.Slice none none (some (.UnaryOp .USub (.Constant (.int 1) k p1) p2)) p3) pos) (tRevT K ta) (revTE m) := by
  subst hK
  refine ⟨pe_revT ha.pe, fun Hs0 H0 Hs H σ env tp Q Rl P => ?_⟩
  refine ha.snd _ _ _ _ _ _ _ _ Rl (Post.bind P fun v Hs1 H1 d tp1 _ g w rv P1 => ?_)
  obtain ⟨z, hz, k⟩ := Post.ok_of P1
  unfold revTD at hz
  split at hz
  · cases hz
    obtain ⟨p, vs, rfl, _, h1, h2⟩ := repT_tup w rv
    refine ⟨p, vs, rfl, .inl h1, fun q hq => ?_⟩
    obtain ⟨g', w'⟩ := w.alloc (o := .tup vs.reverse) hq
    exact k _ _ _ g' w' (.tup upd_same ((RepDs.rev h2).mono g'.ex))
  · cases hz
end
end G
set_option maxHeartbeats 1000000
namespace G
open PySem PySem.Spec PyProof.Rows L2
section
variable {r : Addr} {X : Cx} {K : PySem.W.Frag} {mg : Str → Option Value} {O : List Nat} {E : XK} {e : Expr} {te : TE} {apos cpos tpos : Pos} {elts : List Expr} {kk : Nat}
theorem RepP.len {Hs : Hp} : ∀ {a : List (D × V)} {ds : List (D × D)}, RepP K mg r Hs a ds → a.length = ds.length
  | _, _, .nil => rfl
  | _, _, .cons _ q => by simp only [List.length_cons, RepP.len q]
end
end G
set_option maxHeartbeats 1000000
namespace SrtI
open PySem PySem.Spec PyProof.Rows PyProof.Rows.G PySem.W
section
variable {prog : Program} {w : World} {A : Around} {E : Value → Shared → Prop} {s : Shared} {r d : Addr} {es : Array DictEntry} {ep : Nat}
/-- the pair that stands at a -/
def PrAt (h : Heap) (a : Addr) (p : Int × Int) : Prop := ∃ t u, h.get? a = some { cls := .type "tuple", data := .seq #[.int p.1 t, .int p.2 u] }
theorem PrAt.keep {h h' : Heap} {a : Addr} {p : Int × Int} (x : PrAt h a p) (k : ∀ o, h.get? a = some o → h'.get? a = some o) : PrAt h' a p := by
  obtain ⟨t, u, e⟩ := x
  exact ⟨t, u, k _ e⟩
end
end SrtI
namespace G
open PySem PySem.Spec PyProof.Rows L2 SrtI
end G
set_option maxHeartbeats 1000000
namespace G
open PySem PySem.Spec PyProof.Rows L2 SrtI
def lII (a b : Int × Int) : Bool := decide (a.1 < b.1 ∨ (a.1 = b.1 ∧ a.2 < b.2))
end G
set_option maxHeartbeats 1000000
namespace MxI
open PySem PySem.Spec PyProof.Rows PySem.W SrtI G
theorem dl (a b : Int × Int) : dataLt (.tuple [.int a.1, .int a.2]) (.tuple [.int b.1, .int b.2]) = lII a b := by
  unfold lII dataLt
  by_cases h : a.1 < b.1
  · simp [keyToks, keyToksAll, PyProof.Rows.lexLt, itemOrd, itemLt, h]
  · by_cases h2 : b.1 < a.1
    · simp [keyToks, keyToksAll, PyProof.Rows.lexLt, itemOrd, itemLt, h, h2]; omega
    · have e : a.1 = b.1 := by omega
      by_cases h3 : a.2 < b.2
      · simp [keyToks, keyToksAll, PyProof.Rows.lexLt, itemOrd, itemLt, e, h3]
      · by_cases h4 : b.2 < a.2
        · simp [keyToks, keyToksAll, PyProof.Rows.lexLt, itemOrd, itemLt, e, h3, h4]
        · have e2 : a.2 = b.2 := by omega
          simp [keyToks, keyToksAll, PyProof.Rows.lexLt, itemOrd, itemLt, e, e2]
theorem al (a b : Int × Int) : alike (.tuple [.int a.1, .int a.2]) (.tuple [.int b.1, .int b.2]) = true := by simp [alike, alikeAll]
theorem dd (a : Int × Int) : (PyData.tuple [.int a.1, .int a.2]).depth ≤ 3 := by simp [PyData.depth, PyData.depthAll]
theorem PrAt.reads {h : Heap} {a : Addr} {p : Int × Int} (x : PrAt h a p) : Reads h (.ref a) (.tuple [.int p.1, .int p.2]) [] := by
  obtain ⟨t, u, e⟩ := x
  exact .tuple e rfl rfl (.cons (as := []) (bs := []) (.int _ _) (.cons (as := []) (bs := []) (.int _ _) .nil))
end MxI
namespace G
open PySem PySem.Spec PyProof.Rows L2 SrtI MxI
end G
set_option maxHeartbeats 1000000
namespace G
open PySem PySem.Spec PyProof.Rows L2
end G
set_option maxHeartbeats 1000000
namespace ZpM
open PySem PySem.Spec PyProof.Rows L2
end ZpM
namespace G
open PySem PySem.Spec PyProof.Rows L2 ZpM
end G
set_option maxHeartbeats 1000000
namespace G
open PySem PySem.Spec PyProof.Rows L2
section
variable {r : Addr} {X : Cx} {K : PySem.W.Frag} {mg : Str → Option Value} {O Ol : List Nat} {E : XK} {e : Expr} {t : TE} {pos pos' : Pos}
theorem gs_augFdiv {m : SE D} (i : Nat) {x : Str} (hN : X.N.Nodup) (h : GE K mg r X O E e t m) (hO : i ∉ O := by decide) (hi : X.N[i]? = some x := by rfl) (hx : Loc X.env.scope x := by first | exact Or.inl rfl | exact Or.inr rfl)
    (hfn : X.fn x = true ∨ X.env.scope.names.lookup x = some .local := by first | exact .inl rfl | exact .inr rfl) : GS K mg r X E O O Ol (.AugAssign (.Name x pos') .FloorDiv e pos) (tAug i t (rI CDivW fun i j => .int (i / j))) (augS i fdivD m) := by
  refine ⟨ps_aug hN hi hx h.pe iop_fdivW hfn, fun Hs0 H0 Hs H σ env tp Dn R P => ?_⟩
  unfold augS at P
  cases q : env[i]? with
  | none => rw [q] at P; exact P.elim
  | some od =>
    cases od with
    | none => rw [q] at P; exact P.elim
    | some d =>
      rw [q] at P
      simp only at P
      obtain ⟨v, hv, rv⟩ := R.vars i d q hO
      refine ⟨v, hv, h.snd _ _ _ _ _ _ _ _ R (PostS.bind R P fun u Hs1 H1 d1 tp1 _ g w R1 ru P1 => ?_)⟩
      cases d with
      | int a =>
        cases d1 with
        | int b =>
          simp only [fdivD] at P1
          by_cases c : cDiv b = true
          · rw [if_pos c] at P1
            simp only at P1
            have c := Bool.and_eq_true_iff.mp c
            cases rv
            cases ru
            refine ⟨a, b, rfl, rfl, ⟨of_decide_eq_true c.1, of_decide_eq_true c.2⟩, P1 _ _ _ (Same.refl _) ?_⟩
            have R2 := R1.set i (RepD.int (a / b))
            have eO : O.filter (· != i) = O := List.filter_eq_self.mpr fun j hj => by
              have : j ≠ i := fun z => hO (z ▸ hj)
              simpa using this
            rw [eO] at R2
            exact R2
          · rw [if_neg c] at P1
            exact P1.elim
        | _ => exact P1.elim
      | _ => exact P1.elim
def lremS (i : Nat) (m : SE D) : SS := fun env tp => match env[i]? with
  | some (some (.lst ds)) => (m env tp).bindS fun v tp1 => (match v with
    | .int k => (match unI ds with
      | some ns => if k ∈ ns then .nx (env.set i (some (.lst ((ns.erase k).map .int)))) tp1 else .stuck
      | none => .stuck)
    | _ => .stuck)
  | _ => .stuck
theorem gs_lrem {m : SE D} (i : Nat) {x : Str} {p1 p2 p3 : Pos} (hc : X.calm = true) (hO : i ∈ O) (h : GE K mg r X O E e t m) (hN : X.N[i]? = some x := by rfl) (hv : Vis X.env.scope x := by first | exact Or.inl rfl | exact Or.inr (Or.inl rfl) | exact Or.inr (Or.inr rfl)) (hd : (x == ("__debug__" : Str)) = false := by decide) (hcd : (x == ("__classdict__" : Str)) = false := by decide)
    (hbase : attributeBase (.Name x p1) "remove" X.env (eval (.Name x p1) X.env) = eval (.Name x p1) X.env := by rfl)
    (hfew : ((backTo p3 (starEach [e] X.env)).all (fun x => !x.1) && (backToKw p3 (keywordEach [] X.env)).all (fun x => x.1.isSome) && decide (([e] : List Expr).length + ([] : List Keyword).length + (if ([] : List Keyword).isEmpty then 0 else 1) < 30)) = true := by rfl)
    (hline : (p2.endLine == p3.line) = true := by rfl) (hs : starEach [e] X.env = (false, eval e X.env) :: starEach [] X.env := by rfl) (hplain : (backTo p3 (starEach [] X.env)).any (·.1) = false := by rfl)
    (hsw : swapsWith (.Call (.Attribute (.Name x p1) "remove" p2) [e] [] p3) none pos.line X.env = pure false := by rfl) (hK : X.K = K := by rfl) :
    GS K mg r X E O O Ol (.Expr (.Call (.Attribute (.Name x p1) "remove" p2) [e] [] p3) pos) (tDrop (tRemX K (fun _ _ _ _ => False) (tVar i) t)) (lremS i m) := by
  subst hK
  refine ⟨ps_expr (pe_remX hc (fun u s' ⟨a, B, sI, pins, σ, H, cls, d, e, I, nb, up, sky, na, os, ag, w⟩ => w.elim) (pe_var hN hv hd hcd) h.pe hbase hfew hline hs hplain) hsw, fun Hs0 H0 Hs H σ env tp Dn R P => ?_⟩
  obtain ⟨d0, p, b1, b2, c, c0, ne, oa⟩ := R.own i hO
  unfold lremS at P
  rw [b1] at P
  cases d0 with
  | lst ds =>
    simp only at P
    obtain ⟨vs0, k1, _⟩ := oa
    refine ⟨_, b2, .inl ⟨rfl, vs0, .of k1⟩, ?_⟩
    refine h.snd _ _ _ _ _ _ _ _ R (PostS.bind R P fun v Hs1 H1 d tp1 _ g w R1 rv P1 => ?_)
    obtain ⟨d1, p1, e1, e2, f, f0, fn, fo⟩ := R1.own i hO
    rw [b2] at e2; cases e2
    rw [b1] at e1; cases e1
    obtain ⟨vs, h1, h2⟩ := fo
    cases d with
    | int k =>
      cases rv
      simp only at P1
      cases q : unI ds with
      | none => rw [q] at P1; exact P1.elim
      | some ns =>
        rw [q] at P1
        simp only at P1
        by_cases hk : k ∈ ns
        · rw [if_pos hk] at P1
          rw [unI_ok q] at h2
          have ev := RepDs.ints_of h2
          subst ev
          exact ⟨p, ns, k, rfl, rfl, h1, fun _ => P1 _ _ _ (Same.refl _) (R1.write hO b2 ⟨_, upd_same, RepDs.ints _⟩), fun z => (z hk).elim⟩
        · rw [if_neg hk] at P1
          exact P1.elim
    | _ => exact P1.elim
  | _ => exact P.elim
end
end G
set_option maxHeartbeats 1000000
namespace G
open PySem PySem.Spec PyProof.Rows L2
def iD (es : List Int) : D := .lst (es.map .int)
def LD (ls : List (List Int)) : D := .lst (ls.map iD)
def laysQ (rows : Int) : List (List Int) → List Int → List Int → List (List Int)
  | done, cur, [] => done ++ [cur]
  | done, cur, x :: xs => if decide (cur.headD 0 < rows) = decide (x < rows) then laysQ rows done (cur ++ [x]) xs else laysQ rows (done ++ [cur]) [x] xs
def layQ (rows : Int) : List Int → List (List Int)
  | [] => []
  | x :: xs => laysQ rows [] [x] xs
theorem pd_ints : ∀ es : List Int, PyData.plainAll (pdAll (es.map D.int)) = true ∧ PyData.depthAll (pdAll (es.map D.int)) ≤ 1
  | [] => ⟨rfl, by show 0 ≤ 1; omega⟩
  | e :: es => by
    obtain ⟨a, b⟩ := pd_ints es
    refine ⟨?_, ?_⟩
    · show (PyData.plain (.int e) && PyData.plainAll (pdAll (es.map D.int))) = true
      rw [a]; rfl
    · show max (PyData.depth (.int e)) (PyData.depthAll (pdAll (es.map D.int))) ≤ 1
      have : PyData.depth (.int e) = 0 := rfl
      omega
theorem pd_lists : ∀ ls : List (List Int), PyData.plainAll (pdAll (ls.map iD)) = true ∧ PyData.depthAll (pdAll (ls.map iD)) ≤ 2
  | [] => ⟨rfl, by show 0 ≤ 2; omega⟩
  | e :: es => by
    obtain ⟨a, b⟩ := pd_lists es
    obtain ⟨c, d⟩ := pd_ints e
    refine ⟨?_, ?_⟩
    · show (PyData.plainAll (pdAll (e.map D.int)) && PyData.plainAll (pdAll (es.map iD))) = true
      rw [a, c]; rfl
    · show max (PyData.depthAll (pdAll (e.map D.int)) + 1) (PyData.depthAll (pdAll (es.map iD))) ≤ 2
      omega
section
variable {r : Addr} {X : Cx} {K : PySem.W.Frag} {mg : Str → Option Value} {O Ol : List Nat} {E : XK} {pos : Pos}
variable {Hs0 H0 Hs H : Hp} {σ : L2.St} {env : DEnv} {tp : List D} {p : Addr} {o : HO}
/-- a slot's own object is told of no more; another slot's value neither -/
theorem Rel.drop2 (R : Rel K mg r O Hs0 H0 Hs H σ env tp) (i l : Nat) (hl : l ∉ O) : Rel K mg r (O.filter (· != i)) Hs0 H0 Hs H σ ((env.set i none).set l none) tp where
  wd := R.wd
  gr := R.gr
  len := by rw [List.length_set, List.length_set]; exact R.len
  vars := fun k d a n => by
    have kl : k ≠ l := fun e => by
      subst e
      rw [List.getElem?_set] at a
      simp only [if_true] at a
      split at a <;> cases a
    rw [set_gne kl] at a
    have ki : k ≠ i := fun e => by
      subst e
      rw [List.getElem?_set] at a
      simp only [if_true] at a
      split at a <;> cases a
    rw [set_gne ki] at a
    exact R.vars k d a fun m => n (List.mem_filter.mpr ⟨m, by simpa using ki⟩)
  own := fun k hk => by
    obtain ⟨m, ne⟩ := List.mem_filter.mp hk
    have ki : k ≠ i := by simpa using ne
    have kl : k ≠ l := fun e => hl (e ▸ m)
    obtain ⟨d, p, b1, b2⟩ := R.own k m
    exact ⟨d, p, by rw [set_gne kl, set_gne ki]; exact b1, b2⟩
  dis := fun a b p ha hb e1 e2 => R.dis a b p (List.mem_filter.mp ha).1 (List.mem_filter.mp hb).1 e1 e2
theorem Rel.setN {l : Nat} (R : Rel K mg r O Hs0 H0 Hs H σ (env.set l none) tp) (hl : l ∉ O) (v : V) : Rel K mg r O Hs0 H0 Hs H (σ.set l (some v)) (env.set l none) tp where
  wd := R.wd
  gr := R.gr
  len := by rw [List.length_set]; exact R.len
  vars := fun k d a n => by
    have kl : k ≠ l := fun e => by
      subst e
      rw [List.getElem?_set] at a
      simp only [if_true] at a
      split at a <;> cases a
    obtain ⟨w, b1, b2⟩ := R.vars k d a n
    exact ⟨w, by rw [set_gne kl]; exact b1, b2⟩
  own := fun k hk => by
    have kl : k ≠ l := fun e => hl (e ▸ hk)
    obtain ⟨d, p, b1, b2, c⟩ := R.own k hk
    exact ⟨d, p, b1, by rw [set_gne kl]; exact b2, c⟩
  dis := fun a b p ha hb e1 e2 => by
    have na : a ≠ l := fun e => hl (e ▸ ha)
    have nb : b ≠ l := fun e => hl (e ▸ hb)
    rw [set_gne na] at e1
    rw [set_gne nb] at e2
    exact R.dis a b p ha hb e1 e2
/-- an object that is no slot's and does not stand still is written -/
theorem Rel.poke (R : Rel K mg r O Hs0 H0 Hs H σ env tp) (u : HO) (hs : Hs p = none) (h0 : H0 p = none) (ne : p ≠ r) (hd : ∀ k ∈ O, σ[k]? ≠ some (some (.ref p))) (nt : ∀ xs : StU, H p ≠ some xs.1 := by (intro xs z; first | (rw [upd_same] at z; exact st_no rfl xs (Option.some.inj z)) | (rename_i zh _; rw [zh] at z; exact st_no rfl xs (Option.some.inj z)) | (exfalso; simp [*] at z; done))) : Rel K mg r O Hs0 H0 Hs (upd H p u) σ env tp where
  wd := R.wd.write hs ne nt
  gr := ⟨fun b q e n c => by rw [upd_ne fun z => by subst z; rw [h0] at e; cases e]; exact R.gr.keep b q e n c, fun b e => R.gr.free b (upd_free e), R.gr.ex, R.gr.new, fun b xs e => by rw [upd_ne (ne_of_none e h0)]; exact R.gr.tup b xs e⟩
  len := R.len
  vars := R.vars
  own := fun k hk => by
    obtain ⟨d, p', b1, b2, c1, c2, c3, c4⟩ := R.own k hk
    have np : p' ≠ p := fun e => hd k hk (e ▸ b2)
    exact ⟨d, p', b1, b2, c1, c2, c3, c4.grow (Same.refl _) fun q e => by rw [upd_ne np]; exact e⟩
  dis := R.dis
/-- an object that is no slot's comes to stand still -/
theorem Rel.still (R : Rel K mg r O Hs0 H0 Hs H σ env tp) (hH : H p = some o) (hs : Hs p = none) (h0 : H0 p = none) (ne : p ≠ r) (hd : ∀ k ∈ O, σ[k]? ≠ some (some (.ref p))) (no : ∀ φ, o ≠ .ext φ := by intros; nofun) : Rel K mg r O Hs0 H0 (upd Hs p o) H σ env tp ∧ Same Hs (upd Hs p o) := by
  have sm : Same Hs (upd Hs p o) := same_new hs
  refine ⟨⟨⟨fun b q e => ?_, ?_, ?_, fun b φ e => ?_⟩, ⟨R.gr.keep, R.gr.free, R.gr.ex.trans sm, fun b q n e => ?_, R.gr.tup⟩, R.len, fun k d a n => ?_, fun k hk => ?_, R.dis⟩, sm⟩
  · by_cases z : b = p
    · subst z; rw [upd_same] at e; cases e; exact .inl hH
    · rw [upd_ne z] at e; exact R.wd.sub b q e
  · rw [upd_ne ne.symm]; exact R.wd.tn
  · obtain ⟨vs, a, b⟩ := R.wd.tH
    exact ⟨vs, a, b.mono sm⟩
  · by_cases z : b = p
    · subst z; rw [upd_same] at e; exact no φ (Option.some.inj e)
    · rw [upd_ne z] at e; exact R.wd.nx b φ e
  · by_cases z : b = p
    · subst z; exact .inr (.inl h0)
    · rw [upd_ne z] at e; exact R.gr.new b q n e
  · obtain ⟨v, b1, b2⟩ := R.vars k d a n
    exact ⟨v, b1, b2.mono sm⟩
  · obtain ⟨d, p', b1, b2, c1, c2, c3, c4⟩ := R.own k hk
    have np : p' ≠ p := fun e => hd k hk (e ▸ b2)
    exact ⟨d, p', b1, b2, by rw [upd_ne np]; exact c1, c2, c3, c4.grow sm fun q e => e⟩
/-- a slot is told of again: its own list -/
theorem Rel.back {i : Nat} {E0 : DEnv} {ds : List D} {vs : List V} (R : Rel K mg r (O.filter (· != i)) Hs0 H0 Hs H σ E0 tp) (hiO : i ∈ O) (hi : i < E0.length) (hσ : σ[i]? = some (some (.ref p))) (hs : Hs p = none) (h0 : H0 p = none) (ne : p ≠ r) (hd : ∀ k ∈ O.filter (· != i), σ[k]? ≠ some (some (.ref p)))
    (hH : H p = some (.lst vs)) (hr : RepDs K mg r Hs vs ds) : Rel K mg r O Hs0 H0 Hs H σ (E0.set i (some (.lst ds))) tp where
  wd := R.wd
  gr := R.gr
  len := by rw [List.length_set]; exact R.len
  vars := fun k d a n => by
    by_cases ki : k = i
    · subst ki
      rw [set_get hi] at a
      exact (n hiO).elim
    · rw [set_gne ki] at a
      exact R.vars k d a fun m => n (List.mem_filter.mp m).1
  own := fun k hk => by
    by_cases ki : k = i
    · subst ki
      exact ⟨.lst ds, p, set_get hi, hσ, hs, h0, ne, vs, hH, hr⟩
    · obtain ⟨d, p', b1, b2⟩ := R.own k (List.mem_filter.mpr ⟨hk, by simpa using ki⟩)
      exact ⟨d, p', by rw [set_gne ki]; exact b1, b2⟩
  dis := fun a b q ha hb e1 e2 => by
    by_cases ka : a = i
    · by_cases kb : b = i
      · rw [ka, kb]
      · subst ka
        rw [hσ] at e1; cases e1
        exact (hd b (List.mem_filter.mpr ⟨hb, by simpa using kb⟩) e2).elim
    · by_cases kb : b = i
      · subst kb
        rw [hσ] at e2; cases e2
        exact (hd a (List.mem_filter.mpr ⟨ha, by simpa using ka⟩) e1).elim
      · exact R.dis a b q (List.mem_filter.mpr ⟨ha, by simpa using ka⟩) (List.mem_filter.mpr ⟨hb, by simpa using kb⟩) e1 e2
/-- nobody's object is where nothing is -/
theorem Rel.nobody (R : Rel K mg r O Hs0 H0 Hs H σ env tp) (h : H p = none) : Hs p = none ∧ H0 p = none ∧ p ≠ r ∧ ∀ k ∈ O, σ[k]? ≠ some (some (.ref p)) := by
  obtain ⟨a, b⟩ := R.wd.fresh h
  refine ⟨a, R.gr.free p h, b, fun k hk e => ?_⟩
  obtain ⟨d, q, b1, b2, c1, c2, c3, c4⟩ := R.own k hk
  rw [e] at b2; cases b2
  obtain ⟨o, z⟩ := c4.there
  rw [h] at z; cases z
theorem Rel.laid (R : Rel K mg r O Hs0 H0 Hs H σ env tp) (h : H p = none) (u : HO) : Rel K mg r O Hs0 H0 Hs (upd H p u) σ env tp :=
  R.grow (R.wd.lay (o := u) h).1 (R.wd.lay (o := u) h).2
theorem atI_last {α : Type} (vs : List α) (v : α) : atI (vs ++ [v]) (-1) = some v := by
  unfold atI ixN
  rw [if_neg (by omega), List.length_append, List.length_singleton, if_pos (by omega)]
  show (vs ++ [v])[(-1 + ((vs.length + 1 : Nat) : Int)).toNat]? = some v
  have e : (-1 + ((vs.length + 1 : Nat) : Int)).toNat = vs.length := by omega
  rw [e, List.getElem?_append_right (Nat.le_refl _), Nat.sub_self]; rfl
theorem atI_zero {α : Type} (v : α) (vs : List α) : atI (v :: vs) 0 = some v := by
  unfold atI ixN
  rw [if_pos (by omega), List.length_cons, if_pos (by omega)]
  rfl
def isNilD : Option (Option D) → Bool
  | some (some (.lst [])) => true
  | _ => false
def intO : Option (Option D) → Option Int
  | some (some (.int k)) => some k
  | _ => Option.none
theorem isNilD_ok {x : Option (Option D)} (h : isNilD x = true) : x = some (some (.lst [])) := by
  unfold isNilD at h
  split at h
  · rfl
  · cases h
theorem intO_ok {x : Option (Option D)} {k : Int} (h : intO x = some k) : x = some (some (.int k)) := by
  unfold intO at h
  split at h
  · cases h; rfl
  · cases h
def layS (i j l : Nat) (mi : SE (List D)) : SS := fun env tp => (mi env tp).bindS fun items tp1 =>
  if isNilD env[i]? = true then (match intO env[j]? with
    | some rows => (match unI items with
      | some xs => if xs.length < sizeLine ∧ l < env.length then .nx (((env.set i Option.none).set l Option.none).set i (some (LD (layQ rows xs)))) tp1 else .stuck
      | Option.none => .stuck)
    | Option.none => .stuck)
  else .stuck
abbrev tLast (K : PySem.W.Frag) (i : Nat) : TE := tOp (rIx K) (tVar i) (tUn (rU fun i => .int (-i)) (tC (.int 1)))
def tLay (K : PySem.W.Frag) (i j l : Nat) : TS :=
  tIfS (tAnd (tTest (tOp (rNeP K) (tVar i) (tLst tNil))) (tTest (tOp (rEqP K) (tOp rLtD (tOp (rIx K) (tLast K i) (tC (.int 0))) (tVar j)) (tOp rLtD (tVar l) (tVar j)))))
    (tDrop (tBM K "list" rAppend (tLast K i) (tCons (tVar l) tNil)))
    (tDrop (tBM K "list" rAppend (tVar i) (tCons (tLst (tCons (tVar l) tNil)) tNil)))
/-- the list at p: all but its last list stand still -/
def Live (K : PySem.W.Frag) (mg : Str → Option Value) (r : Addr) (O : List Nat) (Hs H0 H : Hp) (σ : L2.St) (p : Addr) (done : List (List Int)) (cur : List Int) : Prop :=
  ∃ vs pl, H p = some (.lst (vs ++ [.ref pl])) ∧ RepDs K mg r Hs vs (done.map iD) ∧ H pl = some (.lst (cur.map V.int)) ∧ Hs pl = Option.none ∧ H0 pl = Option.none ∧ pl ≠ r ∧ pl ≠ p ∧ ∀ k ∈ O, σ[k]? ≠ some (some (.ref pl))
theorem RepDs.snoc {vs : List V} {ds : List D} {v : V} {d : D} (h : RepDs K mg r Hs vs ds) (k : RepD K mg r Hs v d) : RepDs K mg r Hs (vs ++ [v]) (ds ++ [d]) := h.append (.cons k .nil)
theorem live_rep {q : Addr} {vs : List V} {done : List (List Int)} {cur : List Int} {pl : Addr} (hp : H q = some (.lst (vs ++ [.ref pl]))) (hr : RepDs K mg r H vs (done.map iD)) (hl : H pl = some (.lst (cur.map V.int))) : RepD K mg r H (.ref q) (LD (done ++ [cur])) := by
  refine .lst hp ?_
  rw [List.map_append]
  exact hr.snoc (.lst hl (RepDs.ints cur))
/-- one turn -/
theorem lay_turn {i j l : Nat} {rows x : Int} {D : Ends} {n : Nat} (hO : i ∉ O) (hl : l ∉ O) (R : Rel K mg r O Hs0 H0 Hs H σ env tp) (hi : σ[i]? = some (some (.ref p))) (hj : σ[j]? = some (some (.int rows))) (hx : σ[l]? = some (some (.int x)))
    (hs : Hs p = Option.none) (h0 : H0 p = Option.none) (ne : p ≠ r) (hd : ∀ k ∈ O, σ[k]? ≠ some (some (.ref p))) (hn : n < sizeLine)
    (alt : (H p = some (.lst []) ∧ ∀ Hs' H', Same Hs Hs' → Rel K mg r O Hs0 H0 Hs' H' σ env tp → Hs' p = Option.none → Live K mg r O Hs' H0 H' σ p [] [x] → D.nx σ H') ∨
      ∃ done cur, cur ≠ [] ∧ done.length < n ∧ cur.length < n ∧ Live K mg r O Hs H0 H σ p done cur ∧
        ∀ Hs' H' done' cur', Same Hs Hs' → Rel K mg r O Hs0 H0 Hs' H' σ env tp → Hs' p = Option.none → Live K mg r O Hs' H0 H' σ p done' cur' → cur' ≠ [] → done'.length ≤ done.length + 1 → cur'.length ≤ cur.length + 1 → (∀ xs, laysQ rows done' cur' xs = laysQ rows done cur (x :: xs)) → D.nx σ H') :
    tLay K i j l D σ H := by
  have z1 : (1 : Nat) ≤ sizeLine := by omega
  rcases alt with ⟨hp, nx⟩ | ⟨done, cur, nc, dn, cn, ⟨vs, pl, l1, l2, l3, l4, l5, l6, l7, l8⟩, nx⟩
  · refine ⟨.ref p, hi, Nat.zero_le _, fun a ha => ?_⟩
    have ap : p ≠ a := fun e => by rw [← e, hp] at ha; cases ha
    have hp1 : upd H a (.lst []) p = some (.lst []) := by rw [upd_ne ap]; exact hp
    refine ⟨.list [], .list [], .lst (.inl (.of hp1)) .nil, .lst (.inl (.of upd_same)) .nil, rfl, rfl, by decide, _, rfl, ?_⟩
    refine iteF (iteF ?_)
    have R1 := R.laid ha (.lst [])
    refine ⟨.ref p, hi, .inl ⟨rfl, [], .inl (.of hp1)⟩, .int x, hx, z1, fun b hb => ?_⟩
    obtain ⟨n1, n2, n3, n4⟩ := R1.nobody hb
    have bp : p ≠ b := fun e => by rw [← e, hp1] at hb; cases hb
    refine ⟨p, [], .ref b, rfl, rfl, by rw [upd_ne bp]; exact hp1, by show 0 < sizeLine; omega, ?_⟩
    have R2 := (R1.laid hb (.lst [.int x])).poke (.lst ([] ++ [.ref b])) hs h0 ne hd (fun xs z => by rw [upd_ne bp, hp1] at z; first | exact st_no rfl xs (Option.some.inj z) | cases z)
    refine nx Hs _ (Same.refl _) R2 hs ⟨[], b, upd_same, .nil, ?_, n1, n2, n3, bp.symm, n4⟩
    rw [upd_ne bp.symm, upd_same]; rfl
  · obtain ⟨c, cs, rfl⟩ : ∃ c cs, cur = c :: cs := by cases cur with
      | nil => exact (nc rfl).elim
      | cons c cs => exact ⟨c, cs, rfl⟩
    refine ⟨.ref p, hi, Nat.zero_le _, fun a ha => ?_⟩
    have ap : p ≠ a := fun e => by rw [← e, l1] at ha; cases ha
    have al : pl ≠ a := fun e => by rw [← e, l3] at ha; cases ha
    have hp1 : upd H a (.lst []) p = some (.lst (vs ++ [.ref pl])) := by rw [upd_ne ap]; exact l1
    have hl1 : upd H a (.lst []) pl = some (.lst ((c :: cs).map V.int)) := by rw [upd_ne al]; exact l3
    have R1 := R.laid ha (.lst [])
    have vl : vs.length = done.length := by rw [l2.length, List.length_map]
    have rp := live_rep hp1 (l2.mono (Same.trans R1.wd.sub (Same.refl _))) hl1
    obtain ⟨pa, pb⟩ := pd_lists (done ++ [c :: cs])
    have dp : Dp K (upd H a (.lst [])) (.ref p) (.list (pdAll ((done ++ [c :: cs]).map iD))) := RepD.dp (Same.refl _) rp pa
    refine ⟨_, .list [], dp, .lst (.inl (.of upd_same)) .nil, pa, rfl, by show PyData.depthAll _ + 1 ≤ 60; omega, _, rfl, ?_⟩
    have ev : (!PyData.eqv (.list (pdAll ((done ++ [c :: cs]).map iD))) (.list [])) = true := by
      cases done <;> rfl
    rw [ev]
    refine iteT ?_
    refine ⟨.ref p, hi, 1, rfl, .inl ⟨p, _, -1, .ref pl, rfl, rfl, .inl (.of hp1), atI_last _ _, .inl ⟨pl, _, 0, .int c, rfl, rfl, .inl (.of hl1), atI_zero _ _, .int rows, hj, .inl ⟨c, rows, rfl, rfl, .int x, hx, .int rows, hj, .inl ⟨x, rows, rfl, rfl, .bool _, .bool _, .bl _, .bl _, rfl, rfl, Nat.zero_le _, _, rfl, ?_⟩⟩⟩⟩⟩
    show (if (decide (c < rows) == decide (x < rows)) = true then _ else _)
    by_cases q : decide (c < rows) = decide (x < rows)
    · refine (if_pos (by rw [q]; exact beq_self_eq_true _)).mpr ?_
      refine ⟨.ref p, hi, 1, rfl, .inl ⟨p, _, -1, .ref pl, rfl, rfl, .inl (.of hp1), atI_last _ _, .inl ⟨rfl, _, .inl (.of hl1)⟩, .int x, hx, pl, _, .int x, rfl, rfl, hl1, by rw [List.length_map]; omega, ?_⟩⟩
      have R2 := R1.poke (.lst ((c :: cs).map V.int ++ [.int x])) l4 l5 l6 l8 (fun xs z => by rw [hl1] at z; exact st_no rfl xs (Option.some.inj z))
      refine nx Hs _ done (c :: cs ++ [x]) (Same.refl _) R2 hs ⟨vs, pl, by rw [upd_ne l7.symm]; exact hp1, l2, ?_, l4, l5, l6, l7, l8⟩ (by simp) (by omega) (by simp) fun xs => ?_
      · rw [upd_same]; simp
      · show _ = (if decide (c < rows) = decide (x < rows) then _ else _)
        rw [if_pos q]
    · refine (if_neg (fun e => q (eq_of_beq e))).mpr ?_
      refine ⟨.ref p, hi, .inl ⟨rfl, _, .inl (.of hp1)⟩, .int x, hx, z1, fun b hb => ?_⟩
      obtain ⟨n1, n2, n3, n4⟩ := R1.nobody hb
      have bp : p ≠ b := fun e => by rw [← e, hp1] at hb; cases hb
      have bl : pl ≠ b := fun e => by rw [← e, hl1] at hb; cases hb
      refine ⟨p, _, .ref b, rfl, rfl, by rw [upd_ne bp]; exact hp1, by rw [List.length_append, List.length_singleton]; omega, ?_⟩
      have R2 := (R1.laid hb (.lst [.int x])).poke (.lst ((vs ++ [.ref pl]) ++ [.ref b])) hs h0 ne hd (fun xs z => by rw [upd_ne bp, hp1] at z; first | exact st_no rfl xs (Option.some.inj z) | cases z)
      have hl2 : upd (upd (upd H a (.lst [])) b (.lst [.int x])) p (.lst ((vs ++ [.ref pl]) ++ [.ref b])) pl = some (.lst ((c :: cs).map V.int)) := by rw [upd_ne l7, upd_ne bl]; exact hl1
      obtain ⟨R3, sm⟩ := R2.still hl2 l4 l5 l6 l8
      refine nx _ _ (done ++ [c :: cs]) [x] sm R3 (by rw [upd_ne l7.symm]; exact hs) ⟨vs ++ [.ref pl], b, upd_same, ?_, ?_, by rw [upd_ne bl.symm]; exact n1, n2, n3, bp.symm, n4⟩ (by simp) (by simp) (by simp) fun xs => ?_
      · rw [List.map_append]
        exact (l2.mono sm).snoc (.lst upd_same (RepDs.ints _))
      · rw [upd_ne bp.symm, upd_same]; rfl
      · show _ = (if decide (c < rows) = decide (x < rows) then _ else _)
        rw [if_neg q]
variable {tg e : Expr} {mi : SE (List D)} {wi : TI} {g : TG}
theorem gs_lay (i j l : Nat) {x y z : Str} {p1 p2 p3 p4 p5 p6 p7 p8 p9 p10 p11 p12 p13 p14 p15 q1 q2 q3 q4 q5 q6 q7 q8 q9 q10 q11 q12 q13 q14 q15 : Pos} {k1 k2 k3 : _} {pos' : Pos}
    (hp : PassesOwn (model X.prog X.w) X.A X.env X.xe) (hc : X.calm = true) (hu : X.A.units + 64 < cLine)
    (hi : GI K mg r X O E tg e wi mi) (hg : GG K mg r X tg g [l] t1) (hO : i ∈ O) (hj : j ∉ O) (hl : l ∉ O) (hjl : j ≠ l)
    (hx : ∀ p : Pos, PE X (.Name x p) (tVar i)) (hy : ∀ p : Pos, PE X (.Name y p) (tVar j)) (hz : ∀ p : Pos, PE X (.Name z p) (tVar l))
    (hm : behindInMarks .Eq (.Compare (.Name z p11) [.Lt] [.Name y p12] p13) = false := by rfl)
    (hb1 : attributeBase (.Subscript (.Name x q1) (.UnaryOp .USub (.Constant (.int 1) k3 q2) q3) q4) "append" X.env (eval (.Subscript (.Name x q1) (.UnaryOp .USub (.Constant (.int 1) k3 q2) q3) q4) X.env) = eval (.Subscript (.Name x q1) (.UnaryOp .USub (.Constant (.int 1) k3 q2) q3) q4) X.env := by rfl)
    (hf1 : ((backTo q7 (starEach [.Name z q6] X.env)).all (fun x => !x.1) && (backToKw q7 (keywordEach [] X.env)).all (fun x => x.1.isSome) && decide (([.Name z q6] : List Expr).length + ([] : List Keyword).length + (if ([] : List Keyword).isEmpty then 0 else 1) < 30)) = true := by rfl)
    (hl1 : (q5.endLine == q7.line) = true := by rfl) (hs1 : starEach [.Name z q6] X.env = (false, eval (.Name z q6) X.env) :: starEach [] X.env := by rfl) (hp1 : (backTo q7 (starEach [] X.env)).any (·.1) = false := by rfl)
    (hw1 : swapsWith (.Call (.Attribute (.Subscript (.Name x q1) (.UnaryOp .USub (.Constant (.int 1) k3 q2) q3) q4) "append" q5) [.Name z q6] [] q7) none q8.line X.env = pure false := by rfl)
    (hb2 : attributeBase (.Name x q9) "append" X.env (eval (.Name x q9) X.env) = eval (.Name x q9) X.env := by rfl)
    (hf2 : ((backTo q13 (starEach [.List [.Name z q11] q12] X.env)).all (fun x => !x.1) && (backToKw q13 (keywordEach [] X.env)).all (fun x => x.1.isSome) && decide (([.List [.Name z q11] q12] : List Expr).length + ([] : List Keyword).length + (if ([] : List Keyword).isEmpty then 0 else 1) < 30)) = true := by rfl)
    (hl2 : (q10.endLine == q13.line) = true := by rfl) (hs2 : starEach [.List [.Name z q11] q12] X.env = (false, eval (.List [.Name z q11] q12) X.env) :: starEach [] X.env := by rfl) (hp2 : (backTo q13 (starEach [] X.env)).any (·.1) = false := by rfl)
    (hs3 : starEach [.Name z q11] X.env = (false, eval (.Name z q11) X.env) :: starEach [] X.env := by rfl)
    (hw2 : swapsWith (.Call (.Attribute (.Name x q9) "append" q10) [.List [.Name z q11] q12] [] q13) none q14.line X.env = pure false := by rfl)
    (hs : ∀ x, foldedSetIterable e X.env x = pure x := by intro _; rfl) (hK : X.K = K := by rfl) :
    GS K mg r X E O O Ol (.For tg e [.If (.BoolOp .And [.Compare (.Name x p1) [.NotEq] [.List [] p2] p3,
        .Compare (.Compare (.Subscript (.Subscript (.Name x p4) (.UnaryOp .USub (.Constant (.int 1) k1 p5) p6) p7) (.Constant (.int 0) k2 p8) p9) [.Lt] [.Name y p10] p14) [.Eq] [.Compare (.Name z p11) [.Lt] [.Name y p12] p13] p15] q15)
      [.Expr (.Call (.Attribute (.Subscript (.Name x q1) (.UnaryOp .USub (.Constant (.int 1) k3 q2) q3) q4) "append" q5) [.Name z q6] [] q7) q8]
      [.Expr (.Call (.Attribute (.Name x q9) "append" q10) [.List [.Name z q11] q12] [] q13) q14] pos'] [] pos) (tFor wi g (tLay K i j l)) (layS i j l mi) := by
  subst hK
  have il : i ≠ l := fun e => hl (e ▸ hO)
  have ij : j ≠ i := fun e => hj (e ▸ hO)
  have u1 : X.A.units + 64 < cLine := hu
  refine ⟨ps_for hp hc hi.pe hg.pe (pss_one (ps_if (pw_and (pt_cmpR (op_neP hu) (hx _) (pe_lst pa_nil) (nomark _)) (pw_and1 (pt_cmpR (op_eqP hu) (pe_cmpR opr_lt (pe_ix ix_seq (pe_ix ix_seq (hx _) (pe_un un_neg pe_int) (fun _ _ => rfl)) pe_int (fun _ _ => rfl)) (hy _) (nomark _)) (pe_cmpR opr_lt (hz _) (hy _) (nomark _)) hm))).pt
    (pss_one (ps_expr (pe_bm PySem.F.plainAttrs_list PySem.F.slot_list_append PySem.F.type_list_append mt_append (pe_ix ix_seq (hx _) (pe_un un_neg pe_int) (fun _ _ => rfl)) (pa_cons (hz _) pa_nil hs1) hb1 hf1 hl1 hs1 hp1) hw1))
    (pss_one (ps_expr (pe_bm PySem.F.plainAttrs_list PySem.F.slot_list_append PySem.F.type_list_append mt_append (hx _) (pa_cons (pe_lst (pa_cons (hz _) pa_nil hs3)) pa_nil hs2) hb2 hf2 hl2 hs2 hp2) hw2)))) hs, fun Hs0 H0 Hs H σ env tp Dn R P => ?_⟩
  refine hi.snd _ _ _ _ _ _ _ _ R (PostS.bind R P fun J Hs1 H1 items tp1 _ gg w R1 wd P1 => ?_)
  by_cases c0 : isNilD env[i]? = true
  · rw [if_pos c0] at P1
    cases c1 : intO env[j]? with
    | none => rw [c1] at P1; exact P1.elim
    | some rows =>
      rw [c1] at P1
      cases c2 : unI items with
      | none => rw [c2] at P1; exact P1.elim
      | some xs =>
        rw [c2] at P1
        simp only at P1
        by_cases c3 : xs.length < sizeLine ∧ l < env.length
        · rw [if_pos c3] at P1
          have ei := isNilD_ok c0
          have ej := intO_ok c1
          have ex := unI_ok c2
          subst ex
          obtain ⟨d0, p, b1, b2, s2, s4, s3, oa⟩ := R1.own i hO
          rw [ei] at b1; cases b1
          obtain ⟨vs, hH, hv⟩ := oa
          cases hv
          obtain ⟨Gd, Y, wk, hG, hY⟩ := wd
          rw [List.length_map] at wk
          have R0 := R1.drop2 i l hl
          have hO' : i ∉ O.filter (· != i) := fun m => by simpa using (List.mem_filter.mp m).2
          have hl' : l ∉ O.filter (· != i) := fun m => hl (List.mem_filter.mp m).1
          have hj' : j ∉ O.filter (· != i) := fun m => hj (List.mem_filter.mp m).1
          have ilen : i < env.length := by
            rcases Nat.lt_or_ge i env.length with z | z
            · exact z
            · rw [List.getElem?_eq_none z] at ei; cases ei
          have ejE : ((env.set i none).set l none)[j]? = some (some (.int rows)) := by rw [set_gne hjl, set_gne ij]; exact ej
          have s5 : ∀ k ∈ O.filter (· != i), σ[k]? ≠ some (some (.ref p)) := fun k hk e => hO' ((R1.dis k i p (List.mem_filter.mp hk).1 hO e b2) ▸ hk)
          refine for_it wk (fun k σ H => ∃ Hs, Rel X.K mg r (O.filter (· != i)) Hs0 H0 Hs H σ ((env.set i none).set l none) tp1 ∧ Same Hs1 Hs ∧ σ[i]? = some (some (.ref p)) ∧ Hs p = none ∧ (∀ k ∈ O.filter (· != i), σ[k]? ≠ some (some (.ref p))) ∧
            ((k = 0 ∧ H p = some (.lst [])) ∨ ∃ done cur, cur ≠ [] ∧ done.length < k ∧ cur.length ≤ k ∧ laysQ rows done cur (xs.drop k) = layQ rows xs ∧ Live X.K mg r (O.filter (· != i)) Hs H0 H σ p done cur)) ⟨Hs1, R0, Same.refl _, b2, s2, s5, .inl ⟨rfl, hH⟩⟩
            (fun k σ H _ ⟨Hs2, R2, e2, _⟩ => hG Hs2 H e2 R2.wd.sub) (fun k x σ H H' hk ⟨Hs2, R2, e2, f1, f2, f3, alt⟩ y => ?_) (fun σ H ⟨Hs2, R2, e2, f1, f2, f3, alt⟩ => ?_)
          · obtain ⟨Hs3, d, g3, w3, hd, rd⟩ := hY k Hs2 H tp1 x H' (by rw [List.length_map]; exact hk) e2 R2.wd y
            rw [List.getElem?_map, List.getElem?_eq_getElem hk] at hd
            have hd : D.int xs[k] = d := Option.some.inj hd
            subst hd
            refine hg.snd x _ [.int xs[k]] Hs3 H' tp1 σ _ w3 rd rfl fun vs rs hl2 => ?_
            cases rs with
            | cons q qs =>
              cases qs
              cases q
              have R3 := (R2.grow g3 w3).setN hl' (.int xs[k])
              have e3 := e2.trans g3.ex
              have h1 : (σ.set l (some (.int xs[k])))[i]? = some (some (.ref p)) := by rw [set_gne il]; exact f1
              have h3 : (σ.set l (some (.int xs[k])))[l]? = some (some (.int xs[k])) := set_get (by rw [R2.len, List.length_set, List.length_set]; exact c3.2)
              obtain ⟨vj, h2, h2r⟩ := R3.vars j _ ejE hj'
              cases h2r
              have f3' : ∀ a ∈ O.filter (· != i), (σ.set l (some (.int xs[k])))[a]? ≠ some (some (.ref p)) := fun a ha => by
                have na : a ≠ l := fun e => hl' (e ▸ ha)
                rw [set_gne na]; exact f3 a ha
              have hp3 : Hs3 p = none := by
                rcases alt with ⟨_, z⟩ | ⟨_, _, _, _, _, _, vs, pl, z, _⟩
                · exact g3.no f2 z s3
                · exact g3.no f2 z s3
              refine lay_turn (n := k + 1) hO' hl' R3 h1 h2 h3 hp3 s4 s3 f3' (by omega) ?_
              rcases alt with ⟨k0, z⟩ | ⟨done, cur, nc, dn, cn, eq, vs, pl, l1, l2, l3, l4, l5, l6, l7, l8⟩
              · subst k0
                refine .inl ⟨g3.keep p _ z s3 f2, fun Hs' H' e4 R4 hp4 lv => ⟨Hs', R4, e3.trans e4, h1, hp4, f3', .inr ⟨[], [xs[0]], by simp, by simp, by simp, ?_, lv⟩⟩⟩
                cases xs with
                | nil => cases hk
                | cons a as => rfl
              · have lv3 : Live X.K mg r (O.filter (· != i)) Hs3 H0 H' (σ.set l (some (.int xs[k]))) p done cur := by
                  refine ⟨vs, pl, g3.keep p _ l1 s3 f2, l2.mono g3.ex, g3.keep pl _ l3 l6 l4, g3.no l4 l3 l6, l5, l6, l7, fun a ha => ?_⟩
                  have na : a ≠ l := fun e => hl' (e ▸ ha)
                  rw [set_gne na]; exact l8 a ha
                refine .inr ⟨done, cur, nc, by omega, by omega, lv3, fun Hs' H' done' cur' e4 R4 hp4 lv nc' dn' cn' eq' => ⟨Hs', R4, e3.trans e4, h1, hp4, f3', .inr ⟨done', cur', nc', by omega, by omega, ?_, lv⟩⟩⟩
                rw [eq', ← eq, ← List.drop_eq_getElem_cons hk]
          · rcases alt with ⟨k0, z⟩ | ⟨done, cur, nc, dn, cn, eq, vs, pl, l1, l2, l3, l4, l5, l6, l7, l8⟩
            · have xn : xs = [] := List.length_eq_zero_iff.mp k0
              subst xn
              exact P1 _ _ _ e2 (R2.back hO (by rw [List.length_set, List.length_set]; exact ilen) f1 f2 s4 s3 f3 z .nil)
            · obtain ⟨R3, sm⟩ := R2.still l3 l4 l5 l6 l8
              rw [List.drop_length] at eq
              have eq : done ++ [cur] = layQ rows xs := eq
              refine P1 _ _ _ (e2.trans sm) ?_
              unfold LD
              rw [← eq]
              refine R3.back hO (by rw [List.length_set, List.length_set]; exact ilen) f1 (by rw [upd_ne l7.symm]; exact f2) s4 s3 f3 l1 ?_
              rw [List.map_append]
              exact (l2.mono sm).snoc (.lst upd_same (RepDs.ints _))
        · rw [if_neg c3] at P1; exact P1.elim
  · rw [if_neg c0] at P1; exact P1.elim
def lexLe : List Int → List Int → Bool
  | [], _ => true
  | _ :: _, [] => false
  | x :: xs, y :: ys => if x = y then lexLe xs ys else decide (x ≤ y)
theorem lexAt_shift {e r : Nat → Bool} {z : Bool} : ∀ (k i : Nat), Ob.lexAt e r z (i + 1) k = Ob.lexAt (fun j => e (j + 1)) (fun j => r (j + 1)) z i k
  | 0, i => rfl
  | k + 1, i => by
    rw [Ob.lexAt_succ, Ob.lexAt_succ, lexAt_shift k (i + 1)]
theorem lexAt_le : ∀ ns ms : List Int, Ob.lexAt (fun j => decide (ns.getD j 0 = ms.getD j 0)) (fun j => decide (ns.getD j 0 ≤ ms.getD j 0)) (decide (ns.length ≤ ms.length)) 0 (min ns.length ms.length) = lexLe ns ms
  | [], ms => by
    rw [show min ([] : List Int).length ms.length = 0 from Nat.zero_min _, Ob.lexAt_zero]
    exact decide_eq_true (Nat.zero_le _)
  | n :: ns, [] => by
    rw [show min (n :: ns).length ([] : List Int).length = 0 from Nat.min_zero _, Ob.lexAt_zero]
    exact decide_eq_false (by simp)
  | n :: ns, m :: ms => by
    have e : min (n :: ns).length (m :: ms).length = min ns.length ms.length + 1 := by rw [List.length_cons, List.length_cons]; omega
    have e2 : decide ((n :: ns).length ≤ (m :: ms).length) = decide (ns.length ≤ ms.length) := decide_eq_decide.mpr (by rw [List.length_cons, List.length_cons]; omega)
    rw [e, e2, Ob.lexAt_succ]
    show (if decide (n = m) = true then _ else decide (n ≤ m)) = (if n = m then lexLe ns ms else decide (n ≤ m))
    by_cases q : n = m
    · rw [if_pos (decide_eq_true q), if_pos q, lexAt_shift, ← lexAt_le ns ms]; rfl
    · rw [if_neg (by simpa using q), if_neg q]
def leTD : D → D → Option D
  | .tup xs, .tup ys => (unI xs).bind fun ns => (unI ys).map fun ms => .bl (lexLe ns ms)
  | _, _ => Option.none
theorem ops_leT : OpS K mg r (rLeT K) leTD := by
  intro Hs H tp x y d e z Q w rx ry hz k
  unfold leTD at hz
  split at hz
  · obtain ⟨ns, h1, hz⟩ := Option.bind_eq_some_iff.mp hz
    obtain ⟨ms, h2, hz⟩ := Option.map_eq_some_iff.mp hz
    subst hz
    obtain ⟨p, vs, rfl, _, a, b⟩ := repT_tup w rx
    obtain ⟨q, us, rfl, _, c, d⟩ := repT_tup w ry
    rw [unI_ok h1] at b
    rw [unI_ok h2] at d
    have e1 := RepDs.ints_of b
    have e2 := RepDs.ints_of d
    subst e1 e2
    refine ⟨p, q, ns, ms, rfl, rfl, .inl a, .inl c, ?_⟩
    rw [lexAt_le]
    exact k _ _ _ (Grow.refl _ _) w (.bl _)
  · cases hz
theorem gt_leT {a b : Expr} {ta tb : TE} {ma mb : SE D} (hu : X.A.units + 64 < cLine) (ha : GO K mg r X O E a ta ma) (hb : GO K mg r X O E b tb mb) (hK : X.K = K := by rfl) : GT K mg r X O E (.Compare a [.LtE] [b] pos) (tTest (tOp (rLeT K) ta tb)) (boolE (binE leTD ma mb)) := by subst hK; exact gt_cmp (op_leT (by omega)) ops_leT ha hb (nomark _)
end
end G
set_option maxHeartbeats 1000000
namespace G
open PySem PySem.Spec PyProof.Rows L2
section
variable {r : Addr} {X : Cx} {K : PySem.W.Frag} {mg : Str → Option Value} {O : List Nat} {E : XK} {e a b : Expr} {ts : TA} {ta tb : TE} {p pos : Pos} {ms : SE (List D)}
/-- a tuple that stands still and has no dict of its own -/
def tyQ (v : V) (H : Hp) : Prop := ∃ p o xs, v = .ref p ∧ H p = some (.frz o (.tup xs)) ∧ o.dict = none
theorem tyQ_is {pins : List (Addr × Obj)} {σ : L2.St} {H : Hp} {s : Shared} {x : V} {v : Value} (I : Inv X pins σ H s) (h : RelV x v) (ty : tyQ x H) :
    s.TypeIs v "tuple" ∧ ∀ a, v = .ref a → ∃ ob, s.heap.get? a = some ob ∧ ob.dict = none := by
  obtain ⟨p, o, xs, rfl, h1, hd⟩ := ty
  cases h
  obtain ⟨e, z, its, rv, o', ho, hc, n, hs⟩ := (show ObjOk X.prog X.w H s.heap p (.frz o (.tup xs)) from I.hok p _ h1)
  exact ⟨⟨o', ho, hc⟩, fun a e2 => by cases e2; exact ⟨o, e, hd⟩⟩
def tBMQ (R : V → List V → Hp → VK → Prop) (to : TE) (t : TA) : TE := fun σ H Q => to σ H fun x H1 => tyQ x H1 ∧ t σ H1 fun xs H2 => R x xs H2 Q
theorem pe_bmQ {o e : Expr} {es : List Expr} {to : TE} {t : TA} {name : Str} {apos cpos : Pos} {id : String} {R : V → List V → Hp → VK → Prop}
    (pa : PlainAttrs "tuple") (slot : Slot "tuple" name id) (hty : typeOf (.builtin id) = pure (.type "method_descriptor")) (hm : MtR X id R) (ho : PE X o to) (ha : PA X (e :: es) t)
    (hbase : attributeBase o name X.env (eval o X.env) = eval o X.env := by rfl)
    (hfew : ((backTo cpos (starEach (e :: es) X.env)).all (fun x => !x.1) && (backToKw cpos (keywordEach [] X.env)).all (fun x => x.1.isSome)
      && decide ((e :: es).length + ([] : List Keyword).length + (if ([] : List Keyword).isEmpty then 0 else 1) < 30)) = true := by rfl)
    (hline : (apos.endLine == cpos.line) = true := by rfl) (hs : starEach (e :: es) X.env = (false, eval e X.env) :: starEach es X.env := by rfl) (hplain : (backTo cpos (starEach es X.env)).any (·.1) = false := by rfl) :
    PE X (.Call (.Attribute o name apos) (e :: es) [] cpos) (tBMQ R to t) := by
  refine ⟨fun pins s σ H Q I h => ?_⟩
  refine wpAny_Call_method_late hbase hfew hline rfl (thn (ho.run pins s σ H _ I h) fun v s1 ⟨x, H1, I1, r1, ty, q1⟩ => ?_)
  obtain ⟨h1, h2⟩ := tyQ_is I1 r1 ty
  refine ⟨"tuple", id, pa, slot, hty, h1, h2, ?_⟩
  have hA := ha.run cpos pins s1 σ H1 _ I1 q1
  rw [hs] at hA ⊢
  refine Calls.callWith_builtin (by show (false || (backTo cpos (starEach es X.env)).any (·.1)) = false; rw [hplain] <;> rfl) (Calls.evalArgs_plain ?_)
  exact thn hA fun us s2 ⟨vs, H2, I2, r2, q2⟩ => hm pins s2 σ H2 x vs v us Q I2 r1 r2 q2
def rIndexT (K : PySem.W.Frag) : V → List V → Hp → VK → Prop := fun x xs H Q => ∃ (a : Addr) (ns : List Int) (k : Int), x = V.ref a ∧ xs = [.int k] ∧ SqT K H a (ns.map V.int) ∧ k ∈ ns ∧ Q (.int (ns.idxOf k : Nat)) H
theorem mt_indexT : MtR X "tuple.index" (rIndexT X.K) := by
  intro pins s σ H x xs v us Q I rx rxs h
  obtain ⟨a, ns, k, rfl, rfl, hs, hk, q⟩ := h
  cases rx
  cases rxs with
  | cons ry rt =>
    cases rt
    obtain ⟨t, rfl⟩ := ry
    obtain ⟨its, rv, pl, hz⟩ := I.tuple hs
    exact PySem.SeqAt.tuple_index_ints pl (Vals.ints rv) hk ⟨.int _, H, I.tok _, ⟨_, rfl⟩, q⟩
def isTuq : D → Bool | .tuq _ => true | _ => false
def indexTD (d e : D) : Option D := match d, e with
  | .tuq xs, .int i => (unI xs).bind fun ns => if i ∈ ns then some (.int ((ns.idxOf i : Nat) : Int)) else none
  | _, _ => none
def indexTE (ma mb : SE D) : SE D := methE isTuq indexTD ma mb
theorem repT_tuq {Hs H : Hp} {tp : List D} {v : V} {ds : List D} (w : Wd K mg r Hs H tp) (h : RepT K mg r Hs H v (.tuq ds)) : ∃ p o vs, v = .ref p ∧ Hs p = some (.frz o (.tup vs)) ∧ H p = some (.frz o (.tup vs)) ∧ o.dict = none ∧ RepDs K mg r Hs vs ds := by
  rcases h with h | ⟨p, e, _, a⟩
  · cases h with
    | tuq a n b => exact ⟨_, _, _, rfl, a, (w.sub _ _ a).frz, n, b⟩
  · exact a.elim
theorem ge_indexT {ma mb : SE D} {p1 : Pos} (ha : GO K mg r X O E a ta ma) (hb : GO K mg r X O E b tb mb) (hK : X.K = K := by rfl)
    (hbase : attributeBase a "index" X.env (eval a X.env) = eval a X.env := by rfl)
    (hfew : ((backTo pos (starEach [b] X.env)).all (fun x => !x.1) && (backToKw pos (keywordEach [] X.env)).all (fun x => x.1.isSome) && decide ([b].length + ([] : List Keyword).length + (if ([] : List Keyword).isEmpty then 0 else 1) < 30)) = true := by rfl)
    (hline : (p1.endLine == pos.line) = true := by rfl) (hs : starEach [b] X.env = (false, eval b X.env) :: starEach [] X.env := by rfl) (hplain : (backTo pos (starEach [] X.env)).any (·.1) = false := by rfl) :
    GE K mg r X O E (.Call (.Attribute a "index" p1) [b] [] pos) (tBMQ (rIndexT K) ta (tCons tb tNil)) (indexTE ma mb) := by
  subst hK
  refine ⟨pe_bmQ PySem.F.plainAttrs_tuple PySem.F.slot_tuple_index PySem.F.type_tuple_index mt_indexT ha.pe (pa_cons hb.pe pa_nil hs) hbase hfew hline hs hplain, fun Hs0 H0 Hs H σ env tp Q Rl P => ?_⟩
  refine ha.snd _ _ _ _ _ _ _ _ Rl (Post.bind P fun v Hs1 H1 d tp1 _ g w rv P1 => ?_)
  split at P1
  · rename_i hpd
    have hq : tyQ v H1 := by
      cases d with
      | tuq z =>
        obtain ⟨p, o, vs, rfl, _, k1, k2, _⟩ := repT_tuq w rv
        exact ⟨p, o, vs, rfl, k1, k2⟩
      | _ => cases hpd
    refine ⟨hq, ?_⟩
    refine hb.snd _ _ _ _ _ _ _ _ (Rl.grow g w) (Post.bind P1 fun y Hs2 H2 e tp2 _ g2 w2 ry P2 => ?_)
    obtain ⟨z, hz, k⟩ := Post.ok_of P2
    have rv := rv.grow g2
    unfold indexTD at hz
    split at hz
    · obtain ⟨ns, h1, h2⟩ := Option.bind_eq_some_iff.mp hz
      split at h2
      · rename_i hin
        cases h2
        rw [unI_ok h1] at rv
        obtain ⟨p, o, vs, rfl, _, k1, _, k3⟩ := repT_tuq w2 rv
        rw [repT_int ry]
        have e1 : vs = ns.map V.int := RepDs.ints_of k3
        subst e1
        exact ⟨p, ns, _, rfl, rfl, .inl (.inr ⟨_, k1⟩), hin, k _ _ _ (Grow.refl _ _) w2 (.int _)⟩
      · cases h2
    · cases hz
  · exact P1.elim
/-- tuple(xs) of a list, the new object told -/
def rTupleQ (K : PySem.W.Frag) : List V → Hp → VK → Prop := fun xs H Q => ∃ p ys, xs = [.ref p] ∧ SqL K H p ys ∧ ∀ l o, H l = none → o.dict = none → Q (.ref l) (upd H l (.frz o (.tup ys)))
theorem call_tupleQ : CallR X (.type "tuple") (rTupleQ X.K) := by
  intro pins s σ H xs us Q I rx h
  obtain ⟨p, ys, rfl, hs, q⟩ := h
  rw [Vals.ref1 rx]
  obtain ⟨its, rv, pl, hz⟩ := I.list hs
  refine call_tuple_list pl.isList (fun h' hk => ?_) (by rw [List.size_toArray, ← rv.length]; exact hz)
  have I1 : Inv X pins σ H { s with heap := h' } := I.kept (t' := s.toks) hk
  have I2 : Inv X pins σ (upd H h'.objs.size (.frz { cls := .type "tuple", data := .seq its.toArray } (.tup ys))) { s with heap := h'.push { cls := .type "tuple", data := .seq its.toArray } } :=
    I1.laid (t' := s.toks) (fun b o e => Heap.get?_push_of_some _ e) (Nat.le_refl _) (show ObjOk X.prog X.w _ _ _ (.frz _ (.tup ys)) from ⟨Heap.get?_push_size _ rfl, hz, its, rv, IsTup.new _ _⟩)
  exact ⟨.ref h'.objs.size, _, I2, rfl, q _ _ (I1.hok.fresh (Nat.le_refl _)) rfl⟩
def tupleqD : List D → Option D
  | [.lst xs] => some (.tuq xs)
  | _ => none
theorem cs_tupleQ : CallS K mg r (rTupleQ K) tupleqD := by
  intro Hs H tp xs ds z Q w rx hz k
  unfold tupleqD at hz
  split at hz
  · cases hz
    obtain ⟨x, rfl, h⟩ := paired1 rx
    obtain ⟨p, vs, rfl, h1, h2⟩ := repT_lst w h
    refine ⟨p, vs, rfl, .of h1, fun q o hq hd => ?_⟩
    obtain ⟨g', w'⟩ := w.alloc (o := .frz o (.tup vs)) hq
    exact k _ _ _ g' w' (.tuq upd_same hd (h2.mono g'.ex))
  · cases hz
theorem ge_tupleQ (hm : X.mg "tuple" = none) (ha : GAO K mg r X O E [e] ts ms) (hg : Gl X "tuple" := by rfl) (he : starEach [e] X.env = (false, eval e X.env) :: starEach [] X.env := by rfl) (hpl : (backTo pos (starEach [] X.env)).any (·.1) = false := by rfl) (hK : X.K = K := by rfl) : GE K mg r X O E (.Call (.Name "tuple" p) [e] [] pos) (tCB (rTupleQ K) ts) (callB tupleqD ms) := by
  subst hK; exact ge_callTy (R := rTupleQ X.K) call_tupleQ cs_tupleQ hm ha hg (by decide +kernel) (by decide) (by decide) he hpl
/-- what is told of the object is forgotten -/
def unqD : D → Option D
  | .tuq xs => some (.tup xs)
  | _ => none
def unqE (m : SE D) : SE D := fun env tp => (m env tp).bind fun d tp1 => RE.of (unqD d) tp1
theorem ge_unq {m : SE D} (ha : GO K mg r X O E a ta m) : GE K mg r X O E a ta (unqE m) := by
  refine ⟨ha.pe, fun Hs0 H0 Hs H σ env tp Q Rl P => ?_⟩
  refine ha.snd _ _ _ _ _ _ _ _ Rl (Post.bind P fun v Hs1 H1 d tp1 _ g w rv P1 => ?_)
  obtain ⟨z, hz, k⟩ := Post.ok_of P1
  unfold unqD at hz
  split at hz
  · cases hz
    obtain ⟨p, o, vs, rfl, h1, _, _, h2⟩ := repT_tuq w rv
    exact k _ _ _ (Grow.refl _ _) w (.tupR (.inr ⟨_, h1⟩) h2)
  · cases hz
end
end G
set_option maxHeartbeats 1000000
namespace G
open PySem L2
/-- a loop by its invariant -/
theorem forL_inv {i : Nat} {body : SS} (I : Nat → DEnv → List D → Prop) : ∀ {items : List D} {env : DEnv} {tp : List D} (k : Nat), I k env tp → (∀ j d env tp, items[j]? = some d → I (k + j) env tp → ∃ env' tp', body (env.set i (some d)) tp = .nx env' tp' ∧ I (k + j + 1) env' tp') →
    ∃ env' tp', forL t1 [i] body items env tp = .nx env' tp' ∧ I (k + items.length) env' tp'
  | [], env, tp, k, h0, _ => ⟨env, tp, rfl, h0⟩
  | d :: ds, env, tp, k, h0, h => by
    obtain ⟨e1, tp1, q1, i1⟩ := h 0 d env tp rfl h0
    obtain ⟨e2, tp2, q2, i2⟩ := forL_inv I (items := ds) (k + 1) i1 fun j d' env tp hj hi => by
      have e : k + 1 + j = k + (j + 1) := by omega
      rw [e] at hi ⊢
      exact h (j + 1) d' env tp (by simpa using hj) hi
    refine ⟨e2, tp2, ?_, by rw [List.length_cons]; have e : k + (ds.length + 1) = k + 1 + ds.length := by omega
                            rw [e]; exact i2⟩
    unfold forL t1
    simp only [setAll]
    rw [q1]
    exact q2
abbrev Row := List Bool
abbrev Pic := List Row
def sg (b : Bool) : Nat := if b then 35 else 46
def rowS (r : Row) : Str := ⟨(r.map sg).toArray⟩
structure PicOk (h w : Nat) (p : Pic) : Prop where
  len : p.length = h
  row : ∀ r ∈ p, r.length = w
  h1 : 1 ≤ h
  h30 : h ≤ 30
  w1 : 1 ≤ w
  w30 : w ≤ 30
theorem rowS_len (r : Row) : (rowS r).length = r.length := by
  show ((r.map sg).toArray).size = _
  rw [List.size_toArray, List.length_map]
theorem rowS_app (a b : Row) : rowS a ++ rowS b = rowS (a ++ b) := by
  show (⟨(a.map sg).toArray ++ (b.map sg).toArray⟩ : Str) = _
  unfold rowS
  rw [List.map_append, List.append_toArray]
theorem rowS_inj {a b : Row} (h : rowS a = rowS b) : a = b := by
  have h1 : (a.map sg).toArray = (b.map sg).toArray := congrArg Str.cps h
  have h2 : a.map sg = b.map sg := by
    have := congrArg Array.toList h1
    simpa using this
  have hs : ∀ x y, sg x = sg y → x = y := by decide
  exact List.map_inj_right (fun x y => hs x y) |>.mp h2
theorem str_black : ("#" : Str) = rowS [true] := by decide +kernel
theorem str_white : ("." : Str) = rowS [false] := by decide +kernel
theorem str_empty : ("" : Str) = rowS [] := by decide +kernel
theorem row_toList (r : Row) : (rowS r).cps.toList = r.map sg := by
  show ((r.map sg).toArray).toList = _
  simp
theorem row_cut (r : Row) (lo hi : Option Int) : cutS (rowS r) lo hi = rowS (cutD r lo hi) := by
  unfold cutS cutD
  rw [row_toList, rowS_len]
  unfold rowS
  rw [List.map_take, List.map_drop]
theorem atI_nat' {α : Type} (xs : List α) (j : Nat) : atI xs (j : Int) = xs[j]? := by
  unfold atI ixN
  rw [if_pos (by omega)]
  by_cases h : (j : Int) < xs.length
  · rw [if_pos h]; rfl
  · rw [if_neg h, List.getElem?_eq_none (by omega)]; rfl
theorem atI_int {α : Type} (xs : List α) {i : Int} (h : 0 ≤ i) : atI xs i = xs[i.toNat]? := by
  obtain ⟨j, rfl⟩ := Int.eq_ofNat_of_zero_le h
  rw [atI_nat', Int.toNat_natCast]
theorem glue_nil : ∀ ys : List Row, Str.join (rowS []) (ys.map rowS) = rowS ys.flatten
  | [] => rfl
  | [y] => by
    show rowS y = _
    simp
  | y :: z :: ys => by
    have ih := glue_nil (z :: ys)
    show (rowS y ++ rowS []) ++ Str.join (rowS []) ((z :: ys).map rowS) = _
    rw [ih, rowS_app, rowS_app]
    simp
theorem join_rows (ys : List Row) : Txt.join (rowS []) (ys.map rowS) = rowS ys.flatten := by
  rw [TL.join_eq, glue_nil]
theorem mul_row (b : Bool) (n : Nat) : Txt.mul (rowS [b]) (n : Int) = rowS (List.replicate n b) := by
  unfold Txt.mul
  by_cases h : (n : Int) < 1
  · rw [if_pos h]
    have : n = 0 := by omega
    subst this
    rfl
  · rw [if_neg h]
    by_cases h1 : n = 1
    · subst h1; rfl
    · have : ((n : Int) == 1 || (rowS [b]).length == 0) = false := by
        rw [rowS_len]
        simp; omega
      rw [this, if_neg (by decide)]
      have key : ∀ (k : Nat) (acc : Array Nat), (List.replicate k (rowS [b]).cps).foldl (· ++ ·) acc = acc ++ ((List.replicate k b).map sg).toArray := by
        intro k
        induction k with
        | zero => intro acc; simp
        | succ k ih =>
          intro acc
          rw [List.replicate_succ, List.foldl_cons, ih, List.replicate_succ, List.map_cons]
          show (acc ++ [sg b].toArray) ++ _ = _
          rw [Array.append_assoc, List.append_toArray]
          simp
      rw [Int.toNat_natCast, key]
      unfold rowS
      simp
theorem small_line {n : Nat} (h : n ≤ 1000000) : n ≤ sizeLine := by rw [sizeLine_eq]; omega
structure Tape (tp : List D) : Prop where
  ex : ∃ (ns : List Int) (pos seed rest : Int), tp = [.scr ns, .int pos, .int seed, .int rest] ∧ 0 ≤ pos ∧ 0 ≤ seed ∧ seed < 2147483647 ∧ ns.length ≤ 63
theorem tape0 (ns : List Int) (c : Int) (h : ns.length ≤ 63) (h0 : 0 ≤ c) (h1 : c < 2147483647) : Tape [.scr ns, .int 0, .int c, .int 0] := ⟨⟨ns, 0, c, 0, rfl, by omega, h0, h1, h⟩⟩
end G
set_option maxHeartbeats 1000000
namespace T
open PySem L2 G
abbrev eN (n : Nat) : D := .int (n : Int)
abbrev eZ (i : Int) : D := .int i
abbrev eB (b : Bool) : D := .bl b
abbrev eR (r : Row) : D := .str (rowS r)
abbrev eG (b : Bool) : D := .str (rowS [b])
abbrev eU (_ : Unit) : D := .non
abbrev eL {α : Type} (e : α → D) (xs : List α) : D := .lst (xs.map e)
abbrev eT {α : Type} (e : α → D) (xs : List α) : D := .tup (xs.map e)
abbrev eP {α β : Type} (a : α → D) (b : β → D) (x : α × β) : D := .tup [a x.1, b x.2]
abbrev eO {α : Type} (e : α → D) : Option α → D
  | none => .non
  | some x => e x
structure EqE {α : Type} [DecidableEq α] (k : Nat) (e : α → D) : Prop where
  pl : ∀ x, (e x).pd.plain = true
  dp : ∀ x, (e x).pd.depth ≤ k
  eq : ∀ x y, PyData.eqv (e x).pd (e y).pd = decide (x = y)
theorem rowS_dec (a b : Row) : (rowS a == rowS b) = decide (a = b) := by
  by_cases h : a = b
  · subst h; simp
  · rw [decide_eq_false h]
    exact beq_eq_false_iff_ne.mpr fun e => h (rowS_inj e)
theorem qN : EqE 1 eN := ⟨fun _ => rfl, fun _ => by simp [D.pd, PyData.depth], fun x y => by
  show ((x : Int) == (y : Int)) = _
  by_cases h : x = y
  · subst h; simp
  · rw [decide_eq_false h]; exact beq_eq_false_iff_ne.mpr fun e => h (by omega)⟩
theorem qZ : EqE 1 eZ := ⟨fun _ => rfl, fun _ => by simp [D.pd, PyData.depth], fun x y => by
  show (x == y) = _
  by_cases h : x = y <;> simp [h]⟩
theorem qB : EqE 1 eB := ⟨fun _ => rfl, fun _ => by simp [D.pd, PyData.depth], fun x y => by cases x <;> cases y <;> rfl⟩
theorem qR : EqE 1 eR := ⟨fun _ => rfl, fun _ => by simp [D.pd, PyData.depth], fun x y => rowS_dec x y⟩
theorem qG : EqE 1 eG := ⟨fun _ => rfl, fun _ => by simp [D.pd, PyData.depth], fun x y => by
  refine (rowS_dec [x] [y]).trans ?_
  cases x <;> cases y <;> rfl⟩
section
variable {α β γ δ : Type} [DecidableEq α] [DecidableEq β] [DecidableEq γ] [DecidableEq δ] {k k1 k2 k3 k4 : Nat} {e : α → D} {e1 : β → D} {e2 : γ → D} {e3 : δ → D}
theorem plainAll_map (h : EqE k e) (xs : List α) : PyData.plainAll (pdAll (xs.map e)) = true := by
  induction xs with
  | nil => rfl
  | cons x xs ih =>
    show PyData.plainAll ((e x).pd :: pdAll (xs.map e)) = true
    simp only [PyData.plainAll, h.pl x, ih, Bool.and_self]
theorem depthAll_map (h : EqE k e) (xs : List α) : PyData.depthAll (pdAll (xs.map e)) ≤ k := by
  induction xs with
  | nil => exact Nat.zero_le _
  | cons x xs ih =>
    show PyData.depthAll ((e x).pd :: pdAll (xs.map e)) ≤ k
    simp only [PyData.depthAll]
    have := h.dp x
    omega
theorem eqvAll_mapE (h : EqE k e) : ∀ xs ys : List α, PyData.eqvAll (pdAll (xs.map e)) (pdAll (ys.map e)) = decide (xs = ys)
  | [], [] => rfl
  | [], y :: ys => by show false = _; simp
  | x :: xs, [] => by show false = _; simp
  | x :: xs, y :: ys => by
    show (PyData.eqv (e x).pd (e y).pd && PyData.eqvAll (pdAll (xs.map e)) (pdAll (ys.map e))) = _
    rw [h.eq, eqvAll_mapE h xs ys]
    by_cases h1 : x = y <;> by_cases h2 : xs = ys <;> simp [h1, h2]
theorem qL (h : EqE k e) : EqE (k + 1) (eL e) := ⟨fun xs => by
    show (PyData.list (pdAll (xs.map e))).plain = true
    simp only [PyData.plain]; exact plainAll_map h xs, fun xs => by
    show (PyData.list (pdAll (xs.map e))).depth ≤ k + 1
    simp only [PyData.depth]
    have := depthAll_map h xs
    omega, fun xs ys => eqvAll_mapE h xs ys⟩
theorem qT (h : EqE k e) : EqE (k + 1) (eT e) := ⟨fun xs => by
    show (PyData.tuple (pdAll (xs.map e))).plain = true
    simp only [PyData.plain]; exact plainAll_map h xs, fun xs => by
    show (PyData.tuple (pdAll (xs.map e))).depth ≤ k + 1
    simp only [PyData.depth]
    have := depthAll_map h xs
    omega, fun xs ys => eqvAll_mapE h xs ys⟩
theorem qP (h : EqE k e) (h1 : EqE k1 e1) : EqE (max k k1 + 1) (eP e e1) := ⟨fun x => by
    show PyData.plainAll [(e x.1).pd, (e1 x.2).pd] = true
    simp only [PyData.plainAll, h.pl, h1.pl, Bool.and_self], fun x => by
    show (PyData.tuple [(e x.1).pd, (e1 x.2).pd]).depth ≤ _
    simp only [PyData.depth, PyData.depthAll]
    have := h.dp x.1; have := h1.dp x.2
    omega, fun x y => by
    show (PyData.eqv (e x.1).pd (e y.1).pd && (PyData.eqv (e1 x.2).pd (e1 y.2).pd && true)) = _
    rw [h.eq, h1.eq]
    obtain ⟨a, b⟩ := x; obtain ⟨c, d⟩ := y
    by_cases p : a = c <;> by_cases q : b = d <;> simp [p, q]⟩
theorem okq_of (h : EqE k e) (hk : k ≤ 60) (x : α) : (e x).okq = true := by
  unfold D.okq
  have a := h.dp x
  rw [h.pl x, decide_eq_true (by omega : (e x).pd.depth ≤ 60)]; rfl
theorem eqD_E (h : EqE k e) (hk : k ≤ 60) (x y : α) : eqD (e x) (e y) = some (.bl (decide (x = y))) := by
  unfold eqD
  rw [okq_of h hk x, okq_of h hk y, h.eq]; rfl
theorem neD_E (h : EqE k e) (hk : k ≤ 60) (x y : α) : neD (e x) (e y) = some (.bl (decide (x ≠ y))) := by
  unfold neD
  rw [okq_of h hk x, okq_of h hk y, h.eq]
  by_cases q : x = y <;> simp [q]
theorem memD_E (h : EqE k e) (x : α) (xs : List α) : memD (e x) (xs.map e) = decide (x ∈ xs) := by
  unfold memD
  rw [List.any_map]
  by_cases q : x ∈ xs
  · rw [decide_eq_true q]
    exact List.any_eq_true.mpr ⟨x, q, by show PyData.eqv (e x).pd (e x).pd = true; rw [h.eq]; simp⟩
  · rw [decide_eq_false q]
    refine List.any_eq_false.mpr fun y hy => ?_
    show ¬ PyData.eqv (e y).pd (e x).pd = true
    rw [h.eq]
    intro z
    exact q (of_decide_eq_true z ▸ hy)
theorem inD_L (h : EqE k e) (hk : k ≤ 59) (x : α) (xs : List α) : inD (e x) (eL e xs) = some (.bl (decide (x ∈ xs))) := by
  show (if (e x).okq && (eL e xs).okq then some (D.bl (memD (e x) (xs.map e))) else none) = _
  rw [okq_of h (by omega) x, okq_of (qL h) (by omega) xs, memD_E h]; rfl
theorem inD_T (h : EqE k e) (hk : k ≤ 59) (x : α) (xs : List α) : inD (e x) (eT e xs) = some (.bl (decide (x ∈ xs))) := by
  show (if (e x).okq && (eT e xs).okq then some (D.bl (memD (e x) (xs.map e))) else none) = _
  rw [okq_of h (by omega) x, okq_of (qT h) (by omega) xs, memD_E h]; rfl
end
section
variable {α β γ δ : Type} {e : α → D} {e1 : β → D} {e2 : γ → D} {env : DEnv} {tp t1' t2' t3' t4' : List D} {m ma mb mc : SE D} {ms : SE (List D)} {c c2 : SE Bool} {P Q : Prop} [Decidable P] [Decidable Q]
theorem ev_v {i : Nat} {d : D} (h : env[i]? = some (some d)) : vE i env tp = .ok d tp := by unfold vE; rw [h]
theorem ev_cN (n : Nat) {i : Int} (h : i = (n : Int) := by rfl) : cE (.int i) env tp = .ok (eN n) tp := by rw [h]; rfl
theorem ev_c {d d' : D} (h : d = d') : cE d env tp = .ok d' tp := by rw [h]; rfl
theorem ev_bin {f : D → D → Option D} {a b z : D} (ha : ma env tp = .ok a t1') (hb : mb env t1' = .ok b t2') (h : f a b = some z) : binE f ma mb env tp = .ok z t2' := by
  unfold binE; rw [ha]; simp only [RE.bind_ok]; rw [hb]; simp only [RE.bind_ok]; rw [h]; rfl
theorem ev_callB {f : List D → Option D} {ds : List D} {z : D} (ha : ms env tp = .ok ds t1') (h : f ds = some z) : callB f ms env tp = .ok z t1' := by
  unfold callB; rw [ha]; simp only [RE.bind_ok]; rw [h]; rfl
theorem ev_meth {p : D → Bool} {f : D → D → Option D} {a b z : D} (ha : ma env tp = .ok a t1') (hp : p a = true) (hb : mb env t1' = .ok b t2') (h : f a b = some z) : methE p f ma mb env tp = .ok z t2' := by
  unfold methE; rw [ha]; simp only [RE.bind_ok]; rw [if_pos hp, hb]; simp only [RE.bind_ok]; rw [h]; rfl
theorem ev_nil : nilA env tp = .ok [] tp := rfl
theorem ev_cons {d : D} {ds : List D} (h : m env tp = .ok d t1') (hs : ms env t1' = .ok ds t2') : consA m ms env tp = .ok (d :: ds) t2' := by
  unfold consA; rw [h]; simp only [RE.bind_ok]; rw [hs]; rfl
theorem ev_call {n : Nat} {f : List D → List D → RE D} {ds : List D} {d : D} (hs : ms env tp = .ok ds t1') (hn : ds.length = n) (h : f ds t1' = .ok d t2') : callE n f ms env tp = .ok d t2' := by
  unfold callE; rw [hs]; simp only [RE.bind_ok]; rw [if_pos hn, h]
theorem ev_tup {ds : List D} (hs : ms env tp = .ok ds t1') (hn : decide (ds.length ≤ 1000000) = true) : tupE ms env tp = .ok (.tup ds) t1' := by
  unfold tupE; rw [hs]; simp only [RE.bind_ok]; rw [if_pos (small_line (of_decide_eq_true hn))]
theorem ev_lst {ds : List D} (hs : ms env tp = .ok ds t1') (hn : decide (ds.length ≤ 1000000) = true) : lstE ms env tp = .ok (.lst ds) t1' := by
  unfold lstE; rw [hs]; simp only [RE.bind_ok]; rw [if_pos (small_line (of_decide_eq_true hn))]
theorem ev_bool {b : Bool} (h : m env tp = .ok (.bl b) t1') : boolE m env tp = .ok b t1' := by
  unfold boolE; rw [h]; rfl
theorem ev_dec (b : Bool) (h : m env tp = .ok (.bl b) t1') : boolE m env tp = .ok (decide (b = true)) t1' := by
  rw [ev_bool h]; cases b <;> rfl
theorem ev_notT (h : c env tp = .ok (decide P) t1') : notT c env tp = .ok (decide (¬P)) t1' := by
  unfold notT; rw [h]; simp only [RE.bind_ok]; by_cases q : P <;> simp [q]
theorem ev_andT (h : c env tp = .ok (decide P) tp) (h2 : P → c2 env tp = .ok (decide Q) tp) : andT c c2 env tp = .ok (decide (P ∧ Q)) tp := by
  unfold andT; rw [h]; simp only [RE.bind_ok]
  by_cases q : P
  · rw [decide_eq_true q, if_pos rfl, h2 q]; simp [q]
  · rw [decide_eq_false q, if_neg (by decide)]; simp [q]
theorem ev_orT (h : c env tp = .ok (decide P) tp) (h2 : ¬P → c2 env tp = .ok (decide Q) tp) : orT c c2 env tp = .ok (decide (P ∨ Q)) tp := by
  unfold orT; rw [h]; simp only [RE.bind_ok]
  by_cases q : P
  · rw [decide_eq_true q, if_pos rfl]; simp [q]
  · rw [decide_eq_false q, if_neg (by decide), h2 q]; simp [q]
theorem ev_notE (h : m env tp = .ok (eB (decide P)) t1') : notE m env tp = .ok (eB (decide (¬P))) t1' := by
  unfold notE; rw [h]; simp only [RE.bind_ok]; by_cases q : P <;> simp [q, isB]
theorem ev_andE (h : ma env tp = .ok (eB (decide P)) tp) (h2 : P → mb env tp = .ok (eB (decide Q)) tp) : andE ma mb env tp = .ok (eB (decide (P ∧ Q))) tp := by
  unfold andE; rw [h]; simp only [RE.bind_ok]
  by_cases q : P
  · rw [decide_eq_true q]; rw [h2 q]; simp [q]
  · rw [decide_eq_false q]; simp [q]
theorem ev_ifE {x y : α} (h : c env tp = .ok (decide P) t1') (hp : P → ma env t1' = .ok (e x) t1') (hn : ¬P → mb env t1' = .ok (e y) t1') : ifE c ma mb env tp = .ok (e (if P then x else y)) t1' := by
  unfold ifE; rw [h]; simp only [RE.bind_ok]
  by_cases q : P
  · rw [decide_eq_true q, if_pos rfl, hp q, if_pos q]
  · rw [decide_eq_false q, if_neg (by decide), hn q, if_neg q]
theorem ev_decB (b : Bool) (h : m env tp = .ok (eB b) t1') : m env tp = .ok (eB (decide (b = true))) t1' := by
  rw [h]; cases b <;> rfl
theorem ev_add {x y : Nat} (ha : ma env tp = .ok (eN x) t1') (hb : mb env t1' = .ok (eN y) t2') : binE addD ma mb env tp = .ok (eN (x + y)) t2' :=
  (ev_bin ha hb rfl).trans (by simp)
theorem ev_sub {x y : Nat} (h : y ≤ x) (ha : ma env tp = .ok (eN x) t1') (hb : mb env t1' = .ok (eN y) t2') : binE subD ma mb env tp = .ok (eN (x - y)) t2' :=
  (ev_bin ha hb rfl).trans (by show RE.ok (D.int ((x : Int) - (y : Int))) t2' = RE.ok (D.int ((x - y : Nat) : Int)) t2'; rw [Int.ofNat_sub h])
theorem ev_mul {x y : Nat} (h : cMul x y = true) (ha : ma env tp = .ok (eN x) t1') (hb : mb env t1' = .ok (eN y) t2') : binE mulD ma mb env tp = .ok (eN (x * y)) t2' :=
  (ev_bin ha hb (by unfold mulD; simp only; rw [if_pos h])).trans (by simp)
theorem ev_fdiv {x y : Nat} (h : cDiv y = true) (ha : ma env tp = .ok (eN x) t1') (hb : mb env t1' = .ok (eN y) t2') : binE fdivD ma mb env tp = .ok (eN (x / y)) t2' :=
  (ev_bin ha hb (by unfold fdivD; simp only; rw [if_pos h])).trans (by simp)
theorem ev_mod {x y : Nat} (h : 0 < y) (ha : ma env tp = .ok (eN x) t1') (hb : mb env t1' = .ok (eN y) t2') : binE modD ma mb env tp = .ok (eN (x % y)) t2' :=
  (ev_bin ha hb (by unfold modD; simp only; rw [if_pos (by omega)])).trans (by simp)
theorem ev_pow {x y : Nat} (h : cPow x y = true) (ha : ma env tp = .ok (eN x) t1') (hb : mb env t1' = .ok (eN y) t2') : binE powD ma mb env tp = .ok (eN (x ^ y)) t2' :=
  (ev_bin ha hb (by unfold powD; simp only; rw [if_pos h])).trans (by simp)
theorem ev_lt {x y : Nat} (ha : ma env tp = .ok (eN x) t1') (hb : mb env t1' = .ok (eN y) t2') : binE ltD ma mb env tp = .ok (eB (decide (x < y))) t2' :=
  (ev_bin ha hb rfl).trans (by simp)
theorem ev_addZ {x y : Int} (ha : ma env tp = .ok (eZ x) t1') (hb : mb env t1' = .ok (eZ y) t2') : binE addD ma mb env tp = .ok (eZ (x + y)) t2' := ev_bin ha hb rfl
theorem ev_mulZ {x y : Int} (h : cMul x y = true) (ha : ma env tp = .ok (eZ x) t1') (hb : mb env t1' = .ok (eZ y) t2') : binE mulD ma mb env tp = .ok (eZ (x * y)) t2' :=
  ev_bin ha hb (by unfold mulD; simp only; rw [if_pos h])
theorem ev_gtZ {x y : Int} (ha : ma env tp = .ok (eZ x) t1') (hb : mb env t1' = .ok (eZ y) t2') : binE gtD ma mb env tp = .ok (eB (decide (x > y))) t2' := ev_bin ha hb rfl
theorem ev_chLeLe {x y z : Nat} (ha : ma env tp = .ok (eN x) tp) (hb : mb env tp = .ok (eN y) tp) (hc : mc env tp = .ok (eN z) tp) : chainE leD leD ma mb mc env tp = .ok (eB (decide (x ≤ y ∧ y ≤ z))) tp := by
  unfold chainE; rw [ha]; simp only [RE.bind_ok]; rw [hb]; simp only [RE.bind_ok]
  by_cases q : x ≤ y
  · rw [show leD (eN x) (eN y) = some (.bl true) from by show some (D.bl (decide ((x : Int) ≤ y))) = _; rw [decide_eq_true (by omega)]]
    simp only; rw [hc]; simp only [RE.bind_ok]
    show RE.of (some (D.bl (decide ((y : Int) ≤ z)))) tp = _
    simp [q]
  · rw [show leD (eN x) (eN y) = some (.bl false) from by show some (D.bl (decide ((x : Int) ≤ y))) = _; rw [decide_eq_false (by omega)]]
    simp [q]
section
variable [DecidableEq α] {k : Nat}
theorem ev_eq {x y : α} (h : EqE k e) (hk : Nat.ble k 60 = true) (ha : ma env tp = .ok (e x) t1') (hb : mb env t1' = .ok (e y) t2') : binE eqD ma mb env tp = .ok (eB (decide (x = y))) t2' := ev_bin ha hb (eqD_E h (Nat.le_of_ble_eq_true hk) x y)
theorem ev_ne {x y : α} (h : EqE k e) (hk : Nat.ble k 60 = true) (ha : ma env tp = .ok (e x) t1') (hb : mb env t1' = .ok (e y) t2') : binE neD ma mb env tp = .ok (eB (decide (x ≠ y))) t2' := ev_bin ha hb (neD_E h (Nat.le_of_ble_eq_true hk) x y)
theorem ev_inL {x : α} {xs : List α} (h : EqE k e) (hk : Nat.ble k 59 = true) (ha : ma env tp = .ok (e x) t1') (hb : mb env t1' = .ok (eL e xs) t2') : binE inD ma mb env tp = .ok (eB (decide (x ∈ xs))) t2' := ev_bin ha hb (inD_L h (Nat.le_of_ble_eq_true hk) x xs)
theorem ev_inT {x : α} {xs : List α} (h : EqE k e) (hk : Nat.ble k 59 = true) (ha : ma env tp = .ok (e x) t1') (hb : mb env t1' = .ok (eT e xs) t2') : binE inD ma mb env tp = .ok (eB (decide (x ∈ xs))) t2' := ev_bin ha hb (inD_T h (Nat.le_of_ble_eq_true hk) x xs)
end
theorem isNon_O {e : α → D} (n : ∀ x, isNoneD (e x) .non = some (.bl false)) (x : Option α) : isNoneD (eO e x) .non = some (.bl (decide (x = none))) := by
  cases x with
  | none => rfl
  | some x => refine (n x).trans ?_; simp
theorem isNotNon_O {e : α → D} (n : ∀ x, isNotNoneD (e x) .non = some (.bl true)) (x : Option α) : isNotNoneD (eO e x) .non = some (.bl (decide (x ≠ none))) := by
  cases x with
  | none => rfl
  | some x => refine (n x).trans ?_; simp
theorem ev_isNon {x : Option α} (n : ∀ x, isNoneD (e x) .non = some (.bl false)) (ha : ma env tp = .ok (eO e x) t1') (hb : mb env t1' = .ok .non t2') : binE isNoneD ma mb env tp = .ok (eB (decide (x = none))) t2' := ev_bin ha hb (isNon_O n x)
theorem ev_isNotNon {x : Option α} (n : ∀ x, isNotNoneD (e x) .non = some (.bl true)) (ha : ma env tp = .ok (eO e x) t1') (hb : mb env t1' = .ok .non t2') : binE isNotNoneD ma mb env tp = .ok (eB (decide (x ≠ none))) t2' := ev_bin ha hb (isNotNon_O n x)
theorem ev_isNotB {x y : Bool} (ha : ma env tp = .ok (eB x) t1') (hb : mb env t1' = .ok (eB y) t2') : binE isNotNoneD ma mb env tp = .ok (eB (decide (x ≠ y))) t2' := ev_bin ha hb (by cases x <;> cases y <;> rfl)
theorem ev_get {x : Option α} [Inhabited α] (h : x ≠ none) (ha : m env tp = .ok (eO e x) t1') : m env tp = .ok (e (x.getD default)) t1' := by
  cases x with
  | none => exact (h rfl).elim
  | some x => exact ha
theorem get!_map [Inhabited α] {xs : List α} {i : Nat} (h : i < xs.length) : atI (xs.map e) (i : Int) = some (e xs[i]!) := by
  rw [atI_nat', List.getElem?_map, List.getElem?_eq_getElem h, getElem!_pos xs i h]; rfl
theorem ev_ixL [Inhabited α] {xs : List α} {i : Nat} (h : i < xs.length) (ha : ma env tp = .ok (eL e xs) t1') (hb : mb env t1' = .ok (eN i) t2') : binE ixD ma mb env tp = .ok (e xs[i]!) t2' := ev_bin ha hb (get!_map h)
theorem ev_ixT [Inhabited α] {xs : List α} {i : Nat} (h : i < xs.length) (ha : ma env tp = .ok (eT e xs) t1') (hb : mb env t1' = .ok (eN i) t2') : binE ixD ma mb env tp = .ok (e xs[i]!) t2' := ev_bin ha hb (get!_map h)
theorem get!_row {r : Row} {i : Nat} (hl : r.length ≤ 1000000) (h : i < r.length) : ixD (eR r) (eN i) = some (eG r[i]!) := by
  show (if (rowS r).length ≤ sizeLine then (atI (rowS r).cps.toList (i : Int)).map (fun c => D.str ⟨#[c]⟩) else none) = _
  rw [rowS_len, if_pos (small_line hl), row_toList, atI_nat', List.getElem?_map, List.getElem?_eq_getElem h, getElem!_pos r i h]; rfl
theorem ev_ixR {r : Row} {i : Nat} (h : r.length ≤ 1000000 ∧ i < r.length) (ha : ma env tp = .ok (eR r) t1') (hb : mb env t1' = .ok (eN i) t2') : binE ixD ma mb env tp = .ok (eG r[i]!) t2' := ev_bin ha hb (get!_row h.1 h.2)
theorem ev_fst {x : α × β} (ha : ma env tp = .ok (eP e e1 x) t1') (hb : mb env t1' = .ok (.int 0) t2') : binE ixD ma mb env tp = .ok (e x.1) t2' := ev_bin ha hb rfl
theorem ev_snd {x : α × β} (ha : ma env tp = .ok (eP e e1 x) t1') (hb : mb env t1' = .ok (.int 1) t2') : binE ixD ma mb env tp = .ok (e1 x.2) t2' := ev_bin ha hb rfl
theorem ev_lenL {xs : List α} (h : m env tp = .ok (eL e xs) t1') : callB lenD (consA m nilA) env tp = .ok (eN xs.length) t1' :=
  ev_callB (ev_cons h ev_nil) (by show some (D.int ((xs.map e).length : Int)) = _; rw [List.length_map])
theorem ev_lenT {xs : List α} (h : m env tp = .ok (eT e xs) t1') : callB lenD (consA m nilA) env tp = .ok (eN xs.length) t1' :=
  ev_callB (ev_cons h ev_nil) (by show some (D.int ((xs.map e).length : Int)) = _; rw [List.length_map])
theorem ev_lenR {r : Row} (hl : r.length ≤ 1000000) (h : m env tp = .ok (eR r) t1') : callB lenD (consA m nilA) env tp = .ok (eN r.length) t1' :=
  ev_callB (ev_cons h ev_nil) (by show (if (rowS r).length ≤ sizeLine then some (D.int ((rowS r).length : Int)) else none) = _; rw [rowS_len, if_pos (small_line hl)])
theorem ev_tupleL {xs : List α} (h : m env tp = .ok (eL e xs) t1') : callB tupleD (consA m nilA) env tp = .ok (eT e xs) t1' := ev_callB (ev_cons h ev_nil) rfl
theorem ev_listL {xs : List α} (h : m env tp = .ok (eL e xs) t1') : callB listD (consA m nilA) env tp = .ok (eL e xs) t1' := ev_callB (ev_cons h ev_nil) rfl
theorem ev_listT {xs : List α} (h : m env tp = .ok (eT e xs) t1') : callB listD (consA m nilA) env tp = .ok (eL e xs) t1' := ev_callB (ev_cons h ev_nil) rfl
theorem ev_catT {xs ys : List α} (h : xs.length + ys.length ≤ 1000000) (ha : ma env tp = .ok (eT e xs) t1') (hb : mb env t1' = .ok (eT e ys) t2') : binE addD ma mb env tp = .ok (eT e (xs ++ ys)) t2' :=
  ev_bin ha hb (by show (if (xs.map e).length + (ys.map e).length ≤ sizeLine then some (D.tup (xs.map e ++ ys.map e)) else none) = _; rw [List.length_map, List.length_map, if_pos (small_line h), ← List.map_append])
theorem ev_catR {xs ys : Row} (h : xs.length + ys.length ≤ 1000000) (ha : ma env tp = .ok (eR xs) t1') (hb : mb env t1' = .ok (eR ys) t2') : binE addD ma mb env tp = .ok (eR (xs ++ ys)) t2' :=
  ev_bin ha hb (by show (if (rowS xs).length + (rowS ys).length ≤ sizeLine then some (D.str (rowS xs ++ rowS ys)) else none) = _; rw [rowS_len, rowS_len, if_pos (small_line h), rowS_app])
theorem ev_repG {b : Bool} {n : Nat} (h : n ≤ 16777216) (ha : ma env tp = .ok (eG b) t1') (hb : mb env t1' = .ok (eN n) t2') : binE mulD ma mb env tp = .ok (eR (List.replicate n b)) t2' :=
  ev_bin ha hb (by
    show (if cRep (rowS [b]).length (n : Int) then some (D.str (Txt.mul (rowS [b]) (n : Int))) else none) = _
    have c : cRep (rowS [b]).length (n : Int) = true := by
      rw [rowS_len]; unfold cRep
      have a1 : (0 : Int) ≤ n := by omega
      have a2 : (([b] : Row).length : Int) * (n : Int) ≤ 16777216 := by simp; omega
      have a3 : (n : Int) ≤ 16777216 := by omega
      rw [decide_eq_true a1, decide_eq_true a2, decide_eq_true a3]; rfl
    rw [if_pos c, mul_row])
theorem flatten_rep1 (n : Nat) (x : D) : (List.replicate n [x]).flatten = List.replicate n x := by
  induction n with
  | zero => rfl
  | succ n ih => rw [List.replicate_succ, List.flatten_cons, ih, List.replicate_succ]; rfl
theorem ev_repT1 {x : α} {n : Nat} (h : 1 ≤ n ∧ n ≤ 1000) (ha : ma env tp = .ok (eT e [x]) t1') (hb : mb env t1' = .ok (eN n) t2') : binE mulD ma mb env tp = .ok (eT e (List.replicate n x)) t2' :=
  ev_bin ha hb (by
    show (if cRepT 1 (n : Int) then some (D.tup (List.replicate (n : Int).toNat [e x]).flatten) else none) = _
    have c : cRepT 1 (n : Int) = true := by
      unfold cRepT
      have a1 : (0 : Int) ≤ n := by omega
      have a3 : (n : Int) ≤ 1000 := by omega
      rw [decide_eq_true a1, decide_eq_true a3]; rfl
    rw [if_pos c, Int.toNat_natCast, flatten_rep1, ← List.map_replicate])
theorem cut_toL {α : Type} (xs : List α) (k : Nat) : cutD xs none (some (k : Int)) = xs.take k := by
  unfold cutD
  rw [HT.sIx_none, HT.sIx_nat, List.drop_zero, Nat.sub_zero]
  by_cases h : k ≤ xs.length
  · rw [Nat.min_eq_left h]
  · rw [Nat.min_eq_right (by omega), List.take_of_length_le (by omega), List.take_of_length_le (by omega)]
theorem cut_fromL {α : Type} (xs : List α) (k : Nat) : cutD xs (some (k : Int)) none = xs.drop k := by
  unfold cutD
  rw [HT.sIx_none, HT.sIx_nat]
  by_cases h : k ≤ xs.length
  · rw [Nat.min_eq_left h, List.take_of_length_le (by rw [List.length_drop]; omega)]
  · rw [Nat.min_eq_right (by omega), List.drop_of_length_le (by omega), List.drop_of_length_le (by omega)]; simp
theorem ev_optN : optI none env tp = .ok none tp := rfl
theorem ev_optS {i : Int} (h : m env tp = .ok (.int i) t1') : optI (some m) env tp = .ok (some i) t1' := by
  unfold optI; simp only; rw [h]; rfl
theorem ev_sl {a z : D} {ml mh : SE (Option Int)} {lo hi : Option Int} (ha : m env tp = .ok a t1') (hl : ml env t1' = .ok lo t2') (hh : mh env t2' = .ok hi t3') (h : sliceD a lo hi = some z) : sliceE m ml mh env tp = .ok z t3' := by
  unfold sliceE; rw [ha]; simp only [RE.bind_ok]; rw [hl]; simp only [RE.bind_ok]; rw [hh]; simp only [RE.bind_ok]; rw [h]; rfl
theorem ev_toT {xs : List α} {k : Nat} (ha : m env tp = .ok (eT e xs) t1') (hh : mb env t1' = .ok (eN k) t2') : sliceE m (optI none) (optI (some mb)) env tp = .ok (eT e (xs.take k)) t2' :=
  ev_sl ha ev_optN (ev_optS hh) (by show some (D.tup (cutD (xs.map e) none (some (k : Int)))) = _; rw [cut_toL, ← List.map_take])
theorem ev_fromT {xs : List α} {k : Nat} (ha : m env tp = .ok (eT e xs) t1') (hh : mb env t1' = .ok (eN k) t2') : sliceE m (optI (some mb)) (optI none) env tp = .ok (eT e (xs.drop k)) t2' :=
  ev_sl ha (ev_optS hh) ev_optN (by show some (D.tup (cutD (xs.map e) (some (k : Int)) none)) = _; rw [cut_fromL, ← List.map_drop])
theorem sl_row {r : Row} {lo hi : Option Int} (h : r.length ≤ 1000000) : sliceD (eR r) lo hi = some (eR (cutD r lo hi)) := by
  show (if (rowS r).length ≤ sizeLine then some (D.str (cutS (rowS r) lo hi)) else none) = _
  rw [rowS_len, if_pos (small_line h), row_cut]
theorem ev_toR {xs : Row} {k : Nat} (h : xs.length ≤ 1000000) (ha : m env tp = .ok (eR xs) t1') (hh : mb env t1' = .ok (eN k) t2') : sliceE m (optI none) (optI (some mb)) env tp = .ok (eR (xs.take k)) t2' :=
  ev_sl ha ev_optN (ev_optS hh) (by rw [sl_row h, cut_toL])
theorem ev_fromR {xs : Row} {k : Nat} (h : xs.length ≤ 1000000) (ha : m env tp = .ok (eR xs) t1') (hh : mb env t1' = .ok (eN k) t2') : sliceE m (optI (some mb)) (optI none) env tp = .ok (eR (xs.drop k)) t2' :=
  ev_sl ha (ev_optS hh) ev_optN (by rw [sl_row h, cut_fromL])
theorem ev_revL {xs : List α} (ha : m env tp = .ok (eL e xs) t1') : revE m env tp = .ok (eL e xs.reverse) t1' := by
  unfold revE; rw [ha]; simp only [RE.bind_ok]
  show RE.of (some (D.lst (xs.map e).reverse)) t1' = _
  rw [← List.map_reverse]; rfl
end
end T
set_option maxHeartbeats 1000000
namespace T
open PySem L2 G
theorem kb_int_int : kitB "int" "int" = some true := by decide +kernel
theorem kb_int_bool : kitB "int" "bool" = some false := by decide +kernel
theorem kb_str_str : kitB "str" "str" = some true := by decide +kernel
theorem kb_tuple_tuple : kitB "tuple" "tuple" = some true := by decide +kernel
theorem kb_list_list : kitB "list" "list" = some true := by decide +kernel
section
variable {α β γ δ : Type} {e : α → D} {e1 : β → D} {e2 : γ → D} {env : DEnv} {tp t1' t2' t3' t4' : List D} {m ma mb mc : SE D} {mi mi1 : SE (List D)} {ms : SE (List D)} {c c1 : SE Bool}
theorem ev_isi {d : D} {a n : String} {b : Bool} (ha : ma env tp = .ok d t1') (ht : tyN d = some a) (hk : kitB a n = some b) : callB isiD (consA ma (consA (cE (.ty n)) nilA)) env tp = .ok (eB b) t1' := by
  refine ev_callB (ds := [d, .ty n]) (ev_cons ha (ev_cons (m := cE (.ty n)) rfl ev_nil)) ?_
  show (tyN d).bind (fun t => (kitB t n).map D.bl) = some (.bl b)
  rw [ht]
  show (kitB a n).map D.bl = some (.bl b)
  rw [hk]; rfl
theorem it_L {xs : List α} (h : m env tp = .ok (eL e xs) t1') : seqI m env tp = .ok (xs.map e) t1' := by unfold seqI; rw [h]; rfl
theorem it_T {xs : List α} (h : m env tp = .ok (eT e xs) t1') : seqI m env tp = .ok (xs.map e) t1' := by unfold seqI; rw [h]; rfl
theorem row_items (r : Row) : seqD (eR r) = some (r.map eG) := by
  show some ((rowS r).cps.toList.map fun c => D.str ⟨#[c]⟩) = _
  rw [row_toList, List.map_map]; rfl
theorem it_R {r : Row} (h : m env tp = .ok (eR r) t1') : seqI m env tp = .ok (r.map eG) t1' := by
  unfold seqI; rw [h]; simp only [RE.bind_ok]; rw [row_items]; rfl
theorem rangeL_N (n : Nat) : rangeL 0 (n : Int) = (List.range n).map eN := by
  unfold rangeL
  rw [Int.sub_zero, Int.toNat_natCast]
  exact List.map_congr_left fun a _ => by rw [Int.zero_add]
theorem rangeL_N2 (a n : Nat) : rangeL (a : Int) (n : Int) = (List.range' a (n - a)).map eN := by
  unfold rangeL
  have : ((n : Int) - (a : Int)).toNat = n - a := by omega
  rw [this, List.range'_eq_map_range, List.map_map]
  exact List.map_congr_left fun b _ => by simp
theorem cRg_nat {n : Nat} (h : n ≤ 1073741824) : cRg (n : Int) = true := by
  unfold cRg
  have h1 : -(2 ^ 62) ≤ (n : Int) := by omega
  have h2 : (n : Int) < 2 ^ 62 := by omega
  rw [decide_eq_true h1, decide_eq_true h2]; rfl
theorem range1D_i {i : Int} (h : cRg i = true) : range1D [.int i] = some (rangeL 0 i) := by
  show (if cRg i then some (rangeL 0 i) else none) = _
  rw [if_pos h]
theorem range2D_i {i j : Int} (h : cRg i = true) (h2 : cRg j = true) : range2D [.int i, .int j] = some (rangeL i j) := by
  show (if (cRg i && cRg j) = true then some (rangeL i j) else none) = _
  rw [h, h2]; rfl
theorem range1D_N {n : Nat} (hn : n ≤ 1073741824) : range1D [eN n] = some ((List.range n).map eN) := by
  rw [← rangeL_N]; exact range1D_i (cRg_nat hn)
theorem range2D_N {a n : Nat} (ha : a ≤ 1073741824) (hn : n ≤ 1073741824) : range2D [eN a, eN n] = some ((List.range' a (n - a)).map eN) := by
  rw [← rangeL_N2]; exact range2D_i (cRg_nat ha) (cRg_nat hn)
theorem ev_rangeI {f : List D → Option (List D)} {ds its : List D} (h : ms env tp = .ok ds t1') (hf : f ds = some its) : rangeI f ms env tp = .ok its t1' := by
  unfold rangeI; rw [h]; simp only [RE.bind_ok]; rw [hf]; rfl
theorem it_range {n : Nat} (hn : n ≤ 1073741824) (h : m env tp = .ok (eN n) t1') : rangeI range1D (consA m nilA) env tp = .ok ((List.range n).map eN) t1' :=
  ev_rangeI (ev_cons h ev_nil) (range1D_N hn)
theorem it_range2 {a n : Nat} (hn : a ≤ 1073741824 ∧ n ≤ 1073741824) (ha : ma env tp = .ok (eN a) t1') (h : m env t1' = .ok (eN n) t2') : rangeI range2D (consA ma (consA m nilA)) env tp = .ok ((List.range' a (n - a)).map eN) t2' :=
  ev_rangeI (ev_cons ha (ev_cons h ev_nil)) (range2D_N hn.1 hn.2)
/-- the pairs of places and things -/
def enumP {α : Type} (xs : List α) : List (Nat × α) := xs.mapIdx fun i x => (i, x)
theorem numD_map (xs : List α) : numD (xs.map e) = (enumP xs).map (eP eN e) := by
  unfold numD enumP
  refine List.ext_getElem? fun i => ?_
  rw [List.getElem?_mapIdx, List.getElem?_map, List.getElem?_map, List.getElem?_mapIdx]
  cases xs[i]? <;> rfl
theorem it_enum {xs : List α} (h : seqD d = some (xs.map e)) (hm : m env tp = .ok d t1') : rangeI enumD (consA m nilA) env tp = .ok ((enumP xs).map (eP eN e)) t1' := by
  unfold rangeI; rw [ev_cons hm ev_nil]; simp only [RE.bind_ok]
  show RE.of ((seqD d).map numD) t1' = _
  rw [h]
  show RE.of (some (numD (xs.map e))) t1' = _
  rw [numD_map]; rfl
theorem it_enumL {xs : List α} (hm : m env tp = .ok (eL e xs) t1') : rangeI enumD (consA m nilA) env tp = .ok ((enumP xs).map (eP eN e)) t1' := it_enum rfl hm
theorem it_enumT {xs : List α} (hm : m env tp = .ok (eT e xs) t1') : rangeI enumD (consA m nilA) env tp = .ok ((enumP xs).map (eP eN e)) t1' := it_enum rfl hm
theorem it_enumR {xs : Row} (hm : m env tp = .ok (eR xs) t1') : rangeI enumD (consA m nilA) env tp = .ok ((enumP xs).map (eP eN eG)) t1' := it_enum (row_items xs) hm
theorem compL_mapP {f : D → List D → RE (Option D)} {g : α → β} {P : α → Prop} [DecidablePred P] : ∀ {xs : List α}, (∀ x ∈ xs, f (e x) tp = .ok (if P x then some (e1 (g x)) else none) tp) → compL f (xs.map e) tp = .ok (((xs.filter fun x => decide (P x)).map g).map e1) tp
  | [], _ => rfl
  | x :: xs, h => by
    rw [List.map_cons]
    unfold compL
    rw [h x List.mem_cons_self]
    simp only
    rw [compL_mapP fun y hy => h y (List.mem_cons_of_mem _ hy)]
    by_cases q : P x <;> simp [q]
theorem ev_comp {vs is : List Nat} {tgt : D → Option (List D)} {xs : List α} {ds : α → List D} {g : α → β} {P : α → Prop} [DecidablePred P] (hi : mi env tp = .ok (xs.map e) t1') (hl : xs.length ≤ 1000000) (ht : ∀ x, tgt (e x) = some (ds x))
    (hc : ∀ x ∈ xs, c (setAll (wipeE env vs) is (ds x)) t1' = .ok (decide (P x)) t1') (hm : ∀ x ∈ xs, P x → m (setAll (wipeE env vs) is (ds x)) t1' = .ok (e1 (g x)) t1') :
    compE mi vs tgt is c m env tp = .ok (eL e1 ((xs.filter fun x => decide (P x)).map g)) t1' := by
  unfold compE
  rw [hi]
  simp only [RE.bind_ok]
  rw [if_pos (small_line (by rw [List.length_map]; exact hl)), compL_mapP (e := e) (e1 := e1) (g := g) (P := P)]
  intro x hx
  unfold compTurn1
  rw [ht]
  simp only
  rw [hc x hx]
  simp only [RE.bind_ok]
  by_cases q : P x
  · rw [if_pos (decide_eq_true q), hm x hx q, if_pos q]; rfl
  · rw [if_neg (by simp [q]), if_neg q]
theorem filter_tt {α : Type} (xs : List α) : (xs.filter fun _ => decide True) = xs := List.filter_eq_self.mpr fun _ _ => rfl
theorem ev_compY {vs is : List Nat} {tgt : D → Option (List D)} {xs : List α} {ds : α → List D} {g : α → β} (hi : mi env tp = .ok (xs.map e) t1') (hl : xs.length ≤ 1000000) (ht : ∀ x, tgt (e x) = some (ds x))
    (hm : ∀ x ∈ xs, m (setAll (wipeE env vs) is (ds x)) t1' = .ok (e1 (g x)) t1') :
    compE mi vs tgt is yesT m env tp = .ok (eL e1 (xs.map g)) t1' := by
  have := ev_comp (c := yesT) (P := fun _ => True) (g := g) (e1 := e1) (vs := vs) hi hl ht (fun x hx => rfl) (fun x hx _ => hm x hx)
  rw [this, filter_tt]
theorem unB_map (bs : List Bool) : unB (bs.map eB) = some bs := by
  induction bs with
  | nil => rfl
  | cons b bs ih => show (unB (bs.map eB)).map (b :: ·) = _; rw [ih]; rfl
theorem unI_mapN (ns : List Nat) : unI (ns.map eN) = some (ns.map fun n : Nat => (n : Int)) := by
  induction ns with
  | nil => rfl
  | cons b bs ih => show (unI (bs.map eN)).map ((b : Int) :: ·) = _; rw [ih]; rfl
theorem unS_mapR (ns : List Row) : unS (ns.map eR) = some (ns.map rowS) := by
  induction ns with
  | nil => rfl
  | cons b bs ih => show (unS (bs.map eR)).map (rowS b :: ·) = _; rw [ih]; rfl
theorem ev_allY {xs : List α} {R : α → Prop} [DecidablePred R] {dq : Decidable (∀ x ∈ xs, R x)} (h : m env tp = .ok (eL eB (xs.map fun x => decide (R x))) t1') : callB allD (consA m nilA) env tp = .ok (eB (@decide _ dq)) t1' :=
  ev_callB (ev_cons h ev_nil) (by
    show (unB ((xs.map fun x => decide (R x)).map eB)).map (fun bs => D.bl (bs.all id)) = _
    rw [unB_map]
    show some (D.bl ((xs.map fun x => decide (R x)).all id)) = _
    congr 2
    rw [List.all_map]
    by_cases q : ∀ x ∈ xs, R x
    · rw [decide_eq_true q]; exact List.all_eq_true.mpr fun x hx => by simp [q x hx]
    · rw [decide_eq_false q]
      cases z : xs.all (id ∘ fun x => decide (R x)) with
      | false => rfl
      | true => exact (q fun x hx => by have := List.all_eq_true.mp z x hx; simpa using this).elim)
theorem ev_anyY {xs : List α} {R : α → Prop} [DecidablePred R] {dq : Decidable (∃ x ∈ xs, R x)} (h : m env tp = .ok (eL eB (xs.map fun x => decide (R x))) t1') : callB anyD (consA m nilA) env tp = .ok (eB (@decide _ dq)) t1' :=
  ev_callB (ev_cons h ev_nil) (by
    show (unB ((xs.map fun x => decide (R x)).map eB)).map (fun bs => D.bl (bs.any id)) = _
    rw [unB_map]
    show some (D.bl ((xs.map fun x => decide (R x)).any id)) = _
    congr 2
    rw [List.any_map]
    by_cases q : ∃ x ∈ xs, R x
    · rw [decide_eq_true q]
      obtain ⟨x, hx, r⟩ := q
      exact List.any_eq_true.mpr ⟨x, hx, by simp [r]⟩
    · rw [decide_eq_false q]
      refine List.any_eq_false.mpr fun x hx => ?_
      intro z
      exact q ⟨x, hx, by simpa using z⟩)
def insN (x : Nat) : List Nat → List Nat
  | [] => [x]
  | y :: ys => if x ≤ y then x :: y :: ys else y :: insN x ys
def sortN : List Nat → List Nat
  | [] => []
  | x :: xs => insN x (sortN xs)
theorem insI_N (x : Nat) (ys : List Nat) : _root_.G.insI (x : Int) (ys.map fun n : Nat => (n : Int)) = (insN x ys).map fun n : Nat => (n : Int) := by
  induction ys with
  | nil => rfl
  | cons y ys ih =>
    rw [List.map_cons]
    unfold _root_.G.insI insN
    by_cases q : x ≤ y
    · rw [if_pos (by omega), if_pos q]; rfl
    · rw [if_neg (by omega), if_neg q, ih]; rfl
theorem sortI_N (xs : List Nat) : _root_.G.sortI (xs.map fun n : Nat => (n : Int)) = (sortN xs).map fun n : Nat => (n : Int) := by
  induction xs with
  | nil => rfl
  | cons x xs ih => rw [List.map_cons]; unfold _root_.G.sortI sortN; rw [ih, insI_N]
theorem insN_perm (x : Nat) (ys : List Nat) : (insN x ys).Perm (x :: ys) := by
  induction ys with
  | nil => exact .refl _
  | cons y ys ih =>
    unfold insN
    by_cases q : x ≤ y
    · rw [if_pos q]
    · rw [if_neg q]; exact (ih.cons y).trans (.swap x y ys)
theorem sortN_perm (xs : List Nat) : (sortN xs).Perm xs := by
  induction xs with
  | nil => exact .refl _
  | cons x xs ih => exact (insN_perm x _).trans (ih.cons x)
theorem insN_le (x : Nat) (ys : List Nat) (h : ys.Pairwise (· ≤ ·)) : (insN x ys).Pairwise (· ≤ ·) := by
  induction ys with
  | nil => exact List.pairwise_singleton _ _
  | cons y ys ih =>
    unfold insN
    have h' := List.pairwise_cons.mp h
    by_cases q : x ≤ y
    · rw [if_pos q]
      exact List.pairwise_cons.mpr ⟨fun z hz => (List.mem_cons.mp hz).elim (fun e => e ▸ q) (fun hz => Nat.le_trans q (h'.1 z hz)), h⟩
    · rw [if_neg q]
      refine List.pairwise_cons.mpr ⟨fun z hz => ?_, ih h'.2⟩
      rcases List.mem_cons.mp ((insN_perm x ys).mem_iff.mp hz) with rfl | hz
      · omega
      · exact h'.1 z hz
theorem sortN_le (xs : List Nat) : (sortN xs).Pairwise (· ≤ ·) := by
  induction xs with
  | nil => exact .nil
  | cons x xs ih => exact insN_le x _ ih
theorem sorted_unique : ∀ {xs ys : List Nat}, xs.Perm ys → xs.Pairwise (· ≤ ·) → ys.Pairwise (· ≤ ·) → xs = ys
  | xs, ys, p, h1, h2 => p.eq_of_pairwise (fun a b _ _ h1 h2 => Nat.le_antisymm h1 h2) h1 h2
theorem sortN_of_perm {xs ys : List Nat} (p : xs.Perm ys) (h : ys.Pairwise (· ≤ ·)) : sortN xs = ys := sorted_unique ((sortN_perm xs).trans p) (sortN_le xs) h
theorem ev_sortT {xs : List Nat} (h : m env tp = .ok (eT eN xs) t1') : callB sortD (consA m nilA) env tp = .ok (eL eN (sortN xs)) t1' :=
  ev_callB (ev_cons h ev_nil) (by
    show (unI (xs.map eN)).map (fun ns => D.lst ((_root_.G.sortI ns).map .int)) = _
    rw [unI_mapN]
    show some (D.lst ((_root_.G.sortI (xs.map fun n : Nat => (n : Int))).map .int)) = _
    rw [sortI_N, List.map_map]; rfl)
theorem rg1_i {k : List D → D} {i : Int} (hc : cRgOk 0 i = true) (h : m env tp = .ok (.int i) t1') : rg1E k m env tp = .ok (k (rangeL 0 i)) t1' := by
  unfold rg1E; rw [h]; simp only [RE.bind_ok]; rw [if_pos hc]
theorem cRgOk_i {i j : Int} (h1 : cRg i = true) (h2 : cRg j = true) (h3 : (j - i).toNat ≤ 16777216) : cRgOk i j = true := by
  unfold cRgOk; rw [h1, h2, decide_eq_true h3]; rfl
theorem cRg_zero : cRg 0 = true := by decide +kernel
theorem ev_rg1L {n : Nat} (hn : n ≤ 16777216) (h : m env tp = .ok (eN n) t1') : rg1E .lst m env tp = .ok (eL eN (List.range n)) t1' := by
  rw [rg1_i (cRgOk_i cRg_zero (cRg_nat (show n ≤ 1073741824 by omega)) (by omega)) h, rangeL_N]
theorem flatten_sing (bs : List Bool) : (bs.map fun b => [b]).flatten = bs := by
  induction bs with
  | nil => rfl
  | cons b bs ih => rw [List.map_cons, List.flatten_cons, ih]; rfl
theorem sum_lens (bs : List Row) : ((bs.map rowS).map (·.length)).sum = (bs.map (·.length)).sum := by
  rw [List.map_map]; congr 1; exact List.map_congr_left fun a _ => rowS_len a
theorem sum_ones {α : Type} (xs : List α) : (xs.map fun _ => 1).sum = xs.length := by
  induction xs with
  | nil => rfl
  | cons x xs ih => rw [List.map_cons, List.sum_cons, ih, List.length_cons]; omega
theorem join_R {d : D} {bs : List Row} (hd : itemsD d = some (bs.map eR)) (h : (bs.map (·.length)).sum ≤ 16777216) : joinD (.str "") d = some (eR bs.flatten) := by
  unfold joinD
  simp only
  rw [hd]
  simp only [Option.bind_some]
  rw [unS_mapR]
  simp only [Option.bind_some]
  have e : ("" : Str) = rowS [] := by decide +kernel
  rw [e, rowS_len, sum_lens, if_pos (by simpa using h), join_rows]
theorem ev_joinR {bs : List Row} (h : (bs.map (·.length)).sum ≤ 16777216) (hb : mb env tp = .ok (eL eR bs) t1') : methE isStrD joinD (cE (.str "")) mb env tp = .ok (eR bs.flatten) t1' :=
  ev_meth rfl rfl hb (join_R (d := eL eR bs) rfl h)
theorem ev_joinG {bs : List Bool} (h : bs.length ≤ 16777216) (hb : mb env tp = .ok (eL eG bs) t1') : methE isStrD joinD (cE (.str "")) mb env tp = .ok (eR bs) t1' := by
  have e : bs.map eG = (bs.map fun b => [b]).map eR := by rw [List.map_map]; rfl
  have := ev_joinR (bs := bs.map fun b => [b]) (by rw [List.map_map]; show (bs.map fun _ => 1).sum ≤ 16777216; rw [sum_ones]; exact h) (hb.trans (by show RE.ok (D.lst (bs.map eG)) t1' = _; rw [e]))
  rw [this, flatten_sing]
end
end T
set_option maxHeartbeats 1000000
namespace T
open PySem L2 G
abbrev Wn := DEnv → List D → Prop
abbrev Wr := D → List D → Prop
/-- N behind it, R where it returns, B where it breaks, C where it goes on with the next turn -/
inductive WP (N : Wn) (R : Wr) (B C : Wn) : RS → Prop
  | nx {e : DEnv} {t : List D} : N e t → WP N R B C (.nx e t)
  | rt {d : D} {t : List D} : R d t → WP N R B C (.rt d t)
  | bk {e : DEnv} {t : List D} : B e t → WP N R B C (.bk e t)
  | ct {e : DEnv} {t : List D} : C e t → WP N R B C (.ct e t)
abbrev At (s : SS) (env : DEnv) (tp : List D) : RS := s env tp
def no : Wn := fun _ _ => False
section
variable {α β γ δ : Type} {e : α → D} {e1 : β → D} {env : DEnv} {tp t1' t2' : List D} {m ma mb mc : SE D} {mi : SE (List D)} {ms : SE (List D)} {c : SE Bool} {N : Wn} {R : Wr} {B C : Wn} {s s1 s2 : SS} {P : Prop} [Decidable P]
theorem wp_seq (h : WP (fun e t => WP N R B C (s2 e t)) R B C (s1 env tp)) : WP N R B C (seqS s1 s2 env tp) := by
  unfold seqS
  cases q : s1 env tp with
  | nx e t => rw [q] at h; cases h with | nx h => exact h
  | rt d t => rw [q] at h; cases h with | rt h => exact .rt h
  | bk e t => rw [q] at h; cases h with | bk h => exact .bk h
  | ct e t => rw [q] at h; cases h with | ct h => exact .ct h
  | exn a b t => rw [q] at h; cases h
  | stuck => rw [q] at h; cases h
theorem wp_skip (h : N env tp) : WP N R B C (skipS env tp) := .nx h
theorem wp_set {i : Nat} {d : D} (h : m env tp = .ok d t1') (hn : N (env.set i (some d)) t1') : WP N R B C (setS i m env tp) := by
  unfold setS; rw [h]; exact .nx hn
theorem wp_setF {i : Nat} {d : D} (h : m env tp = .ok d t1') (hi : decide (i < env.length) = true) (hn : N (env.set i (some d)) t1') : WP N R B C (setFS i m env tp) := by
  unfold setFS; rw [h]
  show WP N R B C (if i < env.length then .nx (env.set i (some d)) t1' else .stuck)
  rw [if_pos (of_decide_eq_true hi)]; exact .nx hn
theorem wp_ret {d : D} (h : m env tp = .ok d t1') (hr : R d t1') : WP N R B C (retS m env tp) := by
  unfold retS; rw [h]; exact .rt hr
theorem wp_drop {d : D} (h : m env tp = .ok d t1') (hn : N env t1') : WP N R B C (dropS m env tp) := by
  unfold dropS; rw [h]; exact .nx hn
theorem wp_if (h : c env tp = .ok (decide P) t1') (hp : P → WP N R B C (s1 env t1')) (hn : ¬P → WP N R B C (s2 env t1')) : WP N R B C (ifS c s1 s2 env tp) := by
  unfold ifS; rw [h]
  show WP N R B C (if decide P = true then s1 env t1' else s2 env t1')
  by_cases q : P
  · rw [if_pos (decide_eq_true q)]; exact hp q
  · rw [if_neg (by simp [q])]; exact hn q
theorem ev_as {x y : α} (h : x = y) {e : α → D} {r : RE D} {t : List D} (p : r = .ok (e y) t) : r = .ok (e x) t := by rw [h]; exact p
theorem ev_tt (h : P) {t : List D} : (RE.ok (eB (decide P)) t : RE D) = .ok (.bl true) t := by rw [decide_eq_true h]
theorem ev_compI {vs is : List Nat} {tgt : D → Option (List D)} {xs : List α} {ds : α → List D} {P : α → Prop} [DecidablePred P] (hi : mi env tp = .ok (xs.map e) t1') (hl : xs.length ≤ 1000000) (ht : ∀ x, tgt (e x) = some (ds x))
    (hc : ∀ x ∈ xs, c (setAll (wipeE env vs) is (ds x)) t1' = .ok (decide (P x)) t1') (hm : ∀ x ∈ xs, P x → m (setAll (wipeE env vs) is (ds x)) t1' = .ok (e x) t1') :
    compE mi vs tgt is c m env tp = .ok (eL e (xs.filter fun x => decide (P x))) t1' := by
  have := ev_comp (g := fun x => x) (e1 := e) (vs := vs) hi hl ht hc hm
  rw [this]
  simp
theorem wp_app {i : Nat} {xs : List α} {x : α} (he : env[i]? = some (some (eL e xs))) (h : m env tp = .ok (e x) t1') (hl : xs.length < 1000000) (hn : N (env.set i (some (eL e (xs ++ [x])))) t1') : WP N R B C (appS i m env tp) := by
  unfold appS
  rw [he]
  simp only
  rw [h]
  show WP N R B C (if (xs.map e).length < sizeLine then .nx (env.set i (some (.lst (xs.map e ++ [e x])))) t1' else .stuck)
  rw [List.length_map, if_pos (by have := small_line (Nat.le_refl 1000000); omega)]
  rw [show xs.map e ++ [e x] = (xs ++ [x]).map e from by rw [List.map_append]; rfl]
  exact .nx hn
theorem wp_par {is : List Nat} {ds : List D} (h : ms env tp = .ok ds t1') (hi : is.all (fun i => decide (i < env.length)) = true) (hn : N (setAll env is ds) t1') : WP N R B C (parS is ms env tp) := by
  unfold parS; rw [h]
  show WP N R B C (if is.all (fun i => decide (i < env.length)) = true then .nx (setAll env is ds) t1' else .stuck)
  rw [if_pos hi]; exact .nx hn
theorem wp_unp {n : Nat} {is : List Nat} {d : D} {ds : List D} (h : m env tp = .ok d t1') (ht : tN n d = some ds) (hn : N (setAll env is ds) t1') : WP N R B C (unpS n is m env tp) := by
  unfold unpS; rw [h]
  show WP N R B C (match tN n d with
    | some ds => .nx (setAll env is ds) t1'
    | none => .stuck)
  rw [ht]; exact .nx hn
theorem wp_augN {i : Nat} {x y : Nat} (he : env[i]? = some (some (eN x))) (h : m env tp = .ok (eN y) t1') (hn : N (env.set i (some (eN (x + y)))) t1') : WP N R B C (augS i addD m env tp) := by
  unfold augS
  rw [he]
  simp only
  rw [h]
  show WP N R B C (.nx (env.set i (some (.int ((x : Int) + (y : Int))))) t1')
  rw [← Int.natCast_add]; exact .nx hn
theorem WP.imp {N' : Wn} {R' : Wr} {B' C' : Wn} {r : RS} (h : WP N R B C r) (hn : ∀ e t, N e t → N' e t) (hr : ∀ d t, R d t → R' d t) (hb : ∀ e t, B e t → B' e t) (hc : ∀ e t, C e t → C' e t) : WP N' R' B' C' r := by
  cases h with
  | nx h => exact .nx (hn _ _ h)
  | rt h => exact .rt (hr _ _ h)
  | bk h => exact .bk (hb _ _ h)
  | ct h => exact .ct (hc _ _ h)
theorem wp_forL {tgt : D → Option (List D)} {is : List Nat} {ds : α → List D} (I : Nat → Wn) (ht : ∀ x, tgt (e x) = some (ds x)) : ∀ (xs : List α) (k : Nat) (env : DEnv) (tp : List D), I k env tp →
    (∀ j x env t, xs[j]? = some x → I (k + j) env t → WP (I (k + j + 1)) R N (I (k + j + 1)) (s (setAll env is (ds x)) t)) → (∀ env t, I (k + xs.length) env t → N env t) → WP N R B C (forL tgt is s (xs.map e) env tp)
  | [], k, env, tp, h0, _, he => .nx (he env tp h0)
  | x :: xs, k, env, tp, h0, hs, he => by
    rw [List.map_cons]
    unfold forL
    rw [ht]
    simp only
    have h1 := hs 0 x env tp rfl h0
    have ih : ∀ env tp, I (k + 1) env tp → WP N R B C (forL tgt is s (xs.map e) env tp) := fun env tp hi => wp_forL I ht xs (k + 1) env tp hi (fun j y env t hj hi => by
      have q : k + 1 + j = k + (j + 1) := by omega
      rw [q] at hi ⊢
      exact hs (j + 1) y env t (by simpa using hj) hi) (fun env t hi => he env t (by rw [List.length_cons, show k + (xs.length + 1) = k + 1 + xs.length from by omega]; exact hi))
    cases q : s (setAll env is (ds x)) tp with
    | nx e t => rw [q] at h1; cases h1 with | nx h1 => exact ih e t h1
    | rt d t => rw [q] at h1; cases h1 with | rt h1 => exact .rt h1
    | bk e t => rw [q] at h1; cases h1 with | bk h1 => exact .nx h1
    | ct e t => rw [q] at h1; cases h1 with | ct h1 => exact ih e t h1
    | exn a b t => rw [q] at h1; cases h1
    | stuck => rw [q] at h1; cases h1
theorem wp_for {tgt : D → Option (List D)} {is : List Nat} {xs : List α} {ds : α → List D} (I : Nat → Wn) (hi : mi env tp = .ok (xs.map e) t1') (ht : ∀ x, tgt (e x) = some (ds x)) (h0 : I 0 env t1')
    (hs : ∀ k x env t, xs[k]? = some x → I k env t → WP (I (k + 1)) R N (I (k + 1)) (s (setAll env is (ds x)) t)) (he : ∀ env t, I xs.length env t → N env t) : WP N R B C (forS mi tgt is s env tp) := by
  unfold forS; rw [hi]
  exact wp_forL I ht xs 0 env t1' h0 (fun j x env t hj q => by rw [Nat.zero_add] at q ⊢; exact hs j x env t hj q) (fun env t q => he env t (by rw [Nat.zero_add] at q; exact q))
theorem wp_whileF (I : Nat → Wn) (hs : ∀ n env t, I n env t → ∃ (P : Prop) (dp : Decidable P), c env t = .ok (@decide P dp) t ∧ (P → WP (fun e t => ∃ n', n' < n ∧ I n' e t) R N (fun e t => ∃ n', n' < n ∧ I n' e t) (s env t)) ∧ (¬P → N env t)) : ∀ (f n : Nat) (env : DEnv) (tp : List D), n < f → I n env tp → WP N R B C (whileF c s f env tp)
  | 0, n, env, tp, hf, h0 => by omega
  | f + 1, n, env, tp, hf, h0 => by
    unfold whileF
    obtain ⟨P, dp, e1, e2, e3⟩ := hs n env tp h0
    rw [e1]
    show WP N R B C (if @decide P dp = true then _ else RS.nx env tp)
    by_cases q : P
    · rw [if_pos (decide_eq_true q)]
      have h1 := e2 q
      have ih : ∀ e t, (∃ n', n' < n ∧ I n' e t) → WP N R B C (whileF c s f e t) := fun e t ⟨n', l, i⟩ => wp_whileF I hs f n' e t (by omega) i
      cases q : s env tp with
      | nx e t => rw [q] at h1; cases h1 with | nx h1 => exact ih e t h1
      | rt d t => rw [q] at h1; cases h1 with | rt h1 => exact .rt h1
      | bk e t => rw [q] at h1; cases h1 with | bk h1 => exact .nx h1
      | ct e t => rw [q] at h1; cases h1 with | ct h1 => exact ih e t h1
      | exn a b t => rw [q] at h1; cases h1
      | stuck => rw [q] at h1; cases h1
    · rw [if_neg (by simp [q])]; exact .nx (e3 q)
theorem wp_while {f : Nat} (I : Nat → Wn) (h0 : ∃ n, n < f ∧ I n env tp) (hs : ∀ n env t, I n env t → ∃ (P : Prop) (dp : Decidable P), c env t = .ok (@decide P dp) t ∧ (P → WP (fun e t => ∃ n', n' < n ∧ I n' e t) R N (fun e t => ∃ n', n' < n ∧ I n' e t) (s env t)) ∧ (¬P → N env t)) : WP N R B C (whileS f c s env tp) := by
  obtain ⟨n, l, i⟩ := h0
  exact wp_whileF I hs f n env tp l i
/-- a def of data -/
theorem wp_def {n : Nat} {ds : List D} {Q : D → List D → Prop} (h : WP (fun _ t => Q .non t) Q no no (s (ds.map some ++ List.replicate (n - ds.length) none) tp)) : ∃ d t, defD n s ds tp = .ok d t ∧ Q d t := by
  unfold defD
  cases q : s (ds.map some ++ List.replicate (n - ds.length) none) tp with
  | nx e t => rw [q] at h; cases h with | nx h => exact ⟨.non, t, rfl, h⟩
  | rt d t => rw [q] at h; cases h with | rt h => exact ⟨d, t, rfl, h⟩
  | bk e t => rw [q] at h; cases h with | bk h => exact h.elim
  | ct e t => rw [q] at h; cases h with | ct h => exact h.elim
  | exn a b t => rw [q] at h; cases h
  | stuck => rw [q] at h; cases h
theorem wp_law {ns : List Int} {n : Nat} (h : WP no (fun d t => d = .bl true) no no (s (some (.scr ns) :: some .tape :: List.replicate n none) tp)) : ∃ t, retR (s (some (.scr ns) :: some .tape :: List.replicate n none) tp) = .ok (.bl true) t := by
  cases q : s (some (.scr ns) :: some .tape :: List.replicate n none) tp with
  | nx e t => rw [q] at h; cases h with | nx h => exact h.elim
  | rt d t => rw [q] at h; cases h with | rt h => exact ⟨t, by rw [show d = .bl true from h]; rfl⟩
  | bk e t => rw [q] at h; cases h with | bk h => exact h.elim
  | ct e t => rw [q] at h; cases h with | ct h => exact h.elim
  | exn a b t => rw [q] at h; cases h
  | stuck => rw [q] at h; cases h
end
end T
set_option maxHeartbeats 1000000
namespace T
open PySem L2 G
abbrev eD {β : Type} (e : β → D) (d : List (Nat × β)) : D := .dic (d.map fun p => (eN p.1, e p.2))
abbrev dkeys {β : Type} (d : List (Nat × β)) : List Nat := d.map (·.1)
def dget {β : Type} : List (Nat × β) → Nat → Option β
  | [], _ => none
  | (a, b) :: r, k => if a = k then some b else dget r k
def dput {β : Type} (d : List (Nat × β)) (k : Nat) (v : β) : List (Nat × β) := if (dget d k).isSome = true then d.map (fun p => if p.1 = k then (p.1, v) else p) else d ++ [(k, v)]
def dictOf {β : Type} (ps : List (Nat × β)) : List (Nat × β) := ps.foldl (fun d p => dput d p.1 p.2) []
section
variable {α β γ δ : Type} {e : β → D} {e1 : α → D} {e2 : γ → D} {env : DEnv} {tp t1' t2' t3' : List D} {m ma mb mc mk mv : SE D} {mi mi1 : SE (List D)} {c : SE Bool}
theorem key_eqN {a k : Nat} : (keyOf (eN a) = some (.inl (k : Int))) ↔ a = k := by
  show (some (Sum.inl (a : Int)) = some (Sum.inl (k : Int)) : Prop) ↔ _
  constructor
  · intro h; have := Sum.inl.inj (Option.some.inj h); omega
  · rintro rfl; rfl
theorem find_T (k : Nat) : ∀ d : List (Nat × β), findP keyOf (d.map fun p => (eN p.1, e p.2)) (.inl (k : Int)) = (dget d k).map e
  | [] => rfl
  | (a, b) :: r => by
    rw [List.map_cons]
    unfold findP dget
    by_cases q : a = k
    · rw [if_pos (key_eqN.mpr q), if_pos q]; rfl
    · rw [if_neg (fun z => q (key_eqN.mp z)), if_neg q]; exact find_T k r
theorem dget_isSome {d : List (Nat × β)} {k : Nat} : (dget d k).isSome = true ↔ k ∈ dkeys d := by
  induction d with
  | nil => simp [dget]
  | cons p r ih =>
    unfold dget
    by_cases q : p.1 = k
    · simp [q]
    · rw [if_neg q, ih]; simp [Ne.symm q]
theorem put_T (d : List (Nat × β)) (k : Nat) (v : β) : putP keyOf keyD (d.map fun p => (eN p.1, e p.2)) (.inl (k : Int)) (e v) = (dput d k v).map fun p => (eN p.1, e p.2) := by
  unfold putP dput
  rw [find_T, Option.isSome_map]
  by_cases q : (dget d k).isSome = true
  · rw [if_pos q, if_pos q, List.map_map, List.map_map]
    refine List.map_congr_left fun p _ => ?_
    show (if keyOf (eN p.1) = some (.inl (k : Int)) then (eN p.1, e v) else (eN p.1, e p.2)) = _
    by_cases z : p.1 = k
    · rw [if_pos (key_eqN.mpr z)]; simp [z]
    · rw [if_neg fun y => z (key_eqN.mp y)]; simp [z]
  · rw [if_neg q, if_neg q, List.map_append]; rfl
theorem dget_N (d : List (Nat × β)) (k : Nat) : dgetD (eD e d) (eN k) = some ((dget d k).map e) := by
  show some (findP keyOf (d.map fun p => (eN p.1, e p.2)) (.inl (k : Int))) = _
  rw [find_T]
theorem ev_inK {x : Nat} {d : List (Nat × β)} (ha : ma env tp = .ok (eN x) t1') (hb : mb env t1' = .ok (eD e d) t2') : binE (inKD false) ma mb env tp = .ok (eB (decide (x ∈ dkeys d))) t2' :=
  ev_bin ha hb (by
    unfold inKD
    rw [dget_N]
    show some (D.bl ((dget d x).map e).isSome) = _
    rw [Option.isSome_map]
    congr 2
    by_cases q : x ∈ dkeys d
    · rw [decide_eq_true q]; exact dget_isSome.mpr q
    · rw [decide_eq_false q]
      cases z : (dget d x).isSome with
      | false => rfl
      | true => exact (q (dget_isSome.mp z)).elim)
theorem ev_ninK {x : Nat} {d : List (Nat × β)} (ha : ma env tp = .ok (eN x) t1') (hb : mb env t1' = .ok (eD e d) t2') : binE (inKD true) ma mb env tp = .ok (eB (decide (x ∉ dkeys d))) t2' :=
  ev_bin ha hb (by
    unfold inKD
    rw [dget_N]
    show some (D.bl (!((dget d x).map e).isSome)) = _
    rw [Option.isSome_map]
    congr 2
    by_cases q : x ∈ dkeys d
    · rw [decide_eq_false (by simp [q])]
      rw [dget_isSome.mpr q]; rfl
    · rw [decide_eq_true q]
      cases z : (dget d x).isSome with
      | false => rfl
      | true => exact (q (dget_isSome.mp z)).elim)
theorem ev_ixK [Inhabited β] {x : Nat} {d : List (Nat × β)} (h : x ∈ dkeys d) (ha : ma env tp = .ok (eD e d) t1') (hb : mb env t1' = .ok (eN x) t2') : binE ixKD ma mb env tp = .ok (e ((dget d x).getD default)) t2' :=
  ev_bin ha hb (by
    unfold ixKD
    rw [dget_N]
    have := dget_isSome.mpr h
    cases z : dget d x with
    | none => rw [z] at this; cases this
    | some v => rfl)
theorem len_dput (d : List (Nat × β)) (k : Nat) (v : β) : (dput d k v).length ≤ d.length + 1 := by
  unfold dput
  split
  · rw [List.length_map]; omega
  · rw [List.length_append, List.length_singleton]; omega
theorem fold_T {f : List (D × D) → D → List D → RE (List (D × D))} {h : List (Nat × β) → α → List (Nat × β)} : ∀ {xs : List α} {d : List (Nat × β)},
    (∀ x ∈ xs, ∀ d : List (Nat × β), d.length < 1000000 → f (d.map fun p => (eN p.1, e p.2)) (e1 x) tp = .ok ((h d x).map fun p => (eN p.1, e p.2)) tp) → (∀ x ∈ xs, ∀ d, (h d x).length ≤ d.length + 1) → d.length + xs.length ≤ 1000000 →
    foldR f (xs.map e1) (d.map fun p => (eN p.1, e p.2)) tp = .ok ((xs.foldl h d).map fun p => (eN p.1, e p.2)) tp
  | [], d, _, _, _ => rfl
  | x :: xs, d, hf, hl, hn => by
    rw [List.map_cons]
    unfold foldR
    rw [List.length_cons] at hn
    rw [hf x List.mem_cons_self d (by omega)]
    simp only
    have := hl x List.mem_cons_self d
    exact fold_T (fun y hy => hf y (List.mem_cons_of_mem _ hy)) (fun y hy => hl y (List.mem_cons_of_mem _ hy)) (by omega)
theorem pair_T {k : Nat} {v : β} {d : List (Nat × β)} (hl : d.length < 1000000) (hk : mk env tp = .ok (eN k) tp) (hv : mv env tp = .ok (e v) tp) : pairT mk mv env (d.map fun p => (eN p.1, e p.2)) tp = .ok ((dput d k v).map fun p => (eN p.1, e p.2)) tp := by
  unfold pairT
  rw [hk]; simp only
  rw [hv]; simp only
  unfold putR
  rw [List.length_map, if_pos (by have := small_line (Nat.le_refl 1000000); omega)]
  show RE.ok (putP keyOf keyD (d.map fun p => (eN p.1, e p.2)) (.inl (k : Int)) (e v)) tp = _
  rw [put_T]
theorem dictOf_map (g : α → Nat × β) (xs : List α) : dictOf (xs.map g) = xs.foldl (fun d x => dput d (g x).1 (g x).2) [] := by
  unfold dictOf; rw [List.foldl_map]
theorem ev_dc {vs is : List Nat} {tgt : D → Option (List D)} {xs : List α} {ds : α → List D} {k : α → Nat} {v : α → β} (hi : mi env tp = .ok (xs.map e1) t1') (hl : xs.length ≤ 1000000) (ht : ∀ x, tgt (e1 x) = some (ds x))
    (hk : ∀ x ∈ xs, mk (setAll (wipeE env vs) is (ds x)) t1' = .ok (eN (k x)) t1') (hv : ∀ x ∈ xs, mv (setAll (wipeE env vs) is (ds x)) t1' = .ok (e (v x)) t1') :
    dcE mi vs tgt is mk mv env tp = .ok (eD e (dictOf (xs.map fun x => (k x, v x)))) t1' := by
  unfold dcE
  rw [hi]
  simp only [RE.bind_ok]
  have := fold_T (f := dcTurn tgt is mk mv (wipeE env vs)) (e := e) (e1 := e1) (tp := t1') (h := fun d x => dput d (k x) (v x)) (xs := xs) (d := []) (fun x hx d hd => by
    unfold dcTurn
    rw [ht]
    exact pair_T hd (hk x hx) (hv x hx)) (fun x _ d => len_dput _ _ _) (by simpa using hl)
  rw [show ([] : List (D × D)) = (([] : List (Nat × β)).map fun p => (eN p.1, e p.2)) from rfl, this]
  simp only
  rw [dictOf_map]
theorem ev_dc2 {vs is vs1 is1 : List Nat} {tgt tgt1 : D → Option (List D)} {xs : List α} {ds : α → List D} {ys : α → List γ} {ds1 : γ → List D} {k : α → γ → Nat} {v : α → γ → β} (hi : mi env tp = .ok (xs.map e1) t1') (ht : ∀ x, tgt (e1 x) = some (ds x))
    (hi1 : ∀ x ∈ xs, mi1 (setAll (wipeE env vs) is (ds x)) t1' = .ok ((ys x).map e2) t1') (ht1 : ∀ y, tgt1 (e2 y) = some (ds1 y))
    (hk : ∀ x ∈ xs, ∀ y ∈ ys x, mk (setAll (wipeE (setAll (wipeE env vs) is (ds x)) vs1) is1 (ds1 y)) t1' = .ok (eN (k x y)) t1')
    (hv : ∀ x ∈ xs, ∀ y ∈ ys x, mv (setAll (wipeE (setAll (wipeE env vs) is (ds x)) vs1) is1 (ds1 y)) t1' = .ok (e (v x y)) t1')
    (hl : (xs.flatMap ys).length ≤ 1000000) :
    dc2E mi vs tgt is mi1 vs1 tgt1 is1 mk mv env tp = .ok (eD e (dictOf (xs.flatMap fun x => (ys x).map fun y => (k x y, v x y)))) t1' := by
  unfold dc2E
  rw [hi]
  simp only [RE.bind_ok]
  have key : ∀ (zs : List α) (d : List (Nat × β)), (∀ x ∈ zs, x ∈ xs) → d.length + (zs.flatMap ys).length ≤ 1000000 → foldR (dcTurn2 tgt is mi1 vs1 tgt1 is1 mk mv (wipeE env vs)) (zs.map e1) (d.map fun p => (eN p.1, e p.2)) t1' =
      .ok ((zs.foldl (fun d x => (ys x).foldl (fun d y => dput d (k x y) (v x y)) d) d).map fun p => (eN p.1, e p.2)) t1' := by
    intro zs
    induction zs with
    | nil => intro d _ _; rfl
    | cons x zs ih =>
      intro d hz hn
      rw [List.flatMap_cons, List.length_append] at hn
      rw [List.map_cons]
      unfold foldR
      have hx := hz x List.mem_cons_self
      have one : dcTurn2 tgt is mi1 vs1 tgt1 is1 mk mv (wipeE env vs) (d.map fun p => (eN p.1, e p.2)) (e1 x) t1' = .ok (((ys x).foldl (fun d y => dput d (k x y) (v x y)) d).map fun p => (eN p.1, e p.2)) t1' := by
        unfold dcTurn2
        rw [ht]
        simp only
        rw [hi1 x hx]
        simp only
        exact fold_T (e := e) (e1 := e2) (h := fun d y => dput d (k x y) (v x y)) (fun y hy d hd => by
          unfold dcTurn
          rw [ht1]
          exact pair_T hd (hk x hx y hy) (hv x hx y hy)) (fun y _ d => len_dput _ _ _) (by omega)
      rw [one]
      simp only
      have len : ∀ (us : List γ) (d : List (Nat × β)), (us.foldl (fun d y => dput d (k x y) (v x y)) d).length ≤ d.length + us.length := by
        intro us
        induction us with
        | nil => intro d; exact Nat.le_refl _
        | cons u us ih2 =>
          intro d
          rw [List.foldl_cons, List.length_cons]
          have a := ih2 (dput d (k x u) (v x u))
          have b := len_dput d (k x u) (v x u)
          omega
      have := len (ys x) d
      exact ih _ (fun z h => hz z (List.mem_cons_of_mem _ h)) (by omega)
  have := key xs [] (fun _ h => h) (by simpa using hl)
  rw [show ([] : List (D × D)) = (([] : List (Nat × β)).map fun p => (eN p.1, e p.2)) from rfl, this]
  simp only
  congr 2
  unfold dictOf
  rw [List.foldl_flatMap]
  congr 1
  congr 1
  funext d x
  rw [List.foldl_map]
theorem wp_dset {N : Wn} {R : Wr} {B C : Wn} {i k : Nat} {v : β} {d : List (Nat × β)} (he : env[i]? = some (some (eD e d))) (hv : mv env tp = .ok (e v) t1') (hk : mk env t1' = .ok (eN k) t2') (hl : d.length < 1000000) (hn : N (env.set i (some (eD e (dput d k v)))) t2') : WP N R B C (dsetS i mk mv env tp) := by
  unfold dsetS
  rw [he]
  simp only
  rw [hv]
  show WP N R B C ((mk env t1').bindS fun k tp2 => (match putD (eD e d) k (e v) with
    | some d' => RS.nx (env.set i (some d')) tp2
    | none => RS.stuck))
  rw [hk]
  have : putD (eD e d) (eN k) (e v) = some (eD e (dput d k v)) := by
    show (if (d.map fun p => (eN p.1, e p.2)).length < sizeLine then some (D.dic (putP keyOf keyD (d.map fun p => (eN p.1, e p.2)) (.inl (k : Int)) (e v))) else none) = _
    rw [List.length_map, if_pos (by have := small_line (Nat.le_refl 1000000); omega), put_T]
  show WP N R B C (match putD (eD e d) (eN k) (e v) with
    | some d' => RS.nx (env.set i (some d')) t2'
    | none => RS.stuck)
  rw [this]
  exact .nx hn
theorem dkeys_dput {d : List (Nat × β)} {k x : Nat} {v : β} : x ∈ dkeys (dput d k v) ↔ x ∈ dkeys d ∨ x = k := by
  unfold dput
  by_cases q : (dget d k).isSome = true
  · rw [if_pos q]
    have hk := dget_isSome.mp q
    have e : dkeys (d.map fun p => if p.1 = k then (p.1, v) else p) = dkeys d := by
      unfold dkeys
      rw [List.map_map]
      refine List.map_congr_left fun p _ => ?_
      show (if p.1 = k then (p.1, v) else p).1 = p.1
      split <;> rfl
    rw [e]
    exact ⟨.inl, fun h => h.elim id fun h => h ▸ hk⟩
  · rw [if_neg q]
    unfold dkeys
    rw [List.map_append, List.mem_append]
    simp
theorem dkeys_fold {ps : List (Nat × β)} {x : Nat} : ∀ {d : List (Nat × β)}, x ∈ dkeys (ps.foldl (fun d p => dput d p.1 p.2) d) ↔ x ∈ dkeys d ∨ x ∈ dkeys ps := by
  induction ps with
  | nil => intro d; simp
  | cons p ps ih =>
    intro d
    rw [List.foldl_cons, ih, dkeys_dput]
    simp only [List.map_cons, List.mem_cons]
    exact or_assoc
theorem mem_dictOf {ps : List (Nat × β)} {x : Nat} : x ∈ dkeys (dictOf ps) ↔ x ∈ dkeys ps := by
  unfold dictOf; rw [dkeys_fold]; simp
end
end T
set_option maxHeartbeats 1000000
namespace T
open PySem L2 G
section
variable {env : DEnv} {tp t1' t2' : List D} {m ma mb : SE D}
theorem ev_fdivZ {x y : Int} (h : cDiv y = true) (ha : ma env tp = .ok (eZ x) t1') (hb : mb env t1' = .ok (eZ y) t2') : binE fdivD ma mb env tp = .ok (eZ (x / y)) t2' :=
  ev_bin ha hb (by show (if cDiv y then some (D.int (x / y)) else none) = _; rw [if_pos h])
theorem ev_modZ {x y : Int} (h : 0 < y) (ha : ma env tp = .ok (eZ x) t1') (hb : mb env t1' = .ok (eZ y) t2') : binE modD ma mb env tp = .ok (eZ (x % y)) t2' :=
  ev_bin ha hb (by show (if 0 < y then some (D.int (x % y)) else none) = _; rw [if_pos h])
theorem ev_absZ {x : Int} (ha : m env tp = .ok (eZ x) t1') : callB absD (consA m nilA) env tp = .ok (eN x.natAbs) t1' :=
  ev_callB (ev_cons ha ev_nil) (by
    show some (D.int (if x < 0 then -x else x)) = some (eN x.natAbs)
    have : (if x < 0 then -x else x) = ((x.natAbs : Nat) : Int) := by split <;> omega
    rw [this])
theorem ev_revT {α : Type} {e : α → D} {xs : List α} (ha : m env tp = .ok (eT e xs) t1') : revTE m env tp = .ok (eT e xs.reverse) t1' := by
  unfold revTE; rw [ha]; simp only [RE.bind_ok]
  show RE.ok (D.tup (xs.map e).reverse) t1' = RE.ok (D.tup (xs.reverse.map e)) t1'
  rw [List.map_reverse]
end
end T
namespace T
open PySem L2 G
structure KeyE {κ : Type} (e1 : κ → D) where
  q : κ → List Key
  of : ∀ k, keysOf (e1 k) = some (q k)
  kd : ∀ k, keyT (q k) = e1 k
  inj : ∀ a b, q a = q b → a = b
section
variable {κ β α : Type} [DecidableEq κ] {e1 : κ → D} {e : β → D} {env : DEnv} {tp t1' t2' t3' : List D} {m ma mb mc mk mv : SE D}
theorem KeyE.eq (h : KeyE e1) {a k : κ} : keysOf (e1 a) = some (h.q k) ↔ a = k := by
  rw [h.of]
  exact ⟨fun z => h.inj _ _ (Option.some.inj z), fun z => by rw [z]⟩
end
end T
namespace T
open PySem L2 G
end T
set_option maxHeartbeats 1000000
namespace T
open PySem L2 G
end T
set_option maxHeartbeats 1000000
namespace T
open PySem L2 G
end T
set_option maxHeartbeats 1000000
namespace T
open PySem L2 G
section
variable {α : Type} {e : α → D} {env : DEnv} {tp t1' : List D} {m : SE D} {N : Wn} {R : Wr} {B C : Wn}
theorem wp_augFdivN {i : Nat} {x y : Nat} (hc : cDiv ((y : Nat) : Int) = true) (he : env[i]? = some (some (eN x))) (h : m env tp = .ok (eN y) t1') (hn : N (env.set i (some (eN (x / y)))) t1') : WP N R B C (augS i fdivD m env tp) := by
  unfold augS
  rw [he]
  simp only
  rw [h]
  have e : fdivD (eN x) (eN y) = some (eN (x / y)) := by
    show (if cDiv ((y : Nat) : Int) = true then some (D.int ((x : Int) / (y : Int))) else none) = _
    rw [if_pos hc]; simp
  show WP N R B C (match fdivD (eN x) (eN y) with
    | some z => RS.nx (env.set i (some z)) t1'
    | none => RS.stuck)
  rw [e]
  exact .nx hn
theorem erase_cast (k : Nat) : ∀ xs : List Nat, ((xs.map fun n => ((n : Nat) : Int)).erase ((k : Nat) : Int)).map D.int = (xs.erase k).map eN
  | [] => rfl
  | x :: xs => by
    rw [List.map_cons]
    by_cases q : x = k
    · subst q
      rw [List.erase_cons_head, List.erase_cons_head, List.map_map]; rfl
    · rw [List.erase_cons_tail (by rw [beq_iff_eq]; omega), List.erase_cons_tail (by rw [beq_iff_eq]; exact q), List.map_cons, List.map_cons, erase_cast k xs]
theorem wp_lrem {i k : Nat} {xs : List Nat} (he : env[i]? = some (some (eL eN xs))) (h : m env tp = .ok (eN k) t1') (hk : k ∈ xs) (hn : N (env.set i (some (eL eN (xs.erase k)))) t1') : WP N R B C (lremS i m env tp) := by
  unfold lremS
  rw [he]
  simp only
  rw [h]
  show WP N R B C (match unI (xs.map eN) with
    | some ns => if ((k : Nat) : Int) ∈ ns then RS.nx (env.set i (some (.lst ((ns.erase ((k : Nat) : Int)).map .int)))) t1' else RS.stuck
    | none => RS.stuck)
  rw [unI_mapN]
  show WP N R B C (if ((k : Nat) : Int) ∈ (xs.map fun n => ((n : Nat) : Int)) then RS.nx (env.set i (some (.lst (((xs.map fun n => ((n : Nat) : Int)).erase ((k : Nat) : Int)).map .int)))) t1' else RS.stuck)
  rw [if_pos (List.mem_map.mpr ⟨k, hk, rfl⟩), erase_cast]
  exact .nx hn
theorem map_erIx {β : Type} (f : α → β) : ∀ (xs : List α) (n : Nat), (xs.map f).eraseIdx n = (xs.eraseIdx n).map f
  | [], _ => rfl
  | _ :: _, 0 => rfl
  | x :: xs, n + 1 => by
    show f x :: (xs.map f).eraseIdx n = f x :: (xs.eraseIdx n).map f
    rw [map_erIx f xs n]
theorem popApp_z {i j : Nat} {ds es : List D} {z : Int} {y : D} (h1 : env[i]? = some (some (.lst ds))) (h2 : env[j]? = some (some (.lst es))) (h3 : m env tp = .ok (.int z) t1') (hz : 0 ≤ z) (h4 : es[z.toNat]? = some y) (h5 : ds.length < 1000000) (h6 : es.length ≤ 1000000) :
    appPopS i j m env tp = .nx ((env.set j (some (.lst (es.eraseIdx z.toNat)))).set i (some (.lst (ds ++ [y])))) t1' := by
  have hq : z.toNat < es.length := (List.getElem?_eq_some_iff.mp h4).1
  have c : (decide (-(2 ^ 63) ≤ z) && (decide (z < 2 ^ 63) && decide (ds.length < sizeLine))) = true := by
    have a1 : -(2 ^ 63) ≤ z := by omega
    have a2 : z < 2 ^ 63 := by omega
    have a3 : ds.length < sizeLine := by have := small_line (Nat.le_refl 1000000); omega
    rw [decide_eq_true a1, decide_eq_true a2, decide_eq_true a3]; rfl
  have cx : ixN es.length z = some z.toNat := by
    unfold ixN
    rw [if_pos hz, if_pos (by omega)]
  unfold appPopS
  rw [h1, h2]
  simp -implicitDefEqProofs only []
  rw [h3]
  simp -implicitDefEqProofs only [RE.bindS]
  rw [if_pos c, cx]
  simp -implicitDefEqProofs only []
  rw [h4]
theorem wp_appPop [Inhabited α] {i j n : Nat} {xs ys : List α} (he : env[i]? = some (some (eL e xs))) (hj : env[j]? = some (some (eL e ys))) (h : m env tp = .ok (eN n) t1') (hl : xs.length < 1000000) (hb : n < ys.length ∧ ys.length ≤ 1000000) (hn : N ((env.set j (some (eL e (ys.eraseIdx n)))).set i (some (eL e (xs ++ [ys[n]!])))) t1') : WP N R B C (appPopS i j m env tp) := by
  have g : (ys.map e)[n]? = some (e ys[n]!) := by
    rw [List.getElem?_map, List.getElem?_eq_getElem hb.1, getElem!_pos ys n hb.1]; rfl
  have tn : ((n : Nat) : Int).toNat = n := Int.toNat_natCast n
  have r := popApp_z (z := ((n : Nat) : Int)) he hj h (Int.natCast_nonneg n) (y := e ys[n]!) (by rw [tn]; exact g) (by rw [List.length_map]; exact hl) (by rw [List.length_map]; exact hb.2)
  rw [tn, map_erIx, show xs.map e ++ [e ys[n]!] = (xs ++ [ys[n]!]).map e from by rw [List.map_append]; rfl] at r
  rw [r]
  exact .nx hn
end
end T
set_option maxHeartbeats 1000000
namespace T
open PySem L2 G
/-- lines laid into layers: a line goes to the last layer if it is of its kind -/
def laysN (rows : Nat) : List (List Nat) → List Nat → List Nat → List (List Nat)
  | done, cur, [] => done ++ [cur]
  | done, cur, x :: xs => if decide (cur.headD 0 < rows) = decide (x < rows) then laysN rows done (cur ++ [x]) xs else laysN rows (done ++ [cur]) [x] xs
def layN (rows : Nat) : List Nat → List (List Nat)
  | [] => []
  | x :: xs => laysN rows [] [x] xs
theorem lays_cast (rows : Nat) : ∀ (xs : List Nat) (done : List (List Nat)) (cur : List Nat), laysQ (rows : Int) (done.map fun c => c.map fun n : Nat => (n : Int)) (cur.map fun n : Nat => (n : Int)) (xs.map fun n : Nat => (n : Int)) = (laysN rows done cur xs).map fun c => c.map fun n : Nat => (n : Int)
  | [], done, cur => by
    show _ ++ [_] = (done ++ [cur]).map _
    rw [List.map_append]; rfl
  | x :: xs, done, cur => by
    have hd : (cur.map fun n : Nat => (n : Int)).headD 0 = ((cur.headD 0 : Nat) : Int) := by cases cur <;> rfl
    show (if decide ((cur.map fun n : Nat => (n : Int)).headD 0 < (rows : Int)) = decide ((x : Int) < (rows : Int)) then _ else _) = (if decide (cur.headD 0 < rows) = decide (x < rows) then _ else _ : List (List Nat)).map _
    rw [hd]
    have e : (decide (((cur.headD 0 : Nat) : Int) < (rows : Int)) = decide ((x : Int) < (rows : Int))) ↔ (decide (cur.headD 0 < rows) = decide (x < rows)) := by
      rw [decide_eq_decide, decide_eq_decide, Int.ofNat_lt, Int.ofNat_lt]
    by_cases q : decide (cur.headD 0 < rows) = decide (x < rows)
    · rw [if_pos (e.mpr q), if_pos q, ← lays_cast rows xs done (cur ++ [x]), List.map_append]; rfl
    · rw [if_neg (fun z => q (e.mp z)), if_neg q, ← lays_cast rows xs (done ++ [cur]) [x], List.map_append]; rfl
theorem lay_cast (rows : Nat) (xs : List Nat) : LD (layQ (rows : Int) (xs.map fun n : Nat => (n : Int))) = eL (eL eN) (layN rows xs) := by
  have e : ∀ L : List (List Nat), LD (L.map fun c => c.map fun n : Nat => (n : Int)) = eL (eL eN) L := fun L => by
    unfold LD
    rw [List.map_map]
    refine congrArg D.lst (List.map_congr_left fun c _ => ?_)
    show D.lst ((c.map fun n : Nat => (n : Int)).map D.int) = D.lst (c.map eN)
    rw [List.map_map]; rfl
  rw [← e]
  cases xs with
  | nil => rfl
  | cons x xs => exact congrArg LD (lays_cast rows xs [] [x])
section
variable {env : DEnv} {tp t1' : List D} {mi : SE (List D)} {N : Wn} {R : Wr} {B C : Wn}
theorem wp_lay {i j l rows : Nat} {xs : List Nat} (he : env[i]? = some (some (eL (eL eN) []))) (hj : env[j]? = some (some (eN rows))) (h : mi env tp = .ok (xs.map eN) t1') (hb : xs.length < 1000000) (hl : l < env.length)
    (hn : N (((env.set i none).set l none).set i (some (eL (eL eN) (layN rows xs)))) t1') : WP N R B C (layS i j l mi env tp) := by
  unfold layS
  rw [h]
  have c1 : isNilD env[i]? = true := by rw [he]; rfl
  have c2 : intO env[j]? = some (rows : Int) := by rw [hj]; rfl
  have c3 : (xs.map fun n : Nat => (n : Int)).length < sizeLine ∧ l < env.length := ⟨by rw [List.length_map]; have := small_line (Nat.le_refl 1000000); omega, hl⟩
  show WP N R B C (if isNilD env[i]? = true then _ else _)
  rw [if_pos c1, c2, unI_mapN]
  show WP N R B C (if _ then _ else _)
  rw [if_pos c3, lay_cast]
  exact .nx hn
/-- the order of tuples -/
def lexN : List Nat → List Nat → Bool
  | [], _ => true
  | _ :: _, [] => false
  | x :: xs, y :: ys => if x = y then lexN xs ys else decide (x ≤ y)
def LeT (xs ys : List Nat) : Prop := lexN xs ys = true
instance (xs ys : List Nat) : Decidable (LeT xs ys) := inferInstanceAs (Decidable (_ = true))
theorem lex_cast : ∀ xs ys : List Nat, lexLe (xs.map fun n : Nat => (n : Int)) (ys.map fun n : Nat => (n : Int)) = lexN xs ys
  | [], _ => rfl
  | _ :: _, [] => rfl
  | x :: xs, y :: ys => by
    show (if (x : Int) = (y : Int) then lexLe _ _ else decide ((x : Int) ≤ (y : Int))) = (if x = y then lexN xs ys else decide (x ≤ y))
    by_cases q : x = y
    · rw [if_pos (by rw [q]), if_pos q]; exact lex_cast xs ys
    · rw [if_neg (by omega), if_neg q]; exact decide_eq_decide.mpr Int.ofNat_le
theorem ev_leT {t2' : List D} {ma mb : SE D} {xs ys : List Nat} (ha : ma env tp = .ok (eT eN xs) t1') (hb : mb env t1' = .ok (eT eN ys) t2') : binE leTD ma mb env tp = .ok (eB (decide (LeT xs ys))) t2' := by
  unfold binE
  rw [ha]
  show ((mb env t1').bind fun e tp2 => RE.of (leTD (eT eN xs) e) tp2) = _
  rw [hb]
  have e : leTD (eT eN xs) (eT eN ys) = some (eB (decide (LeT xs ys))) := by
    show ((unI (xs.map eN)).bind fun ns => (unI (ys.map eN)).map fun ms => D.bl (lexLe ns ms)) = _
    rw [unI_mapN, unI_mapN]
    show some (D.bl (lexLe _ _)) = _
    rw [lex_cast]
    have c : decide (LeT xs ys) = lexN xs ys := by
      by_cases q : LeT xs ys
      · rw [decide_eq_true q]; exact Eq.symm q
      · rw [decide_eq_false q]; exact (Bool.eq_false_iff.mpr q).symm
    rw [c]
  show RE.of (leTD (eT eN xs) (eT eN ys)) t2' = _
  rw [e]; rfl
end
end T
set_option maxHeartbeats 1000000
namespace T
open PySem L2 G
abbrev eQ {α : Type} (e : α → D) (xs : List α) : D := .tuq (xs.map e)
section
variable {α : Type} {e : α → D} {env : DEnv} {tp t1' t2' : List D} {m ma mb : SE D}
theorem ev_tupleQ {xs : List α} (h : m env tp = .ok (eL e xs) t1') : callB tupleqD (consA m nilA) env tp = .ok (eQ e xs) t1' := ev_callB (ev_cons h ev_nil) rfl
theorem ev_unq {xs : List α} (h : m env tp = .ok (eQ e xs) t1') : unqE m env tp = .ok (eT e xs) t1' := by unfold unqE; rw [h]; rfl
theorem idx_cast (x : Nat) : ∀ xs : List Nat, (xs.map fun n : Nat => (n : Int)).idxOf (x : Int) = xs.idxOf x
  | [] => rfl
  | y :: ys => by
    rw [List.map_cons, List.idxOf_cons, List.idxOf_cons, idx_cast x ys]
    by_cases q : y = x
    · subst q; simp
    · have q1 : (y == x) = false := by simpa using q
      have q2 : ((y : Int) == (x : Int)) = false := by simpa using fun z => q (by omega)
      rw [q1, q2]
theorem ev_indexT {xs : List Nat} {x : Nat} (hx : x ∈ xs) (ha : ma env tp = .ok (eQ eN xs) t1') (hb : mb env t1' = .ok (eN x) t2') : indexTE ma mb env tp = .ok (eN (xs.idxOf x)) t2' := by
  have hi : (x : Int) ∈ (xs.map fun n : Nat => (n : Int)) := List.mem_map.mpr ⟨x, hx, rfl⟩
  have e1 : indexTD (eQ eN xs) (eN x) = some (eN (xs.idxOf x)) := by
    show (unI (xs.map eN)).bind _ = _
    rw [unI_mapN]
    show (if (x : Int) ∈ (xs.map fun n : Nat => (n : Int)) then some (D.int (((xs.map fun n : Nat => (n : Int)).idxOf (x : Int) : Nat) : Int)) else none) = _
    rw [if_pos hi, idx_cast]
  unfold indexTE methE
  rw [ha]
  show (RE.bind (mb env t1') _) = _
  rw [hb]
  show RE.of (indexTD (eQ eN xs) (eN x)) t2' = _
  rw [e1]; rfl
end
end T
set_option maxHeartbeats 4000000
namespace W
open PySem L2 G
/-- what the top leaves -/
structure Tx (K : PySem.W.Frag) (mg : Str → Option Value) : Prop where
  abs : mg "abs" = none
  all : mg "all" = none
  any : mg "any" = none
  bool : mg "bool" = none
  enumerate : mg "enumerate" = none
  int : mg "int" = none
  isinstance : mg "isinstance" = none
  len : mg "len" = none
  list : mg "list" = none
  range : mg "range" = none
  sorted : mg "sorted" = none
  str : mg "str" = none
  tuple : mg "tuple" = none
  MOST_SIDE : ∃ t, mg "MOST_SIDE" = some (.int 30 t)
  BLACK : ∃ t, mg "BLACK" = some (.str "#" t)
  WHITE : ∃ t, mg "WHITE" = some (.str "." t)
  f_is_int : ∃ f fd, FunD K "is_int" "is_int" (defArgs (top 12)) (defBody (top 12)) (defScope (top 12)) [] [] f fd ∧ mg "is_int" = some (.ref f)
  f_is_in : ∃ f fd, FunD K "is_in" "is_in" (defArgs (top 13)) (defBody (top 13)) (defScope (top 13)) [] [] f fd ∧ mg "is_in" = some (.ref f)
  f_need_number : ∃ f fd, FunD K "need_number" "need_number" (defArgs (top 14)) (defBody (top 14)) (defScope (top 14)) [] [] f fd ∧ mg "need_number" = some (.ref f)
  f_is_picture : ∃ f fd, FunD K "is_picture" "is_picture" (defArgs (top 15)) (defBody (top 15)) (defScope (top 15)) [] [] f fd ∧ mg "is_picture" = some (.ref f)
  f_need_picture : ∃ f fd, FunD K "need_picture" "need_picture" (defArgs (top 16)) (defBody (top 16)) (defScope (top 16)) [] [] f fd ∧ mg "need_picture" = some (.ref f)
  f_lines_of : ∃ f fd, FunD K "lines_of" "lines_of" (defArgs (top 17)) (defBody (top 17)) (defScope (top 17)) [] [] f fd ∧ mg "lines_of" = some (.ref f)
  f_need_line : ∃ f fd, FunD K "need_line" "need_line" (defArgs (top 18)) (defBody (top 18)) (defScope (top 18)) [] [] f fd ∧ mg "need_line" = some (.ref f)
  f_are_deeds : ∃ f fd, FunD K "are_deeds" "are_deeds" (defArgs (top 19)) (defBody (top 19)) (defScope (top 19)) [] [] f fd ∧ mg "are_deeds" = some (.ref f)
  f_painted_line : ∃ f fd, FunD K "painted_line" "painted_line" (defArgs (top 20)) (defBody (top 20)) (defScope (top 20)) [] [] f fd ∧ mg "painted_line" = some (.ref f)
  f_all_painted : ∃ f fd, FunD K "all_painted" "all_painted" (defArgs (top 21)) (defBody (top 21)) (defScope (top 21)) [] [] f fd ∧ mg "all_painted" = some (.ref f)
  f_painted : ∃ f fd, FunD K "painted" "painted" (defArgs (top 22)) (defBody (top 22)) (defScope (top 22)) [] [] f fd ∧ mg "painted" = some (.ref f)
  f_need_order : ∃ f fd, FunD K "need_order" "need_order" (defArgs (top 23)) (defBody (top 23)) (defScope (top 23)) [] [] f fd ∧ mg "need_order" = some (.ref f)
  f_plain : ∃ f fd, FunD K "plain" "plain" (defArgs (top 24)) (defBody (top 24)) (defScope (top 24)) [] [] f fd ∧ mg "plain" = some (.ref f)
  f_leads_to : ∃ f fd, FunD K "leads_to" "leads_to" (defArgs (top 26)) (defBody (top 26)) (defScope (top 26)) [] [] f fd ∧ mg "leads_to" = some (.ref f)
  f_layers_of : ∃ f fd, FunD K "layers_of" "layers_of" (defArgs (top 27)) (defBody (top 27)) (defScope (top 27)) [] [] f fd ∧ mg "layers_of" = some (.ref f)
  f_layers : ∃ f fd, FunD K "layers" "layers" (defArgs (top 28)) (defBody (top 28)) (defScope (top 28)) [] [] f fd ∧ mg "layers" = some (.ref f)
  f_core_of : ∃ f fd, FunD K "core_of" "core_of" (defArgs (top 29)) (defBody (top 29)) (defScope (top 29)) [] [] f fd ∧ mg "core_of" = some (.ref f)
  f_is_free_of : ∃ f fd, FunD K "is_free_of" "is_free_of" (defArgs (top 30)) (defBody (top 30)) (defScope (top 30)) [] [] f fd ∧ mg "is_free_of" = some (.ref f)
  f_need_free : ∃ f fd, FunD K "need_free" "need_free" (defArgs (top 31)) (defBody (top 31)) (defScope (top 31)) [] [] f fd ∧ mg "need_free" = some (.ref f)
  f_product_to : ∃ f fd, FunD K "product_to" "product_to" (defArgs (top 33)) (defBody (top 33)) (defScope (top 33)) [] [] f fd ∧ mg "product_to" = some (.ref f)
  f_common : ∃ f fd, FunD K "common" "common" (defArgs (top 35)) (defBody (top 35)) (defScope (top 35)) [] [] f fd ∧ mg "common" = some (.ref f)
  f_lowered : ∃ f fd, FunD K "lowered" "lowered" (defArgs (top 36)) (defBody (top 36)) (defScope (top 36)) [] [] f fd ∧ mg "lowered" = some (.ref f)
  f_need_sides : ∃ f fd, FunD K "need_sides" "need_sides" (defArgs (top 38)) (defBody (top 38)) (defScope (top 38)) [] [] f fd ∧ mg "need_sides" = some (.ref f)
  f_by_layers : ∃ f fd, FunD K "by_layers" "by_layers" (defArgs (top 39)) (defBody (top 39)) (defScope (top 39)) [] [] f fd ∧ mg "by_layers" = some (.ref f)
  f_layer_ways : ∃ f fd, FunD K "layer_ways" "layer_ways" (defArgs (top 40)) (defBody (top 40)) (defScope (top 40)) [] [] f fd ∧ mg "layer_ways" = some (.ref f)
  f_layers_from : ∃ f fd, FunD K "layers_from" "layers_from" (defArgs (top 42)) (defBody (top 42)) (defScope (top 42)) [] [] f fd ∧ mg "layers_from" = some (.ref f)
  f_by_order : ∃ f fd, FunD K "by_order" "by_order" (defArgs (top 43)) (defBody (top 43)) (defScope (top 43)) [] [] f fd ∧ mg "by_order" = some (.ref f)
  f_is_order : ∃ f fd, FunD K "is_order" "is_order" (defArgs (top 44)) (defBody (top 44)) (defScope (top 44)) [] [] f fd ∧ mg "is_order" = some (.ref f)
  f_count_orders : ∃ f fd, FunD K "count_orders" "count_orders" (defArgs (top 45)) (defBody (top 45)) (defScope (top 45)) [] [] f fd ∧ mg "count_orders" = some (.ref f)
  f_order_at : ∃ f fd, FunD K "order_at" "order_at" (defArgs (top 46)) (defBody (top 46)) (defScope (top 46)) [] [] f fd ∧ mg "order_at" = some (.ref f)
  f_order_number : ∃ f fd, FunD K "order_number" "order_number" (defArgs (top 47)) (defBody (top 47)) (defScope (top 47)) [] [] f fd ∧ mg "order_number" = some (.ref f)
  f_places : ∃ f fd, FunD K "places" "places" (defArgs (top 48)) (defBody (top 48)) (defScope (top 48)) [] [] f fd ∧ mg "places" = some (.ref f)
  f_mean_place : ∃ f fd, FunD K "mean_place" "mean_place" (defArgs (top 49)) (defBody (top 49)) (defScope (top 49)) [] [] f fd ∧ mg "mean_place" = some (.ref f)
  f_before_share : ∃ f fd, FunD K "before_share" "before_share" (defArgs (top 50)) (defBody (top 50)) (defScope (top 50)) [] [] f fd ∧ mg "before_share" = some (.ref f)
  f_next_order : ∃ f fd, FunD K "next_order" "next_order" (defArgs (top 51)) (defBody (top 51)) (defScope (top 51)) [] [] f fd ∧ mg "next_order" = some (.ref f)
  f_swaps : ∃ f fd, FunD K "swaps" "swaps" (defArgs (top 52)) (defBody (top 52)) (defScope (top 52)) [] [] f fd ∧ mg "swaps" = some (.ref f)
  f_place_shares : ∃ f fd, FunD K "place_shares" "place_shares" (defArgs (top 53)) (defBody (top 53)) (defScope (top 53)) [] [] f fd ∧ mg "place_shares" = some (.ref f)
  f_law_taken : ∃ f fd, FunD K "_law_taken" "_law_taken" (defArgs (top 55)) (defBody (top 55)) (defScope (top 55)) [] [] f fd ∧ mg "_law_taken" = some (.ref f)
  f_law_mixed : ∃ f fd, FunD K "_law_mixed" "_law_mixed" (defArgs (top 56)) (defBody (top 56)) (defScope (top 56)) [] [] f fd ∧ mg "_law_mixed" = some (.ref f)
  f_law_paint : ∃ f fd, FunD K "_law_paint" "_law_paint" (defArgs (top 57)) (defBody (top 57)) (defScope (top 57)) [] [] f fd ∧ mg "_law_paint" = some (.ref f)
  f_law_painted : ∃ f fd, FunD K "_law_painted" "_law_painted" (defArgs (top 58)) (defBody (top 58)) (defScope (top 58)) [] [] f fd ∧ mg "_law_painted" = some (.ref f)
  f_law_free : ∃ f fd, FunD K "_law_free" "_law_free" (defArgs (top 59)) (defBody (top 59)) (defScope (top 59)) [] [] f fd ∧ mg "_law_free" = some (.ref f)
  f_law_common : ∃ f fd, FunD K "_law_common" "_law_common" (defArgs (top 60)) (defBody (top 60)) (defScope (top 60)) [] [] f fd ∧ mg "_law_common" = some (.ref f)
  f_law_lowered : ∃ f fd, FunD K "_law_lowered" "_law_lowered" (defArgs (top 61)) (defBody (top 61)) (defScope (top 61)) [] [] f fd ∧ mg "_law_lowered" = some (.ref f)
  f_law_plus : ∃ f fd, FunD K "_law_plus" "_law_plus" (defArgs (top 62)) (defBody (top 62)) (defScope (top 62)) [] [] f fd ∧ mg "_law_plus" = some (.ref f)
section
variable {P : Program} {w : World} {K : PySem.W.Frag} {mg : Str → Option Value} {base : Heap} {r : Addr}
abbrev s_is_int : Stmt := top 12
theorem sc_is_int : FnScope ["value"] ["value"] (defScope s_is_int) := ⟨rfl, rfl, rfl, by decide +kernel, rfl, by decide +kernel, by decide +kernel⟩
def b_is_int : SS := retS (andE (callB isiD (consA (vE 0) (consA (cE (.ty "int")) (nilA)))) (notE (callB isiD (consA (vE 0) (consA (cE (.ty "bool")) (nilA))))))
def m_is_int : List D → List D → RE D := defD 1 b_is_int
theorem d_is_int (T : Tx K mg) : DefOk P w K mg base CX0 r "is_int" 1 1 m_is_int := by
  obtain ⟨f, fd, F, hm⟩ := T.f_is_int
  refine fn_def (k := 0) F sc_is_int hm (fun _ _ _ _ _ _ us hl => match us, hl with | [_], _ => rfl) (fun cdv A outer s H E hr => ?_) (m := b_is_int)
  exact ⟨_, _, (gss_one (gs_ret (On := []) (ge_and (ge_isi T.isinstance (gao_cons ((ge_var 0)).go (gao_cons ((ge_ty T.int)).go gao_nil))) (ge_one (ge_not (ge_isi T.isinstance (gao_cons ((ge_var 0)).go (gao_cons ((ge_ty T.bool)).go gao_nil))))))))⟩
abbrev s_is_picture : Stmt := top 15
theorem sc_is_picture : FnScope ["value", "row", "sign"] ["value"] (defScope s_is_picture) := ⟨rfl, rfl, rfl, by decide +kernel, rfl, by decide +kernel, by decide +kernel⟩
def b_is_picture : SS := seqS (ifS (orT (notT (boolE (callB isiD (consA (vE 0) (consA (cE (.ty "tuple")) (nilA)))))) (notT (boolE (chainE leD leD (cE (.int 1)) (callB lenD (consA (vE 0) (nilA))) (cE (.int 30)))))) (retS (cE (.bl false))) (skipS)) (seqS (ifS (orT (notT (boolE (callB allD (consA (compE (seqI (vE 0)) [1] t1 [1] (yesT) (callB isiD (consA (vE 1) (consA (cE (.ty "str")) (nilA))))) (nilA))))) (notT (boolE (chainE leD leD (cE (.int 1)) (callB lenD (consA (binE ixD (vE 0) (cE (.int 0))) (nilA))) (cE (.int 30)))))) (retS (cE (.bl false))) (skipS)) (retS (callB allD (consA (compE (seqI (vE 0)) [1] t1 [1] (yesT) (andE (binE eqD (callB lenD (consA (vE 1) (nilA))) (callB lenD (consA (binE ixD (vE 0) (cE (.int 0))) (nilA)))) (callB allD (consA (compE (seqI (vE 1)) [2] t1 [2] (yesT) (binE inD (vE 2) (tupE (consA (cE (.str "#")) (consA (cE (.str ".")) (nilA)))))) (nilA))))) (nilA)))))
def m_is_picture : List D → List D → RE D := defD 3 b_is_picture
theorem d_is_picture (T : Tx K mg) : DefOk P w K mg base CX0 r "is_picture" 1 1 m_is_picture := by
  obtain ⟨f, fd, F, hm⟩ := T.f_is_picture
  refine fn_def (k := 0) F sc_is_picture hm (fun _ _ _ _ _ _ us hl => match us, hl with | [_], _ => rfl) (fun cdv A outer s H E hr => ?_) (m := b_is_picture)
  exact ⟨_, _, (gss_cons (gs_if ((gw_or (gt_not (gt_val (ge_isi T.isinstance (gao_cons ((ge_var 0)).go (gao_cons ((ge_ty T.tuple)).go gao_nil))))) (gw_or1 (gt_not (gt_leLe (ge_int).go ((ge_len T.len (gao_cons ((ge_var 0)).go gao_nil))).go ((ge_gint T.MOST_SIDE)).go))))).gt (gss_one (gs_ret (On := []) ge_bl)) (GSs.post (On' := []) (by decide) gss_nil)) (gss_cons (gs_if ((gw_or (gt_not (gt_val (ge_all rfl T.all (gao_cons (((gf_lc (own := [("row", 1)]) rfl sc_is_picture.nd (gi_seq (ge_var 0)) (blkOk_by (by kernel_rfl)) (fun _ _ _ _ _ => (gg_name 1 sc_is_picture.nd)) (fun _ _ _ _ _ => gts_nil) (fun _ _ _ _ _ => (ge_isi T.isinstance (gao_cons ((ge_var 1)).go (gao_cons ((ge_ty T.str)).go gao_nil)))) (by decide) (by decide))).ge).go gao_nil)))) (gw_or1 (gt_not (gt_leLe (ge_int).go ((ge_len T.len (gao_cons ((ge_sub1 ((ge_var 0)).go (ge_int).go)).go gao_nil))).go ((ge_gint T.MOST_SIDE)).go))))).gt (gss_one (gs_ret (On := []) ge_bl)) (GSs.post (On' := []) (by decide) gss_nil)) (gss_one (gs_ret (On := []) (ge_all rfl T.all (gao_cons (((gf_lc (own := [("row", 1)]) rfl sc_is_picture.nd (gi_seq (ge_var 0)) (blkOk_by (by kernel_rfl)) (fun _ _ _ _ _ => (gg_name 1 sc_is_picture.nd)) (fun _ _ _ _ _ => gts_nil) (fun _ _ _ _ _ => (ge_and (ge_eq hr.units ((ge_len T.len (gao_cons ((ge_var 1)).go gao_nil))).go ((ge_len T.len (gao_cons ((ge_sub1 ((ge_var 0)).go (ge_int).go)).go gao_nil))).go) (ge_one (ge_all rfl T.all (gao_cons (((gf_lc (own := [("sign", 2)]) rfl sc_is_picture.nd (gi_seq (ge_var 1)) (blkOk_by (by kernel_rfl)) (fun _ _ _ _ _ => (gg_name 2 sc_is_picture.nd)) (fun _ _ _ _ _ => gts_nil) (fun _ _ _ _ _ => (ge_in hr.units ((ge_var 2)).go ((ge_tup (ga_cons (ge_gstr T.BLACK) (ga_cons (ge_gstr T.WHITE) ga_nil)))).go)) (by decide) (by decide))).ge).go gao_nil))))) (by decide) (by decide))).ge).go gao_nil))))))⟩
abbrev s_lines_of : Stmt := top 17
theorem sc_lines_of : FnScope ["picture"] ["picture"] (defScope s_lines_of) := ⟨rfl, rfl, rfl, by decide +kernel, rfl, by decide +kernel, by decide +kernel⟩
def b_lines_of : SS := retS (binE addD (callB lenD (consA (vE 0) (nilA))) (callB lenD (consA (binE ixD (vE 0) (cE (.int 0))) (nilA))))
def m_lines_of : List D → List D → RE D := defD 1 b_lines_of
theorem d_lines_of (T : Tx K mg) : DefOk P w K mg base CX0 r "lines_of" 1 1 m_lines_of := by
  obtain ⟨f, fd, F, hm⟩ := T.f_lines_of
  refine fn_def (k := 0) F sc_lines_of hm (fun _ _ _ _ _ _ us hl => match us, hl with | [_], _ => rfl) (fun cdv A outer s H E hr => ?_) (m := b_lines_of)
  exact ⟨_, _, (gss_one (gs_ret (On := []) (ge_add ((ge_len T.len (gao_cons ((ge_var 0)).go gao_nil))).go ((ge_len T.len (gao_cons ((ge_sub1 ((ge_var 0)).go (ge_int).go)).go gao_nil))).go)))⟩
abbrev s_painted_line : Stmt := top 20
theorem sc_painted_line : FnScope ["picture", "line", "at", "row"] ["picture", "line"] (defScope s_painted_line) := ⟨rfl, rfl, rfl, by decide +kernel, rfl, by decide +kernel, by decide +kernel⟩
def b_painted_line : SS := seqS (ifS (boolE (binE ltD (vE 1) (callB lenD (consA (vE 0) (nilA))))) (retS (binE addD (binE addD (sliceE (vE 0) (optI none) (optI (some (vE 1)))) (tupE (consA (binE mulD (cE (.str "#")) (callB lenD (consA (binE ixD (vE 0) (cE (.int 0))) (nilA)))) (nilA)))) (sliceE (vE 0) (optI (some (binE addD (vE 1) (cE (.int 1))))) (optI none)))) (skipS)) (seqS (setS 2 (binE subD (vE 1) (callB lenD (consA (vE 0) (nilA))))) (retS (callB tupleD (consA (compE (seqI (vE 0)) [3] t1 [3] (yesT) (binE addD (binE addD (sliceE (vE 3) (optI none) (optI (some (vE 2)))) (cE (.str "."))) (sliceE (vE 3) (optI (some (binE addD (vE 2) (cE (.int 1))))) (optI none)))) (nilA)))))
def m_painted_line : List D → List D → RE D := defD 4 b_painted_line
theorem d_painted_line (T : Tx K mg) : DefOk P w K mg base CX0 r "painted_line" 1 2 m_painted_line := by
  obtain ⟨f, fd, F, hm⟩ := T.f_painted_line
  refine fn_def (k := 0) F sc_painted_line hm (fun _ _ _ _ _ _ us hl => match us, hl with | [_, _], _ => rfl) (fun cdv A outer s H E hr => ?_) (m := b_painted_line)
  exact ⟨_, _, (gss_cons (gs_if (gt_lt ((ge_var 1)).go ((ge_len T.len (gao_cons ((ge_var 0)).go gao_nil))).go) (gss_one (gs_ret (On := []) (ge_add ((ge_add ((ge_slice ((ge_var 0)).go gp_none (gp_some (ge_var 1)))).go ((ge_tup (ga_cons (ge_mul ((ge_gstr T.BLACK)).go ((ge_len T.len (gao_cons ((ge_sub1 ((ge_var 0)).go (ge_int).go)).go gao_nil))).go) ga_nil))).go)).go ((ge_slice ((ge_var 0)).go (gp_some (ge_add ((ge_var 1)).go (ge_int).go)) gp_none)).go))) (GSs.post (On' := []) (by decide) gss_nil)) (gss_cons (GS.post (On' := []) (by decide) (gs_set 2 sc_painted_line.nd (ge_sub ((ge_var 1)).go ((ge_len T.len (gao_cons ((ge_var 0)).go gao_nil))).go))) (gss_one (gs_ret (On := []) (ge_tuple T.tuple (gao_cons (((gf_lc (own := [("row", 3)]) rfl sc_painted_line.nd (gi_seq (ge_var 0)) (blkOk_by (by kernel_rfl)) (fun _ _ _ _ _ => (gg_name 3 sc_painted_line.nd)) (fun _ _ _ _ _ => gts_nil) (fun _ _ _ _ _ => (ge_add ((ge_add ((ge_slice ((ge_var 3)).go gp_none (gp_some (ge_var 2)))).go ((ge_gstr T.WHITE)).go)).go ((ge_slice ((ge_var 3)).go (gp_some (ge_add ((ge_var 2)).go (ge_int).go)) gp_none)).go)) (by decide) (by decide))).ge).go gao_nil))))))⟩
abbrev s_leads_to : Stmt := top 26
theorem sc_leads_to : FnScope ["picture", "line", "high", "at", "sign", "row"] ["picture", "line"] (defScope s_leads_to) := ⟨rfl, rfl, rfl, by decide +kernel, rfl, by decide +kernel, by decide +kernel⟩
def b_leads_to : SS := seqS (setS 2 (callB lenD (consA (vE 0) (nilA)))) (seqS (ifS (boolE (binE ltD (vE 1) (vE 2))) (retS (compE (rangeI enumD (consA (binE ixD (vE 0) (vE 1)) (nilA))) [3, 4] (tN 2) [3, 4] (boolE (binE neD (vE 4) (cE (.str "#")))) (binE addD (vE 2) (vE 3)))) (skipS)) (retS (compE (rangeI enumD (consA (vE 0) (nilA))) [3, 5] (tN 2) [3, 5] (boolE (binE eqD (binE ixD (vE 5) (binE subD (vE 1) (vE 2))) (cE (.str "#")))) (vE 3))))
def m_leads_to : List D → List D → RE D := defD 6 b_leads_to
theorem d_leads_to (T : Tx K mg) : DefOk P w K mg base CX0 r "leads_to" 1 2 m_leads_to := by
  obtain ⟨f, fd, F, hm⟩ := T.f_leads_to
  refine fn_def (k := 0) F sc_leads_to hm (fun _ _ _ _ _ _ us hl => match us, hl with | [_, _], _ => rfl) (fun cdv A outer s H E hr => ?_) (m := b_leads_to)
  exact ⟨_, _, (gss_cons (GS.post (On' := []) (by decide) (gs_set 2 sc_leads_to.nd (ge_len T.len (gao_cons ((ge_var 0)).go gao_nil)))) (gss_cons (gs_if (gt_lt ((ge_var 1)).go ((ge_var 2)).go) (gss_one (gs_ret (On := []) ((gf_lc (own := [("at", 3), ("sign", 4)]) rfl sc_leads_to.nd (gi_enum T.enumerate (ga_cons (ge_sub1 ((ge_var 0)).go ((ge_var 1)).go) ga_nil)) (blkOk_by (by kernel_rfl)) (fun _ _ _ _ _ => (gg_tup rfl (ggs_cons 3 sc_leads_to.nd (ggs_cons 4 sc_leads_to.nd ggs_nil)) rfl)) (fun _ _ _ _ _ => (gts_one (gt_ne hr.units ((ge_var 4)).go ((ge_gstr T.BLACK)).go))) (fun _ _ _ _ _ => (ge_add ((ge_var 2)).go ((ge_var 3)).go)) (by decide) (by decide))).ge)) (GSs.post (On' := []) (by decide) gss_nil)) (gss_one (gs_ret (On := []) ((gf_lc (own := [("at", 3), ("row", 5)]) rfl sc_leads_to.nd (gi_enum T.enumerate (ga_cons (ge_var 0) ga_nil)) (blkOk_by (by kernel_rfl)) (fun _ _ _ _ _ => (gg_tup rfl (ggs_cons 3 sc_leads_to.nd (ggs_cons 5 sc_leads_to.nd ggs_nil)) rfl)) (fun _ _ _ _ _ => (gts_one (gt_eq hr.units ((ge_sub1 ((ge_var 5)).go ((ge_sub ((ge_var 1)).go ((ge_var 2)).go)).go)).go ((ge_gstr T.BLACK)).go))) (fun _ _ _ _ _ => (ge_var 3)) (by decide) (by decide))).ge))))⟩
abbrev s_product_to : Stmt := top 33
theorem sc_product_to : FnScope ["number", "found", "more"] ["number"] (defScope s_product_to) := ⟨rfl, rfl, rfl, by decide +kernel, rfl, by decide +kernel, by decide +kernel⟩
def b_product_to : SS := seqS (setS 1 (cE (.int 1))) (seqS (forS (rangeI range2D (consA (cE (.int 2)) (consA (binE addD (vE 0) (cE (.int 1))) (nilA)))) t1 [2] (setS 1 (binE mulD (vE 1) (vE 2)))) (retS (vE 1)))
def m_product_to : List D → List D → RE D := defD 3 b_product_to
theorem d_product_to (T : Tx K mg) : DefOk P w K mg base CX0 r "product_to" 1 1 m_product_to := by
  obtain ⟨f, fd, F, hm⟩ := T.f_product_to
  refine fn_def (k := 0) F sc_product_to hm (fun _ _ _ _ _ _ us hl => match us, hl with | [_], _ => rfl) (fun cdv A outer s H E hr => ?_) (m := b_product_to)
  exact ⟨_, _, (gss_cons (GS.post (On' := []) (by decide) (gs_set 1 sc_product_to.nd ge_int)) (gss_cons (gs_for .never rfl (gi_range2 T.range (gao_cons (ge_int).go (gao_cons ((ge_add ((ge_var 0)).go (ge_int).go)).go gao_nil))) (gg_name 2 sc_product_to.nd) (GSs.post (On' := []) (by decide) (gss_one (GS.post (On' := []) (by decide) (gs_set 1 sc_product_to.nd (ge_mul ((ge_var 1)).go ((ge_var 2)).go))))) (by decide) (fun d ds h => by cases h; rfl)) (gss_one (gs_ret (On := []) (ge_var 1)))))⟩
abbrev s_common : Stmt := top 35
theorem sc_common : FnScope ["one", "other"] ["one", "other"] (defScope s_common) := ⟨rfl, rfl, rfl, by decide +kernel, rfl, by decide +kernel, by decide +kernel⟩
def b_common : SS := seqS (whileS 1000000 (boolE (binE neD (vE 1) (cE (.int 0)))) (parS [0, 1] (consA (vE 1) (consA (binE modD (vE 0) (vE 1)) (nilA))))) (retS (callB absD (consA (vE 0) (nilA))))
def m_common : List D → List D → RE D := defD 2 b_common
theorem d_common (T : Tx K mg) : DefOk P w K mg base CX0 r "common" 1 2 m_common := by
  obtain ⟨f, fd, F, hm⟩ := T.f_common
  refine fn_def (k := 0) F sc_common hm (fun _ _ _ _ _ _ us hl => match us, hl with | [_, _], _ => rfl) (fun cdv A outer s H E hr => ?_) (m := b_common)
  exact ⟨_, _, (gss_cons (gs_while 1000000 .never (gt_ne hr.units ((ge_var 1)).go (ge_int).go) (GSs.post (On' := []) (by decide) (gss_one (GS.post (On' := []) (by decide) (gs_par2 0 1 sc_common.nd (gak_st (ge_var 1) (gak_st (ge_mod ((ge_var 0)).go ((ge_var 1)).go) gak_nil))))))) (gss_one (gs_ret (On := []) (ge_abs T.abs (gao_cons ((ge_var 0)).go gao_nil)))))⟩
abbrev s_by_layers : Stmt := top 39
theorem sc_by_layers : FnScope ["rows", "columns", "told", "later", "at", "some", "line", "found", "row", "spot"] ["rows", "columns", "told"] (defScope s_by_layers) := ⟨rfl, rfl, rfl, by decide +kernel, rfl, by decide +kernel, by decide +kernel⟩
def b_by_layers : SS := seqS (setFS 3 (cE (.dic []))) (seqS (forS (rangeI enumD (consA (vE 2) (nilA))) (tN 2) [4, 5] (forS (seqI (vE 5)) t1 [6] (dsetS 3 (vE 6) (vE 4)))) (seqS (setFS 7 (lstE (nilA))) (seqS (forS (rangeI range1D (consA (vE 0) (nilA))) t1 [8] (appS 7 (methE isStrD joinD (cE (.str "")) (compE (rangeI range1D (consA (vE 1) (nilA))) [9] t1 [9] (yesT) (ifE (boolE (binE ltD (binE ixKD (vE 3) (vE 8)) (binE ixKD (vE 3) (binE addD (vE 0) (vE 9))))) (cE (.str "#")) (cE (.str "."))))))) (retS (callB tupleD (consA (vE 7) (nilA)))))))
def m_by_layers : List D → List D → RE D := defD 10 b_by_layers
theorem d_by_layers (T : Tx K mg) : DefOk P w K mg base CX0 r "by_layers" 1 3 m_by_layers := by
  obtain ⟨f, fd, F, hm⟩ := T.f_by_layers
  refine fn_def (k := 0) F sc_by_layers hm (fun _ _ _ _ _ _ us hl => match us, hl with | [_, _, _], _ => rfl) (fun cdv A outer s H E hr => ?_) (m := b_by_layers)
  exact ⟨_, _, (gss_cons (GS.post (On' := [3]) (by decide) (gs_setF 3 sc_by_layers.nd gf_dnew)) (gss_cons (gs_for .never rfl (gi_enum T.enumerate (ga_cons (ge_var 2) ga_nil)) (gg_tup rfl (ggs_cons 4 sc_by_layers.nd (ggs_cons 5 sc_by_layers.nd ggs_nil)) rfl) (GSs.post (On' := [3]) (by decide) (gss_one (gs_for .never rfl (gi_seq (ge_var 5)) (gg_name 6 sc_by_layers.nd) (GSs.post (On' := [3]) (by decide) (gss_one (gs_dset 3 hr.units (by decide) (ge_var 6) (ge_var 4)))) (by decide) (fun d ds h => by cases h; rfl)))) (by decide) (fun d ds h => tN_len h)) (gss_cons (GS.post (On' := [3, 7]) (by decide) (gs_setF 7 sc_by_layers.nd (gf_lst ga_nil))) (gss_cons (gs_for .never rfl (gi_range1 T.range (gao_cons ((ge_var 0)).go gao_nil)) (gg_name 8 sc_by_layers.nd) (GSs.post (On' := [3, 7]) (by decide) (gss_one (gs_append 7 (by decide) (ge_join (ge_str).go (((gf_lc (own := [("spot", 9)]) rfl sc_by_layers.nd (gi_range1 T.range (gao_cons ((ge_var 1)).go gao_nil)) (blkOk_by (by kernel_rfl)) (fun _ _ _ _ _ => (gg_name 9 sc_by_layers.nd)) (fun _ _ _ _ _ => gts_nil) (fun _ _ _ _ _ => (ge_ifExp (gt_lt ((ge_ixK hr.units (go_own 3) ((ge_var 8)).go)).go ((ge_ixK hr.units (go_own 3) ((ge_add ((ge_var 0)).go ((ge_var 9)).go)).go)).go) (ge_gstr T.BLACK) (ge_gstr T.WHITE))) (by decide) (by decide))).ge).go)))) (by decide) (fun d ds h => by cases h; rfl)) (gss_one (gs_ret (On := []) (ge_tuple T.tuple (gao_cons (go_own 7) gao_nil))))))))⟩
abbrev s_layers_from : Stmt := top 42
theorem sc_layers_from : FnScope ["rows", "value", "found", "line"] ["rows", "value"] (defScope s_layers_from) := ⟨rfl, rfl, rfl, by decide +kernel, rfl, by decide +kernel, by decide +kernel⟩
def b_layers_from : SS := seqS (setFS 2 (lstE (nilA))) (seqS (layS 2 0 3 (seqI (revTE (vE 1)))) (retS (vE 2)))
def m_layers_from : List D → List D → RE D := defD 4 b_layers_from
theorem d_layers_from (T : Tx K mg) : DefOk P w K mg base CX0 r "layers_from" 1 2 m_layers_from := by
  obtain ⟨f, fd, F, hm⟩ := T.f_layers_from
  refine fn_def (k := 0) F sc_layers_from hm (fun _ _ _ _ _ _ us hl => match us, hl with | [_, _], _ => rfl) (fun cdv A outer s H E hr => ?_) (m := b_layers_from)
  exact ⟨_, _, (gss_cons (GS.post (On' := [2]) (by decide) (gs_setF 2 sc_layers_from.nd (gf_lst ga_nil))) (gss_cons (gs_lay 2 0 3 .never rfl hr.units (gi_seq (ge_revT ((ge_var 1)).go)) (gg_name 3 sc_layers_from.nd) (by decide) (by decide) (by decide) (by decide) (fun _ => pe_var rfl (by first | exact Or.inl rfl | exact Or.inr (Or.inl rfl) | exact Or.inr (Or.inr rfl))) (fun _ => pe_var rfl (by first | exact Or.inl rfl | exact Or.inr (Or.inl rfl) | exact Or.inr (Or.inr rfl))) (fun _ => pe_var rfl (by first | exact Or.inl rfl | exact Or.inr (Or.inl rfl) | exact Or.inr (Or.inr rfl)))) (gss_one (gs_retO (On := []) 2 (by decide)))))⟩
abbrev s_law_taken : Stmt := top 55
theorem sc_law_taken : FnScope ["_law_row", "_law_many", "_law_found", "_law_cell"] ["_law_row", "_law_many"] (defScope s_law_taken) := ⟨rfl, rfl, rfl, by decide +kernel, rfl, by decide +kernel, by decide +kernel⟩
def b_law_taken : SS := seqS (ifS (boolE (binE gtD (tixE (vE 0) (cE (.int 3))) (cE (.int 0)))) (seqS (setS 2 (binE modD (callB intD (consA (tixE (vE 0) (cE (.int 3))) (nilA))) (vE 1))) (seqS (tsetS 3 (vE 0) (cE (.int 3)) (binE fdivD (tixE (vE 0) (cE (.int 3))) (vE 1))) (retS (vE 2)))) (skipS)) (seqS (tsetS 1 (vE 0) (cE (.int 1)) (binE addD (tixE (vE 0) (cE (.int 1))) (cE (.int 1)))) (seqS (ifS (boolE (binE gtD (tixE (vE 0) (cE (.int 1))) (callB lenD (consA (tixE (vE 0) (cE (.int 0))) (nilA))))) (seqS (tsetS 2 (vE 0) (cE (.int 2)) (binE modD (callB intD (consA (binE addD (binE mulD (tixE (vE 0) (cE (.int 2))) (cE (.int 48271))) (cE (.int 11))) (nilA))) (cE (.int 2147483647)))) (retS (binE modD (callB intD (consA (binE fdivD (tixE (vE 0) (cE (.int 2))) (cE (.int 7))) (nilA))) (vE 1)))) (skipS)) (seqS (setS 3 (binE ixD (tixE (vE 0) (cE (.int 0))) (binE subD (tixE (vE 0) (cE (.int 1))) (cE (.int 1))))) (seqS (tsetS 2 (vE 0) (cE (.int 2)) (binE modD (callB intD (consA (binE addD (binE addD (binE mulD (tixE (vE 0) (cE (.int 2))) (cE (.int 48271))) (vE 3)) (cE (.int 11))) (nilA))) (cE (.int 2147483647)))) (seqS (ifS (boolE (binE geD (vE 3) (binE powD (cE (.int 10)) (cE (.int 18))))) (tsetS 3 (vE 0) (cE (.int 3)) (binE fdivD (vE 3) (vE 1))) (skipS)) (retS (binE modD (callB intD (consA (vE 3) (nilA))) (vE 1))))))))
def m_law_taken : List D → List D → RE D := defD 4 b_law_taken
theorem d_law_taken (T : Tx K mg) : DefOk P w K mg base CX0 r "_law_taken" 1 2 m_law_taken := by
  obtain ⟨f, fd, F, hm⟩ := T.f_law_taken
  refine fn_def (k := 0) F sc_law_taken hm (fun _ _ _ _ _ _ us hl => match us, hl with | [_, _], _ => rfl) (fun cdv A outer s H E hr => ?_) (m := b_law_taken)
  exact ⟨_, _, (gss_cons (gs_if (gt_gt ((ge_tix ((ge_var 0)).go (ge_int).go)).go (ge_int).go) (gss_cons (GS.post (On' := []) (by decide) (gs_set 2 sc_law_taken.nd (ge_mod ((ge_int1 T.int (gao_cons ((ge_tix ((ge_var 0)).go (ge_int).go)).go gao_nil))).go ((ge_var 1)).go))) (gss_cons (gs_tset 3 (ge_fdiv ((ge_tix ((ge_var 0)).go (ge_int).go)).go ((ge_var 1)).go) ((ge_var 0)).go (ge_int).go) (gss_one (gs_ret (On := []) (ge_var 2))))) (GSs.post (On' := []) (by decide) gss_nil)) (gss_cons (gs_tset 1 (ge_add ((ge_tix ((ge_var 0)).go (ge_int).go)).go (ge_int).go) ((ge_var 0)).go (ge_int).go) (gss_cons (gs_if (gt_gt ((ge_tix ((ge_var 0)).go (ge_int).go)).go ((ge_len T.len (gao_cons ((ge_tix ((ge_var 0)).go (ge_int).go)).go gao_nil))).go) (gss_cons (gs_tset 2 (ge_mod ((ge_int1 T.int (gao_cons ((ge_add ((ge_mul ((ge_tix ((ge_var 0)).go (ge_int).go)).go (ge_int).go)).go (ge_int).go)).go gao_nil))).go (ge_int).go) ((ge_var 0)).go (ge_int).go) (gss_one (gs_ret (On := []) (ge_mod ((ge_int1 T.int (gao_cons ((ge_fdiv ((ge_tix ((ge_var 0)).go (ge_int).go)).go (ge_int).go)).go gao_nil))).go ((ge_var 1)).go)))) (GSs.post (On' := []) (by decide) gss_nil)) (gss_cons (GS.post (On' := []) (by decide) (gs_set 3 sc_law_taken.nd (ge_sub1 ((ge_tix ((ge_var 0)).go (ge_int).go)).go ((ge_sub ((ge_tix ((ge_var 0)).go (ge_int).go)).go (ge_int).go)).go))) (gss_cons (gs_tset 2 (ge_mod ((ge_int1 T.int (gao_cons ((ge_add ((ge_add ((ge_mul ((ge_tix ((ge_var 0)).go (ge_int).go)).go (ge_int).go)).go ((ge_var 3)).go)).go (ge_int).go)).go gao_nil))).go (ge_int).go) ((ge_var 0)).go (ge_int).go) (gss_cons (gs_if (gt_ge ((ge_var 3)).go ((ge_pow (ge_int).go (ge_int).go)).go) (GSs.post (On' := []) (by decide) (gss_one (gs_tset 3 (ge_fdiv ((ge_var 3)).go ((ge_var 1)).go) ((ge_var 0)).go (ge_int).go))) (GSs.post (On' := []) (by decide) gss_nil)) (gss_one (gs_ret (On := []) (ge_mod ((ge_int1 T.int (gao_cons ((ge_var 3)).go gao_nil))).go ((ge_var 1)).go)))))))))⟩
abbrev s_law_paint : Stmt := top 57
theorem sc_law_paint : FnScope ["_law_picture", "_law_line", "_law_found", "_law_at", "_law_told", "_law_spot"] ["_law_picture", "_law_line"] (defScope s_law_paint) := ⟨rfl, rfl, rfl, by decide +kernel, rfl, by decide +kernel, by decide +kernel⟩
def b_law_paint : SS := seqS (setFS 2 (lstE (nilA))) (seqS (forS (rangeI range1D (consA (callB lenD (consA (vE 0) (nilA))) (nilA))) t1 [3] (seqS (setS 4 (cE (.str ""))) (seqS (forS (rangeI range1D (consA (callB lenD (consA (binE ixD (vE 0) (cE (.int 0))) (nilA))) (nilA))) t1 [5] (setS 4 (binE addD (vE 4) (ifE (boolE (binE eqD (vE 1) (vE 3))) (cE (.str "#")) (ifE (boolE (binE eqD (vE 1) (binE addD (callB lenD (consA (vE 0) (nilA))) (vE 5)))) (cE (.str ".")) (binE ixD (binE ixD (vE 0) (vE 3)) (vE 5))))))) (appS 2 (vE 4))))) (retS (callB tupleD (consA (vE 2) (nilA)))))
def m_law_paint : List D → List D → RE D := defD 6 b_law_paint
theorem d_law_paint (T : Tx K mg) : DefOk P w K mg base CX0 r "_law_paint" 1 2 m_law_paint := by
  obtain ⟨f, fd, F, hm⟩ := T.f_law_paint
  refine fn_def (k := 0) F sc_law_paint hm (fun _ _ _ _ _ _ us hl => match us, hl with | [_, _], _ => rfl) (fun cdv A outer s H E hr => ?_) (m := b_law_paint)
  exact ⟨_, _, (gss_cons (GS.post (On' := [2]) (by decide) (gs_setF 2 sc_law_paint.nd (gf_lst ga_nil))) (gss_cons (gs_for .never rfl (gi_range1 T.range (gao_cons ((ge_len T.len (gao_cons ((ge_var 0)).go gao_nil))).go gao_nil)) (gg_name 3 sc_law_paint.nd) (GSs.post (On' := [2]) (by decide) (gss_cons (GS.post (On' := [2]) (by decide) (gs_set 4 sc_law_paint.nd ge_str)) (gss_cons (gs_for .never rfl (gi_range1 T.range (gao_cons ((ge_len T.len (gao_cons ((ge_sub1 ((ge_var 0)).go (ge_int).go)).go gao_nil))).go gao_nil)) (gg_name 5 sc_law_paint.nd) (GSs.post (On' := [2]) (by decide) (gss_one (GS.post (On' := [2]) (by decide) (gs_set 4 sc_law_paint.nd (ge_add ((ge_var 4)).go ((ge_ifExp (gt_eq hr.units ((ge_var 1)).go ((ge_var 3)).go) ge_str (ge_ifExp (gt_eq hr.units ((ge_var 1)).go ((ge_add ((ge_len T.len (gao_cons ((ge_var 0)).go gao_nil))).go ((ge_var 5)).go)).go) ge_str (ge_sub1 ((ge_sub1 ((ge_var 0)).go ((ge_var 3)).go)).go ((ge_var 5)).go)))).go))))) (by decide) (fun d ds h => by cases h; rfl)) (gss_one (gs_append 2 (by decide) (ge_var 4)))))) (by decide) (fun d ds h => by cases h; rfl)) (gss_one (gs_ret (On := []) (ge_tuple T.tuple (gao_cons (go_own 2) gao_nil))))))⟩
abbrev s_law_common : Stmt := top 60
theorem sc_law_common : FnScope ["_law_one", "_law_other"] ["_law_one", "_law_other"] (defScope s_law_common) := ⟨rfl, rfl, rfl, by decide +kernel, rfl, by decide +kernel, by decide +kernel⟩
def b_law_common : SS := seqS (parS [0, 1] (consA (callB absD (consA (vE 0) (nilA))) (consA (callB absD (consA (vE 1) (nilA))) (nilA)))) (seqS (whileS 1000000 (boolE (binE neD (vE 1) (cE (.int 0)))) (parS [0, 1] (consA (vE 1) (consA (binE modD (vE 0) (vE 1)) (nilA))))) (retS (vE 0)))
def m_law_common : List D → List D → RE D := defD 2 b_law_common
theorem d_law_common (T : Tx K mg) : DefOk P w K mg base CX0 r "_law_common" 1 2 m_law_common := by
  obtain ⟨f, fd, F, hm⟩ := T.f_law_common
  refine fn_def (k := 0) F sc_law_common hm (fun _ _ _ _ _ _ us hl => match us, hl with | [_, _], _ => rfl) (fun cdv A outer s H E hr => ?_) (m := b_law_common)
  exact ⟨_, _, (gss_cons (GS.post (On' := []) (by decide) (gs_par2 0 1 sc_law_common.nd (gak_st (ge_abs T.abs (gao_cons ((ge_var 0)).go gao_nil)) (gak_st (ge_abs T.abs (gao_cons ((ge_var 1)).go gao_nil)) gak_nil)))) (gss_cons (gs_while 1000000 .never (gt_ne hr.units ((ge_var 1)).go (ge_int).go) (GSs.post (On' := []) (by decide) (gss_one (GS.post (On' := []) (by decide) (gs_par2 0 1 sc_law_common.nd (gak_st (ge_var 1) (gak_st (ge_mod ((ge_var 0)).go ((ge_var 1)).go) gak_nil))))))) (gss_one (gs_ret (On := []) (ge_var 0)))))⟩
abbrev s_is_in : Stmt := top 13
theorem sc_is_in : FnScope ["value", "least", "most"] ["value", "least", "most"] (defScope s_is_in) := ⟨rfl, rfl, rfl, by decide +kernel, rfl, by decide +kernel, by decide +kernel⟩
def b_is_in : SS := retS (andE (callE 1 m_is_int (consA (vE 0) (nilA))) (chainE leD leD (vE 1) (vE 0) (vE 2)))
def m_is_in : List D → List D → RE D := defD 3 b_is_in
theorem d_is_in (T : Tx K mg) : DefOk P w K mg base CX0 r "is_in" 2 3 m_is_in := by
  obtain ⟨f, fd, F, hm⟩ := T.f_is_in
  refine fn_def (k := 1) F sc_is_in hm (fun _ _ _ _ _ _ us hl => match us, hl with | [_, _, _], _ => rfl) (fun cdv A outer s H E hr => ?_) (m := b_is_in)
  exact ⟨_, _, (gss_one (gs_ret (On := []) (ge_and (ge_call (d_is_int T) (hr.mono (by decide)) pass0 (ga_cons (ge_var 0) ga_nil)) (ge_one (ge_leLe ((ge_var 1)).go ((ge_var 0)).go ((ge_var 2)).go)))))⟩
abbrev s_need_picture : Stmt := top 16
theorem sc_need_picture : FnScope ["value"] ["value"] (defScope s_need_picture) := ⟨rfl, rfl, rfl, by decide +kernel, rfl, by decide +kernel, by decide +kernel⟩
def b_need_picture : SS := ifS (notT (boolE (callE 1 m_is_picture (consA (vE 0) (nilA))))) ((fun _ _ => .stuck)) (skipS)
def m_need_picture : List D → List D → RE D := defD 1 b_need_picture
theorem d_need_picture (T : Tx K mg) : DefOk P w K mg base CX0 r "need_picture" 2 1 m_need_picture := by
  obtain ⟨f, fd, F, hm⟩ := T.f_need_picture
  refine fn_def (k := 1) F sc_need_picture hm (fun _ _ _ _ _ _ us hl => match us, hl with | [_], _ => rfl) (fun cdv A outer s H E hr => ?_) (m := b_need_picture)
  exact ⟨_, _, (gss_one (gs_if (gt_not (gt_val (ge_call (d_is_picture T) (hr.mono (by decide)) pass0 (ga_cons (ge_var 0) ga_nil)))) (gss_one (gs_never (On := []))) (GSs.post (On' := []) (by decide) gss_nil)))⟩
abbrev s_all_painted : Stmt := top 21
theorem sc_all_painted : FnScope ["picture", "deeds", "line"] ["picture", "deeds"] (defScope s_all_painted) := ⟨rfl, rfl, rfl, by decide +kernel, rfl, by decide +kernel, by decide +kernel⟩
def b_all_painted : SS := seqS (forS (seqI (vE 1)) t1 [2] (setS 0 (callE 2 m_painted_line (consA (vE 0) (consA (vE 2) (nilA)))))) (retS (vE 0))
def m_all_painted : List D → List D → RE D := defD 3 b_all_painted
theorem d_all_painted (T : Tx K mg) : DefOk P w K mg base CX0 r "all_painted" 2 2 m_all_painted := by
  obtain ⟨f, fd, F, hm⟩ := T.f_all_painted
  refine fn_def (k := 1) F sc_all_painted hm (fun _ _ _ _ _ _ us hl => match us, hl with | [_, _], _ => rfl) (fun cdv A outer s H E hr => ?_) (m := b_all_painted)
  exact ⟨_, _, (gss_cons (gs_for .never rfl (gi_seq (ge_var 1)) (gg_name 2 sc_all_painted.nd) (GSs.post (On' := []) (by decide) (gss_one (GS.post (On' := []) (by decide) (gs_set 0 sc_all_painted.nd (ge_call (d_painted_line T) (hr.mono (by decide)) pass0 (ga_cons (ge_var 0) (ga_cons (ge_var 2) ga_nil))))))) (by decide) (fun d ds h => by cases h; rfl)) (gss_one (gs_ret (On := []) (ge_var 0))))⟩
abbrev s_need_order : Stmt := top 23
theorem sc_need_order : FnScope ["value", "size", "one"] ["value", "size"] (defScope s_need_order) := ⟨rfl, rfl, rfl, by decide +kernel, rfl, by decide +kernel, by decide +kernel⟩
def b_need_order : SS := ifS (orT (notT (boolE (callB isiD (consA (vE 0) (consA (cE (.ty "tuple")) (nilA)))))) (orT (notT (boolE (callB allD (consA (compE (seqI (vE 0)) [2] t1 [2] (yesT) (callE 1 m_is_int (consA (vE 2) (nilA)))) (nilA))))) (boolE (binE neD (callB sortD (consA (vE 0) (nilA))) (rg1E .lst (vE 1)))))) ((fun _ _ => .stuck)) (skipS)
def m_need_order : List D → List D → RE D := defD 3 b_need_order
theorem d_need_order (T : Tx K mg) : DefOk P w K mg base CX0 r "need_order" 2 2 m_need_order := by
  obtain ⟨f, fd, F, hm⟩ := T.f_need_order
  refine fn_def (k := 1) F sc_need_order hm (fun _ _ _ _ _ _ us hl => match us, hl with | [_, _], _ => rfl) (fun cdv A outer s H E hr => ?_) (m := b_need_order)
  exact ⟨_, _, (gss_one (gs_if ((gw_or (gt_not (gt_val (ge_isi T.isinstance (gao_cons ((ge_var 0)).go (gao_cons ((ge_ty T.tuple)).go gao_nil))))) (gw_or (gt_not (gt_val (ge_all rfl T.all (gao_cons (((gf_lc (own := [("one", 2)]) rfl sc_need_order.nd (gi_seq (ge_var 0)) (blkOk_by (by kernel_rfl)) (fun _ _ _ _ _ => (gg_name 2 sc_need_order.nd)) (fun _ _ _ _ _ => gts_nil) (fun _ _ _ _ _ => (ge_call (d_is_int T) (hr.mono (by decide)) pass0 (ga_cons (ge_var 2) ga_nil))) (by decide) (by decide))).ge).go gao_nil)))) (gw_or1 (gt_ne hr.units (((gf_sorted T.sorted (gao_cons ((ge_var 0)).go gao_nil))).ge).go (((gf_listRg1 T.list T.range ((ge_var 1)).go)).ge).go))))).gt (gss_one (gs_never (On := []))) (GSs.post (On' := []) (by decide) gss_nil)))⟩
abbrev s_layers_of : Stmt := top 27
theorem sc_layers_of : FnScope ["picture", "left", "found", "ways", "line", "told", "some", "other", "gone"] ["picture"] (defScope s_layers_of) := ⟨rfl, rfl, rfl, by decide +kernel, rfl, by decide +kernel, by decide +kernel⟩
def b_layers_of : SS := seqS (parS [1, 2] (consA (rg1E .lst (callE 1 m_lines_of (consA (vE 0) (nilA)))) (consA (lstE (nilA)) (nilA)))) (seqS (setS 3 (compE (seqI (vE 1)) [4] t1 [4] (yesT) (callE 2 m_leads_to (consA (vE 0) (consA (vE 4) (nilA)))))) (whileS 1000000 (boolE (cE (.bl true))) (seqS (setS 5 (dcE (seqI (vE 1)) [4] t1 [4] (vE 4) (cE (.bl true)))) (seqS (setS 6 (compE (seqI (vE 1)) [4] t1 [4] (notT (boolE (callB anyD (consA (compE (seqI (binE ixD (vE 3) (vE 4))) [7] t1 [7] (yesT) (binE (inKD false) (vE 7) (vE 5))) (nilA))))) (vE 4))) (seqS (ifS (boolE (binE eqD (vE 6) (lstE (nilA)))) (retS (vE 2)) (skipS)) (seqS (appS 2 (vE 6)) (seqS (setS 8 (dcE (seqI (vE 6)) [4] t1 [4] (vE 4) (cE (.bl true)))) (setS 1 (compE (seqI (vE 1)) [4] t1 [4] (boolE (binE (inKD true) (vE 4) (vE 8))) (vE 4))))))))))
def m_layers_of : List D → List D → RE D := defD 9 b_layers_of
theorem d_layers_of (T : Tx K mg) : DefOk P w K mg base CX0 r "layers_of" 2 1 m_layers_of := by
  obtain ⟨f, fd, F, hm⟩ := T.f_layers_of
  refine fn_def (k := 1) F sc_layers_of hm (fun _ _ _ _ _ _ us hl => match us, hl with | [_], _ => rfl) (fun cdv A outer s H E hr => ?_) (m := b_layers_of)
  exact ⟨_, _, (gss_cons (GS.post (On' := [2]) (by decide) (gs_par2 1 2 sc_layers_of.nd (gak_st ((gf_listRg1 T.list T.range ((ge_call (d_lines_of T) (hr.mono (by decide)) pass0 (ga_cons (ge_var 0) ga_nil))).go)).ge (gak_fr (gf_lst ga_nil) gak_nil)))) (gss_cons (GS.post (On' := [2]) (by decide) (gs_set 3 sc_layers_of.nd ((gf_lc (own := [("line", 4)]) rfl sc_layers_of.nd (gi_seq (ge_var 1)) (blkOk_by (by kernel_rfl)) (fun _ _ _ _ _ => (gg_name 4 sc_layers_of.nd)) (fun _ _ _ _ _ => gts_nil) (fun _ _ _ _ _ => (ge_call (d_leads_to T) (hr.mono (by decide)) pass0 (ga_cons (ge_var 0) (ga_cons (ge_var 4) ga_nil)))) (by decide) (by decide))).ge)) (gss_one (gs_while 1000000 .never (gt_val ge_bl) (GSs.post (On' := [2]) (by decide) (gss_cons (GS.post (On' := [2]) (by decide) (gs_set 5 sc_layers_of.nd ((gf_dc (own := [("line", 4)]) rfl sc_layers_of.nd (gi_seq (ge_var 1)) (blkOk_by (by kernel_rfl)) (fun _ _ _ _ _ => (gg_name 4 sc_layers_of.nd)) (fun _ _ _ _ _ => gts_nil) (fun _ _ _ _ _ => (ge_var 4)) (fun _ _ _ _ _ => ge_bl) (by decide) (by decide))).ge)) (gss_cons (GS.post (On' := [2]) (by decide) (gs_setLc (i := 6) (lc_stmt (own := [("line", 4)]) rfl sc_layers_of.nd (gi_seq (ge_var 1)) (blkOk_by (by kernel_rfl)) (fun _ _ _ _ _ => (gg_name 4 sc_layers_of.nd)) (fun _ _ _ _ _ => (gts_one (gt_not (gt_val (ge_any rfl T.any (gao_cons (((gf_lc (own := [("other", 7)]) rfl sc_layers_of.nd (gi_seq (ge_sub1 ((ge_var 3)).go ((ge_var 4)).go)) (blkOk_by (by kernel_rfl)) (fun _ _ _ _ _ => (gg_name 7 sc_layers_of.nd)) (fun _ _ _ _ _ => gts_nil) (fun _ _ _ _ _ => (ge_inK hr.units ((ge_var 7)).go ((ge_var 5)).go)) (by decide) (by decide))).ge).go gao_nil)))))) (fun _ _ _ _ _ => (ge_var 4)) (by decide) (by decide)))) (gss_cons (gs_if (gt_eq hr.units ((ge_var 6)).go (((gf_lst ga_nil)).ge).go) (gss_one (gs_retO (On := [2]) 2 (by decide))) (GSs.post (On' := [2]) (by decide) gss_nil)) (gss_cons (gs_append 2 (by decide) (ge_var 6)) (gss_cons (GS.post (On' := [2]) (by decide) (gs_set 8 sc_layers_of.nd ((gf_dc (own := [("line", 4)]) rfl sc_layers_of.nd (gi_seq (ge_var 6)) (blkOk_by (by kernel_rfl)) (fun _ _ _ _ _ => (gg_name 4 sc_layers_of.nd)) (fun _ _ _ _ _ => gts_nil) (fun _ _ _ _ _ => (ge_var 4)) (fun _ _ _ _ _ => ge_bl) (by decide) (by decide))).ge)) (gss_one (GS.post (On' := [2]) (by decide) (gs_setLc (i := 1) (lc_stmt (own := [("line", 4)]) rfl sc_layers_of.nd (gi_seq (ge_var 1)) (blkOk_by (by kernel_rfl)) (fun _ _ _ _ _ => (gg_name 4 sc_layers_of.nd)) (fun _ _ _ _ _ => (gts_one (gt_notInK hr.units ((ge_var 4)).go ((ge_var 8)).go))) (fun _ _ _ _ _ => (ge_var 4)) (by decide) (by decide)))))))))))))))⟩
abbrev s_lowered : Stmt := top 36
theorem sc_lowered : FnScope ["above", "low", "shared"] ["above", "low"] (defScope s_lowered) := ⟨rfl, rfl, rfl, by decide +kernel, rfl, by decide +kernel, by decide +kernel⟩
def b_lowered : SS := seqS (setS 2 (callE 2 m_common (consA (vE 0) (consA (vE 1) (nilA))))) (retS (tupE (consA (binE fdivD (vE 0) (vE 2)) (consA (binE fdivD (vE 1) (vE 2)) (nilA)))))
def m_lowered : List D → List D → RE D := defD 3 b_lowered
theorem d_lowered (T : Tx K mg) : DefOk P w K mg base CX0 r "lowered" 2 2 m_lowered := by
  obtain ⟨f, fd, F, hm⟩ := T.f_lowered
  refine fn_def (k := 1) F sc_lowered hm (fun _ _ _ _ _ _ us hl => match us, hl with | [_, _], _ => rfl) (fun cdv A outer s H E hr => ?_) (m := b_lowered)
  exact ⟨_, _, (gss_cons (GS.post (On' := []) (by decide) (gs_set 2 sc_lowered.nd (ge_call (d_common T) (hr.mono (by decide)) pass0 (ga_cons (ge_var 0) (ga_cons (ge_var 1) ga_nil))))) (gss_one (gs_ret (On := []) (ge_tup (ga_cons (ge_fdiv ((ge_var 0)).go ((ge_var 2)).go) (ga_cons (ge_fdiv ((ge_var 1)).go ((ge_var 2)).go) ga_nil))))))⟩
abbrev s_law_mixed : Stmt := top 56
theorem sc_law_mixed : FnScope ["_law_row", "_law_some", "_law_left", "_law_found", "_law_turn"] ["_law_row", "_law_some"] (defScope s_law_mixed) := ⟨rfl, rfl, rfl, by decide +kernel, rfl, by decide +kernel, by decide +kernel⟩
def b_law_mixed : SS := seqS (parS [2, 3] (consA (callB listD (consA (vE 1) (nilA))) (consA (lstE (nilA)) (nilA)))) (seqS (forS (rangeI range1D (consA (callB lenD (consA (vE 2) (nilA))) (nilA))) t1 [4] (appPopS 3 2 (callE 2 m_law_taken (consA (vE 0) (consA (callB lenD (consA (vE 2) (nilA))) (nilA)))))) (retS (vE 3)))
def m_law_mixed : List D → List D → RE D := defD 5 b_law_mixed
theorem d_law_mixed (T : Tx K mg) : DefOk P w K mg base CX0 r "_law_mixed" 2 2 m_law_mixed := by
  obtain ⟨f, fd, F, hm⟩ := T.f_law_mixed
  refine fn_def (k := 1) F sc_law_mixed hm (fun _ _ _ _ _ _ us hl => match us, hl with | [_, _], _ => rfl) (fun cdv A outer s H E hr => ?_) (m := b_law_mixed)
  exact ⟨_, _, (gss_cons (GS.post (On' := [2, 3]) (by decide) (gs_par2 2 3 sc_law_mixed.nd (gak_fr (gf_list1 T.list (gao_cons ((ge_var 1)).go gao_nil)) (gak_fr (gf_lst ga_nil) gak_nil)))) (gss_cons (gs_for .never rfl (gi_range1 T.range (gao_cons ((ge_len T.len (gao_cons (go_own 2) gao_nil))).go gao_nil)) (gg_name 4 sc_law_mixed.nd) (GSs.post (On' := [2, 3]) (by decide) (gss_one (gs_appPop 3 2 (by decide) (by decide) (by decide) (ge_call (d_law_taken T) (hr.mono (by decide)) pass0 (ga_cons (ge_var 0) (ga_cons (ge_len T.len (gao_cons (go_own 2) gao_nil)) ga_nil)))))) (by decide) (fun d ds h => by cases h; rfl)) (gss_one (gs_retO (On := []) 3 (by decide)))))⟩
abbrev s_law_painted : Stmt := top 58
theorem sc_law_painted : FnScope ["_law_picture", "_law_deeds", "_law_line"] ["_law_picture", "_law_deeds"] (defScope s_law_painted) := ⟨rfl, rfl, rfl, by decide +kernel, rfl, by decide +kernel, by decide +kernel⟩
def b_law_painted : SS := seqS (forS (seqI (vE 1)) t1 [2] (setS 0 (callE 2 m_law_paint (consA (vE 0) (consA (vE 2) (nilA)))))) (retS (vE 0))
def m_law_painted : List D → List D → RE D := defD 3 b_law_painted
theorem d_law_painted (T : Tx K mg) : DefOk P w K mg base CX0 r "_law_painted" 2 2 m_law_painted := by
  obtain ⟨f, fd, F, hm⟩ := T.f_law_painted
  refine fn_def (k := 1) F sc_law_painted hm (fun _ _ _ _ _ _ us hl => match us, hl with | [_, _], _ => rfl) (fun cdv A outer s H E hr => ?_) (m := b_law_painted)
  exact ⟨_, _, (gss_cons (gs_for .never rfl (gi_seq (ge_var 1)) (gg_name 2 sc_law_painted.nd) (GSs.post (On' := []) (by decide) (gss_one (GS.post (On' := []) (by decide) (gs_set 0 sc_law_painted.nd (ge_call (d_law_paint T) (hr.mono (by decide)) pass0 (ga_cons (ge_var 0) (ga_cons (ge_var 2) ga_nil))))))) (by decide) (fun d ds h => by cases h; rfl)) (gss_one (gs_ret (On := []) (ge_var 0))))⟩
abbrev s_law_lowered : Stmt := top 61
theorem sc_law_lowered : FnScope ["_law_above", "_law_low", "_law_shared"] ["_law_above", "_law_low"] (defScope s_law_lowered) := ⟨rfl, rfl, rfl, by decide +kernel, rfl, by decide +kernel, by decide +kernel⟩
def b_law_lowered : SS := seqS (setS 2 (callE 2 m_law_common (consA (vE 0) (consA (vE 1) (nilA))))) (retS (tupE (consA (binE fdivD (vE 0) (vE 2)) (consA (binE fdivD (vE 1) (vE 2)) (nilA)))))
def m_law_lowered : List D → List D → RE D := defD 3 b_law_lowered
theorem d_law_lowered (T : Tx K mg) : DefOk P w K mg base CX0 r "_law_lowered" 2 2 m_law_lowered := by
  obtain ⟨f, fd, F, hm⟩ := T.f_law_lowered
  refine fn_def (k := 1) F sc_law_lowered hm (fun _ _ _ _ _ _ us hl => match us, hl with | [_, _], _ => rfl) (fun cdv A outer s H E hr => ?_) (m := b_law_lowered)
  exact ⟨_, _, (gss_cons (GS.post (On' := []) (by decide) (gs_set 2 sc_law_lowered.nd (ge_call (d_law_common T) (hr.mono (by decide)) pass0 (ga_cons (ge_var 0) (ga_cons (ge_var 1) ga_nil))))) (gss_one (gs_ret (On := []) (ge_tup (ga_cons (ge_fdiv ((ge_var 0)).go ((ge_var 2)).go) (ga_cons (ge_fdiv ((ge_var 1)).go ((ge_var 2)).go) ga_nil))))))⟩
abbrev s_need_number : Stmt := top 14
theorem sc_need_number : FnScope ["value", "least", "most"] ["value", "least", "most"] (defScope s_need_number) := ⟨rfl, rfl, rfl, by decide +kernel, rfl, by decide +kernel, by decide +kernel⟩
def b_need_number : SS := ifS (notT (boolE (callE 3 m_is_in (consA (vE 0) (consA (vE 1) (consA (vE 2) (nilA))))))) ((fun _ _ => .stuck)) (skipS)
def m_need_number : List D → List D → RE D := defD 3 b_need_number
theorem d_need_number (T : Tx K mg) : DefOk P w K mg base CX0 r "need_number" 3 3 m_need_number := by
  obtain ⟨f, fd, F, hm⟩ := T.f_need_number
  refine fn_def (k := 2) F sc_need_number hm (fun _ _ _ _ _ _ us hl => match us, hl with | [_, _, _], _ => rfl) (fun cdv A outer s H E hr => ?_) (m := b_need_number)
  exact ⟨_, _, (gss_one (gs_if (gt_not (gt_val (ge_call (d_is_in T) (hr.mono (by decide)) pass0 (ga_cons (ge_var 0) (ga_cons (ge_var 1) (ga_cons (ge_var 2) ga_nil)))))) (gss_one (gs_never (On := []))) (GSs.post (On' := []) (by decide) gss_nil)))⟩
abbrev s_need_line : Stmt := top 18
theorem sc_need_line : FnScope ["picture", "value"] ["picture", "value"] (defScope s_need_line) := ⟨rfl, rfl, rfl, by decide +kernel, rfl, by decide +kernel, by decide +kernel⟩
def b_need_line : SS := ifS (notT (boolE (callE 3 m_is_in (consA (vE 1) (consA (cE (.int 0)) (consA (binE subD (callE 1 m_lines_of (consA (vE 0) (nilA))) (cE (.int 1))) (nilA))))))) ((fun _ _ => .stuck)) (skipS)
def m_need_line : List D → List D → RE D := defD 2 b_need_line
theorem d_need_line (T : Tx K mg) : DefOk P w K mg base CX0 r "need_line" 3 2 m_need_line := by
  obtain ⟨f, fd, F, hm⟩ := T.f_need_line
  refine fn_def (k := 2) F sc_need_line hm (fun _ _ _ _ _ _ us hl => match us, hl with | [_, _], _ => rfl) (fun cdv A outer s H E hr => ?_) (m := b_need_line)
  exact ⟨_, _, (gss_one (gs_if (gt_not (gt_val (ge_call (d_is_in T) (hr.mono (by decide)) pass0 (ga_cons (ge_var 1) (ga_cons ge_int (ga_cons (ge_sub ((ge_call (d_lines_of T) (hr.mono (by decide)) pass0 (ga_cons (ge_var 0) ga_nil))).go (ge_int).go) ga_nil)))))) (gss_one (gs_never (On := []))) (GSs.post (On' := []) (by decide) gss_nil)))⟩
abbrev s_are_deeds : Stmt := top 19
theorem sc_are_deeds : FnScope ["picture", "value", "line"] ["picture", "value"] (defScope s_are_deeds) := ⟨rfl, rfl, rfl, by decide +kernel, rfl, by decide +kernel, by decide +kernel⟩
def b_are_deeds : SS := retS (andE (callB isiD (consA (vE 1) (consA (cE (.ty "list")) (nilA)))) (callB allD (consA (compE (seqI (vE 1)) [2] t1 [2] (yesT) (callE 3 m_is_in (consA (vE 2) (consA (cE (.int 0)) (consA (binE subD (callE 1 m_lines_of (consA (vE 0) (nilA))) (cE (.int 1))) (nilA)))))) (nilA))))
def m_are_deeds : List D → List D → RE D := defD 3 b_are_deeds
theorem d_are_deeds (T : Tx K mg) : DefOk P w K mg base CX0 r "are_deeds" 3 2 m_are_deeds := by
  obtain ⟨f, fd, F, hm⟩ := T.f_are_deeds
  refine fn_def (k := 2) F sc_are_deeds hm (fun _ _ _ _ _ _ us hl => match us, hl with | [_, _], _ => rfl) (fun cdv A outer s H E hr => ?_) (m := b_are_deeds)
  exact ⟨_, _, (gss_one (gs_ret (On := []) (ge_and (ge_isi T.isinstance (gao_cons ((ge_var 1)).go (gao_cons ((ge_ty T.list)).go gao_nil))) (ge_one (ge_all rfl T.all (gao_cons (((gf_lc (own := [("line", 2)]) rfl sc_are_deeds.nd (gi_seq (ge_var 1)) (blkOk_by (by kernel_rfl)) (fun _ _ _ _ _ => (gg_name 2 sc_are_deeds.nd)) (fun _ _ _ _ _ => gts_nil) (fun _ _ _ _ _ => (ge_call (d_is_in T) (hr.mono (by decide)) pass0 (ga_cons (ge_var 2) (ga_cons ge_int (ga_cons (ge_sub ((ge_call (d_lines_of T) (hr.mono (by decide)) pass0 (ga_cons (ge_var 0) ga_nil))).go (ge_int).go) ga_nil))))) (by decide) (by decide))).ge).go gao_nil))))))⟩
abbrev s_layers : Stmt := top 28
theorem sc_layers : FnScope ["picture", "some"] ["picture"] (defScope s_layers) := ⟨rfl, rfl, rfl, by decide +kernel, rfl, by decide +kernel, by decide +kernel⟩
def b_layers : SS := seqS (dropS (callE 1 m_need_picture (consA (vE 0) (nilA)))) (retS (callB tupleD (consA (compE (seqI (callE 1 m_layers_of (consA (vE 0) (nilA)))) [1] t1 [1] (yesT) (callB tupleD (consA (vE 1) (nilA)))) (nilA))))
def m_layers : List D → List D → RE D := defD 2 b_layers
theorem d_layers (T : Tx K mg) : DefOk P w K mg base CX0 r "layers" 3 1 m_layers := by
  obtain ⟨f, fd, F, hm⟩ := T.f_layers
  refine fn_def (k := 2) F sc_layers hm (fun _ _ _ _ _ _ us hl => match us, hl with | [_], _ => rfl) (fun cdv A outer s H E hr => ?_) (m := b_layers)
  exact ⟨_, _, (gss_cons (gs_drop (ge_call (d_need_picture T) (hr.mono (by decide)) pass0 (ga_cons (ge_var 0) ga_nil))) (gss_one (gs_ret (On := []) (ge_tuple T.tuple (gao_cons (((gf_lc (own := [("some", 1)]) rfl sc_layers.nd (gi_seq (ge_call (d_layers_of T) (hr.mono (by decide)) pass0 (ga_cons (ge_var 0) ga_nil))) (blkOk_by (by kernel_rfl)) (fun _ _ _ _ _ => (gg_name 1 sc_layers.nd)) (fun _ _ _ _ _ => gts_nil) (fun _ _ _ _ _ => (ge_tuple T.tuple (gao_cons ((ge_var 1)).go gao_nil))) (by decide) (by decide))).ge).go gao_nil)))))⟩
abbrev s_core_of : Stmt := top 29
theorem sc_core_of : FnScope ["picture", "told", "some", "line"] ["picture"] (defScope s_core_of) := ⟨rfl, rfl, rfl, by decide +kernel, rfl, by decide +kernel, by decide +kernel⟩
def b_core_of : SS := seqS (setS 1 (dc2E (seqI (callE 1 m_layers_of (consA (vE 0) (nilA)))) [2, 3] t1 [2] (seqI (vE 2)) [3] t1 [3] (vE 3) (cE (.bl true)))) (retS (compE (rangeI range1D (consA (callE 1 m_lines_of (consA (vE 0) (nilA))) (nilA))) [3] t1 [3] (boolE (binE (inKD true) (vE 3) (vE 1))) (vE 3)))
def m_core_of : List D → List D → RE D := defD 4 b_core_of
theorem d_core_of (T : Tx K mg) : DefOk P w K mg base CX0 r "core_of" 3 1 m_core_of := by
  obtain ⟨f, fd, F, hm⟩ := T.f_core_of
  refine fn_def (k := 2) F sc_core_of hm (fun _ _ _ _ _ _ us hl => match us, hl with | [_], _ => rfl) (fun cdv A outer s H E hr => ?_) (m := b_core_of)
  exact ⟨_, _, (gss_cons (GS.post (On' := []) (by decide) (gs_set 1 sc_core_of.nd ((gf_dc2 (own := [("some", 2), ("line", 3)]) (vs1 := [3]) rfl sc_core_of.nd (gi_seq (ge_call (d_layers_of T) (hr.mono (by decide)) pass0 (ga_cons (ge_var 0) ga_nil))) (blkOk_by (by kernel_rfl)) (fun _ _ _ _ _ => (gg_name 2 sc_core_of.nd)) (fun _ _ _ _ _ => (gi_seq (ge_var 2))) (fun _ _ _ _ _ => (gg_name 3 sc_core_of.nd)) (fun _ _ _ _ _ => (ge_var 3)) (fun _ _ _ _ _ => ge_bl) (by decide) (by decide) (by decide) (by decide))).ge)) (gss_one (gs_ret (On := []) ((gf_lc (own := [("line", 3)]) rfl sc_core_of.nd (gi_range1 T.range (gao_cons ((ge_call (d_lines_of T) (hr.mono (by decide)) pass0 (ga_cons (ge_var 0) ga_nil))).go gao_nil)) (blkOk_by (by kernel_rfl)) (fun _ _ _ _ _ => (gg_name 3 sc_core_of.nd)) (fun _ _ _ _ _ => (gts_one (gt_notInK hr.units ((ge_var 3)).go ((ge_var 1)).go))) (fun _ _ _ _ _ => (ge_var 3)) (by decide) (by decide))).ge)))⟩
abbrev s_law_free : Stmt := top 59
theorem sc_law_free : FnScope ["_law_row", "_law_most", "_law_high", "_law_wide"] ["_law_row", "_law_most"] (defScope s_law_free) := ⟨rfl, rfl, rfl, by decide +kernel, rfl, by decide +kernel, by decide +kernel⟩
def b_law_free : SS := seqS (parS [2, 3] (consA (binE addD (cE (.int 1)) (callE 2 m_law_taken (consA (vE 0) (consA (vE 1) (nilA))))) (consA (binE addD (cE (.int 1)) (callE 2 m_law_taken (consA (vE 0) (consA (vE 1) (nilA))))) (nilA)))) (retS (callE 2 m_law_painted (consA (binE mulD (tupE (consA (binE mulD (cE (.str ".")) (vE 3)) (nilA))) (vE 2)) (consA (callE 2 m_law_mixed (consA (vE 0) (consA (rg1E .lst (binE addD (vE 2) (vE 3))) (nilA)))) (nilA)))))
def m_law_free : List D → List D → RE D := defD 4 b_law_free
theorem d_law_free (T : Tx K mg) : DefOk P w K mg base CX0 r "_law_free" 3 2 m_law_free := by
  obtain ⟨f, fd, F, hm⟩ := T.f_law_free
  refine fn_def (k := 2) F sc_law_free hm (fun _ _ _ _ _ _ us hl => match us, hl with | [_, _], _ => rfl) (fun cdv A outer s H E hr => ?_) (m := b_law_free)
  exact ⟨_, _, (gss_cons (GS.post (On' := []) (by decide) (gs_par2 2 3 sc_law_free.nd (gak_st (ge_add (ge_int).go ((ge_call (d_law_taken T) (hr.mono (by decide)) pass0 (ga_cons (ge_var 0) (ga_cons (ge_var 1) ga_nil)))).go) (gak_st (ge_add (ge_int).go ((ge_call (d_law_taken T) (hr.mono (by decide)) pass0 (ga_cons (ge_var 0) (ga_cons (ge_var 1) ga_nil)))).go) gak_nil)))) (gss_one (gs_ret (On := []) (ge_call (d_law_painted T) (hr.mono (by decide)) pass0 (ga_cons (ge_mul ((ge_tup (ga_cons (ge_mul (ge_str).go ((ge_var 3)).go) ga_nil))).go ((ge_var 2)).go) (ga_cons (ge_call (d_law_mixed T) (hr.mono (by decide)) pass0 (ga_cons (ge_var 0) (ga_cons ((gf_listRg1 T.list T.range ((ge_add ((ge_var 2)).go ((ge_var 3)).go)).go)).ge ga_nil))) ga_nil))))))⟩
abbrev s_law_plus : Stmt := top 62
theorem sc_law_plus : FnScope ["_law_one", "_law_other"] ["_law_one", "_law_other"] (defScope s_law_plus) := ⟨rfl, rfl, rfl, by decide +kernel, rfl, by decide +kernel, by decide +kernel⟩
def b_law_plus : SS := retS (callE 2 m_law_lowered (consA (binE addD (binE mulD (binE ixD (vE 0) (cE (.int 0))) (binE ixD (vE 1) (cE (.int 1)))) (binE mulD (binE ixD (vE 1) (cE (.int 0))) (binE ixD (vE 0) (cE (.int 1))))) (consA (binE mulD (binE ixD (vE 0) (cE (.int 1))) (binE ixD (vE 1) (cE (.int 1)))) (nilA))))
def m_law_plus : List D → List D → RE D := defD 2 b_law_plus
theorem d_law_plus (T : Tx K mg) : DefOk P w K mg base CX0 r "_law_plus" 3 2 m_law_plus := by
  obtain ⟨f, fd, F, hm⟩ := T.f_law_plus
  refine fn_def (k := 2) F sc_law_plus hm (fun _ _ _ _ _ _ us hl => match us, hl with | [_, _], _ => rfl) (fun cdv A outer s H E hr => ?_) (m := b_law_plus)
  exact ⟨_, _, (gss_one (gs_ret (On := []) (ge_call (d_law_lowered T) (hr.mono (by decide)) pass0 (ga_cons (ge_add ((ge_mul ((ge_sub1 ((ge_var 0)).go (ge_int).go)).go ((ge_sub1 ((ge_var 1)).go (ge_int).go)).go)).go ((ge_mul ((ge_sub1 ((ge_var 1)).go (ge_int).go)).go ((ge_sub1 ((ge_var 0)).go (ge_int).go)).go)).go) (ga_cons (ge_mul ((ge_sub1 ((ge_var 0)).go (ge_int).go)).go ((ge_sub1 ((ge_var 1)).go (ge_int).go)).go) ga_nil)))))⟩
abbrev s_painted : Stmt := top 22
theorem sc_painted : FnScope ["picture", "deeds"] ["picture", "deeds"] (defScope s_painted) := ⟨rfl, rfl, rfl, by decide +kernel, rfl, by decide +kernel, by decide +kernel⟩
def b_painted : SS := seqS (dropS (callE 1 m_need_picture (consA (vE 0) (nilA)))) (seqS (ifS (notT (boolE (callE 2 m_are_deeds (consA (vE 0) (consA (vE 1) (nilA)))))) ((fun _ _ => .stuck)) (skipS)) (retS (callE 2 m_all_painted (consA (vE 0) (consA (vE 1) (nilA))))))
def m_painted : List D → List D → RE D := defD 2 b_painted
theorem d_painted (T : Tx K mg) : DefOk P w K mg base CX0 r "painted" 4 2 m_painted := by
  obtain ⟨f, fd, F, hm⟩ := T.f_painted
  refine fn_def (k := 3) F sc_painted hm (fun _ _ _ _ _ _ us hl => match us, hl with | [_, _], _ => rfl) (fun cdv A outer s H E hr => ?_) (m := b_painted)
  exact ⟨_, _, (gss_cons (gs_drop (ge_call (d_need_picture T) (hr.mono (by decide)) pass0 (ga_cons (ge_var 0) ga_nil))) (gss_cons (gs_if (gt_not (gt_val (ge_call (d_are_deeds T) (hr.mono (by decide)) pass0 (ga_cons (ge_var 0) (ga_cons (ge_var 1) ga_nil))))) (gss_one (gs_never (On := []))) (GSs.post (On' := []) (by decide) gss_nil)) (gss_one (gs_ret (On := []) (ge_call (d_all_painted T) (hr.mono (by decide)) pass0 (ga_cons (ge_var 0) (ga_cons (ge_var 1) ga_nil)))))))⟩
abbrev s_plain : Stmt := top 24
theorem sc_plain : FnScope ["rows", "columns", "is_black"] ["rows", "columns", "is_black"] (defScope s_plain) := ⟨rfl, rfl, rfl, by decide +kernel, rfl, by decide +kernel, by decide +kernel⟩
def b_plain : SS := seqS (dropS (callE 3 m_need_number (consA (vE 0) (consA (cE (.int 1)) (consA (cE (.int 30)) (nilA)))))) (seqS (dropS (callE 3 m_need_number (consA (vE 1) (consA (cE (.int 1)) (consA (cE (.int 30)) (nilA)))))) (seqS (dropS (callE 3 m_need_number (consA (vE 2) (consA (cE (.int 0)) (consA (cE (.int 1)) (nilA)))))) (retS (binE mulD (tupE (consA (binE mulD (ifE (boolE (binE eqD (vE 2) (cE (.int 1)))) (cE (.str "#")) (cE (.str "."))) (vE 1)) (nilA))) (vE 0)))))
def m_plain : List D → List D → RE D := defD 3 b_plain
theorem d_plain (T : Tx K mg) : DefOk P w K mg base CX0 r "plain" 4 3 m_plain := by
  obtain ⟨f, fd, F, hm⟩ := T.f_plain
  refine fn_def (k := 3) F sc_plain hm (fun _ _ _ _ _ _ us hl => match us, hl with | [_, _, _], _ => rfl) (fun cdv A outer s H E hr => ?_) (m := b_plain)
  exact ⟨_, _, (gss_cons (gs_drop (ge_call (d_need_number T) (hr.mono (by decide)) pass0 (ga_cons (ge_var 0) (ga_cons ge_int (ga_cons (ge_gint T.MOST_SIDE) ga_nil))))) (gss_cons (gs_drop (ge_call (d_need_number T) (hr.mono (by decide)) pass0 (ga_cons (ge_var 1) (ga_cons ge_int (ga_cons (ge_gint T.MOST_SIDE) ga_nil))))) (gss_cons (gs_drop (ge_call (d_need_number T) (hr.mono (by decide)) pass0 (ga_cons (ge_var 2) (ga_cons ge_int (ga_cons ge_int ga_nil))))) (gss_one (gs_ret (On := []) (ge_mul ((ge_tup (ga_cons (ge_mul ((ge_ifExp (gt_eq hr.units ((ge_var 2)).go (ge_int).go) (ge_gstr T.BLACK) (ge_gstr T.WHITE))).go ((ge_var 1)).go) ga_nil))).go ((ge_var 0)).go))))))⟩
abbrev s_is_free_of : Stmt := top 30
theorem sc_is_free_of : FnScope ["picture"] ["picture"] (defScope s_is_free_of) := ⟨rfl, rfl, rfl, by decide +kernel, rfl, by decide +kernel, by decide +kernel⟩
def b_is_free_of : SS := retS (binE eqD (callE 1 m_core_of (consA (vE 0) (nilA))) (lstE (nilA)))
def m_is_free_of : List D → List D → RE D := defD 1 b_is_free_of
theorem d_is_free_of (T : Tx K mg) : DefOk P w K mg base CX0 r "is_free_of" 4 1 m_is_free_of := by
  obtain ⟨f, fd, F, hm⟩ := T.f_is_free_of
  refine fn_def (k := 3) F sc_is_free_of hm (fun _ _ _ _ _ _ us hl => match us, hl with | [_], _ => rfl) (fun cdv A outer s H E hr => ?_) (m := b_is_free_of)
  exact ⟨_, _, (gss_one (gs_ret (On := []) (ge_eq hr.units ((ge_call (d_core_of T) (hr.mono (by decide)) pass0 (ga_cons (ge_var 0) ga_nil))).go (((gf_lst ga_nil)).ge).go)))⟩
abbrev s_need_sides : Stmt := top 38
theorem sc_need_sides : FnScope ["rows", "columns"] ["rows", "columns"] (defScope s_need_sides) := ⟨rfl, rfl, rfl, by decide +kernel, rfl, by decide +kernel, by decide +kernel⟩
def b_need_sides : SS := seqS (dropS (callE 3 m_need_number (consA (vE 0) (consA (cE (.int 1)) (consA (cE (.int 30)) (nilA)))))) (dropS (callE 3 m_need_number (consA (vE 1) (consA (cE (.int 1)) (consA (cE (.int 30)) (nilA))))))
def m_need_sides : List D → List D → RE D := defD 2 b_need_sides
theorem d_need_sides (T : Tx K mg) : DefOk P w K mg base CX0 r "need_sides" 4 2 m_need_sides := by
  obtain ⟨f, fd, F, hm⟩ := T.f_need_sides
  refine fn_def (k := 3) F sc_need_sides hm (fun _ _ _ _ _ _ us hl => match us, hl with | [_, _], _ => rfl) (fun cdv A outer s H E hr => ?_) (m := b_need_sides)
  exact ⟨_, _, (gss_cons (gs_drop (ge_call (d_need_number T) (hr.mono (by decide)) pass0 (ga_cons (ge_var 0) (ga_cons ge_int (ga_cons (ge_gint T.MOST_SIDE) ga_nil))))) (gss_one (gs_drop (ge_call (d_need_number T) (hr.mono (by decide)) pass0 (ga_cons (ge_var 1) (ga_cons ge_int (ga_cons (ge_gint T.MOST_SIDE) ga_nil)))))))⟩
abbrev s_need_free : Stmt := top 31
theorem sc_need_free : FnScope ["picture"] ["picture"] (defScope s_need_free) := ⟨rfl, rfl, rfl, by decide +kernel, rfl, by decide +kernel, by decide +kernel⟩
def b_need_free : SS := seqS (dropS (callE 1 m_need_picture (consA (vE 0) (nilA)))) (ifS (notT (boolE (callE 1 m_is_free_of (consA (vE 0) (nilA))))) ((fun _ _ => .stuck)) (skipS))
def m_need_free : List D → List D → RE D := defD 1 b_need_free
theorem d_need_free (T : Tx K mg) : DefOk P w K mg base CX0 r "need_free" 5 1 m_need_free := by
  obtain ⟨f, fd, F, hm⟩ := T.f_need_free
  refine fn_def (k := 4) F sc_need_free hm (fun _ _ _ _ _ _ us hl => match us, hl with | [_], _ => rfl) (fun cdv A outer s H E hr => ?_) (m := b_need_free)
  exact ⟨_, _, (gss_cons (gs_drop (ge_call (d_need_picture T) (hr.mono (by decide)) pass0 (ga_cons (ge_var 0) ga_nil))) (gss_one (gs_if (gt_not (gt_val (ge_call (d_is_free_of T) (hr.mono (by decide)) pass0 (ga_cons (ge_var 0) ga_nil)))) (gss_one (gs_never (On := []))) (GSs.post (On' := []) (by decide) gss_nil))))⟩
abbrev s_by_order : Stmt := top 43
theorem sc_by_order : FnScope ["rows", "columns", "value"] ["rows", "columns", "value"] (defScope s_by_order) := ⟨rfl, rfl, rfl, by decide +kernel, rfl, by decide +kernel, by decide +kernel⟩
def b_by_order : SS := seqS (dropS (callE 2 m_need_sides (consA (vE 0) (consA (vE 1) (nilA))))) (seqS (dropS (callE 2 m_need_order (consA (vE 2) (consA (binE addD (vE 0) (vE 1)) (nilA))))) (retS (callE 3 m_by_layers (consA (vE 0) (consA (vE 1) (consA (callE 2 m_layers_from (consA (vE 0) (consA (vE 2) (nilA)))) (nilA)))))))
def m_by_order : List D → List D → RE D := defD 3 b_by_order
theorem d_by_order (T : Tx K mg) : DefOk P w K mg base CX0 r "by_order" 5 3 m_by_order := by
  obtain ⟨f, fd, F, hm⟩ := T.f_by_order
  refine fn_def (k := 4) F sc_by_order hm (fun _ _ _ _ _ _ us hl => match us, hl with | [_, _, _], _ => rfl) (fun cdv A outer s H E hr => ?_) (m := b_by_order)
  exact ⟨_, _, (gss_cons (gs_drop (ge_call (d_need_sides T) (hr.mono (by decide)) pass0 (ga_cons (ge_var 0) (ga_cons (ge_var 1) ga_nil)))) (gss_cons (gs_drop (ge_call (d_need_order T) (hr.mono (by decide)) pass0 (ga_cons (ge_var 2) (ga_cons (ge_add ((ge_var 0)).go ((ge_var 1)).go) ga_nil)))) (gss_one (gs_ret (On := []) (ge_call (d_by_layers T) (hr.mono (by decide)) pass0 (ga_cons (ge_var 0) (ga_cons (ge_var 1) (ga_cons (ge_call (d_layers_from T) (hr.mono (by decide)) pass0 (ga_cons (ge_var 0) (ga_cons (ge_var 2) ga_nil))) ga_nil))))))))⟩
abbrev s_layer_ways : Stmt := top 40
theorem sc_layer_ways : FnScope ["picture", "found", "some"] ["picture"] (defScope s_layer_ways) := ⟨rfl, rfl, rfl, by decide +kernel, rfl, by decide +kernel, by decide +kernel⟩
def b_layer_ways : SS := seqS (dropS (callE 1 m_need_free (consA (vE 0) (nilA)))) (seqS (setS 1 (cE (.int 1))) (seqS (forS (seqI (callE 1 m_layers_of (consA (vE 0) (nilA)))) t1 [2] (setS 1 (binE mulD (vE 1) (callE 1 m_product_to (consA (callB lenD (consA (vE 2) (nilA))) (nilA)))))) (retS (vE 1))))
def m_layer_ways : List D → List D → RE D := defD 3 b_layer_ways
theorem d_layer_ways (T : Tx K mg) : DefOk P w K mg base CX0 r "layer_ways" 6 1 m_layer_ways := by
  obtain ⟨f, fd, F, hm⟩ := T.f_layer_ways
  refine fn_def (k := 5) F sc_layer_ways hm (fun _ _ _ _ _ _ us hl => match us, hl with | [_], _ => rfl) (fun cdv A outer s H E hr => ?_) (m := b_layer_ways)
  exact ⟨_, _, (gss_cons (gs_drop (ge_call (d_need_free T) (hr.mono (by decide)) pass0 (ga_cons (ge_var 0) ga_nil))) (gss_cons (GS.post (On' := []) (by decide) (gs_set 1 sc_layer_ways.nd ge_int)) (gss_cons (gs_for .never rfl (gi_seq (ge_call (d_layers_of T) (hr.mono (by decide)) pass0 (ga_cons (ge_var 0) ga_nil))) (gg_name 2 sc_layer_ways.nd) (GSs.post (On' := []) (by decide) (gss_one (GS.post (On' := []) (by decide) (gs_set 1 sc_layer_ways.nd (ge_mul ((ge_var 1)).go ((ge_call (d_product_to T) (hr.mono (by decide)) pass0 (ga_cons (ge_len T.len (gao_cons ((ge_var 2)).go gao_nil)) ga_nil))).go))))) (by decide) (fun d ds h => by cases h; rfl)) (gss_one (gs_ret (On := []) (ge_var 1))))))⟩
abbrev s_is_order : Stmt := top 44
theorem sc_is_order : FnScope ["picture", "value", "line"] ["picture", "value"] (defScope s_is_order) := ⟨rfl, rfl, rfl, by decide +kernel, rfl, by decide +kernel, by decide +kernel⟩
def b_is_order : SS := seqS (dropS (callE 1 m_need_free (consA (vE 0) (nilA)))) (seqS (ifS (orT (notT (boolE (callB isiD (consA (vE 1) (consA (cE (.ty "tuple")) (nilA)))))) (boolE (binE neD (callB lenD (consA (vE 1) (nilA))) (callE 1 m_lines_of (consA (vE 0) (nilA)))))) (retS (cE (.bl false))) (skipS)) (seqS (ifS (notT (boolE (callB allD (consA (compE (seqI (vE 1)) [2] t1 [2] (yesT) (andE (callB isiD (consA (vE 2) (consA (cE (.ty "int")) (nilA)))) (notE (callB isiD (consA (vE 2) (consA (cE (.ty "bool")) (nilA))))))) (nilA))))) (retS (cE (.bl false))) (skipS)) (seqS (ifS (boolE (binE neD (callB sortD (consA (vE 1) (nilA))) (rg1E .lst (callE 1 m_lines_of (consA (vE 0) (nilA)))))) (retS (cE (.bl false))) (skipS)) (retS (binE eqD (callE 3 m_by_layers (consA (callB lenD (consA (vE 0) (nilA))) (consA (callB lenD (consA (binE ixD (vE 0) (cE (.int 0))) (nilA))) (consA (callE 2 m_layers_from (consA (callB lenD (consA (vE 0) (nilA))) (consA (vE 1) (nilA)))) (nilA))))) (vE 0))))))
def m_is_order : List D → List D → RE D := defD 3 b_is_order
theorem d_is_order (T : Tx K mg) : DefOk P w K mg base CX0 r "is_order" 6 2 m_is_order := by
  obtain ⟨f, fd, F, hm⟩ := T.f_is_order
  refine fn_def (k := 5) F sc_is_order hm (fun _ _ _ _ _ _ us hl => match us, hl with | [_, _], _ => rfl) (fun cdv A outer s H E hr => ?_) (m := b_is_order)
  exact ⟨_, _, (gss_cons (gs_drop (ge_call (d_need_free T) (hr.mono (by decide)) pass0 (ga_cons (ge_var 0) ga_nil))) (gss_cons (gs_if ((gw_or (gt_not (gt_val (ge_isi T.isinstance (gao_cons ((ge_var 1)).go (gao_cons ((ge_ty T.tuple)).go gao_nil))))) (gw_or1 (gt_ne hr.units ((ge_len T.len (gao_cons ((ge_var 1)).go gao_nil))).go ((ge_call (d_lines_of T) (hr.mono (by decide)) pass0 (ga_cons (ge_var 0) ga_nil))).go)))).gt (gss_one (gs_ret (On := []) ge_bl)) (GSs.post (On' := []) (by decide) gss_nil)) (gss_cons (gs_if (gt_not (gt_val (ge_all rfl T.all (gao_cons (((gf_lc (own := [("line", 2)]) rfl sc_is_order.nd (gi_seq (ge_var 1)) (blkOk_by (by kernel_rfl)) (fun _ _ _ _ _ => (gg_name 2 sc_is_order.nd)) (fun _ _ _ _ _ => gts_nil) (fun _ _ _ _ _ => (ge_and (ge_isi T.isinstance (gao_cons ((ge_var 2)).go (gao_cons ((ge_ty T.int)).go gao_nil))) (ge_one (ge_not (ge_isi T.isinstance (gao_cons ((ge_var 2)).go (gao_cons ((ge_ty T.bool)).go gao_nil))))))) (by decide) (by decide))).ge).go gao_nil)))) (gss_one (gs_ret (On := []) ge_bl)) (GSs.post (On' := []) (by decide) gss_nil)) (gss_cons (gs_if (gt_ne hr.units (((gf_sorted T.sorted (gao_cons ((ge_var 1)).go gao_nil))).ge).go (((gf_listRg1 T.list T.range ((ge_call (d_lines_of T) (hr.mono (by decide)) pass0 (ga_cons (ge_var 0) ga_nil))).go)).ge).go) (gss_one (gs_ret (On := []) ge_bl)) (GSs.post (On' := []) (by decide) gss_nil)) (gss_one (gs_ret (On := []) (ge_eq hr.units ((ge_call (d_by_layers T) (hr.mono (by decide)) pass0 (ga_cons (ge_len T.len (gao_cons ((ge_var 0)).go gao_nil)) (ga_cons (ge_len T.len (gao_cons ((ge_sub1 ((ge_var 0)).go (ge_int).go)).go gao_nil)) (ga_cons (ge_call (d_layers_from T) (hr.mono (by decide)) pass0 (ga_cons (ge_len T.len (gao_cons ((ge_var 0)).go gao_nil)) (ga_cons (ge_var 1) ga_nil))) ga_nil))))).go ((ge_var 0)).go)))))))⟩
abbrev s_count_orders : Stmt := top 45
theorem sc_count_orders : FnScope ["picture", "found", "some"] ["picture"] (defScope s_count_orders) := ⟨rfl, rfl, rfl, by decide +kernel, rfl, by decide +kernel, by decide +kernel⟩
def b_count_orders : SS := seqS (dropS (callE 1 m_need_free (consA (vE 0) (nilA)))) (seqS (setS 1 (cE (.int 1))) (seqS (forS (seqI (callE 1 m_layers_of (consA (vE 0) (nilA)))) t1 [2] (setS 1 (binE mulD (vE 1) (callE 1 m_product_to (consA (callB lenD (consA (vE 2) (nilA))) (nilA)))))) (retS (vE 1))))
def m_count_orders : List D → List D → RE D := defD 3 b_count_orders
theorem d_count_orders (T : Tx K mg) : DefOk P w K mg base CX0 r "count_orders" 6 1 m_count_orders := by
  obtain ⟨f, fd, F, hm⟩ := T.f_count_orders
  refine fn_def (k := 5) F sc_count_orders hm (fun _ _ _ _ _ _ us hl => match us, hl with | [_], _ => rfl) (fun cdv A outer s H E hr => ?_) (m := b_count_orders)
  exact ⟨_, _, (gss_cons (gs_drop (ge_call (d_need_free T) (hr.mono (by decide)) pass0 (ga_cons (ge_var 0) ga_nil))) (gss_cons (GS.post (On' := []) (by decide) (gs_set 1 sc_count_orders.nd ge_int)) (gss_cons (gs_for .never rfl (gi_seq (ge_call (d_layers_of T) (hr.mono (by decide)) pass0 (ga_cons (ge_var 0) ga_nil))) (gg_name 2 sc_count_orders.nd) (GSs.post (On' := []) (by decide) (gss_one (GS.post (On' := []) (by decide) (gs_set 1 sc_count_orders.nd (ge_mul ((ge_var 1)).go ((ge_call (d_product_to T) (hr.mono (by decide)) pass0 (ga_cons (ge_len T.len (gao_cons ((ge_var 2)).go gao_nil)) ga_nil))).go))))) (by decide) (fun d ds h => by cases h; rfl)) (gss_one (gs_ret (On := []) (ge_var 1))))))⟩
abbrev s_places : Stmt := top 48
theorem sc_places : FnScope ["picture", "line", "ahead", "some"] ["picture", "line"] (defScope s_places) := ⟨rfl, rfl, rfl, by decide +kernel, rfl, by decide +kernel, by decide +kernel⟩
def b_places : SS := seqS (dropS (callE 1 m_need_free (consA (vE 0) (nilA)))) (seqS (dropS (callE 2 m_need_line (consA (vE 0) (consA (vE 1) (nilA))))) (seqS (setS 2 (cE (.int 0))) (seqS (forS (seqI (revE (callE 1 m_layers_of (consA (vE 0) (nilA))))) t1 [3] (seqS (ifS (boolE (binE inD (vE 1) (vE 3))) (retS (tupE (consA (vE 2) (consA (binE subD (binE addD (vE 2) (callB lenD (consA (vE 3) (nilA)))) (cE (.int 1))) (nilA))))) (skipS)) (augS 2 addD (callB lenD (consA (vE 3) (nilA)))))) (retS (cE .non)))))
def m_places : List D → List D → RE D := defD 4 b_places
theorem d_places (T : Tx K mg) : DefOk P w K mg base CX0 r "places" 6 2 m_places := by
  obtain ⟨f, fd, F, hm⟩ := T.f_places
  refine fn_def (k := 5) F sc_places hm (fun _ _ _ _ _ _ us hl => match us, hl with | [_, _], _ => rfl) (fun cdv A outer s H E hr => ?_) (m := b_places)
  exact ⟨_, _, (gss_cons (gs_drop (ge_call (d_need_free T) (hr.mono (by decide)) pass0 (ga_cons (ge_var 0) ga_nil))) (gss_cons (gs_drop (ge_call (d_need_line T) (hr.mono (by decide)) pass0 (ga_cons (ge_var 0) (ga_cons (ge_var 1) ga_nil)))) (gss_cons (GS.post (On' := []) (by decide) (gs_set 2 sc_places.nd ge_int)) (gss_cons (gs_for .never rfl (gi_seq ((gf_rev ((ge_call (d_layers_of T) (hr.mono (by decide)) pass0 (ga_cons (ge_var 0) ga_nil))).go)).ge) (gg_name 3 sc_places.nd) (GSs.post (On' := []) (by decide) (gss_cons (gs_if (gt_in hr.units ((ge_var 1)).go ((ge_var 3)).go) (gss_one (gs_ret (On := []) (ge_tup (ga_cons (ge_var 2) (ga_cons (ge_sub ((ge_add ((ge_var 2)).go ((ge_len T.len (gao_cons ((ge_var 3)).go gao_nil))).go)).go (ge_int).go) ga_nil))))) (GSs.post (On' := []) (by decide) gss_nil)) (gss_one (gs_augAdd 2 sc_places.nd (ge_len T.len (gao_cons ((ge_var 3)).go gao_nil)))))) (by decide) (fun d ds h => by cases h; rfl)) (gss_one (gs_ret (On := []) ge_non))))))⟩
abbrev s_before_share : Stmt := top 50
theorem sc_before_share : FnScope ["picture", "one", "other", "some"] ["picture", "one", "other"] (defScope s_before_share) := ⟨rfl, rfl, rfl, by decide +kernel, rfl, by decide +kernel, by decide +kernel⟩
def b_before_share : SS := seqS (dropS (callE 1 m_need_free (consA (vE 0) (nilA)))) (seqS (dropS (callE 2 m_need_line (consA (vE 0) (consA (vE 1) (nilA))))) (seqS (dropS (callE 2 m_need_line (consA (vE 0) (consA (vE 2) (nilA))))) (seqS (forS (seqI (callE 1 m_layers_of (consA (vE 0) (nilA)))) t1 [3] (seqS (ifS (andT (boolE (binE inD (vE 1) (vE 3))) (boolE (binE inD (vE 2) (vE 3)))) (retS (ifE (boolE (binE neD (vE 1) (vE 2))) (tupE (consA (cE (.int 1)) (consA (cE (.int 2)) (nilA)))) (tupE (consA (cE (.int 0)) (consA (cE (.int 1)) (nilA)))))) (skipS)) (seqS (ifS (boolE (binE inD (vE 1) (vE 3))) (retS (tupE (consA (cE (.int 0)) (consA (cE (.int 1)) (nilA))))) (skipS)) (ifS (boolE (binE inD (vE 2) (vE 3))) (retS (tupE (consA (cE (.int 1)) (consA (cE (.int 1)) (nilA))))) (skipS))))) (retS (cE .non)))))
def m_before_share : List D → List D → RE D := defD 4 b_before_share
theorem d_before_share (T : Tx K mg) : DefOk P w K mg base CX0 r "before_share" 6 3 m_before_share := by
  obtain ⟨f, fd, F, hm⟩ := T.f_before_share
  refine fn_def (k := 5) F sc_before_share hm (fun _ _ _ _ _ _ us hl => match us, hl with | [_, _, _], _ => rfl) (fun cdv A outer s H E hr => ?_) (m := b_before_share)
  exact ⟨_, _, (gss_cons (gs_drop (ge_call (d_need_free T) (hr.mono (by decide)) pass0 (ga_cons (ge_var 0) ga_nil))) (gss_cons (gs_drop (ge_call (d_need_line T) (hr.mono (by decide)) pass0 (ga_cons (ge_var 0) (ga_cons (ge_var 1) ga_nil)))) (gss_cons (gs_drop (ge_call (d_need_line T) (hr.mono (by decide)) pass0 (ga_cons (ge_var 0) (ga_cons (ge_var 2) ga_nil)))) (gss_cons (gs_for .never rfl (gi_seq (ge_call (d_layers_of T) (hr.mono (by decide)) pass0 (ga_cons (ge_var 0) ga_nil))) (gg_name 3 sc_before_share.nd) (GSs.post (On' := []) (by decide) (gss_cons (gs_if ((gw_and (gt_in hr.units ((ge_var 1)).go ((ge_var 3)).go) (gw_and1 (gt_in hr.units ((ge_var 2)).go ((ge_var 3)).go)))).gt (gss_one (gs_ret (On := []) (ge_ifExp (gt_ne hr.units ((ge_var 1)).go ((ge_var 2)).go) (ge_tup (ga_cons ge_int (ga_cons ge_int ga_nil))) (ge_tup (ga_cons ge_int (ga_cons ge_int ga_nil)))))) (GSs.post (On' := []) (by decide) gss_nil)) (gss_cons (gs_if (gt_in hr.units ((ge_var 1)).go ((ge_var 3)).go) (gss_one (gs_ret (On := []) (ge_tup (ga_cons ge_int (ga_cons ge_int ga_nil))))) (GSs.post (On' := []) (by decide) gss_nil)) (gss_one (gs_if (gt_in hr.units ((ge_var 2)).go ((ge_var 3)).go) (gss_one (gs_ret (On := []) (ge_tup (ga_cons ge_int (ga_cons ge_int ga_nil))))) (GSs.post (On' := []) (by decide) gss_nil)))))) (by decide) (fun d ds h => by cases h; rfl)) (gss_one (gs_ret (On := []) ge_non))))))⟩
abbrev s_order_at : Stmt := top 46
theorem sc_order_at : FnScope ["picture", "index", "whole", "found", "some", "left", "turn"] ["picture", "index"] (defScope s_order_at) := ⟨rfl, rfl, rfl, by decide +kernel, rfl, by decide +kernel, by decide +kernel⟩
def b_order_at : SS := seqS (setS 2 (callE 1 m_count_orders (consA (vE 0) (nilA)))) (seqS (dropS (callE 3 m_need_number (consA (vE 1) (consA (cE (.int 0)) (consA (binE subD (vE 2) (cE (.int 1))) (nilA)))))) (seqS (setFS 3 (lstE (nilA))) (seqS (forS (seqI (revE (callE 1 m_layers_of (consA (vE 0) (nilA))))) t1 [4] (seqS (setFS 5 (callB listD (consA (vE 4) (nilA)))) (forS (rangeI range1D (consA (callB lenD (consA (vE 4) (nilA))) (nilA))) t1 [6] (seqS (augS 2 fdivD (callB lenD (consA (vE 5) (nilA)))) (seqS (appPopS 3 5 (binE fdivD (vE 1) (vE 2))) (setS 1 (binE modD (vE 1) (vE 2)))))))) (retS (callB tupleqD (consA (vE 3) (nilA)))))))
def m_order_at : List D → List D → RE D := defD 7 b_order_at
theorem d_order_at (T : Tx K mg) : DefOk P w K mg base CX0 r "order_at" 7 2 m_order_at := by
  obtain ⟨f, fd, F, hm⟩ := T.f_order_at
  refine fn_def (k := 6) F sc_order_at hm (fun _ _ _ _ _ _ us hl => match us, hl with | [_, _], _ => rfl) (fun cdv A outer s H E hr => ?_) (m := b_order_at)
  exact ⟨_, _, (gss_cons (GS.post (On' := []) (by decide) (gs_set 2 sc_order_at.nd (ge_call (d_count_orders T) (hr.mono (by decide)) pass0 (ga_cons (ge_var 0) ga_nil)))) (gss_cons (gs_drop (ge_call (d_need_number T) (hr.mono (by decide)) pass0 (ga_cons (ge_var 1) (ga_cons ge_int (ga_cons (ge_sub ((ge_var 2)).go (ge_int).go) ga_nil))))) (gss_cons (GS.post (On' := [3]) (by decide) (gs_setF 3 sc_order_at.nd (gf_lst ga_nil))) (gss_cons (gs_for .never rfl (gi_seq ((gf_rev ((ge_call (d_layers_of T) (hr.mono (by decide)) pass0 (ga_cons (ge_var 0) ga_nil))).go)).ge) (gg_name 4 sc_order_at.nd) (GSs.post (On' := [3]) (by decide) (gss_cons (GS.post (On' := [3, 5]) (by decide) (gs_setF 5 sc_order_at.nd (gf_list1 T.list (gao_cons ((ge_var 4)).go gao_nil)))) (gss_one (gs_for .never rfl (gi_range1 T.range (gao_cons ((ge_len T.len (gao_cons ((ge_var 4)).go gao_nil))).go gao_nil)) (gg_name 6 sc_order_at.nd) (GSs.post (On' := [3, 5]) (by decide) (gss_cons (gs_augFdiv 2 sc_order_at.nd (ge_len T.len (gao_cons (go_own 5) gao_nil))) (gss_cons (gs_appPop 3 5 (by decide) (by decide) (by decide) (ge_fdiv ((ge_var 1)).go ((ge_var 2)).go)) (gss_one (GS.post (On' := [3, 5]) (by decide) (gs_set 1 sc_order_at.nd (ge_mod ((ge_var 1)).go ((ge_var 2)).go))))))) (by decide) (fun d ds h => by cases h; rfl))))) (by decide) (fun d ds h => by cases h; rfl)) (gss_one (gs_ret (On := []) (ge_tupleQ T.tuple (gao_cons (go_own 3) gao_nil))))))))⟩
abbrev s_order_number : Stmt := top 47
theorem sc_order_number : FnScope ["picture", "value", "found", "at", "some", "left", "turn"] ["picture", "value"] (defScope s_order_number) := ⟨rfl, rfl, rfl, by decide +kernel, rfl, by decide +kernel, by decide +kernel⟩
def b_order_number : SS := seqS (ifS (notT (boolE (callE 2 m_is_order (consA (vE 0) (consA (vE 1) (nilA)))))) ((fun _ _ => .stuck)) (skipS)) (seqS (parS [2, 3] (consA (cE (.int 0)) (consA (cE (.int 0)) (nilA)))) (seqS (forS (seqI (revE (callE 1 m_layers_of (consA (vE 0) (nilA))))) t1 [4] (seqS (setFS 5 (callB listD (consA (vE 4) (nilA)))) (forS (rangeI range1D (consA (callB lenD (consA (vE 4) (nilA))) (nilA))) t1 [6] (seqS (setS 2 (binE addD (binE mulD (vE 2) (callB lenD (consA (vE 5) (nilA)))) (methE isLstD indexD (vE 5) (binE ixD (vE 1) (vE 3))))) (seqS (lremS 5 (binE ixD (vE 1) (vE 3))) (augS 3 addD (cE (.int 1)))))))) (retS (vE 2))))
def m_order_number : List D → List D → RE D := defD 7 b_order_number
theorem d_order_number (T : Tx K mg) : DefOk P w K mg base CX0 r "order_number" 7 2 m_order_number := by
  obtain ⟨f, fd, F, hm⟩ := T.f_order_number
  refine fn_def (k := 6) F sc_order_number hm (fun _ _ _ _ _ _ us hl => match us, hl with | [_, _], _ => rfl) (fun cdv A outer s H E hr => ?_) (m := b_order_number)
  exact ⟨_, _, (gss_cons (gs_if (gt_not (gt_val (ge_call (d_is_order T) (hr.mono (by decide)) pass0 (ga_cons (ge_var 0) (ga_cons (ge_var 1) ga_nil))))) (gss_one (gs_never (On := []))) (GSs.post (On' := []) (by decide) gss_nil)) (gss_cons (GS.post (On' := []) (by decide) (gs_tup (gak_st ge_int (gak_st ge_int gak_nil)) (ggs_cons 2 sc_order_number.nd (ggs_cons 3 sc_order_number.nd ggs_nil)))) (gss_cons (gs_for .never rfl (gi_seq ((gf_rev ((ge_call (d_layers_of T) (hr.mono (by decide)) pass0 (ga_cons (ge_var 0) ga_nil))).go)).ge) (gg_name 4 sc_order_number.nd) (GSs.post (On' := []) (by decide) (gss_cons (GS.post (On' := [5]) (by decide) (gs_setF 5 sc_order_number.nd (gf_list1 T.list (gao_cons ((ge_var 4)).go gao_nil)))) (gss_one (gs_for .never rfl (gi_range1 T.range (gao_cons ((ge_len T.len (gao_cons ((ge_var 4)).go gao_nil))).go gao_nil)) (gg_name 6 sc_order_number.nd) (GSs.post (On' := [5]) (by decide) (gss_cons (GS.post (On' := [5]) (by decide) (gs_set 2 sc_order_number.nd (ge_add ((ge_mul ((ge_var 2)).go ((ge_len T.len (gao_cons (go_own 5) gao_nil))).go)).go ((ge_index (go_own 5) ((ge_sub1 ((ge_var 1)).go ((ge_var 3)).go)).go)).go))) (gss_cons (gs_lrem 5 rfl (by decide) (ge_sub1 ((ge_var 1)).go ((ge_var 3)).go)) (gss_one (gs_augAdd 3 sc_order_number.nd ge_int))))) (by decide) (fun d ds h => by cases h; rfl))))) (by decide) (fun d ds h => by cases h; rfl)) (gss_one (gs_ret (On := []) (ge_var 2))))))⟩
abbrev s_mean_place : Stmt := top 49
theorem sc_mean_place : FnScope ["picture", "line", "low", "high"] ["picture", "line"] (defScope s_mean_place) := ⟨rfl, rfl, rfl, by decide +kernel, rfl, by decide +kernel, by decide +kernel⟩
def b_mean_place : SS := seqS (unpS 2 [2, 3] (callE 2 m_places (consA (vE 0) (consA (vE 1) (nilA))))) (retS (callE 2 m_lowered (consA (binE addD (vE 2) (vE 3)) (consA (cE (.int 2)) (nilA)))))
def m_mean_place : List D → List D → RE D := defD 4 b_mean_place
theorem d_mean_place (T : Tx K mg) : DefOk P w K mg base CX0 r "mean_place" 7 2 m_mean_place := by
  obtain ⟨f, fd, F, hm⟩ := T.f_mean_place
  refine fn_def (k := 6) F sc_mean_place hm (fun _ _ _ _ _ _ us hl => match us, hl with | [_, _], _ => rfl) (fun cdv A outer s H E hr => ?_) (m := b_mean_place)
  exact ⟨_, _, (gss_cons (gs_unp (ge_call (d_places T) (hr.mono (by decide)) pass0 (ga_cons (ge_var 0) (ga_cons (ge_var 1) ga_nil))) (ggs_cons 2 sc_mean_place.nd (ggs_cons 3 sc_mean_place.nd ggs_nil)) (by decide)) (gss_one (gs_ret (On := []) (ge_call (d_lowered T) (hr.mono (by decide)) pass0 (ga_cons (ge_add ((ge_var 2)).go ((ge_var 3)).go) (ga_cons ge_int ga_nil))))))⟩
abbrev s_swaps : Stmt := top 52
theorem sc_swaps : FnScope ["picture", "value", "rows", "at"] ["picture", "value"] (defScope s_swaps) := ⟨rfl, rfl, rfl, by decide +kernel, rfl, by decide +kernel, by decide +kernel⟩
def b_swaps : SS := seqS (ifS (notT (boolE (callE 2 m_is_order (consA (vE 0) (consA (vE 1) (nilA)))))) ((fun _ _ => .stuck)) (skipS)) (seqS (setS 2 (callB lenD (consA (vE 0) (nilA)))) (retS (callB tupleD (consA (compE (rangeI range1D (consA (binE subD (callB lenD (consA (vE 1) (nilA))) (cE (.int 1))) (nilA))) [3] t1 [3] (boolE (binE eqD (binE ltD (binE ixD (vE 1) (vE 3)) (vE 2)) (binE ltD (binE ixD (vE 1) (binE addD (vE 3) (cE (.int 1)))) (vE 2)))) (vE 3)) (nilA)))))
def m_swaps : List D → List D → RE D := defD 4 b_swaps
theorem d_swaps (T : Tx K mg) : DefOk P w K mg base CX0 r "swaps" 7 2 m_swaps := by
  obtain ⟨f, fd, F, hm⟩ := T.f_swaps
  refine fn_def (k := 6) F sc_swaps hm (fun _ _ _ _ _ _ us hl => match us, hl with | [_, _], _ => rfl) (fun cdv A outer s H E hr => ?_) (m := b_swaps)
  exact ⟨_, _, (gss_cons (gs_if (gt_not (gt_val (ge_call (d_is_order T) (hr.mono (by decide)) pass0 (ga_cons (ge_var 0) (ga_cons (ge_var 1) ga_nil))))) (gss_one (gs_never (On := []))) (GSs.post (On' := []) (by decide) gss_nil)) (gss_cons (GS.post (On' := []) (by decide) (gs_set 2 sc_swaps.nd (ge_len T.len (gao_cons ((ge_var 0)).go gao_nil)))) (gss_one (gs_ret (On := []) (ge_tuple T.tuple (gao_cons (((gf_lc (own := [("at", 3)]) rfl sc_swaps.nd (gi_range1 T.range (gao_cons ((ge_sub ((ge_len T.len (gao_cons ((ge_var 1)).go gao_nil))).go (ge_int).go)).go gao_nil)) (blkOk_by (by kernel_rfl)) (fun _ _ _ _ _ => (gg_name 3 sc_swaps.nd)) (fun _ _ _ _ _ => (gts_one (gt_eq hr.units ((ge_lt ((ge_sub1 ((ge_var 1)).go ((ge_var 3)).go)).go ((ge_var 2)).go)).go ((ge_lt ((ge_sub1 ((ge_var 1)).go ((ge_add ((ge_var 3)).go (ge_int).go)).go)).go ((ge_var 2)).go)).go))) (fun _ _ _ _ _ => (ge_var 3)) (by decide) (by decide))).ge).go gao_nil))))))⟩
abbrev s_place_shares : Stmt := top 53
theorem sc_place_shares : FnScope ["picture", "line", "low", "high", "share", "at"] ["picture", "line"] (defScope s_place_shares) := ⟨rfl, rfl, rfl, by decide +kernel, rfl, by decide +kernel, by decide +kernel⟩
def b_place_shares : SS := seqS (unpS 2 [2, 3] (callE 2 m_places (consA (vE 0) (consA (vE 1) (nilA))))) (seqS (setS 4 (callE 2 m_lowered (consA (cE (.int 1)) (consA (binE addD (binE subD (vE 3) (vE 2)) (cE (.int 1))) (nilA))))) (retS (callB tupleD (consA (compE (rangeI range1D (consA (callE 1 m_lines_of (consA (vE 0) (nilA))) (nilA))) [5] t1 [5] (yesT) (ifE (boolE (chainE leD leD (vE 2) (vE 5) (vE 3))) (vE 4) (tupE (consA (cE (.int 0)) (consA (cE (.int 1)) (nilA)))))) (nilA)))))
def m_place_shares : List D → List D → RE D := defD 6 b_place_shares
theorem d_place_shares (T : Tx K mg) : DefOk P w K mg base CX0 r "place_shares" 7 2 m_place_shares := by
  obtain ⟨f, fd, F, hm⟩ := T.f_place_shares
  refine fn_def (k := 6) F sc_place_shares hm (fun _ _ _ _ _ _ us hl => match us, hl with | [_, _], _ => rfl) (fun cdv A outer s H E hr => ?_) (m := b_place_shares)
  exact ⟨_, _, (gss_cons (gs_unp (ge_call (d_places T) (hr.mono (by decide)) pass0 (ga_cons (ge_var 0) (ga_cons (ge_var 1) ga_nil))) (ggs_cons 2 sc_place_shares.nd (ggs_cons 3 sc_place_shares.nd ggs_nil)) (by decide)) (gss_cons (GS.post (On' := []) (by decide) (gs_set 4 sc_place_shares.nd (ge_call (d_lowered T) (hr.mono (by decide)) pass0 (ga_cons ge_int (ga_cons (ge_add ((ge_sub ((ge_var 3)).go ((ge_var 2)).go)).go (ge_int).go) ga_nil))))) (gss_one (gs_ret (On := []) (ge_tuple T.tuple (gao_cons (((gf_lc (own := [("at", 5)]) rfl sc_place_shares.nd (gi_range1 T.range (gao_cons ((ge_call (d_lines_of T) (hr.mono (by decide)) pass0 (ga_cons (ge_var 0) ga_nil))).go gao_nil)) (blkOk_by (by kernel_rfl)) (fun _ _ _ _ _ => (gg_name 5 sc_place_shares.nd)) (fun _ _ _ _ _ => gts_nil) (fun _ _ _ _ _ => (ge_ifExp (gt_leLe ((ge_var 2)).go ((ge_var 5)).go ((ge_var 3)).go) (ge_var 4) (ge_tup (ga_cons ge_int (ga_cons ge_int ga_nil))))) (by decide) (by decide))).ge).go gao_nil))))))⟩
abbrev s_next_order : Stmt := top 51
theorem sc_next_order : FnScope ["picture", "value", "index"] ["picture", "value"] (defScope s_next_order) := ⟨rfl, rfl, rfl, by decide +kernel, rfl, by decide +kernel, by decide +kernel⟩
def b_next_order : SS := seqS (setS 2 (binE addD (callE 2 m_order_number (consA (vE 0) (consA (vE 1) (nilA)))) (cE (.int 1)))) (retS (ifE (boolE (binE ltD (vE 2) (callE 1 m_count_orders (consA (vE 0) (nilA))))) (unqE (callE 2 m_order_at (consA (vE 0) (consA (vE 2) (nilA))))) (cE .non)))
def m_next_order : List D → List D → RE D := defD 3 b_next_order
theorem d_next_order (T : Tx K mg) : DefOk P w K mg base CX0 r "next_order" 8 2 m_next_order := by
  obtain ⟨f, fd, F, hm⟩ := T.f_next_order
  refine fn_def (k := 7) F sc_next_order hm (fun _ _ _ _ _ _ us hl => match us, hl with | [_, _], _ => rfl) (fun cdv A outer s H E hr => ?_) (m := b_next_order)
  exact ⟨_, _, (gss_cons (GS.post (On' := []) (by decide) (gs_set 2 sc_next_order.nd (ge_add ((ge_call (d_order_number T) (hr.mono (by decide)) pass0 (ga_cons (ge_var 0) (ga_cons (ge_var 1) ga_nil)))).go (ge_int).go))) (gss_one (gs_ret (On := []) (ge_ifExp (gt_lt ((ge_var 2)).go ((ge_call (d_count_orders T) (hr.mono (by decide)) pass0 (ga_cons (ge_var 0) ga_nil))).go) (ge_unq (ge_call (d_order_at T) (hr.mono (by decide)) pass0 (ga_cons (ge_var 0) (ga_cons (ge_var 2) ga_nil))).go) ge_non))))⟩
abbrev s_law : Stmt := top 63
theorem sc_law : FnScope ["_law_script", "_law_row", "_law_picture", "_law_high", "_law_wide", "_law_many", "_law_index", "_law_told", "_law_there", "_law_shifts", "_law_some", "_law_line", "_law_other", "_law_low", "_law_last", "_law_shares", "_law_whole", "_law_mean", "_law_at"] ["_law_script"] (defScope s_law) := ⟨rfl, rfl, rfl, by decide +kernel, rfl, by decide +kernel, by decide +kernel⟩
def b_law : SS := seqS (setS 2 (callE 2 m_law_free (consA (vE 1) (consA (cE (.int 14)) (nilA))))) (seqS (parS [3, 4, 5] (consA (callB lenD (consA (vE 2) (nilA))) (consA (callB lenD (consA (binE ixD (vE 2) (cE (.int 0))) (nilA))) (consA (callE 1 m_count_orders (consA (vE 2) (nilA))) (nilA))))) (seqS (ifS (boolE (binE neD (vE 5) (callE 1 m_layer_ways (consA (vE 2) (nilA))))) (retS (cE (.bl false))) (skipS)) (seqS (setS 6 (binE modD (binE mulD (callE 2 m_law_taken (consA (vE 1) (consA (binE powD (cE (.int 10)) (cE (.int 9))) (nilA)))) (callE 2 m_law_taken (consA (vE 1) (consA (binE powD (cE (.int 10)) (cE (.int 9))) (nilA))))) (vE 5))) (seqS (setS 7 (callE 2 m_order_at (consA (vE 2) (consA (vE 6) (nilA))))) (seqS (ifS (orT (boolE (binE neD (callE 2 m_order_number (consA (vE 2) (consA (unqE (vE 7)) (nilA)))) (vE 6))) (boolE (binE isNotNoneD (callE 2 m_is_order (consA (vE 2) (consA (unqE (vE 7)) (nilA)))) (cE (.bl true))))) (retS (cE (.bl false))) (skipS)) (seqS (ifS (boolE (binE neD (callE 3 m_by_order (consA (vE 3) (consA (vE 4) (consA (unqE (vE 7)) (nilA))))) (vE 2))) (retS (cE (.bl false))) (skipS)) (seqS (ifS (orT (boolE (binE neD (callE 2 m_painted (consA (callE 3 m_plain (consA (vE 3) (consA (vE 4) (consA (cE (.int 1)) (nilA))))) (consA (callB listD (consA (unqE (vE 7)) (nilA))) (nilA)))) (vE 2))) (boolE (binE neD (callE 2 m_painted (consA (callE 3 m_plain (consA (vE 3) (consA (vE 4) (consA (cE (.int 0)) (nilA))))) (consA (callB listD (consA (unqE (vE 7)) (nilA))) (nilA)))) (vE 2)))) (retS (cE (.bl false))) (skipS)) (seqS (setS 8 (callE 2 m_next_order (consA (vE 2) (consA (unqE (vE 7)) (nilA))))) (seqS (ifS (boolE (binE neD (binE isNoneD (vE 8) (cE .non)) (binE eqD (binE addD (vE 6) (cE (.int 1))) (vE 5)))) (retS (cE (.bl false))) (skipS)) (seqS (ifS (andT (boolE (binE isNotNoneD (vE 8) (cE .non))) (orT (boolE (binE leTD (vE 8) (unqE (vE 7)))) (boolE (binE neD (callE 2 m_order_number (consA (vE 2) (consA (vE 8) (nilA)))) (binE addD (vE 6) (cE (.int 1))))))) (retS (cE (.bl false))) (skipS)) (seqS (setS 9 (cE (.int 0))) (seqS (forS (seqI (callE 1 m_layers (consA (vE 2) (nilA)))) t1 [10] (setS 9 (binE subD (binE addD (vE 9) (callB lenD (consA (vE 10) (nilA)))) (cE (.int 1))))) (seqS (ifS (boolE (binE neD (callB lenD (consA (callE 2 m_swaps (consA (vE 2) (consA (unqE (vE 7)) (nilA)))) (nilA))) (vE 9))) (retS (cE (.bl false))) (skipS)) (seqS (parS [11, 12] (consA (callE 2 m_law_taken (consA (vE 1) (consA (binE addD (vE 3) (vE 4)) (nilA)))) (consA (callE 2 m_law_taken (consA (vE 1) (consA (binE addD (vE 3) (vE 4)) (nilA)))) (nilA)))) (seqS (unpS 2 [13, 14] (callE 2 m_places (consA (vE 2) (consA (vE 11) (nilA))))) (seqS (ifS (orT (notT (boolE (chainE leD leD (vE 13) (indexTE (vE 7) (vE 11)) (vE 14)))) (boolE (binE neD (callE 2 m_mean_place (consA (vE 2) (consA (vE 11) (nilA)))) (callE 2 m_law_lowered (consA (binE addD (vE 13) (vE 14)) (consA (cE (.int 2)) (nilA))))))) (retS (cE (.bl false))) (skipS)) (seqS (parS [15, 16, 17] (consA (callE 2 m_place_shares (consA (vE 2) (consA (vE 11) (nilA)))) (consA (tupE (consA (cE (.int 0)) (consA (cE (.int 1)) (nilA)))) (consA (tupE (consA (cE (.int 0)) (consA (cE (.int 1)) (nilA)))) (nilA))))) (seqS (forS (rangeI range1D (consA (binE addD (vE 3) (vE 4)) (nilA))) t1 [18] (parS [16, 17] (consA (callE 2 m_law_plus (consA (vE 16) (consA (binE ixD (vE 15) (vE 18)) (nilA)))) (consA (callE 2 m_law_plus (consA (vE 17) (consA (callE 2 m_law_lowered (consA (binE mulD (binE ixD (binE ixD (vE 15) (vE 18)) (cE (.int 0))) (vE 18)) (consA (binE ixD (binE ixD (vE 15) (vE 18)) (cE (.int 1))) (nilA)))) (nilA)))) (nilA))))) (seqS (ifS (orT (boolE (binE neD (vE 16) (tupE (consA (cE (.int 1)) (consA (cE (.int 1)) (nilA)))))) (orT (boolE (binE neD (vE 17) (callE 2 m_mean_place (consA (vE 2) (consA (vE 11) (nilA)))))) (boolE (binE neD (compE (rangeI range1D (consA (binE addD (vE 3) (vE 4)) (nilA))) [18] t1 [18] (boolE (binE neD (binE gtD (binE ixD (binE ixD (vE 15) (vE 18)) (cE (.int 0))) (cE (.int 0))) (chainE leD leD (vE 13) (vE 18) (vE 14)))) (vE 18)) (lstE (nilA)))))) (retS (cE (.bl false))) (skipS)) (seqS (ifS (boolE (binE eqD (vE 11) (vE 12))) (retS (binE eqD (callE 3 m_before_share (consA (vE 2) (consA (vE 11) (consA (vE 12) (nilA))))) (tupE (consA (cE (.int 0)) (consA (cE (.int 1)) (nilA)))))) (skipS)) (retS (binE eqD (callE 2 m_law_plus (consA (callE 3 m_before_share (consA (vE 2) (consA (vE 11) (consA (vE 12) (nilA))))) (consA (callE 3 m_before_share (consA (vE 2) (consA (vE 12) (consA (vE 11) (nilA))))) (nilA)))) (tupE (consA (cE (.int 1)) (consA (cE (.int 1)) (nilA))))))))))))))))))))))))))
theorem law_body (T : Tx K mg) {f : Addr} {qual : Str} (r : Addr) (cdv : Value) (A : Around) (outer : List Env) (s : Shared) (H : Hp) (E : XK) (hr : Room 8 (A.deeper (PyProof.Rows.envOfC qual (defScope s_law) s.heap.objs.size f cdv))) : ∃ On u, GSs K mg r (cxOf CX0 P w K mg base ["_law_script", "_law_row", "_law_picture", "_law_high", "_law_wide", "_law_many", "_law_index", "_law_told", "_law_there", "_law_shifts", "_law_some", "_law_line", "_law_other", "_law_low", "_law_last", "_law_shares", "_law_whole", "_law_mean", "_law_at"] qual (defScope s_law) f cdv A outer s H E).nox E0 [] On [] (defBody s_law).tail u b_law := by
  exact ⟨_, _, (gss_cons (GS.post (On' := []) (by decide) (gs_set 2 sc_law.nd (ge_call (d_law_free T) (hr.mono (by decide)) pass0 (ga_cons (ge_var 1) (ga_cons ge_int ga_nil))))) (gss_cons (GS.post (On' := []) (by decide) (gs_par3 3 4 5 sc_law.nd (gak_st (ge_len T.len (gao_cons ((ge_var 2)).go gao_nil)) (gak_st (ge_len T.len (gao_cons ((ge_sub1 ((ge_var 2)).go (ge_int).go)).go gao_nil)) (gak_st (ge_call (d_count_orders T) (hr.mono (by decide)) pass0 (ga_cons (ge_var 2) ga_nil)) gak_nil))))) (gss_cons (gs_if (gt_ne hr.units ((ge_var 5)).go ((ge_call (d_layer_ways T) (hr.mono (by decide)) pass0 (ga_cons (ge_var 2) ga_nil))).go) (gss_one (gs_ret (On := []) ge_bl)) (GSs.post (On' := []) (by decide) gss_nil)) (gss_cons (GS.post (On' := []) (by decide) (gs_set 6 sc_law.nd (ge_mod ((ge_mul ((ge_call (d_law_taken T) (hr.mono (by decide)) pass0 (ga_cons (ge_var 1) (ga_cons (ge_pow (ge_int).go (ge_int).go) ga_nil)))).go ((ge_call (d_law_taken T) (hr.mono (by decide)) pass0 (ga_cons (ge_var 1) (ga_cons (ge_pow (ge_int).go (ge_int).go) ga_nil)))).go)).go ((ge_var 5)).go))) (gss_cons (GS.post (On' := []) (by decide) (gs_set 7 sc_law.nd (ge_call (d_order_at T) (hr.mono (by decide)) pass0 (ga_cons (ge_var 2) (ga_cons (ge_var 6) ga_nil))))) (gss_cons (gs_if ((gw_or (gt_ne hr.units ((ge_call (d_order_number T) (hr.mono (by decide)) pass0 (ga_cons (ge_var 2) (ga_cons (ge_unq (ge_var 7).go) ga_nil)))).go ((ge_var 6)).go) (gw_or1 (gt_isNot ((ge_call (d_is_order T) (hr.mono (by decide)) pass0 (ga_cons (ge_var 2) (ga_cons (ge_unq (ge_var 7).go) ga_nil)))).go (ge_bl).go)))).gt (gss_one (gs_ret (On := []) ge_bl)) (GSs.post (On' := []) (by decide) gss_nil)) (gss_cons (gs_if (gt_ne hr.units ((ge_call (d_by_order T) (hr.mono (by decide)) pass0 (ga_cons (ge_var 3) (ga_cons (ge_var 4) (ga_cons (ge_unq (ge_var 7).go) ga_nil))))).go ((ge_var 2)).go) (gss_one (gs_ret (On := []) ge_bl)) (GSs.post (On' := []) (by decide) gss_nil)) (gss_cons (gs_if ((gw_or (gt_ne hr.units ((ge_call (d_painted T) (hr.mono (by decide)) pass0 (ga_cons (ge_call (d_plain T) (hr.mono (by decide)) pass0 (ga_cons (ge_var 3) (ga_cons (ge_var 4) (ga_cons ge_int ga_nil)))) (ga_cons ((gf_list1 T.list (gao_cons ((ge_unq (ge_var 7).go)).go gao_nil))).ge ga_nil)))).go ((ge_var 2)).go) (gw_or1 (gt_ne hr.units ((ge_call (d_painted T) (hr.mono (by decide)) pass0 (ga_cons (ge_call (d_plain T) (hr.mono (by decide)) pass0 (ga_cons (ge_var 3) (ga_cons (ge_var 4) (ga_cons ge_int ga_nil)))) (ga_cons ((gf_list1 T.list (gao_cons ((ge_unq (ge_var 7).go)).go gao_nil))).ge ga_nil)))).go ((ge_var 2)).go)))).gt (gss_one (gs_ret (On := []) ge_bl)) (GSs.post (On' := []) (by decide) gss_nil)) (gss_cons (GS.post (On' := []) (by decide) (gs_set 8 sc_law.nd (ge_call (d_next_order T) (hr.mono (by decide)) pass0 (ga_cons (ge_var 2) (ga_cons (ge_unq (ge_var 7).go) ga_nil))))) (gss_cons (gs_if (gt_ne hr.units ((ge_is ((ge_var 8)).go (ge_non).go)).go ((ge_eq hr.units ((ge_add ((ge_var 6)).go (ge_int).go)).go ((ge_var 5)).go)).go) (gss_one (gs_ret (On := []) ge_bl)) (GSs.post (On' := []) (by decide) gss_nil)) (gss_cons (gs_if ((gw_and (gt_isNot ((ge_var 8)).go (ge_non).go) (gw_and1 ((gw_or (gt_leT hr.units ((ge_var 8)).go ((ge_unq (ge_var 7).go)).go) (gw_or1 (gt_ne hr.units ((ge_call (d_order_number T) (hr.mono (by decide)) pass0 (ga_cons (ge_var 2) (ga_cons (ge_var 8) ga_nil)))).go ((ge_add ((ge_var 6)).go (ge_int).go)).go)))).gt))).gt (gss_one (gs_ret (On := []) ge_bl)) (GSs.post (On' := []) (by decide) gss_nil)) (gss_cons (GS.post (On' := []) (by decide) (gs_set 9 sc_law.nd ge_int)) (gss_cons (gs_for .never rfl (gi_seq (ge_call (d_layers T) (hr.mono (by decide)) pass0 (ga_cons (ge_var 2) ga_nil))) (gg_name 10 sc_law.nd) (GSs.post (On' := []) (by decide) (gss_one (GS.post (On' := []) (by decide) (gs_set 9 sc_law.nd (ge_sub ((ge_add ((ge_var 9)).go ((ge_len T.len (gao_cons ((ge_var 10)).go gao_nil))).go)).go (ge_int).go))))) (by decide) (fun d ds h => by cases h; rfl)) (gss_cons (gs_if (gt_ne hr.units ((ge_len T.len (gao_cons ((ge_call (d_swaps T) (hr.mono (by decide)) pass0 (ga_cons (ge_var 2) (ga_cons (ge_unq (ge_var 7).go) ga_nil)))).go gao_nil))).go ((ge_var 9)).go) (gss_one (gs_ret (On := []) ge_bl)) (GSs.post (On' := []) (by decide) gss_nil)) (gss_cons (GS.post (On' := []) (by decide) (gs_par2 11 12 sc_law.nd (gak_st (ge_call (d_law_taken T) (hr.mono (by decide)) pass0 (ga_cons (ge_var 1) (ga_cons (ge_add ((ge_var 3)).go ((ge_var 4)).go) ga_nil))) (gak_st (ge_call (d_law_taken T) (hr.mono (by decide)) pass0 (ga_cons (ge_var 1) (ga_cons (ge_add ((ge_var 3)).go ((ge_var 4)).go) ga_nil))) gak_nil)))) (gss_cons (gs_unp (ge_call (d_places T) (hr.mono (by decide)) pass0 (ga_cons (ge_var 2) (ga_cons (ge_var 11) ga_nil))) (ggs_cons 13 sc_law.nd (ggs_cons 14 sc_law.nd ggs_nil)) (by decide)) (gss_cons (gs_if ((gw_or (gt_not (gt_leLe ((ge_var 13)).go ((ge_indexT ((ge_var 7)).go ((ge_var 11)).go)).go ((ge_var 14)).go)) (gw_or1 (gt_ne hr.units ((ge_call (d_mean_place T) (hr.mono (by decide)) pass0 (ga_cons (ge_var 2) (ga_cons (ge_var 11) ga_nil)))).go ((ge_call (d_law_lowered T) (hr.mono (by decide)) pass0 (ga_cons (ge_add ((ge_var 13)).go ((ge_var 14)).go) (ga_cons ge_int ga_nil)))).go)))).gt (gss_one (gs_ret (On := []) ge_bl)) (GSs.post (On' := []) (by decide) gss_nil)) (gss_cons (GS.post (On' := []) (by decide) (gs_tup (gak_st (ge_call (d_place_shares T) (hr.mono (by decide)) pass0 (ga_cons (ge_var 2) (ga_cons (ge_var 11) ga_nil))) (gak_st (ge_tup (ga_cons ge_int (ga_cons ge_int ga_nil))) (gak_st (ge_tup (ga_cons ge_int (ga_cons ge_int ga_nil))) gak_nil))) (ggs_cons 15 sc_law.nd (ggs_cons 16 sc_law.nd (ggs_cons 17 sc_law.nd ggs_nil))))) (gss_cons (gs_for .never rfl (gi_range1 T.range (gao_cons ((ge_add ((ge_var 3)).go ((ge_var 4)).go)).go gao_nil)) (gg_name 18 sc_law.nd) (GSs.post (On' := []) (by decide) (gss_one (GS.post (On' := []) (by decide) (gs_par2 16 17 sc_law.nd (gak_st (ge_call (d_law_plus T) (hr.mono (by decide)) pass0 (ga_cons (ge_var 16) (ga_cons (ge_sub1 ((ge_var 15)).go ((ge_var 18)).go) ga_nil))) (gak_st (ge_call (d_law_plus T) (hr.mono (by decide)) pass0 (ga_cons (ge_var 17) (ga_cons (ge_call (d_law_lowered T) (hr.mono (by decide)) pass0 (ga_cons (ge_mul ((ge_sub1 ((ge_sub1 ((ge_var 15)).go ((ge_var 18)).go)).go (ge_int).go)).go ((ge_var 18)).go) (ga_cons (ge_sub1 ((ge_sub1 ((ge_var 15)).go ((ge_var 18)).go)).go (ge_int).go) ga_nil))) ga_nil))) gak_nil)))))) (by decide) (fun d ds h => by cases h; rfl)) (gss_cons (gs_if ((gw_or (gt_ne hr.units ((ge_var 16)).go ((ge_tup (ga_cons ge_int (ga_cons ge_int ga_nil)))).go) (gw_or (gt_ne hr.units ((ge_var 17)).go ((ge_call (d_mean_place T) (hr.mono (by decide)) pass0 (ga_cons (ge_var 2) (ga_cons (ge_var 11) ga_nil)))).go) (gw_or1 (gt_ne hr.units (((gf_lc (own := [("_law_at", 18)]) rfl sc_law.nd (gi_range1 T.range (gao_cons ((ge_add ((ge_var 3)).go ((ge_var 4)).go)).go gao_nil)) (blkOk_by (by kernel_rfl)) (fun _ _ _ _ _ => (gg_name 18 sc_law.nd)) (fun _ _ _ _ _ => (gts_one (gt_ne hr.units ((ge_gt ((ge_sub1 ((ge_sub1 ((ge_var 15)).go ((ge_var 18)).go)).go (ge_int).go)).go (ge_int).go)).go ((ge_leLe ((ge_var 13)).go ((ge_var 18)).go ((ge_var 14)).go)).go))) (fun _ _ _ _ _ => (ge_var 18)) (by decide) (by decide))).ge).go (((gf_lst ga_nil)).ge).go))))).gt (gss_one (gs_ret (On := []) ge_bl)) (GSs.post (On' := []) (by decide) gss_nil)) (gss_cons (gs_if (gt_eq hr.units ((ge_var 11)).go ((ge_var 12)).go) (gss_one (gs_ret (On := []) (ge_eq hr.units ((ge_call (d_before_share T) (hr.mono (by decide)) pass0 (ga_cons (ge_var 2) (ga_cons (ge_var 11) (ga_cons (ge_var 12) ga_nil))))).go ((ge_tup (ga_cons ge_int (ga_cons ge_int ga_nil)))).go))) (GSs.post (On' := []) (by decide) gss_nil)) (gss_one (gs_ret (On := []) (ge_eq hr.units ((ge_call (d_law_plus T) (hr.mono (by decide)) pass0 (ga_cons (ge_call (d_before_share T) (hr.mono (by decide)) pass0 (ga_cons (ge_var 2) (ga_cons (ge_var 11) (ga_cons (ge_var 12) ga_nil)))) (ga_cons (ge_call (d_before_share T) (hr.mono (by decide)) pass0 (ga_cons (ge_var 2) (ga_cons (ge_var 12) (ga_cons (ge_var 11) ga_nil)))) ga_nil)))).go ((ge_tup (ga_cons ge_int (ga_cons ge_int ga_nil)))).go))))))))))))))))))))))))⟩
end
end W
set_option maxHeartbeats 1000000
namespace W
open PySem L2 G
theorem log_small {m : Int} (h : m ≤ 2 ^ 30) (h1 : 1 ≤ m) : cDiv m = true := by
  unfold cDiv
  have : m.natAbs.log2 < 9000 := by
    have : m.natAbs.log2 < 31 := (Nat.log2_lt (by omega)).mpr (by omega)
    omega
  simp [this]; omega
theorem mul_small {i j : Int} (hi : 0 ≤ i) (hi2 : i < 2147483648) (hj : 0 ≤ j) (hj2 : j < 2147483648) : cMul i j = true := by
  unfold cMul
  have k : ∀ x : Int, 0 ≤ x → x < 2147483648 → x.natAbs.log2 ≤ 32 := fun x h1 h2 => by
    rcases Nat.eq_zero_or_pos x.natAbs with e | e
    · rw [e]; decide
    · have : x.natAbs.log2 < 32 := (Nat.log2_lt (by omega)).mpr (by omega)
      omega
  have := k i hi hi2
  have := k j hj hj2
  exact decide_eq_true (by omega)
theorem taken_ok {tp : List D} {m : Int} (h : Tape tp) (hm : 1 ≤ m) (hM : m ≤ 2 ^ 30) : ∃ v tp', m_law_taken [.tape, .int m] tp = .ok (.int v) tp' ∧ Tape tp' ∧ 0 ≤ v ∧ v < m := by
  obtain ⟨⟨ns, pos, seed, rest, rfl, p0, s0, s1, nl⟩⟩ := h
  have cd := log_small hM hm
  have cm : cMul seed 48271 = true := mul_small s0 (by omega) (by decide) (by decide)
  have m0 : (0 : Int) < m := by omega
  have c7 : cDiv 7 = true := by decide +kernel
  have a0 : ∀ a b c d : D, atI [a, b, c, d] 0 = some a := fun _ _ _ _ => rfl
  have a1 : ∀ a b c d : D, atI [a, b, c, d] 1 = some b := fun _ _ _ _ => rfl
  have a2 : ∀ a b c d : D, atI [a, b, c, d] 2 = some c := fun _ _ _ _ => rfl
  have a3 : ∀ a b c d : D, atI [a, b, c, d] 3 = some d := fun _ _ _ _ => rfl
  have i1 : ixN 4 1 = some 1 := rfl
  have i2 : ixN 4 2 = some 2 := rfl
  have i3 : ixN 4 3 = some 3 := rfl
  have b7 : (0 : Int) < 2147483647 := by decide
  by_cases c1 : 0 < rest
  · refine ⟨rest % m, [.scr ns, .int pos, .int seed, .int (rest / m)], ?_, ⟨⟨ns, pos, seed, _, rfl, p0, s0, s1, nl⟩⟩, Int.emod_nonneg _ (by omega), Int.emod_lt_of_pos _ m0⟩
    simp -implicitDefEqProofs only [m_law_taken, b_law_taken, defD, retR, seqS, ifS, setS, retS, skipS, dropS, parS, setAll, vE, cE, binE, chainE, callB, consA, nilA, tupE, lstE, boolE, isB, notT, orT, andT, andE, orE, notE, callE, tixE, tsetS, sliceE, optI, methE, seqI, rangeI, RE.bind_ok, RE.bindS, RE.of_some, RE.of_none, List.map_cons, List.map_nil, List.length_cons, List.length_nil, List.replicate, List.cons_append, List.nil_append, List.getElem?_cons_zero, List.getElem?_cons_succ, List.set_cons_zero, List.set_cons_succ, if_true, if_false, Nat.zero_add, Nat.reduceAdd, Nat.reduceSub, decide_true, decide_false, Bool.false_eq_true, Option.map_some, Option.bind_some, a0, a1, a2, a3, i1, i2, i3, gtD, modD, fdivD, intD, c1, cd, m0]
  · by_cases c2 : (ns.length : Int) < pos + 1
    · refine ⟨((seed * 48271 + 11) % 2147483647 / 7) % m, [.scr ns, .int (pos + 1), .int ((seed * 48271 + 11) % 2147483647), .int rest], ?_, ⟨⟨ns, _, _, _, rfl, by omega, by omega, by omega, nl⟩⟩, Int.emod_nonneg _ (by omega), Int.emod_lt_of_pos _ m0⟩
      simp -implicitDefEqProofs only [m_law_taken, b_law_taken, defD, retR, seqS, ifS, setS, retS, skipS, dropS, parS, setAll, vE, cE, binE, chainE, callB, consA, nilA, tupE, lstE, boolE, isB, notT, orT, andT, andE, orE, notE, callE, tixE, tsetS, sliceE, optI, methE, seqI, rangeI, RE.bind_ok, RE.bindS, RE.of_some, RE.of_none, List.map_cons, List.map_nil, List.length_cons, List.length_nil, List.replicate, List.cons_append, List.nil_append, List.getElem?_cons_zero, List.getElem?_cons_succ, List.set_cons_zero, List.set_cons_succ, if_true, if_false, Nat.zero_add, Nat.reduceAdd, Nat.reduceSub, decide_true, decide_false, Bool.false_eq_true, Option.map_some, Option.bind_some, a0, a1, a2, a3, i1, i2, i3, gtD, modD, fdivD, intD, c1, cd, m0, addD, mulD, lenD, c2, cm, b7, c7]
    · have hp : pos.toNat < ns.length := by omega
      have e : atI ns (pos + 1 - 1) = some (ns[pos.toNat]) := by
        have : pos + 1 - 1 = pos := by omega
        rw [this, atI_int ns p0, List.getElem?_eq_getElem hp]
      have cp : cPow 10 18 = true := by decide +kernel
      generalize hc : ns[pos.toNat] = c at e
      have ev : ∀ q : Prop, ∀ [Decidable q], q = ((10 : Int) ^ (Int.toNat 18) ≤ c) → True := fun _ _ _ => trivial
      by_cases c3 : (10 : Int) ^ (Int.toNat 18) ≤ c
      · refine ⟨c % m, [.scr ns, .int (pos + 1), .int ((seed * 48271 + c + 11) % 2147483647), .int (c / m)], ?_, ⟨⟨ns, _, _, _, rfl, by omega, by omega, by omega, nl⟩⟩, Int.emod_nonneg _ (by omega), Int.emod_lt_of_pos _ m0⟩
        simp -implicitDefEqProofs only [m_law_taken, b_law_taken, defD, retR, seqS, ifS, setS, retS, skipS, dropS, parS, setAll, vE, cE, binE, chainE, callB, consA, nilA, tupE, lstE, boolE, isB, notT, orT, andT, andE, orE, notE, callE, tixE, tsetS, sliceE, optI, methE, seqI, rangeI, RE.bind_ok, RE.bindS, RE.of_some, RE.of_none, List.map_cons, List.map_nil, List.length_cons, List.length_nil, List.replicate, List.cons_append, List.nil_append, List.getElem?_cons_zero, List.getElem?_cons_succ, List.set_cons_zero, List.set_cons_succ, if_true, if_false, Nat.zero_add, Nat.reduceAdd, Nat.reduceSub, decide_true, decide_false, Bool.false_eq_true, Option.map_some, Option.bind_some, a0, a1, a2, a3, i1, i2, i3, gtD, geD, modD, fdivD, intD, c1, cd, m0, addD, subD, mulD, powD, lenD, ixD, c2, cm, b7, c7, e, cp, c3]
      · refine ⟨c % m, [.scr ns, .int (pos + 1), .int ((seed * 48271 + c + 11) % 2147483647), .int rest], ?_, ⟨⟨ns, _, _, _, rfl, by omega, by omega, by omega, nl⟩⟩, Int.emod_nonneg _ (by omega), Int.emod_lt_of_pos _ m0⟩
        simp -implicitDefEqProofs only [m_law_taken, b_law_taken, defD, retR, seqS, ifS, setS, retS, skipS, dropS, parS, setAll, vE, cE, binE, chainE, callB, consA, nilA, tupE, lstE, boolE, isB, notT, orT, andT, andE, orE, notE, callE, tixE, tsetS, sliceE, optI, methE, seqI, rangeI, RE.bind_ok, RE.bindS, RE.of_some, RE.of_none, List.map_cons, List.map_nil, List.length_cons, List.length_nil, List.replicate, List.cons_append, List.nil_append, List.getElem?_cons_zero, List.getElem?_cons_succ, List.set_cons_zero, List.set_cons_succ, if_true, if_false, Nat.zero_add, Nat.reduceAdd, Nat.reduceSub, decide_true, decide_false, Bool.false_eq_true, Option.map_some, Option.bind_some, a0, a1, a2, a3, i1, i2, i3, gtD, geD, modD, fdivD, intD, c1, cd, m0, addD, subD, mulD, powD, lenD, ixD, c2, cm, b7, c7, e, cp, c3]
end W
set_option maxHeartbeats 1000000
namespace W
open PySem L2 G
theorem cRg_small {i : Int} (h0 : 0 ≤ i) (h : i ≤ 2 ^ 30) : cRg i = true := by
  unfold cRg
  have h1 : -(2 ^ 62) ≤ i := by omega
  have h2 : i < 2 ^ 62 := by omega
  rw [decide_eq_true h1, decide_eq_true h2]; rfl
theorem range1_ok {i : Int} (h0 : 0 ≤ i) (h : i ≤ 2 ^ 30) : range1D [.int i] = some (rangeL 0 i) := by
  show (if cRg i then some (rangeL 0 i) else none) = _
  rw [cRg_small h0 h, if_pos rfl]
theorem rangeL_len (n : Nat) : (rangeL 0 (n : Int)).length = n := by unfold rangeL; simp
theorem rangeL_get {n j : Nat} {d : D} (h : (rangeL 0 (n : Int))[j]? = some d) : d = .int j ∧ j < n := by
  unfold rangeL at h
  rw [List.getElem?_map] at h
  obtain ⟨x, h1, h2⟩ := Option.map_eq_some_iff.mp h
  have hl : j < (List.range ((n : Int) - 0).toNat).length := (List.getElem?_eq_some_iff.mp h1).1
  have e := (List.getElem?_eq_some_iff.mp h1).2
  rw [List.getElem_range] at e
  rw [List.length_range] at hl
  subst e
  refine ⟨by rw [← h2]; simp, by omega⟩
theorem forS_eq {mi : SE (List D)} {tgt : D → Option (List D)} {is : List Nat} {body : SS} {env : DEnv} {tp tp1 : List D} {items : List D} (h : mi env tp = .ok items tp1) : forS mi tgt is body env tp = forL tgt is body items env tp1 := by
  unfold forS; rw [h]; rfl
theorem seqS_nx {m n : SS} {env env' : DEnv} {tp tp' : List D} (h : m env tp = .nx env' tp') : seqS m n env tp = n env' tp' := by
  unfold seqS; rw [h]
end W
set_option maxHeartbeats 1000000
namespace W
open PySem L2 G
theorem lstE_ok {ms : SE (List D)} {env : DEnv} {tp tp1 : List D} {ds : List D} (h : ms env tp = .ok ds tp1) (hl : ds.length ≤ 1000000) : lstE ms env tp = .ok (.lst ds) tp1 := by
  unfold lstE; rw [h]; simp only [RE.bind_ok]; rw [if_pos (small_line hl)]
end W
set_option maxHeartbeats 1000000
namespace W
open PySem L2 G
theorem callE_ok {n : Nat} {m : List D → List D → RE D} {ms : SE (List D)} {env : DEnv} {tp tp1 tp2 : List D} {ds : List D} {d : D} (h : ms env tp = .ok ds tp1) (hl : ds.length = n) (h2 : m ds tp1 = .ok d tp2) : callE n m ms env tp = .ok d tp2 := by
  unfold callE; rw [h]; simp only [RE.bind_ok]; rw [if_pos hl, h2]
theorem consA_ok {c : SE D} {d : SE (List D)} {env : DEnv} {tp tp' tp2 : List D} {x : D} {xs : List D} (h : c env tp = .ok x tp') (h2 : d env tp' = .ok xs tp2) : consA c d env tp = .ok (x :: xs) tp2 := by
  unfold consA; rw [h]; simp only [RE.bind_ok]; rw [h2]; rfl
theorem callB_ok {f : List D → Option D} {ms : SE (List D)} {env : DEnv} {tp tp1 : List D} {ds : List D} {d : D} (h : ms env tp = .ok ds tp1) (h2 : f ds = some d) : callB f ms env tp = .ok d tp1 := by
  unfold callB; rw [h]; simp only [RE.bind_ok]; rw [h2]; rfl
theorem _root_.G.PicOk.get {h w : Nat} {p : Pic} (k : PicOk h w p) {i : Nat} (hi : i < h) : ∃ r, p[i]? = some r ∧ r.length = w ∧ p.getD i [] = r := by
  have : i < p.length := by rw [k.len]; exact hi
  exact ⟨p[i], List.getElem?_eq_getElem this, k.row _ (List.getElem_mem this), by rw [List.getD_eq_getElem?_getD, List.getElem?_eq_getElem this]; rfl⟩
end W
set_option maxHeartbeats 1000000
namespace W
open PySem L2 G
theorem taken_nat {tp : List D} {m : Nat} (h : Tape tp) (hm : 1 ≤ m) (hM : m ≤ 2 ^ 30) : ∃ (n : Nat) (tp' : List D), m_law_taken [.tape, .int (m : Int)] tp = .ok (.int (n : Int)) tp' ∧ Tape tp' ∧ n < m := by
  obtain ⟨v, tp', e, t, v0, v1⟩ := taken_ok (m := (m : Int)) h (by omega) (by omega)
  exact ⟨v.toNat, tp', by rw [e]; congr 2; omega, t, by omega⟩
theorem taken_e {tp : List D} {m : Nat} {ms : SE (List D)} {env : DEnv} {tp0 : List D} (h : Tape tp) (hm : 1 ≤ m) (hM : m ≤ 2 ^ 30) (e : ms env tp0 = .ok [.tape, .int (m : Int)] tp) : ∃ (n : Nat) (tp' : List D), callE 2 m_law_taken ms env tp0 = .ok (.int (n : Int)) tp' ∧ Tape tp' ∧ n < m := by
  obtain ⟨n, tp', e1, t, l⟩ := taken_nat h hm hM
  exact ⟨n, tp', callE_ok e rfl e1, t, l⟩
theorem rangeI_ok {f : List D → Option (List D)} {ms : SE (List D)} {env : DEnv} {tp tp1 : List D} {ds items : List D} (h : ms env tp = .ok ds tp1) (h2 : f ds = some items) : rangeI f ms env tp = .ok items tp1 := by
  unfold rangeI; rw [h]; simp only [RE.bind_ok]; rw [h2]; rfl
theorem appPop_z {i j : Nat} {m : SE D} {env : DEnv} {tp tp1 : List D} {ds es : List D} {z : Int} {y : D} (h1 : env[i]? = some (some (.lst ds))) (h2 : env[j]? = some (some (.lst es))) (h3 : m env tp = .ok (.int z) tp1) (hz : 0 ≤ z) (h4 : es[z.toNat]? = some y) (h5 : ds.length < 1000000) (h6 : es.length ≤ 1000000) :
    appPopS i j m env tp = .nx ((env.set j (some (.lst (es.eraseIdx z.toNat)))).set i (some (.lst (ds ++ [y])))) tp1 := by
  have hq : z.toNat < es.length := (List.getElem?_eq_some_iff.mp h4).1
  have c : (decide (-(2 ^ 63) ≤ z) && (decide (z < 2 ^ 63) && decide (ds.length < sizeLine))) = true := by
    have a1 : -(2 ^ 63) ≤ z := by omega
    have a2 : z < 2 ^ 63 := by omega
    have a3 : ds.length < sizeLine := small_line (n := ds.length + 1) h5
    rw [decide_eq_true a1, decide_eq_true a2, decide_eq_true a3]; rfl
  have cx : ixN es.length z = some z.toNat := by
    unfold ixN
    rw [if_pos hz, if_pos (by omega)]
  unfold appPopS
  rw [h1, h2]
  simp -implicitDefEqProofs only []
  rw [h3]
  simp -implicitDefEqProofs only [RE.bindS]
  rw [if_pos c, cx]
  simp -implicitDefEqProofs only []
  rw [h4]
theorem appPop_ok {i j : Nat} {m : SE D} {env : DEnv} {tp tp1 : List D} {ds es : List D} {q : Nat} {y : D} (h1 : env[i]? = some (some (.lst ds))) (h2 : env[j]? = some (some (.lst es))) (h3 : m env tp = .ok (.int (q : Int)) tp1) (h4 : es[q]? = some y) (h5 : ds.length < 1000000) (h6 : es.length ≤ 1000000) :
    appPopS i j m env tp = .nx ((env.set j (some (.lst (es.eraseIdx q)))).set i (some (.lst (ds ++ [y])))) tp1 := by
  have e : ((q : Int)).toNat = q := Int.toNat_natCast q
  have := appPop_z (z := (q : Int)) h1 h2 h3 (by omega) (by rw [e]; exact h4) h5 h6
  rw [e] at this
  exact this
theorem perm_erase {α : Type} : ∀ (es : List α) (q : Nat) (y : α), es[q]? = some y → (y :: es.eraseIdx q).Perm es
  | [], q, y, h => by simp at h
  | e :: es, 0, y, h => by simp at h; subst h; exact List.Perm.refl _
  | e :: es, q + 1, y, h => by
    have h' : es[q]? = some y := by simpa using h
    show (y :: e :: es.eraseIdx q).Perm (e :: es)
    exact (List.Perm.swap _ _ _).trans ((perm_erase es q y h').cons _)
theorem mixed_ok {tp : List D} {ds : List D} (ht : Tape tp) (hl : ds.length ≤ 10000) : ∃ (xs : List D) (tp' : List D), m_law_mixed [.tape, .lst ds] tp = .ok (.lst xs) tp' ∧ Tape tp' ∧ xs.Perm ds := by
  have e0 : parS [2, 3] (consA (callB listD (consA (vE 1) (nilA))) (consA (lstE (nilA)) (nilA))) [some .tape, some (.lst ds), none, none, none] tp = .nx [some .tape, some (.lst ds), some (.lst ds), some (.lst []), none] tp := by
    unfold parS
    rw [consA_ok (callB_ok (consA_ok rfl rfl) rfl) (consA_ok (lstE_ok (ds := []) rfl (by decide)) rfl)]
    rfl
  have ei : rangeI range1D (consA (callB lenD (consA (vE 2) (nilA))) (nilA)) [some .tape, some (.lst ds), some (.lst ds), some (.lst []), none] tp = .ok (rangeL 0 (ds.length : Int)) tp := by
    exact rangeI_ok (consA_ok (callB_ok (consA_ok rfl rfl) rfl) rfl) (range1_ok (by omega) (by omega))
  obtain ⟨env', tp2, e2, t2, left, found, x, hle, hp, rfl⟩ := forL_inv (i := 4) (tp := tp) (env := [some .tape, some (.lst ds), some (.lst ds), some (.lst []), none]) (items := rangeL 0 (ds.length : Int)) (body := appPopS 3 2 (callE 2 m_law_taken (consA (vE 0) (consA (callB lenD (consA (vE 2) (nilA))) (nilA)))))
    (fun n env tp' => Tape tp' ∧ ∃ (left found : List D) (x : Option D), left.length + n = ds.length ∧ (found ++ left).Perm ds ∧ env = [some .tape, some (.lst ds), some (.lst left), some (.lst found), x]) 0
    ⟨ht, ds, [], none, by omega, by rw [List.nil_append], rfl⟩ (fun i d env tp' hj hI => by
      obtain ⟨tt, left, found, x, hle, hp, rfl⟩ := hI
      obtain ⟨_, hi⟩ := rangeL_get hj
      obtain ⟨q, tp3, e3, t3, hq⟩ := taken_e (m := left.length) (ms := consA (vE 0) (consA (callB lenD (consA (vE 2) (nilA))) (nilA))) (env := [some .tape, some (.lst ds), some (.lst left), some (.lst found), some d]) (tp0 := tp') tt (by omega) (by omega) rfl
      have hf : found.length + left.length = ds.length := by rw [← hp.length_eq, List.length_append]
      refine ⟨_, tp3, appPop_ok (ds := found) (es := left) (y := left[q]) rfl rfl e3 (List.getElem?_eq_getElem hq) (by omega) (by omega), t3, left.eraseIdx q, found ++ [left[q]], some d, ?_, ?_, rfl⟩
      · rw [List.length_eraseIdx, if_pos hq]; omega
      · rw [List.append_assoc]
        exact ((perm_erase left q _ (List.getElem?_eq_getElem hq)).append_left found).trans hp)
  rw [rangeL_len, Nat.zero_add] at hle
  have : left = [] := List.eq_nil_of_length_eq_zero (by omega)
  subst this
  rw [List.append_nil] at hp
  refine ⟨found, tp2, ?_, t2, hp⟩
  show retR (b_law_mixed [some .tape, some (.lst ds), none, none, none] tp) = _
  unfold b_law_mixed
  rw [seqS_nx e0, seqS_nx ((forS_eq ei).trans e2)]
  rfl
end W
set_option maxHeartbeats 1000000
namespace W
open PySem L2 G
end W
set_option maxHeartbeats 1000000
namespace W
open PySem L2 G
end W
set_option maxHeartbeats 1000000
namespace W
open PySem L2 G
theorem pdAll_map : ∀ xs : List D, pdAll xs = xs.map D.pd
  | [] => rfl
  | x :: xs => by
    show x.pd :: pdAll xs = _
    rw [pdAll_map xs]; rfl
end W
set_option maxHeartbeats 1000000
namespace W
open PySem L2 G
end W
set_option maxHeartbeats 1000000
namespace W
open PySem L2 G
end W
set_option maxHeartbeats 1000000
namespace W
open PySem L2 G T
/-- a picture by itself -/
structure PicP (p : Pic) : Prop where
  row : ∀ r ∈ p, r.length = p[0]!.length
  h1 : 1 ≤ p.length
  h30 : p.length ≤ 30
  w1 : 1 ≤ p[0]!.length
  w30 : p[0]!.length ≤ 30
theorem PicP.ok {p : Pic} (k : PicP p) : PicOk p.length p[0]!.length p := ⟨rfl, k.row, k.h1, k.h30, k.w1, k.w30⟩
abbrev P_law_taken (many : Nat) : Prop := 1 ≤ many ∧ many ≤ 1073741824
abbrev D_law_taken (many r : Nat) : Prop := r < many
theorem t_law_taken {many : Nat} {tp : List D} (ht : Tape tp) (hP : P_law_taken many) : ∃ (r : Nat) (tp' : List D), m_law_taken [.tape, eN many] tp = .ok (eN r) tp' ∧ Tape tp' ∧ D_law_taken many r :=
  taken_nat ht hP.1 hP.2
theorem perm_map {α : Type} {e : α → D} : ∀ {xs ys : List D}, xs.Perm ys → ∀ ls : List α, ys = ls.map e → ∃ ks : List α, xs = ks.map e ∧ ks.Perm ls := by
  intro xs ys h
  induction h with
  | nil => intro ls h; cases ls with
    | nil => exact ⟨[], rfl, .refl _⟩
    | cons a as => cases h
  | cons x h ih => intro ls h; cases ls with
    | nil => cases h
    | cons a as =>
      rw [List.map_cons] at h
      cases h
      obtain ⟨ks, rfl, p⟩ := ih as rfl
      exact ⟨a :: ks, rfl, p.cons a⟩
  | swap x y l => intro ls h; match ls, h with
    | [], h => cases h
    | [a], h => cases h
    | a :: b :: as, h =>
      rw [List.map_cons, List.map_cons] at h
      cases h
      exact ⟨b :: a :: as, rfl, .swap _ _ _⟩
  | trans h1 h2 ih1 ih2 =>
    intro ls h
    obtain ⟨ks, rfl, p⟩ := ih2 ls h
    obtain ⟨js, rfl, q⟩ := ih1 ks rfl
    exact ⟨js, rfl, q.trans p⟩
theorem t_law_mixedL {α : Type} {e : α → D} {xs : List α} {tp : List D} (ht : Tape tp) (hP : xs.length ≤ 10000) : ∃ (r : List α) (tp' : List D), m_law_mixed [.tape, eL e xs] tp = .ok (eL e r) tp' ∧ Tape tp' ∧ r.Perm xs := by
  obtain ⟨zs, tp', e1, t, hp⟩ := mixed_ok (ds := xs.map e) ht (by rw [List.length_map]; exact hP)
  obtain ⟨ks, rfl, q⟩ := perm_map hp xs rfl
  exact ⟨ks, tp', e1, t, q⟩
end W
set_option maxHeartbeats 1000000
namespace W
open PySem L2 G T
theorem take_snoc {α : Type} {xs : List α} {k : Nat} {x : α} (h : xs[k]? = some x) : xs.take (k + 1) = xs.take k ++ [x] := by
  rw [List.take_succ, h]; rfl
theorem range_get {n k x : Nat} (h : (List.range n)[k]? = some x) : x = k ∧ k < n := by
  obtain ⟨h1, h2⟩ := List.getElem?_eq_some_iff.mp h
  rw [List.getElem_range] at h2
  rw [List.length_range] at h1
  exact ⟨h2.symm, h1⟩
theorem enumP_eq {α : Type} [Inhabited α] (xs : List α) : enumP xs = (List.range xs.length).map fun i => (i, xs[i]!) := by
  unfold enumP
  refine List.ext_getElem (by simp) fun i h1 h2 => ?_
  rw [List.getElem_mapIdx, List.getElem_map, List.getElem_range, getElem!_pos xs i (by simpa using h1)]
theorem mem_enumP {α : Type} [Inhabited α] {xs : List α} {x : Nat × α} (h : x ∈ enumP xs) : x.1 < xs.length ∧ x.2 = xs[x.1]! := by
  rw [enumP_eq] at h
  obtain ⟨i, hi, rfl⟩ := List.mem_map.mp h
  exact ⟨List.mem_range.mp hi, rfl⟩
theorem mem_get! {α : Type} [Inhabited α] {xs : List α} {i : Nat} (h : i < xs.length) : xs[i]! ∈ xs := by
  rw [getElem!_pos xs i h]; exact List.getElem_mem h
theorem flatMap_congr' {α β : Type} {xs : List α} {f g : α → List β} (h : ∀ x ∈ xs, f x = g x) : xs.flatMap f = xs.flatMap g := by
  induction xs with
  | nil => rfl
  | cons x xs ih => rw [List.flatMap_cons, List.flatMap_cons, h x List.mem_cons_self, ih fun y hy => h y (List.mem_cons_of_mem _ hy)]
theorem len_filter_le {α : Type} (f : α → Bool) (xs : List α) : (xs.filter f).length ≤ xs.length := List.length_filter_le f xs
theorem get!_map' {α β : Type} [Inhabited α] [Inhabited β] (f : α → β) {xs : List α} {i : Nat} (h : i < xs.length) : (xs.map f)[i]! = f xs[i]! := by
  rw [getElem!_pos (xs.map f) i (by simpa using h), List.getElem_map, getElem!_pos xs i h]
theorem get!_range {n i : Nat} (h : i < n) : (List.range n)[i]! = i := by
  rw [getElem!_pos (List.range n) i (by simpa using h), List.getElem_range]
theorem get!_cons_succ {α : Type} [Inhabited α] (x : α) (xs : List α) (i : Nat) : (x :: xs)[i + 1]! = xs[i]! := rfl
theorem get!_append_left {α : Type} [Inhabited α] {xs ys : List α} {i : Nat} (h : i < xs.length) : (xs ++ ys)[i]! = xs[i]! := by
  rw [getElem!_pos _ i (by rw [List.length_append]; omega), getElem!_pos xs i h, List.getElem_append_left h]
theorem get!_append_right {α : Type} [Inhabited α] {xs ys : List α} {i : Nat} (h : xs.length ≤ i) (h2 : i < xs.length + ys.length) : (xs ++ ys)[i]! = ys[i - xs.length]! := by
  rw [getElem!_pos _ i (by rw [List.length_append]; omega), getElem!_pos ys _ (by omega), List.getElem_append_right h]
theorem ext_get! {α : Type} [Inhabited α] {xs ys : List α} (hl : xs.length = ys.length) (h : ∀ i, i < xs.length → xs[i]! = ys[i]!) : xs = ys := by
  refine List.ext_getElem hl fun i h1 h2 => ?_
  have := h i h1
  rwa [getElem!_pos xs i h1, getElem!_pos ys i h2] at this
section
variable {p q : Pic}
theorem PicP.get (k : PicP p) {i : Nat} (h : i < p.length) : (p[i]!).length = p[0]!.length := k.row _ (mem_get! h)
theorem PicP.pos (k : PicP p) : 0 < p.length := k.h1
/-- the sides of a picture -/
structure Sides (h w : Nat) (p : Pic) : Prop where
  pp : PicP p
  hh : p.length = h
  ww : p[0]!.length = w
theorem PicP.sd (k : PicP p) : Sides p.length p[0]!.length p := ⟨k, rfl, rfl⟩
/-- two pictures of the same sides are the same if all cells are -/
theorem pic_ext (k : PicP p) (l : PicP q) (h : p.length = q.length) (w : p[0]!.length = q[0]!.length) (e : ∀ i j, i < p.length → j < p[0]!.length → (p[i]!)[j]! = (q[i]!)[j]!) : p = q := by
  refine ext_get! h fun i hi => ?_
  have a := k.get hi
  have b := l.get (i := i) (by omega)
  exact ext_get! (by omega) fun j hj => e i j hi (by omega)
/-- a picture told by its cells -/
def mkP (h w : Nat) (f : Nat → Nat → Bool) : Pic := (List.range h).map fun i => (List.range w).map fun j => f i j
theorem mkP_len (h w : Nat) (f : Nat → Nat → Bool) : (mkP h w f).length = h := by simp [mkP]
theorem mkP_row {h w : Nat} {f : Nat → Nat → Bool} {i : Nat} (hi : i < h) : (mkP h w f)[i]! = (List.range w).map fun j => f i j := by
  unfold mkP
  rw [get!_map' _ (by simpa using hi), get!_range hi]
theorem mkP_get {h w : Nat} {f : Nat → Nat → Bool} {i j : Nat} (hi : i < h) (hj : j < w) : ((mkP h w f)[i]!)[j]! = f i j := by
  rw [mkP_row hi, get!_map' _ (by simpa using hj), get!_range hj]
theorem mkP_wid {h w : Nat} {f : Nat → Nat → Bool} {i : Nat} (hi : i < h) : ((mkP h w f)[i]!).length = w := by rw [mkP_row hi]; simp
theorem mkP_pp {h w : Nat} {f : Nat → Nat → Bool} (h1 : 1 ≤ h) (h30 : h ≤ 30) (w1 : 1 ≤ w) (w30 : w ≤ 30) : PicP (mkP h w f) := by
  have e := mkP_wid (f := f) (w := w) (show 0 < h by omega)
  refine ⟨fun r hr => ?_, by rw [mkP_len]; exact h1, by rw [mkP_len]; exact h30, by rw [e]; exact w1, by rw [e]; exact w30⟩
  rw [e]
  obtain ⟨i, hi, rfl⟩ := List.mem_map.mp hr
  simp
def lineQ (p : Pic) (l : Nat) : Pic := mkP p.length p[0]!.length fun i j => if l = i then true else if l = p.length + j then false else (p[i]!)[j]!
def linesQ (p : Pic) (ls : List Nat) : Pic := ls.foldl lineQ p
theorem lineQ_pp (k : PicP p) (l : Nat) : PicP (lineQ p l) := mkP_pp k.h1 k.h30 k.w1 k.w30
theorem lineQ_len (p : Pic) (l : Nat) : (lineQ p l).length = p.length := mkP_len _ _ _
theorem lineQ_wid (k : PicP p) (l : Nat) : (lineQ p l)[0]!.length = p[0]!.length := mkP_wid k.h1
theorem lineQ_get {l i j : Nat} (hi : i < p.length) (hj : j < p[0]!.length) : ((lineQ p l)[i]!)[j]! = if l = i then true else if l = p.length + j then false else (p[i]!)[j]! := mkP_get hi hj
theorem linesQ_pp (k : PicP p) (ls : List Nat) : PicP (linesQ p ls) ∧ (linesQ p ls).length = p.length ∧ (linesQ p ls)[0]!.length = p[0]!.length := by
  induction ls generalizing p with
  | nil => exact ⟨k, rfl, rfl⟩
  | cons l ls ih =>
    obtain ⟨a, b, c⟩ := ih (lineQ_pp k l)
    exact ⟨a, b.trans (lineQ_len p l), c.trans (lineQ_wid k l)⟩
theorem linesQ_snoc (p : Pic) (ls : List Nat) (l : Nat) : linesQ p (ls ++ [l]) = lineQ (linesQ p ls) l := by
  unfold linesQ; rw [List.foldl_append]; rfl
end
end W
set_option maxHeartbeats 1000000
namespace W
open PySem L2 G T
/-- the rows that are full among the columns left, and the columns that are empty -/
def fullQ (p : Pic) (rs cs : List Nat) : List Nat := rs.filter fun i => decide (∀ j ∈ cs, (p[i]!)[j]! = true)
def empQ (p : Pic) (rs cs : List Nat) : List Nat := cs.filter fun j => decide (∀ i ∈ rs, (p[i]!)[j]! = false)
/-- what a turn does: layers found, rows left, columns left -/
def lstep (p : Pic) (s : List (List Nat) × List Nat × List Nat) : List (List Nat) × List Nat × List Nat :=
  if fullQ p s.2.1 s.2.2 ≠ [] then (s.1 ++ [fullQ p s.2.1 s.2.2], s.2.1.filter fun i => decide (i ∉ fullQ p s.2.1 s.2.2), s.2.2)
  else if empQ p s.2.1 s.2.2 ≠ [] then (s.1 ++ [(empQ p s.2.1 s.2.2).map fun j => p.length + j], s.2.1, s.2.2.filter fun j => decide (j ∉ empQ p s.2.1 s.2.2))
  else s
def liter (p : Pic) : Nat → List (List Nat) × List Nat × List Nat
  | 0 => ([], List.range p.length, List.range p[0]!.length)
  | n + 1 => lstep p (liter p n)
def layersQ (p : Pic) : List (List Nat) := (liter p (p.length + p[0]!.length)).1
def coreQ (p : Pic) : List Nat := (List.range (p.length + p[0]!.length)).filter fun l => decide (l ∉ (layersQ p).flatten)
theorem liter_sub (p : Pic) : ∀ n, (liter p n).2.1.Sublist (List.range p.length) ∧ (liter p n).2.2.Sublist (List.range p[0]!.length) ∧ (liter p n).1.length ≤ n
  | 0 => ⟨.refl _, .refl _, Nat.le_refl _⟩
  | n + 1 => by
    obtain ⟨a, b, c⟩ := liter_sub p n
    unfold liter lstep
    split
    · exact ⟨(List.filter_sublist).trans a, b, by simp; omega⟩
    · split
      · exact ⟨a, (List.filter_sublist).trans b, by simp; omega⟩
      · exact ⟨a, b, by omega⟩
theorem sub_len {α : Type} {n : Nat} : ∀ {xs : List (List α)}, (∀ x ∈ xs, x.length ≤ n) → xs.flatten.length ≤ xs.length * n
  | [], _ => by simp
  | x :: xs, h => by
    rw [List.flatten_cons, List.length_append, List.length_cons, Nat.add_mul]
    have := h x List.mem_cons_self
    have := sub_len fun y hy => h y (List.mem_cons_of_mem _ hy)
    omega
theorem liter_row {p : Pic} {n i : Nat} (h : i ∈ (liter p n).2.1) : i < p.length := List.mem_range.mp ((liter_sub p n).1.subset h)
theorem liter_col {p : Pic} {n j : Nat} (h : j ∈ (liter p n).2.2) : j < p[0]!.length := List.mem_range.mp ((liter_sub p n).2.1.subset h)
/-- what a layer is -/
theorem liter_layer {p : Pic} : ∀ n, ∀ x ∈ (liter p n).1, x ≠ [] ∧ x.Pairwise (· < ·) ∧ ((∀ l ∈ x, l < p.length) ∨ ∀ l ∈ x, p.length ≤ l ∧ l < p.length + p[0]!.length)
  | 0, x, hx => by cases hx
  | n + 1, x, hx => by
    obtain ⟨s1, s2, s3⟩ := liter_sub p n
    unfold liter lstep at hx
    split at hx
    · rename_i ne
      rcases List.mem_append.mp hx with hx | hx
      · exact liter_layer n x hx
      · have := List.mem_singleton.mp hx
        subst this
        exact ⟨ne, (List.pairwise_lt_range.sublist s1).sublist List.filter_sublist, .inl fun l hl => liter_row (List.mem_filter.mp hl).1⟩
    · split at hx
      · rename_i ne
        rcases List.mem_append.mp hx with hx | hx
        · exact liter_layer n x hx
        · have := List.mem_singleton.mp hx
          subst this
          refine ⟨fun e => ne (List.map_eq_nil_iff.mp e), List.pairwise_map.mpr (((List.pairwise_lt_range.sublist s2).sublist List.filter_sublist).imp fun h => by omega), .inr fun l hl => ?_⟩
          obtain ⟨j, hj, rfl⟩ := List.mem_map.mp hl
          have := liter_col (List.mem_filter.mp hj).1
          omega
      · exact liter_layer n x hx
theorem liter_len {p : Pic} (k : PicP p) (n : Nat) : ∀ x ∈ (liter p n).1, x.length ≤ 30 := by
  induction n with
  | zero => intro x hx; cases hx
  | succ n ih =>
    intro x hx
    obtain ⟨s1, s2, s3⟩ := liter_sub p n
    have l1 := s1.length_le
    have l2 := s2.length_le
    rw [List.length_range] at l1 l2
    have := k.h30; have := k.w30
    unfold liter lstep at hx
    split at hx
    · rcases List.mem_append.mp hx with hx | hx
      · exact ih x hx
      · have := List.mem_singleton.mp hx
        subst this
        have : (fullQ p (liter p n).2.1 (liter p n).2.2).length ≤ (liter p n).2.1.length := len_filter_le _ _
        omega
    · split at hx
      · rcases List.mem_append.mp hx with hx | hx
        · exact ih x hx
        · have := List.mem_singleton.mp hx
          subst this
          rw [List.length_map]
          have : (empQ p (liter p n).2.1 (liter p n).2.2).length ≤ (liter p n).2.2.length := len_filter_le _ _
          omega
      · exact ih x hx
theorem layersQ_len {p : Pic} (k : PicP p) : (layersQ p).length ≤ 60 ∧ ∀ x ∈ layersQ p, x.length ≤ 30 := by
  have := k.h30; have := k.w30
  exact ⟨Nat.le_trans (liter_sub p _).2.2 (by omega), liter_len k _⟩
theorem layersQ_flat {p : Pic} (k : PicP p) : (layersQ p).flatten.length ≤ 1800 := by
  obtain ⟨a, b⟩ := layersQ_len k
  exact Nat.le_trans (sub_len b) (Nat.le_trans (Nat.mul_le_mul_right 30 a) (by omega))
theorem layersQ_layer {p : Pic} : ∀ x ∈ layersQ p, x ≠ [] ∧ x.Pairwise (· < ·) ∧ ((∀ l ∈ x, l < p.length) ∨ ∀ l ∈ x, p.length ≤ l ∧ l < p.length + p[0]!.length) := liter_layer _
theorem coreQ_lt {p : Pic} {l : Nat} (h : l ∈ coreQ p) : l < p.length + p[0]!.length := List.mem_range.mp (List.mem_filter.mp h).1
def leadsQ (p : Pic) (l : Nat) : List Nat := if l < p.length then ((List.range p[0]!.length).filter fun j => decide ((p[l]!)[j]! = false)).map fun j => p.length + j else (List.range p.length).filter fun i => decide ((p[i]!)[l - p.length]! = true)
/-- the lines left -/
def lv (p : Pic) (s : List (List Nat) × List Nat × List Nat) : List Nat := s.2.1 ++ s.2.2.map fun j => p.length + j
/-- the lines left without arrows to lines left -/
def freeQ (p : Pic) (s : List (List Nat) × List Nat × List Nat) : List Nat := (lv p s).filter fun l => decide (¬∃ o ∈ leadsQ p l, o ∈ lv p s)
theorem mem_lv {p : Pic} {s : List (List Nat) × List Nat × List Nat} (hr : ∀ i ∈ s.2.1, i < p.length) (l : Nat) : l ∈ lv p s ↔ (l < p.length ∧ l ∈ s.2.1) ∨ (p.length ≤ l ∧ l - p.length ∈ s.2.2) := by
  unfold lv
  rw [List.mem_append, List.mem_map]
  constructor
  · rintro (h | ⟨j, hj, rfl⟩)
    · exact .inl ⟨hr l h, h⟩
    · exact .inr ⟨by omega, by rw [Nat.add_sub_cancel_left]; exact hj⟩
  · rintro (⟨_, h⟩ | ⟨h1, h2⟩)
    · exact .inl h
    · exact .inr ⟨_, h2, by omega⟩
theorem freeQ_eq {p : Pic} {s : List (List Nat) × List Nat × List Nat} (hr : ∀ i ∈ s.2.1, i < p.length) (hc : ∀ j ∈ s.2.2, j < p[0]!.length) : freeQ p s = fullQ p s.2.1 s.2.2 ++ (empQ p s.2.1 s.2.2).map fun j => p.length + j := by
  unfold freeQ
  have e : lv p s = s.2.1 ++ s.2.2.map fun j => p.length + j := rfl
  conv => lhs; arg 2; rw [e]
  rw [List.filter_append]
  congr 1
  · unfold fullQ
    refine List.filter_congr fun i hi => decide_eq_decide.mpr ?_
    have hi' := hr i hi
    unfold leadsQ
    rw [if_pos hi']
    constructor
    · intro h j hj
      cases q : (p[i]!)[j]! with
      | true => rfl
      | false => exact (h ⟨p.length + j, List.mem_map.mpr ⟨j, List.mem_filter.mpr ⟨List.mem_range.mpr (hc j hj), decide_eq_true q⟩, rfl⟩, (mem_lv hr _).mpr (.inr ⟨by omega, by rw [Nat.add_sub_cancel_left]; exact hj⟩)⟩).elim
    · rintro h ⟨o, ho, hl⟩
      obtain ⟨j, hj, rfl⟩ := List.mem_map.mp ho
      have q := of_decide_eq_true (List.mem_filter.mp hj).2
      rcases (mem_lv hr _).mp hl with ⟨a, _⟩ | ⟨_, b⟩
      · omega
      · rw [Nat.add_sub_cancel_left] at b
        rw [h j b] at q; cases q
  · rw [List.filter_map]
    congr 1
    unfold empQ
    refine List.filter_congr fun j hj => decide_eq_decide.mpr ?_
    show (¬∃ o ∈ leadsQ p (p.length + j), o ∈ lv p s) ↔ _
    unfold leadsQ
    rw [if_neg (by omega), Nat.add_sub_cancel_left]
    constructor
    · intro h i hi
      cases q : (p[i]!)[j]! with
      | false => rfl
      | true => exact (h ⟨i, List.mem_filter.mpr ⟨List.mem_range.mpr (hr i hi), decide_eq_true q⟩, (mem_lv hr _).mpr (.inl ⟨hr i hi, hi⟩)⟩).elim
    · rintro h ⟨o, ho, hl⟩
      obtain ⟨a, b⟩ := List.mem_filter.mp ho
      have q := of_decide_eq_true b
      have a := List.mem_range.mp a
      rcases (mem_lv hr _).mp hl with ⟨_, y⟩ | ⟨y, _⟩
      · rw [h o y] at q; cases q
      · omega
/-- a full row and an empty column are not both there -/
theorem full_emp {p : Pic} {rs cs : List Nat} (h : fullQ p rs cs ≠ []) : empQ p rs cs = [] := by
  obtain ⟨i, hi⟩ := List.exists_mem_of_ne_nil _ h
  obtain ⟨i1, i2⟩ := List.mem_filter.mp hi
  have i2 := of_decide_eq_true i2
  refine List.filter_eq_nil_iff.mpr fun j hj q => ?_
  have q := of_decide_eq_true q i i1
  rw [i2 j hj] at q; cases q
/-- the turn by the free lines -/
theorem lstep_free {p : Pic} {s : List (List Nat) × List Nat × List Nat} (hr : ∀ i ∈ s.2.1, i < p.length) (hc : ∀ j ∈ s.2.2, j < p[0]!.length) (h : freeQ p s ≠ []) :
    (lstep p s).1 = s.1 ++ [freeQ p s] ∧ lv p (lstep p s) = (lv p s).filter fun l => decide (l ∉ freeQ p s) := by
  have e := freeQ_eq hr hc
  by_cases q : fullQ p s.2.1 s.2.2 ≠ []
  · have z := full_emp q
    rw [z, List.map_nil, List.append_nil] at e
    rw [e]
    unfold lstep
    rw [if_pos q]
    refine ⟨rfl, ?_⟩
    unfold lv
    rw [List.filter_append]
    congr 1
    refine (List.filter_eq_self.mpr fun l hl => ?_).symm
    obtain ⟨j, hj, rfl⟩ := List.mem_map.mp hl
    refine decide_eq_true fun y => ?_
    have := hr _ (List.mem_filter.mp y).1
    omega
  · have z : fullQ p s.2.1 s.2.2 = [] := Classical.not_not.mp q
    rw [z, List.nil_append] at e
    have q2 : empQ p s.2.1 s.2.2 ≠ [] := fun y => h (by rw [e, y]; rfl)
    rw [e]
    unfold lstep
    rw [if_neg q, if_pos q2]
    refine ⟨rfl, ?_⟩
    unfold lv
    rw [List.filter_append]
    have a : s.2.1.filter (fun l => decide (l ∉ (empQ p s.2.1 s.2.2).map fun j => p.length + j)) = s.2.1 := List.filter_eq_self.mpr fun l hl => by
      refine decide_eq_true fun y => ?_
      obtain ⟨j, _, rfl⟩ := List.mem_map.mp y
      have := hr _ hl
      omega
    rw [a]
    congr 1
    rw [List.filter_map]
    congr 1
    refine List.filter_congr fun j hj => decide_eq_decide.mpr ?_
    constructor
    · intro y y2
      obtain ⟨j', h1, h2⟩ := List.mem_map.mp y2
      have h2 : p.length + j' = p.length + j := h2
      have : j' = j := by omega
      exact y (this ▸ h1)
    · intro y y2
      exact y (List.mem_map.mpr ⟨j, y2, rfl⟩)
theorem lstep_stop {p : Pic} {s : List (List Nat) × List Nat × List Nat} (hr : ∀ i ∈ s.2.1, i < p.length) (hc : ∀ j ∈ s.2.2, j < p[0]!.length) (h : freeQ p s = []) : lstep p s = s := by
  have e := freeQ_eq hr hc
  rw [h] at e
  have e := (List.append_eq_nil_iff.mp e.symm)
  have e2 := List.map_eq_nil_iff.mp e.2
  unfold lstep
  rw [if_neg (by simp [e.1]), if_neg (by simp [e2])]
theorem liter_stop {p : Pic} {n : Nat} (h : freeQ p (liter p n) = []) : ∀ m, liter p (n + m) = liter p n
  | 0 => rfl
  | m + 1 => by
    show lstep p (liter p (n + m)) = _
    rw [liter_stop h m]
    exact lstep_stop (fun i hi => liter_row hi) (fun j hj => liter_col hj) h
end W
set_option maxHeartbeats 1000000
namespace W
open PySem L2 G T
section
variable {q : Pic}
theorem lv_lt {n l : Nat} (h : l ∈ lv q (liter q n)) : l < q.length + q[0]!.length := by
  rcases (mem_lv (fun i hi => liter_row hi) l).mp h with ⟨a, _⟩ | ⟨_, b⟩
  · omega
  · have := liter_col b; omega
/-- what a turn adds -/
theorem liter_succ (n : Nat) : (freeQ q (liter q n) = [] ∧ liter q (n + 1) = liter q n) ∨ (freeQ q (liter q n) ≠ [] ∧ (liter q (n + 1)).1 = (liter q n).1 ++ [freeQ q (liter q n)] ∧ lv q (liter q (n + 1)) = (lv q (liter q n)).filter fun l => decide (l ∉ freeQ q (liter q n))) := by
  have hr : ∀ i ∈ (liter q n).2.1, i < q.length := fun i hi => liter_row hi
  have hc : ∀ j ∈ (liter q n).2.2, j < q[0]!.length := fun j hj => liter_col hj
  by_cases h : freeQ q (liter q n) = []
  · exact .inl ⟨h, lstep_stop hr hc h⟩
  · obtain ⟨a, b⟩ := lstep_free hr hc h
    exact .inr ⟨h, a, b⟩
/-- a line is left, or it is in a layer -/
theorem lv_flat : ∀ (n : Nat) (l : Nat), l < q.length + q[0]!.length → (l ∈ lv q (liter q n) ↔ l ∉ (liter q n).1.flatten)
  | 0, l, hl => by
    refine ⟨fun _ h => (by cases h), fun _ => ?_⟩
    refine (mem_lv (fun i hi => liter_row (n := 0) hi) l).mpr ?_
    by_cases h : l < q.length
    · exact .inl ⟨h, List.mem_range.mpr h⟩
    · exact .inr ⟨by omega, List.mem_range.mpr (by omega)⟩
  | n + 1, l, hl => by
    have ih := lv_flat n l hl
    rcases liter_succ (q := q) n with ⟨_, e⟩ | ⟨_, e1, e2⟩
    · rw [e]; exact ih
    · rw [e1, e2, List.mem_filter, decide_eq_true_iff, ih, List.flatten_append, List.mem_append]
      simp
theorem nodup_flat : ∀ n : Nat, (liter q n).1.flatten.Nodup ∧ (lv q (liter q n)).Nodup
  | 0 => by
    refine ⟨.nil, ?_⟩
    show (List.range q.length ++ (List.range q[0]!.length).map fun j => q.length + j).Nodup
    rw [← List.range_add]
    exact List.nodup_range
  | n + 1 => by
    obtain ⟨a, b⟩ := nodup_flat n
    rcases liter_succ (q := q) n with ⟨_, e⟩ | ⟨_, e1, e2⟩
    · rw [e]; exact ⟨a, b⟩
    · rw [e1, e2]
      refine ⟨?_, b.sublist List.filter_sublist⟩
      rw [List.flatten_append]
      refine List.nodup_append.mpr ⟨a, ?_, fun x hx y hy e => ?_⟩
      · simp only [List.flatten_cons, List.flatten_nil, List.append_nil]
        exact b.sublist List.filter_sublist
      · simp only [List.flatten_cons, List.flatten_nil, List.append_nil] at hy
        subst e
        have hy := (List.mem_filter.mp hy).1
        exact (lv_flat n x (lv_lt hy)).mp hy hx
theorem free_end : freeQ q (liter q (q.length + q[0]!.length)) = [] := by
  refine Classical.byContradiction fun h => ?_
  have all : ∀ n, n ≤ q.length + q[0]!.length → freeQ q (liter q n) ≠ [] := fun n hn e => by
    obtain ⟨m, hm⟩ : ∃ m, q.length + q[0]!.length = n + m := ⟨_, (Nat.add_sub_cancel' hn).symm⟩
    rw [hm, liter_stop e m] at h
    exact h e
  have len : ∀ n, n ≤ q.length + q[0]!.length → (lv q (liter q n)).length + n ≤ q.length + q[0]!.length := by
    intro n
    induction n with
    | zero =>
      intro _
      show (List.range q.length ++ (List.range q[0]!.length).map fun j => q.length + j).length + 0 ≤ _
      rw [← List.range_add, List.length_range]; exact Nat.le_refl _
    | succ n ih =>
      intro hn
      have ih := ih (by omega)
      have ne := all n (by omega)
      rcases liter_succ (q := q) n with ⟨e, _⟩ | ⟨_, _, e2⟩
      · exact (ne e).elim
      · rw [e2]
        obtain ⟨z, hz⟩ := List.exists_mem_of_ne_nil _ ne
        have hz2 : z ∈ lv q (liter q n) := (List.mem_filter.mp hz).1
        have : ((lv q (liter q n)).filter fun l => decide (l ∉ freeQ q (liter q n))).length < (lv q (liter q n)).length := by
          refine Nat.lt_of_le_of_ne (len_filter_le _ _) fun e => ?_
          have := List.length_filter_eq_length_iff.mp e z hz2
          exact of_decide_eq_true this hz
        omega
  have z := len _ (Nat.le_refl _)
  have : lv q (liter q (q.length + q[0]!.length)) = [] := List.eq_nil_of_length_eq_zero (by omega)
  unfold freeQ at h
  rw [this] at h
  exact h rfl
theorem core_lv (l : Nat) : l ∈ coreQ q ↔ l ∈ lv q (liter q (q.length + q[0]!.length)) := by
  unfold coreQ
  rw [List.mem_filter, List.mem_range, decide_eq_true_iff]
  constructor
  · rintro ⟨a, b⟩; exact (lv_flat _ l a).mpr b
  · intro h; exact ⟨lv_lt h, (lv_flat _ l (lv_lt h)).mp h⟩
/-- a line of the core leads to one -/
theorem core_leads {l : Nat} (h : l ∈ coreQ q) : ∃ o ∈ leadsQ q l, o ∈ coreQ q := by
  refine Classical.byContradiction fun z => ?_
  have hl := (core_lv l).mp h
  have : l ∈ freeQ q (liter q (q.length + q[0]!.length)) := by
    refine List.mem_filter.mpr ⟨hl, decide_eq_true ?_⟩
    rintro ⟨o, ho, h2⟩
    exact z ⟨o, ho, (core_lv o).mpr h2⟩
  rw [free_end] at this
  cases this
theorem layer_or_core {l : Nat} (h : l < q.length + q[0]!.length) : l ∈ coreQ q ∨ l ∈ (layersQ q).flatten := by
  by_cases z : l ∈ (layersQ q).flatten
  · exact .inr z
  · exact .inl ((core_lv l).mpr ((lv_flat _ l h).mpr z))
theorem mem_flat {l : Nat} {L : List (List Nat)} (h : l ∈ L.flatten) : ∃ k, k < L.length ∧ l ∈ L[k]! := by
  obtain ⟨s, h1, h2⟩ := List.mem_flatten.mp h
  obtain ⟨k, hk, e⟩ := List.getElem_of_mem h1
  exact ⟨k, hk, by rw [getElem!_pos L k hk, e]; exact h2⟩
theorem flat_mem {l k : Nat} {L : List (List Nat)} (hk : k < L.length) (h : l ∈ L[k]!) : l ∈ L.flatten := List.mem_flatten.mpr ⟨L[k]!, mem_get! hk, h⟩
/-- the colour of a line against one of the other kind that is in no layer up to its own -/
theorem liter_color : ∀ (n k : Nat), k < (liter q n).1.length →
    (∀ i ∈ (liter q n).1[k]!, i < q.length → ∀ j, j < q[0]!.length → (∀ m ≤ k, q.length + j ∉ (liter q n).1[m]!) → (q[i]!)[j]! = true) ∧
    (∀ j, q.length + j ∈ (liter q n).1[k]! → ∀ i, i < q.length → (∀ m ≤ k, i ∉ (liter q n).1[m]!) → (q[i]!)[j]! = false)
  | 0, k, hk => by cases hk
  | n + 1, k, hk => by
    rcases liter_succ (q := q) n with ⟨_, e⟩ | ⟨ne, e1, e2⟩
    · rw [e] at hk ⊢; exact liter_color n k hk
    · rw [e1] at hk ⊢
      rw [List.length_append, List.length_singleton] at hk
      by_cases hlt : k < (liter q n).1.length
      · obtain ⟨a, b⟩ := liter_color n k hlt
        have eq : ∀ m ≤ k, ((liter q n).1 ++ [freeQ q (liter q n)])[m]! = (liter q n).1[m]! := fun m hm => get!_append_left (by omega)
        rw [eq k (Nat.le_refl _)]
        exact ⟨fun i hi h1 j h2 hm => a i hi h1 j h2 fun m h => by rw [← eq m h]; exact hm m h, fun j hj i h1 hm => b j hj i h1 fun m h => by rw [← eq m h]; exact hm m h⟩
      · have ek : k = (liter q n).1.length := by omega
        have hr : ∀ i ∈ (liter q n).2.1, i < q.length := fun i hi => liter_row hi
        have hc : ∀ j ∈ (liter q n).2.2, j < q[0]!.length := fun j hj => liter_col hj
        have gk : ((liter q n).1 ++ [freeQ q (liter q n)])[k]! = freeQ q (liter q n) := by
          rw [get!_append_right (by omega) (by rw [List.length_singleton]; omega), ek, Nat.sub_self]; rfl
        rw [gk]
        -- a line in no list so far is left
        have left : ∀ o, o < q.length + q[0]!.length → (∀ m ≤ k, o ∉ ((liter q n).1 ++ [freeQ q (liter q n)])[m]!) → o ∈ lv q (liter q n) := fun o ho hm => by
          refine (lv_flat n o ho).mpr fun z => ?_
          obtain ⟨m, h1, h2⟩ := mem_flat z
          refine hm m (by omega) ?_
          rw [get!_append_left h1]; exact h2
        rw [freeQ_eq hr hc] at gk ⊢
        refine ⟨fun i hi h1 j h2 hm => ?_, fun j hj i h1 hm => ?_⟩
        · have hl := left (q.length + j) (by omega) (by rw [freeQ_eq hr hc]; exact hm)
          have hj : j ∈ (liter q n).2.2 := by
            rcases (mem_lv hr _).mp hl with ⟨y, _⟩ | ⟨_, y⟩
            · omega
            · rwa [Nat.add_sub_cancel_left] at y
          rcases List.mem_append.mp hi with hi | hi
          · exact of_decide_eq_true (List.mem_filter.mp hi).2 j hj
          · obtain ⟨j', _, rfl⟩ := List.mem_map.mp hi
            omega
        · have hl := left i (by omega) (by rw [freeQ_eq hr hc]; exact hm)
          have hi : i ∈ (liter q n).2.1 := by
            rcases (mem_lv hr _).mp hl with ⟨_, y⟩ | ⟨y, _⟩
            · exact y
            · omega
          rcases List.mem_append.mp hj with hj | hj
          · have := hr _ (List.mem_filter.mp hj).1
            omega
          · obtain ⟨j', h3, h4⟩ := List.mem_map.mp hj
            have h4 : q.length + j' = q.length + j := h4
            have : j' = j := by omega
            subst this
            exact of_decide_eq_true (List.mem_filter.mp h3).2 i hi
/-- layers go by turns: the lists of a kind that was told last are used up -/
theorem liter_turn : ∀ n : Nat, ((liter q n).1 ≠ [] → ((∀ l ∈ (liter q n).1[(liter q n).1.length - 1]!, l < q.length) → fullQ q (liter q n).2.1 (liter q n).2.2 = []) ∧ ((∀ l ∈ (liter q n).1[(liter q n).1.length - 1]!, q.length ≤ l) → empQ q (liter q n).2.1 (liter q n).2.2 = [])) ∧
    ∀ k, k + 1 < (liter q n).1.length → ((∀ l ∈ (liter q n).1[k]!, l < q.length) ∧ ∀ l ∈ (liter q n).1[k + 1]!, q.length ≤ l) ∨ ((∀ l ∈ (liter q n).1[k]!, q.length ≤ l) ∧ ∀ l ∈ (liter q n).1[k + 1]!, l < q.length)
  | 0 => ⟨fun h => (h rfl).elim, fun k hk => by simp [liter] at hk⟩
  | n + 1 => by
    obtain ⟨a, b⟩ := liter_turn n
    have hr : ∀ i ∈ (liter q n).2.1, i < q.length := fun i hi => liter_row hi
    by_cases f : fullQ q (liter q n).2.1 (liter q n).2.2 ≠ []
    · have e : liter q (n + 1) = ((liter q n).1 ++ [fullQ q (liter q n).2.1 (liter q n).2.2], (liter q n).2.1.filter fun i => decide (i ∉ fullQ q (liter q n).2.1 (liter q n).2.2), (liter q n).2.2) := by
        show lstep q (liter q n) = _
        unfold lstep; rw [if_pos f]
      rw [e]
      have g : ((liter q n).1 ++ [fullQ q (liter q n).2.1 (liter q n).2.2])[(liter q n).1.length]! = fullQ q (liter q n).2.1 (liter q n).2.2 := by
        rw [get!_append_right (Nat.le_refl _) (by rw [List.length_singleton]; omega), Nat.sub_self]; rfl
      have rows : ∀ l ∈ fullQ q (liter q n).2.1 (liter q n).2.2, l < q.length := fun l hl => hr l (List.mem_filter.mp hl).1
      refine ⟨fun _ => ⟨fun _ => ?_, fun h => ?_⟩, fun k hk => ?_⟩
      · refine List.filter_eq_nil_iff.mpr fun i hi z => ?_
        obtain ⟨h1, h2⟩ := List.mem_filter.mp hi
        exact of_decide_eq_true h2 (List.mem_filter.mpr ⟨h1, z⟩)
      · simp only [List.length_append, List.length_singleton, Nat.add_sub_cancel] at h
        rw [g] at h
        obtain ⟨z, hz⟩ := List.exists_mem_of_ne_nil _ f
        have := h z hz; have := rows z hz; omega
      · simp only [List.length_append, List.length_singleton] at hk
        by_cases hlt : k + 1 < (liter q n).1.length
        · rw [get!_append_left (by omega), get!_append_left hlt]; exact b k hlt
        · have ek : k + 1 = (liter q n).1.length := by omega
          have kk : k = (liter q n).1.length - 1 := by omega
          have ne : (liter q n).1 ≠ [] := fun z => by rw [z] at ek; simp at ek
          rw [ek, g, get!_append_left (by omega), kk]
          refine .inr ⟨?_, rows⟩
          have hm := mem_get! (xs := (liter q n).1) (i := (liter q n).1.length - 1) (by omega)
          rcases (liter_layer n _ hm).2.2 with h | h
          · exact (f ((a ne).1 h)).elim
          · exact fun l hl => (h l hl).1
    · have f0 : fullQ q (liter q n).2.1 (liter q n).2.2 = [] := Classical.not_not.mp f
      by_cases m : empQ q (liter q n).2.1 (liter q n).2.2 ≠ []
      · have e : liter q (n + 1) = ((liter q n).1 ++ [(empQ q (liter q n).2.1 (liter q n).2.2).map fun j => q.length + j], (liter q n).2.1, (liter q n).2.2.filter fun j => decide (j ∉ empQ q (liter q n).2.1 (liter q n).2.2)) := by
          show lstep q (liter q n) = _
          unfold lstep; rw [if_neg f, if_pos m]
        rw [e]
        have g : ((liter q n).1 ++ [(empQ q (liter q n).2.1 (liter q n).2.2).map fun j => q.length + j])[(liter q n).1.length]! = (empQ q (liter q n).2.1 (liter q n).2.2).map fun j => q.length + j := by
          rw [get!_append_right (Nat.le_refl _) (by rw [List.length_singleton]; omega), Nat.sub_self]; rfl
        have cols : ∀ l ∈ (empQ q (liter q n).2.1 (liter q n).2.2).map (fun j => q.length + j), q.length ≤ l := fun l hl => by
          obtain ⟨j, _, rfl⟩ := List.mem_map.mp hl; omega
        have mne : (empQ q (liter q n).2.1 (liter q n).2.2).map (fun j => q.length + j) ≠ [] := fun z => m (List.map_eq_nil_iff.mp z)
        refine ⟨fun _ => ⟨fun h => ?_, fun _ => ?_⟩, fun k hk => ?_⟩
        · simp only [List.length_append, List.length_singleton, Nat.add_sub_cancel] at h
          rw [g] at h
          obtain ⟨z, hz⟩ := List.exists_mem_of_ne_nil _ mne
          have := h z hz; have := cols z hz; omega
        · refine List.filter_eq_nil_iff.mpr fun i hi z => ?_
          obtain ⟨h1, h2⟩ := List.mem_filter.mp hi
          exact of_decide_eq_true h2 (List.mem_filter.mpr ⟨h1, z⟩)
        · simp only [List.length_append, List.length_singleton] at hk
          by_cases hlt : k + 1 < (liter q n).1.length
          · rw [get!_append_left (by omega), get!_append_left hlt]; exact b k hlt
          · have ek : k + 1 = (liter q n).1.length := by omega
            have kk : k = (liter q n).1.length - 1 := by omega
            have ne : (liter q n).1 ≠ [] := fun z => by rw [z] at ek; simp at ek
            rw [ek, g, get!_append_left (by omega), kk]
            refine .inl ⟨?_, cols⟩
            have hm := mem_get! (xs := (liter q n).1) (i := (liter q n).1.length - 1) (by omega)
            rcases (liter_layer n _ hm).2.2 with h | h
            · exact h
            · exact (m ((a ne).2 fun l hl => (h l hl).1)).elim
      · have e : liter q (n + 1) = liter q n := by
          show lstep q (liter q n) = _
          unfold lstep; rw [if_neg f, if_neg m]
        rw [e]; exact ⟨a, b⟩
theorem color_row {i j k : Nat} (hk : k < (layersQ q).length) (hi : i ∈ (layersQ q)[k]!) (h1 : i < q.length) (h2 : j < q[0]!.length) (hm : ∀ m ≤ k, q.length + j ∉ (layersQ q)[m]!) : (q[i]!)[j]! = true := (liter_color _ k hk).1 i hi h1 j h2 hm
theorem color_col {i j k : Nat} (hk : k < (layersQ q).length) (hj : q.length + j ∈ (layersQ q)[k]!) (h1 : i < q.length) (hm : ∀ m ≤ k, i ∉ (layersQ q)[m]!) : (q[i]!)[j]! = false := (liter_color _ k hk).2 j hj i h1 hm
theorem layers_turn {k : Nat} (hk : k + 1 < (layersQ q).length) : ((∀ l ∈ (layersQ q)[k]!, l < q.length) ∧ ∀ l ∈ (layersQ q)[k + 1]!, q.length ≤ l) ∨ ((∀ l ∈ (layersQ q)[k]!, q.length ≤ l) ∧ ∀ l ∈ (layersQ q)[k + 1]!, l < q.length) := (liter_turn _).2 k hk
theorem layers_nodup : (layersQ q).flatten.Nodup := (nodup_flat _).1
theorem layers_lt {l : Nat} (h : l ∈ (layersQ q).flatten) : l < q.length + q[0]!.length := by
  obtain ⟨s, h1, h2⟩ := List.mem_flatten.mp h
  rcases (layersQ_layer s h1).2.2 with z | z
  · have := z l h2; omega
  · exact (z l h2).2
theorem nodup_idx {L : List (List Nat)} (h : L.flatten.Nodup) {a b l : Nat} (ha : a < L.length) (hb : b < L.length) (h1 : l ∈ L[a]!) (h2 : l ∈ L[b]!) : a = b := by
  induction L generalizing a b with
  | nil => cases ha
  | cons s L ih =>
    rw [List.flatten_cons] at h
    obtain ⟨n1, n2, n3⟩ := List.nodup_append.mp h
    cases a with
    | zero =>
      cases b with
      | zero => rfl
      | succ b => exact (n3 l h1 l (flat_mem (by simpa using hb) h2) rfl).elim
    | succ a =>
      cases b with
      | zero => exact (n3 l h2 l (flat_mem (by simpa using ha) h1) rfl).elim
      | succ b => rw [ih n2 (by simpa using ha) (by simpa using hb) h1 h2]
end
end W
set_option maxHeartbeats 1000000
namespace W
open PySem L2 G T
/-- the last deed that meets a cell: its colour -/
def hit (h i j : Nat) : List Nat → Option Bool
  | [] => none
  | l :: ls => (hit h i j ls).or (if l = i then some true else if l = h + j then some false else none)
theorem hit_cons (h i j l : Nat) (ls : List Nat) : hit h i j (l :: ls) = (hit h i j ls).or (if l = i then some true else if l = h + j then some false else none) := rfl
theorem hit_app (h i j : Nat) (a b : List Nat) : hit h i j (a ++ b) = (hit h i j b).or (hit h i j a) := by
  induction a with
  | nil => simp [hit]
  | cons l a ih =>
    rw [List.cons_append, hit_cons, hit_cons, ih, Option.or_assoc]
theorem hit_none {h i j : Nat} : ∀ {ls : List Nat}, i ∉ ls → h + j ∉ ls → hit h i j ls = none
  | [], _, _ => rfl
  | l :: ls, h1, h2 => by
    rw [hit_cons]
    rw [hit_none (fun z => h1 (List.mem_cons_of_mem _ z)) (fun z => h2 (List.mem_cons_of_mem _ z)), if_neg (fun e => h1 (by rw [e]; exact List.mem_cons_self)), if_neg (fun e => h2 (by rw [e]; exact List.mem_cons_self))]; rfl
theorem hit_true {h i j : Nat} : ∀ {ls : List Nat}, hit h i j ls = some true → i ∈ ls
  | l :: ls, e => by
    rw [hit_cons] at e
    cases q : hit h i j ls with
    | some b =>
      rw [q] at e
      have e : some b = some true := e
      exact List.mem_cons_of_mem _ (hit_true (q.trans e))
    | none =>
      rw [q] at e
      have e : (if l = i then some true else if l = h + j then some false else none) = some true := e
      split at e
      · rename_i z; rw [z]; exact List.mem_cons_self
      · split at e <;> cases e
theorem hit_false {h i j : Nat} : ∀ {ls : List Nat}, hit h i j ls = some false → h + j ∈ ls
  | l :: ls, e => by
    rw [hit_cons] at e
    cases q : hit h i j ls with
    | some b =>
      rw [q] at e
      have e : some b = some false := e
      exact List.mem_cons_of_mem _ (hit_false (q.trans e))
    | none =>
      rw [q] at e
      have e : (if l = i then some true else if l = h + j then some false else none) = some false := e
      split at e
      · cases e
      · split at e
        · rename_i z; rw [← z]; exact List.mem_cons_self
        · cases e
theorem hit_some {h i j : Nat} : ∀ {ls : List Nat}, (i ∈ ls ∨ h + j ∈ ls) → ∃ b, hit h i j ls = some b
  | [], e => by simp at e
  | l :: ls, e => by
    rw [hit_cons]
    cases q : hit h i j ls with
    | some b => exact ⟨b, rfl⟩
    | none =>
      by_cases z : l = i
      · rw [if_pos z]; exact ⟨true, rfl⟩
      · rw [if_neg z]
        by_cases y : l = h + j
        · rw [if_pos y]; exact ⟨false, rfl⟩
        · have : i ∈ ls ∨ h + j ∈ ls := e.imp (fun e => (List.mem_cons.mp e).resolve_left fun x => z x.symm) (fun e => (List.mem_cons.mp e).resolve_left fun x => y x.symm)
          obtain ⟨b, hb⟩ := hit_some (ls := ls) this
          rw [hb] at q; cases q
section
variable {p q : Pic}
theorem linesQ_get (k : PicP p) {i j : Nat} (hi : i < p.length) (hj : j < p[0]!.length) (ls : List Nat) : ((linesQ p ls)[i]!)[j]! = (hit p.length i j ls).getD ((p[i]!)[j]!) := by
  induction ls generalizing p with
  | nil => rfl
  | cons l ls ih =>
    have e := ih (p := lineQ p l) (lineQ_pp k l) (by rw [lineQ_len]; exact hi) (by rw [lineQ_wid k]; exact hj)
    show ((linesQ (lineQ p l) ls)[i]!)[j]! = _
    rw [e, lineQ_len, lineQ_get hi hj]
    rw [hit_cons]
    cases hit p.length i j ls with
    | some b => rfl
    | none =>
      show (if l = i then true else if l = p.length + j then false else (p[i]!)[j]!) = _
      by_cases z : l = i
      · rw [if_pos z, if_pos z]; rfl
      · rw [if_neg z, if_neg z]
        by_cases y : l = p.length + j
        · rw [if_pos y, if_pos y]; rfl
        · rw [if_neg y, if_neg y]; rfl
/-- the cells where two pictures differ, row by row -/
def diffQ (p q : Pic) : List (Nat × Nat) := (List.range p.length).flatMap fun i => ((List.range p[0]!.length).filter fun j => decide ((p[i]!)[j]! ≠ (q[i]!)[j]!)).map fun j => (i, j)
/-- both pictures are on one board -/
structure Like (p q : Pic) : Prop where
  pp : PicP p
  qq : PicP q
  hh : p.length = q.length
  ww : p[0]!.length = q[0]!.length
theorem mem_diff {c : Nat × Nat} : c ∈ diffQ p q ↔ c.1 < p.length ∧ c.2 < p[0]!.length ∧ (p[c.1]!)[c.2]! ≠ (q[c.1]!)[c.2]! := by
  unfold diffQ
  rw [List.mem_flatMap]
  constructor
  · rintro ⟨i, hi, h⟩
    obtain ⟨j, hj, rfl⟩ := List.mem_map.mp h
    obtain ⟨a, b⟩ := List.mem_filter.mp hj
    exact ⟨List.mem_range.mp hi, List.mem_range.mp a, of_decide_eq_true b⟩
  · rintro ⟨a, b, c'⟩
    exact ⟨c.1, List.mem_range.mpr a, List.mem_map.mpr ⟨c.2, List.mem_filter.mpr ⟨List.mem_range.mpr b, decide_eq_true c'⟩, rfl⟩⟩
/-- a cell lies in one of some lines -/
abbrev Touch (h : Nat) (c : Nat × Nat) (s : List Nat) : Prop := c.1 ∈ s ∨ h + c.2 ∈ s
theorem Like.sd (k : Like p q) (ls : List Nat) : Like (linesQ p ls) q := by
  obtain ⟨a, b, c⟩ := linesQ_pp k.pp ls
  exact ⟨a, k.qq, by rw [b, k.hh], by rw [c, k.ww]⟩
/-- no line that is painted is in the core of what it makes -/
theorem made_core (k : Like p q) {ds : List Nat} (h : linesQ p ds = q) {l : Nat} (hl : l ∈ ds) : l ∉ coreQ q := by
  -- the last line of the core that is painted
  have key : ∀ (b a : List Nat), ds = a ++ b → (∀ x ∈ b, x ∉ coreQ q) → ∀ x ∈ a, x ∉ coreQ q := by
    intro b a
    induction hn : a.length generalizing a b with
    | zero => intro _ _ x hx; rw [List.length_eq_zero_iff.mp hn] at hx; cases hx
    | succ n ih =>
      rcases List.eq_nil_or_concat a with ea | ⟨a', x, ea⟩
      · rw [ea] at hn; cases hn
      rw [List.concat_eq_append] at ea
      subst ea
      have hn' : a'.length = n := by simp at hn; exact hn
      generalize a' = a at hn' ⊢
      have ih := fun b => ih b a hn'
      intro e hb y hy
      have hx : x ∉ coreQ q := fun hx => by
        obtain ⟨o, ho, hoc⟩ := core_leads hx
        have e2 : ds = a ++ ([x] ++ b) := by rw [e, List.append_assoc]
        have xl := coreQ_lt hx
        unfold leadsQ at ho
        split at ho
        · rename_i lt
          obtain ⟨j, hj, rfl⟩ := List.mem_map.mp ho
          obtain ⟨j1, j2⟩ := List.mem_filter.mp hj
          have j1 := List.mem_range.mp j1
          have j2 := of_decide_eq_true j2
          have c := linesQ_get k.pp (i := x) (j := j) (by rw [k.hh]; exact lt) (by rw [k.ww]; exact j1) ds
          rw [h, j2, e2, hit_app, hit_app, hit_none (fun z => hb _ z hx) (fun z => hb _ z (by rw [k.hh]; exact hoc))] at c
          have c2 : hit p.length x j [x] = some true := by rw [hit_cons, if_pos rfl]; rfl
          rw [c2] at c
          have c : false = true := c
          cases c
        · rename_i nlt
          obtain ⟨j1, j2⟩ := List.mem_filter.mp ho
          have j1 := List.mem_range.mp j1
          have j2 := of_decide_eq_true j2
          have c := linesQ_get k.pp (i := o) (j := x - q.length) (by rw [k.hh]; exact j1) (by rw [k.ww]; omega) ds
          have ex : p.length + (x - q.length) = x := by rw [k.hh]; omega
          rw [h, j2, e2, hit_app, hit_app, hit_none (fun z => hb _ z hoc) (fun z => hb _ z (by rw [ex]; exact hx))] at c
          have c2 : hit p.length o (x - q.length) [x] = some false := by
            rw [hit_cons, if_neg (by omega), if_pos ex.symm]; rfl
          rw [c2] at c
          have c : true = false := c
          cases c
      rcases List.mem_append.mp hy with hy | hy
      · exact ih ([x] ++ b) (by rw [e, List.append_assoc]) (fun z hz => by
          rcases List.mem_append.mp hz with hz | hz
          · rw [List.mem_singleton.mp hz]; exact hx
          · exact hb z hz) y hy
      · rw [List.mem_singleton.mp hy]; exact hx
  exact key [] ds (by simp) (fun x hx => by cases hx) l hl
/-- the least set's lists are parts of the layers, in their order -/
inductive Parts : List (List Nat) → List (List Nat) → Prop
  | nil {L : List (List Nat)} : Parts [] L
  | last {s t : List Nat} {L : List (List Nat)} : t.Sublist s → Parts [t] (s :: L)
  | cons {s : List Nat} {T L : List (List Nat)} : Parts T L → Parts (s :: T) (s :: L)
theorem Parts.sub {T L : List (List Nat)} (h : Parts T L) : T.flatten.Sublist L.flatten := by
  induction h with
  | nil => exact List.nil_sublist _
  | last h =>
    simp only [List.flatten_cons, List.flatten_nil, List.append_nil]
    exact h.trans (List.sublist_append_left _ _)
  | cons _ ih =>
    rw [List.flatten_cons, List.flatten_cons]
    exact (List.Sublist.refl _).append ih
theorem sub_filter {t s : List Nat} (h : t.Sublist s) (nd : s.Nodup) : s.filter (fun l => decide (l ∈ t)) = t := by
  induction h with
  | slnil => rfl
  | cons a h ih =>
    obtain ⟨n1, n2⟩ := List.nodup_cons.mp nd
    rename_i t s
    rw [List.filter_cons_of_neg (p := fun l => decide (l ∈ t)) (fun z => n1 (h.subset (of_decide_eq_true z)))]
    exact ih n2
  | cons_cons a h ih =>
    obtain ⟨n1, n2⟩ := List.nodup_cons.mp nd
    rename_i t s
    rw [List.filter_cons_of_pos (p := fun l => decide (l ∈ a :: t)) (decide_eq_true List.mem_cons_self)]
    congr 1
    refine Eq.trans (List.filter_congr fun x hx => decide_eq_decide.mpr ⟨fun z => ?_, fun z => List.mem_cons_of_mem _ z⟩) (ih n2)
    exact (List.mem_cons.mp z).resolve_left fun y => n1 (y ▸ hx)
end
end W
set_option maxHeartbeats 1000000
namespace W
open PySem L2 G T
theorem enumP_get {α : Type} [Inhabited α] {xs : List α} {i : Nat} {x : Nat × α} (h : (enumP xs)[i]? = some x) : x = (i, xs[i]!) ∧ xs[i]? = some xs[i]! ∧ i < xs.length := by
  rw [enumP_eq] at h
  have hi : i < xs.length := by
    have := (List.getElem?_eq_some_iff.mp h).1
    simpa using this
  rw [List.getElem?_map, List.getElem?_range hi] at h
  exact ⟨(Option.some.inj h).symm, by rw [List.getElem?_eq_getElem hi, getElem!_pos xs i hi], hi⟩
theorem get?_get! {α : Type} [Inhabited α] {xs : List α} {i : Nat} {x : α} (h : xs[i]? = some x) : x = xs[i]! ∧ i < xs.length := by
  obtain ⟨h1, h2⟩ := List.getElem?_eq_some_iff.mp h
  exact ⟨by rw [getElem!_pos xs i h1, h2], h1⟩
theorem get!_get? {α : Type} [Inhabited α] {xs : List α} {i : Nat} (h : i < xs.length) : xs[i]? = some xs[i]! := by rw [List.getElem?_eq_getElem h, getElem!_pos xs i h]
theorem get!_set {α : Type} [Inhabited α] {xs : List α} {n i : Nat} {x : α} (h : i < xs.length) : (xs.set n x)[i]! = if n = i then x else xs[i]! := by
  rw [getElem!_pos _ i (by rw [List.length_set]; exact h), List.getElem_set, getElem!_pos xs i h]
theorem set_cut {α : Type} {xs : List α} {n : Nat} {x : α} (h : n < xs.length) : (xs.take n ++ [x]) ++ xs.drop (n + 1) = xs.set n x := by
  rw [List.set_eq_take_append_cons_drop, if_pos h, List.append_assoc]; rfl
theorem len_sub {a b : List Nat} (nd : a.Nodup) (h : ∀ x ∈ a, x ∈ b) : a.length ≤ b.length := by
  induction a generalizing b with
  | nil => exact Nat.zero_le _
  | cons x a ih =>
    obtain ⟨n1, n2⟩ := List.nodup_cons.mp nd
    have hx := h x List.mem_cons_self
    have := ih (b := b.erase x) n2 fun y hy => (List.mem_erase_of_ne (fun e => n1 (by rw [← e]; exact hy))).mpr (h y (List.mem_cons_of_mem _ hy))
    rw [List.length_erase_of_mem hx] at this
    have : 0 < b.length := List.length_pos_of_mem hx
    rw [List.length_cons]; omega
theorem drop_at {α : Type} [Inhabited α] {L : List α} {i : Nat} {x : α} (h : L[i]? = some x) : L.drop i = x :: L.drop (i + 1) := by
  obtain ⟨h1, h2⟩ := List.getElem?_eq_some_iff.mp h
  rw [List.drop_eq_getElem_cons h1, h2]
theorem cut_back {L : List (List Nat)} {t : List Nat} (h : ∀ l ∈ L.flatten, l ∉ t) : L.reverse.flatMap (fun s => s.filter fun l => decide (l ∈ t)) = [] :=
  List.flatMap_eq_nil_iff.mpr fun s hs => List.filter_eq_nil_iff.mpr fun l hl z => h l (List.mem_flatten.mpr ⟨s, List.mem_reverse.mp hs, hl⟩) (of_decide_eq_true z)
/-- the layers from the last one on, cut to the lines of the least set -/
theorem Parts.back {T L : List (List Nat)} (h : Parts T L) (nd : L.flatten.Nodup) : L.reverse.flatMap (fun s => s.filter fun l => decide (l ∈ T.flatten)) = T.reverse.flatten := by
  induction h with
  | nil => exact cut_back fun l _ z => by simp at z
  | last h =>
    rename_i s t L
    rw [List.flatten_cons] at nd
    obtain ⟨n1, n2, n3⟩ := List.nodup_append.mp nd
    simp only [List.flatten_cons, List.flatten_nil, List.append_nil, List.reverse_cons, List.reverse_nil, List.nil_append, List.flatMap_append, List.flatMap_cons, List.flatMap_nil]
    rw [sub_filter h n1, cut_back fun l hl z => n3 l (h.subset z) l hl rfl, List.nil_append]
  | cons _ ih =>
    rename_i s T L _
    rw [List.flatten_cons] at nd
    obtain ⟨n1, n2, n3⟩ := List.nodup_append.mp nd
    simp only [List.flatten_cons, List.flatten_nil, List.append_nil, List.reverse_cons, List.flatMap_append, List.flatMap_cons, List.flatMap_nil, List.flatten_append]
    have e1 : s.filter (fun l => decide (l ∈ s ++ T.flatten)) = s := List.filter_eq_self.mpr fun l hl => decide_eq_true (List.mem_append_left _ hl)
    rw [e1]
    congr 1
    refine Eq.trans (flatMap_congr' fun x hx => List.filter_congr fun l hl => decide_eq_decide.mpr ⟨fun z => ?_, fun z => List.mem_append_right _ z⟩) (ih n2)
    exact (List.mem_append.mp z).resolve_left fun y => n3 l y l (List.mem_flatten.mpr ⟨x, List.mem_reverse.mp hx, hl⟩) rfl
end W
set_option maxHeartbeats 1000000
namespace T
open PySem L2 G
end T
namespace W
open PySem L2 G T
theorem keys_true (xs : List Nat) (x : Nat) : x ∈ dkeys (dictOf (xs.map fun x => (x, true))) ↔ x ∈ xs := by
  rw [mem_dictOf]
  unfold dkeys
  rw [List.map_map]
  have : ((fun p : Nat × Bool => p.1) ∘ fun x => (x, true)) = id := rfl
  rw [this, List.map_id]
theorem keys_flat (xs : List (List Nat)) (x : Nat) : x ∈ dkeys (dictOf (xs.flatMap fun s => s.map fun y => (y, true))) ↔ x ∈ xs.flatten := by
  rw [mem_dictOf]
  unfold dkeys
  rw [List.map_flatMap]
  have : (fun s : List Nat => (s.map fun y => (y, true)).map (fun p : Nat × Bool => p.1)) = fun s => s := by
    funext s
    rw [List.map_map]
    exact List.map_id _
  rw [this]
  exact Iff.of_eq (congrArg (x ∈ ·) (List.flatMap_id'))
section
variable {p q : Pic}
theorem Parts.len {T L : List (List Nat)} (h : Parts T L) : T.length ≤ L.length := by
  induction h with
  | nil => exact Nat.zero_le _
  | last _ => simp
  | cons _ ih => rw [List.length_cons, List.length_cons]; omega
end
end W
set_option maxHeartbeats 1000000
namespace T
open PySem L2 G
theorem ev_index {xs : List Nat} {x : Nat} {env : DEnv} {tp t1' t2' : List D} {ma mb : SE D} (h : x ∈ xs) (ha : ma env tp = .ok (eL eN xs) t1') (hb : mb env t1' = .ok (eN x) t2') : methE isLstD indexD ma mb env tp = .ok (eN (xs.idxOf x)) t2' :=
  ev_meth ha rfl hb (by
    show (unI (xs.map eN)).bind (fun ns => if ns.findIdx (fun n => decide (n = (x : Int))) < ns.length then some (D.int ((ns.findIdx (fun n => decide (n = (x : Int))) : Nat) : Int)) else none) = _
    rw [unI_mapN]
    have e : (xs.map fun n : Nat => (n : Int)).findIdx (fun n => decide (n = (x : Int))) = xs.idxOf x := by
      rw [List.findIdx_map]
      unfold List.idxOf
      congr 1
      funext n
      show decide ((n : Int) = (x : Int)) = (n == x)
      by_cases q : n = x
      · rw [q]; simp
      · rw [decide_eq_false (by omega)]; simp [q]
    show (if _ < _ then _ else _) = _
    rw [e, List.length_map, if_pos (List.idxOf_lt_length_of_mem h)])
theorem cRg_int {i : Int} (h1 : -1000000 ≤ i) (h2 : i ≤ 1073741824) : cRg i = true := by
  unfold cRg
  have h1 : -(2 ^ 62) ≤ i := by omega
  have h2 : i < 2 ^ 62 := by omega
  rw [decide_eq_true h1, decide_eq_true h2]; rfl
theorem rangeL_S (a b : Nat) : rangeL 0 ((a : Int) - (b : Int)) = (List.range (a - b)).map eN := by
  unfold rangeL
  have e : ((a : Int) - (b : Int) - 0).toNat = a - b := by omega
  rw [e]
  exact List.map_congr_left fun a _ => by rw [Int.zero_add]
/-- range(x - y), nothing where y is the greater one -/
theorem it_rangeS {x y : Nat} {env : DEnv} {tp t1' t2' : List D} {ma mb : SE D} (hx : x ≤ 1073741824) (hy : y ≤ 1000000) (ha : ma env tp = .ok (eN x) t1') (hb : mb env t1' = .ok (eN y) t2') : rangeI range1D (consA (binE subD ma mb) nilA) env tp = .ok ((List.range (x - y)).map eN) t2' :=
  ev_rangeI (ev_cons ((ev_bin ha hb rfl).trans (show RE.ok (D.int ((x : Int) - (y : Int))) t2' = _ from rfl)) ev_nil) (by rw [range1D_i (cRg_int (by omega) (by omega)), rangeL_S])
end T
set_option maxHeartbeats 1000000
namespace T
open PySem L2 G
end T
set_option maxHeartbeats 1000000
namespace T
open PySem L2 G
end T
set_option maxHeartbeats 1000000
namespace T
open PySem L2 G
end T
set_option maxHeartbeats 1000000
namespace T
open PySem L2 G
end T
set_option maxHeartbeats 1000000
namespace W
open PySem L2 G T
abbrev one (b : Bool) : Nat := if b then 1 else 0
end W
set_option maxHeartbeats 1000000
namespace W
def Lg (x : Int) (n : Nat) : Prop := x.natAbs < 2 ^ n
theorem log_lt {x k : Nat} (h : x < 2 ^ k) (hk : 0 < k) : x.log2 < k := by
  by_cases q : x = 0
  · subst q; simpa using hk
  · exact (Nat.log2_lt q).mpr h
theorem Lg.mono {x : Int} {n m : Nat} (a : Lg x n) (h : n ≤ m) : Lg x m := Nat.lt_of_lt_of_le a (Nat.pow_le_pow_right (by decide) h)
theorem Lg.mul {x y : Int} {n m : Nat} (a : Lg x n) (b : Lg y m) : Lg (x * y) (n + m) := by
  unfold Lg at *; rw [Int.natAbs_mul, Nat.pow_add]; exact Nat.mul_lt_mul'' a b
theorem Lg.add {x y : Int} {n : Nat} (a : Lg x n) (b : Lg y n) : Lg (x + y) (n + 1) := by
  unfold Lg at *
  have := Int.natAbs_add_le x y
  rw [Nat.pow_succ]; omega
theorem Lg.le {x y : Int} {n : Nat} (a : Lg y n) (h : x.natAbs ≤ y.natAbs) : Lg x n := Nat.lt_of_le_of_lt h a
theorem Lg.nat {x n : Nat} (h : x < 2 ^ n) : Lg (x : Int) n := by unfold Lg; rw [Int.natAbs_natCast]; exact h
/-- the lowest terms -/
def low (a b : Int) : Int × Int := (a / (Int.gcd a b : Int), b / (Int.gcd a b : Int))
theorem gcd_pos {a b : Int} (h : 0 < b) : 0 < (Int.gcd a b : Int) := by
  have : 0 < Int.gcd a b := Int.gcd_pos_of_ne_zero_right a (by omega)
  omega
theorem low_spec {a b : Int} (h : 0 < b) : ∃ g : Int, 0 < g ∧ a = g * (low a b).1 ∧ b = g * (low a b).2 := by
  refine ⟨Int.gcd a b, gcd_pos h, ?_, ?_⟩
  · exact (Int.mul_ediv_cancel' (Int.gcd_dvd_left a b)).symm
  · exact (Int.mul_ediv_cancel' (Int.gcd_dvd_right a b)).symm
theorem low_pos {a b : Int} (h : 0 < b) : 0 < (low a b).2 := by
  obtain ⟨g, h1, _, h3⟩ := low_spec (a := a) h
  have : 0 < g * (low a b).2 := by rw [← h3]; exact h
  rcases Int.lt_or_le 0 (low a b).2 with q | q
  · exact q
  · have := Int.mul_le_mul_of_nonneg_left q (Int.le_of_lt h1)
    omega
theorem low_cop {a b : Int} (h : 0 < b) : Nat.Coprime (low a b).1.natAbs (low a b).2.natAbs := by
  have hp := gcd_pos (a := a) h
  have e1 : (low a b).1.natAbs = a.natAbs / Int.gcd a b := by
    show (a / (Int.gcd a b : Int)).natAbs = _
    rw [Int.natAbs_ediv_of_dvd (Int.gcd_dvd_left a b), Int.natAbs_natCast]
  have e2 : (low a b).2.natAbs = b.natAbs / Int.gcd a b := by
    show (b / (Int.gcd a b : Int)).natAbs = _
    rw [Int.natAbs_ediv_of_dvd (Int.gcd_dvd_right a b), Int.natAbs_natCast]
  rw [e1, e2, Int.gcd_eq_natAbs_gcd_natAbs]
  exact Nat.coprime_div_gcd_div_gcd (by rw [← Int.gcd_eq_natAbs_gcd_natAbs]; omega)
theorem low_eq {a b c d : Int} (hb : 0 < b) (hd : 0 < d) (h : a * d = c * b) : low a b = low c d := by
  obtain ⟨g, g0, ga, gb⟩ := low_spec (a := a) hb
  obtain ⟨k, k0, kc, kd⟩ := low_spec (a := c) hd
  have c1 := low_cop (a := a) hb
  have c2 := low_cop (a := c) hd
  have p1 := low_pos (a := a) hb
  have p2 := low_pos (a := c) hd
  generalize low a b = x at *
  generalize low c d = y at *
  obtain ⟨x1, x2⟩ := x
  obtain ⟨y1, y2⟩ := y
  simp only at *
  have e : x1 * y2 = y1 * x2 := by
    have e0 : (g * k) * (x1 * y2) = (g * k) * (y1 * x2) := by
      have : (g * x1) * (k * y2) = (k * y1) * (g * x2) := by rw [← ga, ← gb, ← kc, ← kd]; exact h
      calc (g * k) * (x1 * y2) = (g * x1) * (k * y2) := by ac_rfl
        _ = (k * y1) * (g * x2) := this
        _ = _ := by ac_rfl
    exact Int.eq_of_mul_eq_mul_left (Int.ne_of_gt (Int.mul_pos g0 k0)) e0
  have en : x1.natAbs * y2.natAbs = y1.natAbs * x2.natAbs := by rw [← Int.natAbs_mul, e, Int.natAbs_mul]
  have d1 : x2.natAbs ∣ y2.natAbs := by
    refine Nat.Coprime.dvd_of_dvd_mul_left (m := x1.natAbs) c1.symm ?_
    rw [en]; exact Nat.dvd_mul_left _ _
  have d2 : y2.natAbs ∣ x2.natAbs := by
    refine Nat.Coprime.dvd_of_dvd_mul_left (m := y1.natAbs) c2.symm ?_
    rw [← en]; exact Nat.dvd_mul_left _ _
  have q : x2.natAbs = y2.natAbs := Nat.dvd_antisymm d1 d2
  have q : x2 = y2 := by omega
  subst q
  have := Int.eq_of_mul_eq_mul_right (Int.ne_of_gt p1) e
  rw [this]
theorem low_le {a b : Int} (h : 0 < b) : (low a b).1.natAbs ≤ a.natAbs ∧ (low a b).2.natAbs ≤ b.natAbs := by
  have hp := gcd_pos (a := a) h
  refine ⟨?_, ?_⟩
  · show (a / (Int.gcd a b : Int)).natAbs ≤ _
    rw [Int.natAbs_ediv_of_dvd (Int.gcd_dvd_left a b)]; exact Nat.div_le_self _ _
  · show (b / (Int.gcd a b : Int)).natAbs ≤ _
    rw [Int.natAbs_ediv_of_dvd (Int.gcd_dvd_right a b)]; exact Nat.div_le_self _ _
/-- a ratio that stands for a / b, its size -/
structure Rat' (x : Int × Int) (a b : Int) (n : Nat) : Prop where
  e : x = low a b
  p : 0 < b
  l1 : Lg a n
  l2 : Lg b n
theorem Rat'.pos {x : Int × Int} {a b : Int} {n : Nat} (h : Rat' x a b n) : 0 < x.2 := by rw [h.e]; exact low_pos h.p
theorem Rat'.lg {x : Int × Int} {a b : Int} {n : Nat} (h : Rat' x a b n) : Lg x.1 n ∧ Lg x.2 n := by
  rw [h.e]; exact ⟨h.l1.le (low_le h.p).1, h.l2.le (low_le h.p).2⟩
theorem Rat'.cross {x : Int × Int} {a b : Int} {n : Nat} (h : Rat' x a b n) : x.1 * b = a * x.2 := by
  obtain ⟨g, _, h1, h2⟩ := low_spec (a := a) h.p
  rw [← h.e] at h1 h2
  conv => lhs; rw [h2]
  conv => rhs; rw [h1]
  ac_rfl
theorem rat_mk {a b : Int} {n : Nat} (p : 0 < b) (l1 : Lg a n) (l2 : Lg b n) : Rat' (low a b) a b n := ⟨rfl, p, l1, l2⟩
theorem Rat'.plus {x y : Int × Int} {a b c d : Int} {n m : Nat} (h : Rat' x a b n) (k : Rat' y c d m) : low (x.1 * y.2 + y.1 * x.2) (x.2 * y.2) = low (a * d + c * b) (b * d) := by
  refine low_eq (Int.mul_pos h.pos k.pos) (Int.mul_pos h.p k.p) ?_
  have e1 := h.cross
  have e2 := k.cross
  calc (x.1 * y.2 + y.1 * x.2) * (b * d) = (x.1 * b) * (y.2 * d) + (y.1 * d) * (x.2 * b) := by rw [Int.add_mul]; congr 1 <;> ac_rfl
    _ = (a * x.2) * (y.2 * d) + (c * y.2) * (x.2 * b) := by rw [e1, e2]
    _ = (a * d + c * b) * (x.2 * y.2) := by rw [Int.add_mul]; congr 1 <;> ac_rfl
/-- the steps of the greatest common divisor -/
def gcdM (a b : Nat) : Nat := if b = 0 then 0 else (if a < b then 2 else 1) + (a * b).log2
theorem gcdM_lt {a b : Nat} (hb : b ≠ 0) : gcdM b (a % b) < gcdM a b := by
  unfold gcdM
  rw [if_neg hb]
  by_cases hr : a % b = 0
  · rw [if_pos hr]; split <;> omega
  · rw [if_neg hr]
    have hlt := Nat.mod_lt a (Nat.pos_of_ne_zero hb)
    rw [if_neg (by omega)]
    by_cases q : a < b
    · rw [if_pos q, Nat.mod_eq_of_lt q, Nat.mul_comm b a]; omega
    · rw [if_neg q]
      have h1 : b + a % b ≤ a := by
        have := Nat.div_add_mod a b
        have h2 : 1 ≤ a / b := (Nat.one_le_div_iff (Nat.pos_of_ne_zero hb)).mpr (by omega)
        have h3 : b * 1 ≤ b * (a / b) := Nat.mul_le_mul_left _ h2
        omega
      have h2 : 2 * (b * (a % b)) < a * b := by
        have h3 : 2 * (a % b) < a := by omega
        have h4 := Nat.mul_lt_mul_of_pos_right h3 (Nat.pos_of_ne_zero hb)
        calc 2 * (b * (a % b)) = 2 * (a % b) * b := by ac_rfl
          _ < a * b := h4
      have h0 : b * (a % b) ≠ 0 := Nat.mul_ne_zero hb hr
      have h5 : (2 * (b * (a % b))).log2 = (b * (a % b)).log2 + 1 := Nat.log2_two_mul h0
      have h6 : (2 * (b * (a % b))).log2 ≤ (a * b).log2 := by
        rcases Nat.lt_or_ge (a * b).log2 (2 * (b * (a % b))).log2 with q | q
        · have h7 := (Nat.log2_lt (n := a * b) (by omega)).mp q
          have h8 := Nat.log2_self_le (n := 2 * (b * (a % b))) (by omega)
          omega
        · exact q
      omega
theorem gcdM_le {a b n m : Nat} (ha : a < 2 ^ n) (hb : b < 2 ^ m) (h0 : 0 < n + m) : gcdM a b < n + m + 2 := by
  unfold gcdM
  split
  · omega
  · have : a * b < 2 ^ (n + m) := by rw [Nat.pow_add]; exact Nat.mul_lt_mul'' ha hb
    have := log_lt this h0
    split <;> omega
theorem gcd_mod {a b : Int} : Int.gcd b (a % b) = Int.gcd a b := by
  have h := Int.gcd_add_mul_right_right b (a % b) (a / b)
  have e : a % b + a / b * b = a := by have := Int.mul_ediv_add_emod a b; rw [Int.mul_comm] at this; omega
  rw [e] at h
  rw [← h, Int.gcd_comm]
end W
namespace W
def ch : Nat → Nat → Nat
  | _, 0 => 1
  | 0, _ + 1 => 0
  | n + 1, k + 1 => ch n k + ch n (k + 1)
/-- a sum over 0 .. n - 1 -/
def sm (f : Nat → Int) : Nat → Int
  | 0 => 0
  | n + 1 => sm f n + f n
def sg (j : Nat) : Int := if j % 2 = 0 then 1 else -1
/-- the alternating sum -/
def alt (t d L : Nat) : Int := sm (fun j => sg j * (ch d j : Int) * (((L + d - j : Nat) : Int) ^ t)) (d + 1)
end W
namespace W
/-- the sums of parts -/
def hs : Nat → Int × Int
  | 0 => (0, 1)
  | n + 1 => low ((hs n).1 * ((n + 1 : Nat) : Int) + 1 * (hs n).2) ((hs n).2 * ((n + 1 : Nat) : Int))
def hnum : Nat → Nat
  | 0 => 0
  | n + 1 => hnum n * (n + 1) + fac n
where fac : Nat → Nat
  | 0 => 1
  | n + 1 => fac n * (n + 1)
abbrev hfac := hnum.fac
theorem hfac_pos : ∀ n, 0 < hfac n
  | 0 => Nat.one_pos
  | n + 1 => Nat.mul_pos (hfac_pos n) (Nat.succ_pos n)
theorem hfac_le : ∀ n, n ≤ 63 → hfac n ≤ 64 ^ n
  | 0, _ => Nat.le_refl _
  | n + 1, h => by
    show hfac n * (n + 1) ≤ _
    rw [Nat.pow_succ]; exact Nat.mul_le_mul (hfac_le n (by omega)) (by omega)
theorem pow400 {n : Nat} (h : n ≤ 61) : n * 64 ^ n < 2 ^ 400 ∧ 64 ^ n < 2 ^ 400 := by
  have h2 : (64 : Nat) ^ n = 2 ^ (6 * n) := by rw [Nat.pow_mul]
  have h3 : 2 ^ (6 * n) ≤ 2 ^ 366 := Nat.pow_le_pow_right (by decide) (by omega)
  have h4 : n * 64 ^ n ≤ 2 ^ 6 * 2 ^ 366 := Nat.mul_le_mul (by show n ≤ 64; omega) (by omega)
  rw [← Nat.pow_add] at h4
  have h5 : (2 : Nat) ^ (6 + 366) < 2 ^ 400 := Nat.pow_lt_pow_right (by decide) (by decide)
  have h6 : (2 : Nat) ^ 366 < 2 ^ 400 := Nat.pow_lt_pow_right (by decide) (by decide)
  omega
theorem low_one (n : Nat) : low 1 ((n + 1 : Nat) : Int) = (1, ((n + 1 : Nat) : Int)) := by
  unfold low
  have : Int.gcd 1 ((n + 1 : Nat) : Int) = 1 := by simp
  rw [this]; simp
open PySem L2 G T
theorem cMul_lg {x y : Int} {n m : Nat} (a : Lg x n) (b : Lg y m) (hn : 0 < n) (hm : 0 < m) (h : n + m ≤ 900000) : cMul x y = true := by
  have h1 := log_lt a hn
  have h2 := log_lt b hm
  exact decide_eq_true (by omega)
theorem cDiv_lg {y : Int} {n : Nat} (h0 : 0 < y) (b : Lg y n) (hn : 0 < n) (h : n ≤ 9000) : cDiv y = true := by
  have h2 := log_lt b hn
  unfold cDiv
  rw [decide_eq_true h0, decide_eq_true (by omega : y.natAbs.log2 < 9000)]; rfl
theorem cMul_nat {x y n m : Nat} (a : x < 2 ^ n) (b : y < 2 ^ m) (hn : 0 < n) (hm : 0 < m) (h : n + m ≤ 900000) : cMul ((x : Nat) : Int) ((y : Nat) : Int) = true := by
  have h1 := log_lt a hn
  have h2 := log_lt b hm
  refine decide_eq_true ?_
  rw [Int.natAbs_natCast, Int.natAbs_natCast]; omega
theorem gcd_lg {a b : Int} {n : Nat} (lb : Lg b n) (hb : 0 < b) : Lg (Int.gcd a b : Int) n := by
  refine lb.le ?_
  rw [Int.natAbs_natCast]
  have h : Int.gcd a b ∣ b.natAbs := by
    rw [Int.gcd_eq_natAbs_gcd_natAbs]; exact Nat.gcd_dvd_right _ _
  exact Nat.le_of_dvd (by omega) h
theorem Rat'.ok {x : Int × Int} {a b : Int} {n : Nat} (h : Rat' x a b n) (hn : n ≤ 4000) : Lg x.1 4000 ∧ Lg x.2 4000 ∧ 0 < x.2 := ⟨h.lg.1.mono hn, h.lg.2.mono hn, h.pos⟩
end W
set_option maxHeartbeats 1000000
namespace W
open PySem L2 G T
section
variable {p q : Pic}
/-- the first n layers, the n-th of them first -/
def backQ (q : Pic) (n : Nat) : List Nat := ((layersQ q).take n).reverse.flatten
theorem backQ_zero (q : Pic) : backQ q 0 = [] := rfl
theorem backQ_succ {n : Nat} (h : n < (layersQ q).length) : backQ q (n + 1) = (layersQ q)[n]! ++ backQ q n := by
  unfold backQ
  rw [take_snoc (get!_get? h), List.reverse_append, List.reverse_singleton, List.singleton_append, List.flatten_cons]
theorem mem_backQ {n l : Nat} (hn : n ≤ (layersQ q).length) : l ∈ backQ q n ↔ ∃ m, m < n ∧ l ∈ (layersQ q)[m]! := by
  induction n with
  | zero => rw [backQ_zero]; simp
  | succ n ih =>
    rw [backQ_succ (by omega), List.mem_append, ih (by omega)]
    constructor
    · rintro (h | ⟨m, h1, h2⟩)
      · exact ⟨n, by omega, h⟩
      · exact ⟨m, by omega, h2⟩
    · rintro ⟨m, h1, h2⟩
      by_cases e : m = n
      · subst e; exact .inl h2
      · exact .inr ⟨m, by omega, h2⟩
theorem layer_row {k i : Nat} (hk : k < (layersQ q).length) (hi : i ∈ (layersQ q)[k]!) (h : i < q.length) : ∀ l ∈ (layersQ q)[k]!, l < q.length := by
  obtain ⟨_, _, a | a⟩ := layersQ_layer _ (mem_get! hk)
  · exact a
  · exact absurd (a i hi).1 (by omega)
theorem layer_col {k i : Nat} (hk : k < (layersQ q).length) (hi : i ∈ (layersQ q)[k]!) (h : q.length ≤ i) : ∀ l ∈ (layersQ q)[k]!, q.length ≤ l := by
  obtain ⟨_, _, a | a⟩ := layersQ_layer _ (mem_get! hk)
  · exact absurd (a i hi) (by omega)
  · exact fun l hl => (a l hl).1
/-- some lines of the n-th layer behind those ahead of it -/
theorem back_hit {i j n : Nat} {t : List Nat} (hi : i < q.length) (hj : j < q[0]!.length) (hn : n ≤ (layersQ q).length) (ht : ∀ l ∈ t, n < (layersQ q).length ∧ l ∈ (layersQ q)[n]!) {b : Bool}
    (h : hit q.length i j (t ++ backQ q n) = some b) : b = (q[i]!)[j]! := by
  induction n generalizing t with
  | zero =>
    rw [backQ_zero, List.append_nil] at h
    cases b with
    | true =>
      obtain ⟨h1, h2⟩ := ht _ (hit_true h)
      refine (color_row h1 h2 hi hj fun m hm hc => ?_).symm
      have e : m = 0 := by omega
      subst e
      have := layer_row h1 h2 hi _ hc
      omega
    | false =>
      obtain ⟨h1, h2⟩ := ht _ (hit_false h)
      refine (color_col h1 h2 hi fun m hm hc => ?_).symm
      have e : m = 0 := by omega
      subst e
      have := layer_col h1 h2 (by omega) _ hc
      omega
  | succ n ih =>
    rw [hit_app] at h
    cases z : hit q.length i j (backQ q (n + 1)) with
    | some c =>
      rw [z] at h
      have e : c = b := Option.some.inj h
      subst e
      rw [backQ_succ (by omega)] at z
      exact ih (t := (layersQ q)[n]!) (by omega) (fun l hl => ⟨by omega, hl⟩) z
    | none =>
      rw [z] at h
      have h : hit q.length i j t = some b := h
      have no : ∀ m, m < n + 1 → i ∉ (layersQ q)[m]! ∧ q.length + j ∉ (layersQ q)[m]! := fun m hm => by
        refine ⟨fun hc => ?_, fun hc => ?_⟩
        · obtain ⟨c, hc⟩ := hit_some (h := q.length) (i := i) (j := j) (ls := backQ q (n + 1)) (.inl ((mem_backQ hn).mpr ⟨m, hm, hc⟩))
          rw [z] at hc; cases hc
        · obtain ⟨c, hc⟩ := hit_some (h := q.length) (i := i) (j := j) (ls := backQ q (n + 1)) (.inr ((mem_backQ hn).mpr ⟨m, hm, hc⟩))
          rw [z] at hc; cases hc
      cases b with
      | true =>
        obtain ⟨h1, h2⟩ := ht _ (hit_true h)
        refine (color_row h1 h2 hi hj fun m hm hc => ?_).symm
        by_cases e : m = n + 1
        · subst e
          have := layer_row h1 h2 hi _ hc
          omega
        · exact (no m (by omega)).2 hc
      | false =>
        obtain ⟨h1, h2⟩ := ht _ (hit_false h)
        refine (color_col h1 h2 hi fun m hm hc => ?_).symm
        by_cases e : m = n + 1
        · subst e
          have := layer_col h1 h2 (by omega) _ hc
          omega
        · exact (no m (by omega)).1 hc
/-- such a list makes the goal just if it meets all cells of difference -/
theorem back_makes (k : Like p q) {n : Nat} {t : List Nat} (hn : n ≤ (layersQ q).length) (ht : ∀ l ∈ t, n < (layersQ q).length ∧ l ∈ (layersQ q)[n]!) (hd : ∀ c ∈ diffQ p q, Touch p.length c (t ++ backQ q n)) : linesQ p (t ++ backQ q n) = q := by
  obtain ⟨kp, e1, e2⟩ := linesQ_pp k.pp (t ++ backQ q n)
  refine pic_ext kp k.qq (by rw [e1, k.hh]) (by rw [e2, k.ww]) fun i j hi hj => ?_
  rw [e1] at hi
  rw [e2] at hj
  rw [linesQ_get k.pp hi hj]
  cases z : hit p.length i j (t ++ backQ q n) with
  | some b =>
    rw [k.hh] at z
    exact back_hit (by rw [← k.hh]; exact hi) (by rw [← k.ww]; exact hj) hn ht z
  | none =>
    show (p[i]!)[j]! = _
    rcases Decidable.em ((p[i]!)[j]! = (q[i]!)[j]!) with e | e
    · exact e
    · have := hd (i, j) (mem_diff.mpr ⟨hi, hj, e⟩)
      obtain ⟨b, hb⟩ := hit_some this
      rw [z] at hb; cases hb
theorem back_all : backQ q (layersQ q).length = (layersQ q).reverse.flatten := by unfold backQ; rw [List.take_length]
end
end W
namespace W
open PySem L2 G T
theorem dget_none {β : Type} {d : List (Nat × β)} {k : Nat} (h : k ∉ dkeys d) : dget d k = none := by
  cases q : dget d k with
  | none => rfl
  | some v => exact absurd (dget_isSome.mp (by rw [q]; rfl)) h
theorem dget_map {β : Type} (k v') {d : List (Nat × β)} (x : Nat) : dget (d.map fun p => if p.1 = k then (p.1, v') else p) x = if x = k then (dget d x).map fun _ => v' else dget d x := by
  induction d with
  | nil => simp [dget]
  | cons p r ih =>
    obtain ⟨a, b⟩ := p
    rw [List.map_cons]
    by_cases h1 : a = k
    · subst h1
      rw [if_pos rfl]
      unfold dget
      by_cases h2 : a = x
      · subst h2; simp
      · rw [if_neg h2, ih, if_neg h2]
    · rw [if_neg h1]
      unfold dget
      by_cases h2 : a = x
      · subst h2; rw [if_pos rfl, if_pos rfl, if_neg h1]
      · rw [if_neg h2, if_neg h2, ih]
theorem dget_snoc {β : Type} {d : List (Nat × β)} {k : Nat} {v : β} (x : Nat) (h : k ∉ dkeys d) : dget (d ++ [(k, v)]) x = if x = k then some v else dget d x := by
  induction d with
  | nil =>
    show (if k = x then some v else none) = _
    by_cases e : x = k
    · subst e; simp
    · rw [if_neg e, if_neg (fun z => e z.symm)]; rfl
  | cons p r ih =>
    obtain ⟨a, b⟩ := p
    have hr : k ∉ dkeys r := fun z => h (List.mem_cons_of_mem _ z)
    have ha : a ≠ k := fun e => h (by rw [← e]; exact List.mem_cons_self)
    show (if a = x then some b else dget (r ++ [(k, v)]) x) = if x = k then some v else (if a = x then some b else dget r x)
    rw [ih hr]
    by_cases e : a = x
    · rw [if_pos e, if_pos e, if_neg (fun z => ha (e.trans z))]
    · rw [if_neg e, if_neg e]
theorem dget_dput {β : Type} (d : List (Nat × β)) (k : Nat) (v : β) (x : Nat) : dget (dput d k v) x = if x = k then some v else dget d x := by
  unfold dput
  by_cases q : (dget d k).isSome = true
  · rw [if_pos q, dget_map]
    by_cases e : x = k
    · subst e
      rw [if_pos rfl, if_pos rfl]
      obtain ⟨b, hb⟩ := Option.isSome_iff_exists.mp q
      rw [hb]; rfl
    · rw [if_neg e, if_neg e]
  · rw [if_neg q]
    exact dget_snoc x fun z => q (dget_isSome.mpr z)
end W
set_option maxHeartbeats 1000000
namespace W
open PySem L2 G T
/-- ways to put t things into k heaps -/
def st : Nat → Nat → Nat
  | 0, 0 => 1
  | 0, _ + 1 => 0
  | _ + 1, 0 => 0
  | t + 1, k + 1 => (k + 1) * st t (k + 1) + st t k
/-- a sum over 0 .. n - 1 -/
def su (f : Nat → Nat) : Nat → Nat
  | 0 => 0
  | n + 1 => su f n + f n
/-- the orders of the first layers -/
def waysQ (q : Pic) : Nat → Nat
  | 0 => 1
  | n + 1 => waysQ q n * hfac (layersQ q)[n]!.length
theorem hfac_lt {n : Nat} (h : n ≤ 61) : hfac n < 2 ^ 400 := Nat.lt_of_le_of_lt (hfac_le n (by omega)) (pow400 h).2
theorem ahead_take {q : Pic} {i : Nat} (h : i < (layersQ q).length) : ((layersQ q).take (i + 1)).flatten.length = ((layersQ q).take i).flatten.length + (layersQ q)[i]!.length := by
  rw [take_snoc (get!_get? h), List.flatten_append, List.length_append]; simp
theorem ahead_le (q : Pic) (i : Nat) : ((layersQ q).take i).flatten.length ≤ (layersQ q).flatten.length := by
  conv => rhs; rw [← List.take_append_drop i (layersQ q), List.flatten_append, List.length_append]
  omega
theorem flat60 {q : Pic} (k : PicP q) : (layersQ q).flatten.length ≤ q.length + q[0]!.length := by
  have := len_sub (layers_nodup (q := q)) (b := List.range (q.length + q[0]!.length)) fun l hl => List.mem_range.mpr (layers_lt hl)
  rwa [List.length_range] at this
theorem waysQ_le {q : Pic} (k : PicP q) : ∀ n, n ≤ (layersQ q).length → waysQ q n ≤ 64 ^ ((layersQ q).take n).flatten.length
  | 0, _ => by show 1 ≤ _; exact Nat.pow_pos (by decide)
  | n + 1, h => by
    have l := (layersQ_len k).2 _ (mem_get! (show n < (layersQ q).length by omega))
    have h30 := k.h30; have w30 := k.w30
    rw [ahead_take (by omega), Nat.pow_add]
    exact Nat.mul_le_mul (waysQ_le k n (by omega)) (hfac_le _ (by omega))
theorem waysQ_lt {q : Pic} (k : PicP q) {n : Nat} (h : n ≤ (layersQ q).length) : waysQ q n < 2 ^ 400 := by
  have h1 := waysQ_le k n h
  have h2 := ahead_le q n
  have h3 := flat60 k
  have h30 := k.h30; have w30 := k.w30
  exact Nat.lt_of_le_of_lt h1 (pow400 (by omega)).2
end W
set_option maxHeartbeats 1000000
namespace W
open PySem L2 G T
def aheadQ (q : Pic) (i : Nat) : Nat := ((layersQ q).take i).flatten.length
theorem Parts.get {T L : List (List Nat)} (h : Parts T L) : ∀ i, i < T.length → i < L.length ∧ (T[i]!).Sublist L[i]! ∧ (i + 1 < T.length → T[i]! = L[i]!) := by
  induction h with
  | nil => intro i hi; cases hi
  | last hs =>
    intro i hi
    have e : i = 0 := by simp at hi; omega
    subst e
    exact ⟨by simp, hs, fun z => by simp at z⟩
  | cons h ih =>
    intro i hi
    cases i with
    | zero => exact ⟨by simp, .refl _, fun _ => rfl⟩
    | succ i =>
      obtain ⟨a, b, c⟩ := ih i (by simpa using hi)
      refine ⟨by simpa using a, ?_, fun z => ?_⟩
      · rw [get!_cons_succ, get!_cons_succ]; exact b
      · rw [get!_cons_succ, get!_cons_succ]; exact c (by simpa using z)
theorem aheadQ_succ {q : Pic} {i : Nat} (h : i < (layersQ q).length) : aheadQ q (i + 1) = aheadQ q i + (layersQ q)[i]!.length := by
  unfold aheadQ
  rw [take_snoc (get!_get? h), List.flatten_append, List.length_append]; simp
theorem flat_uniq {L : List (List Nat)} (nd : L.flatten.Nodup) {i j l : Nat} (hi : i < L.length) (hj : j < L.length) (h1 : l ∈ L[i]!) (h2 : l ∈ L[j]!) : i = j := by
  have hp := (List.pairwise_flatten.mp nd).2
  rw [List.pairwise_iff_getElem] at hp
  rw [getElem!_pos L i hi] at h1
  rw [getElem!_pos L j hj] at h2
  rcases Nat.lt_trichotomy i j with h | h | h
  · exact (hp i j hi hj h l h1 l h2 rfl).elim
  · exact h
  · exact (hp j i hj hi h l h2 l h1 rfl).elim
theorem low_zero {b : Int} (h : 0 < b) : low 0 b = (0, 1) := by
  unfold low
  rw [Int.gcd_zero_left]
  have : ((b.natAbs : Nat) : Int) = b := by omega
  rw [this, Int.ediv_self (by omega)]; simp
theorem flat_perm {α : Type} {L M : List (List α)} (h : L.Perm M) : L.flatten.Perm M.flatten := by
  induction h with
  | nil => exact .refl _
  | cons x _ ih => exact ih.append_left x
  | swap x y l => 
    simp only [List.flatten_cons, ← List.append_assoc]
    exact List.perm_append_comm.append_right _
  | trans _ _ a b => exact a.trans b
theorem back_nodup {L : List (List Nat)} (h : L.flatten.Nodup) : L.reverse.flatten.Nodup := (flat_perm (List.reverse_perm _)).nodup_iff.mpr h
theorem flat_take_le {α : Type} (i : Nat) (L : List (List α)) : (L.take i).flatten.length ≤ L.flatten.length := by
  conv => rhs; rw [← List.take_append_drop i L, List.flatten_append, List.length_append]
  omega
/-- the orders of some layers -/
def fp (T : List (List Nat)) : Nat → Nat
  | 0 => 1
  | n + 1 => fp T n * hfac (T[n]!).length
theorem waysQ_fp (q : Pic) : ∀ n, waysQ q n = fp (layersQ q) n
  | 0 => rfl
  | n + 1 => by show waysQ q n * _ = fp (layersQ q) n * _; rw [waysQ_fp q n]
end W
set_option maxHeartbeats 1000000
namespace W
open PySem L2 G T
end W
set_option maxHeartbeats 1000000
namespace W
open PySem L2 G T
end W
set_option maxHeartbeats 1000000
namespace W
open PySem L2 G T
end W
set_option maxHeartbeats 1000000
set_option exponentiation.threshold 4000
namespace W
open PySem L2 G T
end W
set_option maxHeartbeats 1000000
namespace W
open PySem L2 G T
section
variable {q : Pic}
theorem ahead_mono (q : Pic) {a b : Nat} (h : a ≤ b) : aheadQ q a ≤ aheadQ q b := by
  have e : (layersQ q).take a = ((layersQ q).take b).take a := by rw [List.take_take, Nat.min_eq_left h]
  unfold aheadQ
  rw [e]
  exact flat_take_le _ _
end
end W
set_option maxHeartbeats 1000000
namespace W
open PySem L2 G T
theorem low_self {a : Int} (h : 0 < a) : low a a = (1, 1) := by
  have : low a a = low 1 1 := low_eq h (by decide) (by simp)
  rw [this]; rfl
end W
set_option maxHeartbeats 1000000
namespace W
open PySem L2 G T
end W
set_option maxHeartbeats 1000000
namespace W
open PySem L2 G T
section
variable {p q : Pic} {T T' : List (List Nat)}
theorem rev_flat (T : List (List Nat)) : T.reverse.flatten.length = T.flatten.length := (flat_perm (List.reverse_perm T)).length_eq
end
end W
namespace W
end W
set_option maxHeartbeats 1000000
namespace W
open PySem L2 G T
/-- the orders of some blocks -/
def fcs : List (List Nat) → Nat
  | [] => 1
  | s :: L => hfac s.length * fcs L
theorem fcs_pos : ∀ L, 0 < fcs L
  | [] => Nat.one_pos
  | s :: L => Nat.mul_pos (hfac_pos _) (fcs_pos L)
theorem fcs_le : ∀ {L : List (List Nat)}, L.flatten.length ≤ 60 → fcs L ≤ 64 ^ L.flatten.length
  | [], _ => Nat.le_refl _
  | s :: L, h => by
    rw [List.flatten_cons, List.length_append] at h ⊢
    rw [Nat.pow_add]
    exact Nat.mul_le_mul (hfac_le _ (by omega)) (fcs_le (by omega))
theorem fcs_lt {L : List (List Nat)} (h : L.flatten.length ≤ 60) : fcs L < 2 ^ 400 := Nat.lt_of_le_of_lt (fcs_le h) (pow400 (by omega)).2
theorem fp_fcs {T : List (List Nat)} : ∀ n, n ≤ T.length → fp T n = fcs (T.take n).reverse
  | 0, _ => rfl
  | n + 1, h => by
    rw [take_snoc (get!_get? (show n < T.length by omega)), List.reverse_append]
    show fp T n * _ = hfac _ * fcs (T.take n).reverse
    rw [fp_fcs n (by omega), Nat.mul_comm]
theorem fp_all (T : List (List Nat)) : fp T T.length = fcs T.reverse := by rw [fp_fcs _ (Nat.le_refl _), List.take_length]
/-- the order of a block by its number, the rest having R orders -/
def unrB (R : Nat) : Nat → List Nat → Nat → List Nat
  | 0, _, _ => []
  | n + 1, left, x => left[x / (hfac n * R)]! :: unrB R n (left.eraseIdx (x / (hfac n * R))) (x % (hfac n * R))
def unrA : List (List Nat) → Nat → List Nat
  | [], _ => []
  | s :: L, x => unrB (fcs L) s.length s x ++ unrA L (x % fcs L)
/-- the number of an order of a block -/
def nmB : List Nat → List Nat → Nat → Nat
  | _, [], f => f
  | left, v :: vs, f => nmB (left.erase v) vs (f * left.length + left.idxOf v)
def nmA : List (List Nat) → List Nat → Nat → Nat
  | [], _, f => f
  | s :: L, v, f => nmA L (v.drop s.length) (nmB s (v.take s.length) f)
/-- a list of deeds is made of orders of the blocks -/
inductive Blocks : List (List Nat) → List Nat → Prop
  | nil : Blocks [] []
  | cons {s v w : List Nat} {L : List (List Nat)} : v.Perm s → Blocks L w → Blocks (s :: L) (v ++ w)
theorem unr_lt {R n x : Nat} (hR : 0 < R) (h : x < hfac (n + 1) * R) : x / (hfac n * R) < n + 1 := by
  rw [Nat.div_lt_iff_lt_mul (Nat.mul_pos (hfac_pos n) hR)]
  have e : hfac (n + 1) = hfac n * (n + 1) := rfl
  rw [e] at h
  have : (n + 1) * (hfac n * R) = hfac n * (n + 1) * R := by rw [← Nat.mul_assoc, Nat.mul_comm (n + 1)]
  omega
theorem at_perm {xs : List Nat} {d : Nat} (h : d < xs.length) : (xs[d] :: xs.eraseIdx d).Perm xs := by
  rw [List.eraseIdx_eq_take_drop_succ]
  refine List.perm_middle.symm.trans ?_
  rw [← List.drop_eq_getElem_cons h, List.take_append_drop]
theorem unrB_perm {R : Nat} (hR : 0 < R) : ∀ (n : Nat) (left : List Nat) (x : Nat), left.length = n → x < hfac n * R → (unrB R n left x).Perm left
  | 0, left, x, hl, _ => by rw [List.length_eq_zero_iff.mp hl]; exact .refl _
  | n + 1, left, x, hl, hx => by
    have hd := unr_lt hR hx
    have hm : x % (hfac n * R) < hfac n * R := Nat.mod_lt _ (Nat.mul_pos (hfac_pos n) hR)
    have hd' : x / (hfac n * R) < left.length := by omega
    have ih := unrB_perm hR n (left.eraseIdx (x / (hfac n * R))) (x % (hfac n * R)) (by rw [List.length_eraseIdx_of_lt hd']; omega) hm
    show (left[x / (hfac n * R)]! :: unrB R n (left.eraseIdx (x / (hfac n * R))) (x % (hfac n * R))).Perm left
    rw [getElem!_pos left _ hd']
    exact (List.Perm.cons _ ih).trans (at_perm hd')
theorem unrA_blocks : ∀ (L : List (List Nat)) (x : Nat), x < fcs L → Blocks L (unrA L x)
  | [], _, _ => .nil
  | s :: L, x, h => .cons (unrB_perm (fcs_pos L) s.length s x rfl h) (unrA_blocks L _ (Nat.mod_lt _ (fcs_pos L)))
theorem Blocks.perm {L : List (List Nat)} {v : List Nat} (h : Blocks L v) : v.Perm L.flatten := by
  induction h with
  | nil => exact .refl _
  | cons a _ ih => rw [List.flatten_cons]; exact a.append ih
theorem erase_at {left : List Nat} (nd : left.Nodup) {d : Nat} (h : d < left.length) : left.erase left[d]! = left.eraseIdx d ∧ left.idxOf left[d]! = d := by
  rw [getElem!_pos left d h]
  have e : left.idxOf left[d] = d := List.Nodup.idxOf_getElem nd d h
  exact ⟨by rw [List.erase_eq_eraseIdx_of_idxOf e], e⟩
theorem nmB_unrB {R : Nat} (hR : 0 < R) : ∀ (n : Nat) (left : List Nat) (x f : Nat), left.Nodup → left.length = n → x < hfac n * R → nmB left (unrB R n left x) f = f * hfac n + x / R
  | 0, left, x, f, _, _, hx => by
    have : x / R = 0 := Nat.div_eq_of_lt (by have e : hfac 0 = 1 := rfl; rw [e, Nat.one_mul] at hx; exact hx)
    rw [this]
    show f = f * 1 + 0
    omega
  | n + 1, left, x, f, nd, hl, hx => by
    have hd := unr_lt hR hx
    have hP := Nat.mul_pos (hfac_pos n) hR
    have hm : x % (hfac n * R) < hfac n * R := Nat.mod_lt _ hP
    have hd' : x / (hfac n * R) < left.length := by omega
    obtain ⟨e1, e2⟩ := erase_at nd hd'
    show nmB (left.erase left[x / (hfac n * R)]!) (unrB R n (left.eraseIdx (x / (hfac n * R))) (x % (hfac n * R))) (f * left.length + left.idxOf left[x / (hfac n * R)]!) = _
    rw [e1, e2, nmB_unrB hR n _ _ _ (nd.sublist (List.eraseIdx_sublist _ _)) (by rw [List.length_eraseIdx_of_lt hd']; omega) hm, hl]
    have e3 : x / R = x / (hfac n * R) * hfac n + x % (hfac n * R) / R := by
      conv => lhs; rw [← Nat.div_add_mod x (hfac n * R)]
      rw [Nat.mul_comm (hfac n) R, Nat.mul_assoc, Nat.mul_add_div hR, Nat.mul_comm (hfac n)]
    rw [e3, Nat.add_mul]
    have e4 : hfac (n + 1) = hfac n * (n + 1) := rfl
    rw [e4, Nat.mul_assoc f, Nat.mul_comm (n + 1)]
    omega
theorem unrB_len {R : Nat} : ∀ (n : Nat) (left : List Nat) (x : Nat), (unrB R n left x).length = n
  | 0, _, _ => rfl
  | n + 1, left, x => by
    show (unrB R n _ _).length + 1 = _
    rw [unrB_len n]
theorem unrA_len : ∀ (L : List (List Nat)) (x : Nat), (unrA L x).length = L.flatten.length
  | [], _ => rfl
  | s :: L, x => by
    show (unrB _ _ _ _ ++ unrA L _).length = _
    rw [List.length_append, unrB_len, unrA_len L, List.flatten_cons, List.length_append]
theorem nmA_unrA : ∀ (L : List (List Nat)) (x f : Nat), (∀ s ∈ L, s.Nodup) → x < fcs L → nmA L (unrA L x) f = f * fcs L + x
  | [], x, f, _, h => by
    have h : x < 1 := h
    show f = f * 1 + x
    omega
  | s :: L, x, f, nd, h => by
    have hm : x % fcs L < fcs L := Nat.mod_lt _ (fcs_pos L)
    show nmA L ((unrB (fcs L) s.length s x ++ unrA L (x % fcs L)).drop s.length) (nmB s ((unrB (fcs L) s.length s x ++ unrA L (x % fcs L)).take s.length) f) = f * (hfac s.length * fcs L) + x
    have l := unrB_len (R := fcs L) s.length s x
    rw [List.drop_left' l, List.take_left' l, nmB_unrB (fcs_pos L) s.length s x f (nd s List.mem_cons_self) rfl h, nmA_unrA L _ _ (fun t ht => nd t (List.mem_cons_of_mem _ ht)) hm, Nat.add_mul, Nat.mul_assoc]
    have := Nat.div_add_mod x (fcs L)
    rw [Nat.mul_comm] at this
    omega
theorem nmA_cut {s v w : List Nat} {L : List (List Nat)} {f : Nat} (h : v.length = s.length) : nmA (s :: L) (v ++ w) f = nmA L w (nmB s v f) := by
  show nmA L ((v ++ w).drop s.length) (nmB s ((v ++ w).take s.length) f) = _
  rw [List.drop_left' h, List.take_left' h]
theorem hit_perm {h i j : Nat} {v s : List Nat} (e : v.Perm s) (hi : i < h) (k : (∀ l ∈ s, l < h) ∨ ∀ l ∈ s, h ≤ l) : hit h i j v = hit h i j s := by
  have no : ¬(i ∈ s ∧ h + j ∈ s) := fun ⟨a, b⟩ => by
    rcases k with k | k
    · have := k _ b; omega
    · have := k _ a; omega
  cases z : hit h i j v with
  | none =>
    cases y : hit h i j s with
    | none => rfl
    | some b =>
      exfalso
      have : i ∈ s ∨ h + j ∈ s := by
        cases b with
        | true => exact .inl (hit_true y)
        | false => exact .inr (hit_false y)
      obtain ⟨c, hc⟩ := hit_some (h := h) (i := i) (j := j) (ls := v) (this.imp e.mem_iff.mpr e.mem_iff.mpr)
      rw [z] at hc; cases hc
  | some b =>
    cases b with
    | true =>
      have a := e.mem_iff.mp (hit_true z)
      obtain ⟨c, hc⟩ := hit_some (h := h) (i := i) (j := j) (ls := s) (.inl a)
      rw [hc]
      cases c with
      | true => rfl
      | false => exact (no ⟨a, hit_false hc⟩).elim
    | false =>
      have a := e.mem_iff.mp (hit_false z)
      obtain ⟨c, hc⟩ := hit_some (h := h) (i := i) (j := j) (ls := s) (.inr a)
      rw [hc]
      cases c with
      | false => rfl
      | true => exact (no ⟨hit_true hc, a⟩).elim
theorem Blocks.hits {L : List (List Nat)} {v : List Nat} (b : Blocks L v) {h i j : Nat} (hi : i < h) (k : ∀ s ∈ L, (∀ l ∈ s, l < h) ∨ ∀ l ∈ s, h ≤ l) : hit h i j v = hit h i j L.flatten := by
  induction b with
  | nil => rfl
  | cons a _ ih =>
    rw [List.flatten_cons, hit_app, hit_app, ih fun s hs => k s (List.mem_cons_of_mem _ hs), hit_perm a hi (k _ List.mem_cons_self)]
end W
set_option maxHeartbeats 1000000
namespace W
open PySem L2 G T
theorem lexN_same : ∀ (v a b : List Nat), lexN (v ++ a) (v ++ b) = lexN a b
  | [], _, _ => rfl
  | x :: v, a, b => by
    show (if x = x then lexN (v ++ a) (v ++ b) else _) = _
    rw [if_pos rfl, lexN_same v a b]
theorem lexN_app : ∀ (v w a b : List Nat), v.length = w.length → lexN w v = false → lexN (w ++ b) (v ++ a) = false
  | [], [], _, _, _, h => by cases h
  | [], _ :: _, _, _, h, _ => by cases h
  | _ :: _, [], _, _, h, _ => by cases h
  | x :: v, y :: w, a, b, hl, h => by
    have h : (if y = x then lexN w v else decide (y ≤ x)) = false := h
    show (if y = x then lexN (w ++ b) (v ++ a) else decide (y ≤ x)) = false
    by_cases q : y = x
    · rw [if_pos q] at h ⊢
      exact lexN_app v w a b (by simpa using hl) h
    · rw [if_neg q] at h ⊢
      exact h
theorem unrB_lt {R : Nat} (hR : 0 < R) : ∀ (n : Nat) (left : List Nat) (x y : Nat), left.Pairwise (· < ·) → left.length = n → x < y → y < hfac n * R →
    (unrB R n left x = unrB R n left y ∧ x % R < y % R) ∨ lexN (unrB R n left y) (unrB R n left x) = false
  | 0, left, x, y, _, _, h, hy => by
    have hy : y < 1 * R := hy
    rw [Nat.one_mul] at hy
    exact .inl ⟨rfl, by rw [Nat.mod_eq_of_lt hy, Nat.mod_eq_of_lt (by omega)]; exact h⟩
  | n + 1, left, x, y, as, hl, h, hy => by
    have hP := Nat.mul_pos (hfac_pos n) hR
    have dy := unr_lt hR hy
    have dx := unr_lt hR (Nat.lt_trans h hy)
    have dd : x / (hfac n * R) ≤ y / (hfac n * R) := Nat.div_le_div_right (Nat.le_of_lt h)
    have mx := Nat.mod_lt x hP
    have my := Nat.mod_lt y hP
    have ex := Nat.div_add_mod x (hfac n * R)
    have ey := Nat.div_add_mod y (hfac n * R)
    have rx : x % (hfac n * R) % R = x % R := Nat.mod_mod_of_dvd _ (Nat.dvd_mul_left _ _)
    have ry : y % (hfac n * R) % R = y % R := Nat.mod_mod_of_dvd _ (Nat.dvd_mul_left _ _)
    show (left[x / (hfac n * R)]! :: unrB R n (left.eraseIdx (x / (hfac n * R))) (x % (hfac n * R)) = left[y / (hfac n * R)]! :: unrB R n (left.eraseIdx (y / (hfac n * R))) (y % (hfac n * R)) ∧ _) ∨ (if left[y / (hfac n * R)]! = left[x / (hfac n * R)]! then lexN (unrB R n (left.eraseIdx (y / (hfac n * R))) (y % (hfac n * R))) (unrB R n (left.eraseIdx (x / (hfac n * R))) (x % (hfac n * R))) else decide (left[y / (hfac n * R)]! ≤ left[x / (hfac n * R)]!)) = false
    rcases Nat.lt_or_ge (x / (hfac n * R)) (y / (hfac n * R)) with z | z
    · right
      have lt : left[x / (hfac n * R)]! < left[y / (hfac n * R)]! := by
        rw [getElem!_pos left _ (by omega), getElem!_pos left _ (by omega)]
        exact List.pairwise_iff_getElem.mp as _ _ _ _ z
      rw [if_neg (by omega)]
      exact decide_eq_false (by omega)
    · have e : y / (hfac n * R) = x / (hfac n * R) := by omega
      rw [e] at ey ⊢
      rw [if_pos rfl]
      have ih := unrB_lt hR n (left.eraseIdx (x / (hfac n * R))) (x % (hfac n * R)) (y % (hfac n * R)) (as.sublist (List.eraseIdx_sublist _ _)) (by rw [List.length_eraseIdx_of_lt (by omega)]; omega) (by omega) my
      rw [rx, ry] at ih
      rcases ih with ⟨i1, i2⟩ | i
      · exact .inl ⟨by rw [i1], i2⟩
      · exact .inr i
theorem unrA_lt : ∀ (L : List (List Nat)) (x y : Nat), (∀ s ∈ L, s.Pairwise (· < ·)) → x < y → y < fcs L → lexN (unrA L y) (unrA L x) = false
  | [], x, y, _, h, hy => by
    have hy : y < 1 := hy
    omega
  | s :: L, x, y, as, h, hy => by
    have hP := fcs_pos L
    show lexN (unrB (fcs L) s.length s y ++ unrA L (y % fcs L)) (unrB (fcs L) s.length s x ++ unrA L (x % fcs L)) = false
    rcases unrB_lt hP s.length s x y (as s List.mem_cons_self) rfl h hy with ⟨e, i⟩ | i
    · rw [e, lexN_same]
      exact unrA_lt L _ _ (fun t ht => as t (List.mem_cons_of_mem _ ht)) i (Nat.mod_lt _ hP)
    · exact lexN_app _ _ _ _ (by rw [unrB_len, unrB_len]) i
/-- lists of lines, rows and columns by turns -/
def Alt (h : Nat) : Bool → List (List Nat) → Prop
  | _, [] => True
  | k, b :: B => b ≠ [] ∧ (∀ l ∈ b, decide (l < h) = k) ∧ Alt h (!k) B
theorem lay_same {h : Nat} {k : Bool} : ∀ (xs ys cur : List Nat) (done : List (List Nat)), cur ≠ [] → (∀ l ∈ cur, decide (l < h) = k) → (∀ l ∈ xs, decide (l < h) = k) → laysN h done cur (xs ++ ys) = laysN h done (cur ++ xs) ys
  | [], ys, cur, done, _, _, _ => by rw [List.nil_append, List.append_nil]
  | x :: xs, ys, cur, done, ne, hc, hx => by
    have h1 : decide (cur.headD 0 < h) = k := by
      cases cur with
      | nil => exact (ne rfl).elim
      | cons c cs => exact hc c List.mem_cons_self
    show (if decide (cur.headD 0 < h) = decide (x < h) then laysN h done (cur ++ [x]) (xs ++ ys) else _) = _
    rw [if_pos (h1.trans (hx x List.mem_cons_self).symm), lay_same xs ys (cur ++ [x]) done (by simp) (fun l hl => by
      rcases List.mem_append.mp hl with z | z
      · exact hc l z
      · rw [List.mem_singleton.mp z]; exact hx x List.mem_cons_self) (fun l hl => hx l (List.mem_cons_of_mem _ hl)), List.append_assoc]; rfl
theorem lays_alt {h : Nat} : ∀ (B : List (List Nat)) (k : Bool) (cur : List Nat) (done : List (List Nat)), cur ≠ [] → (∀ l ∈ cur, decide (l < h) = k) → Alt h (!k) B → laysN h done cur B.flatten = done ++ (cur :: B)
  | [], k, cur, done, _, _, _ => rfl
  | b :: B, k, cur, done, ne, hc, ⟨b1, b2, b3⟩ => by
    rw [Bool.not_not] at b3
    cases b with
    | nil => exact (b1 rfl).elim
    | cons x b =>
      have h1 : decide (cur.headD 0 < h) = k := by
        cases cur with
        | nil => exact (ne rfl).elim
        | cons c cs => exact hc c List.mem_cons_self
      have h2 := b2 x List.mem_cons_self
      show (if decide (cur.headD 0 < h) = decide (x < h) then _ else laysN h (done ++ [cur]) [x] (b ++ B.flatten)) = _
      rw [if_neg (by rw [h1, h2]; cases k <;> simp), lay_same b _ [x] _ (by simp) (k := !k) (fun l hl => by rw [List.mem_singleton.mp hl]; exact h2) (fun l hl => b2 l (List.mem_cons_of_mem _ hl))]
      have := lays_alt B (!k) ([x] ++ b) (done ++ [cur]) (by simp) b2 (by rw [Bool.not_not]; exact b3)
      rw [this, List.append_assoc]; rfl
theorem layN_alt {h : Nat} {k : Bool} {B : List (List Nat)} (a : Alt h k B) : layN h B.flatten = B := by
  cases B with
  | nil => rfl
  | cons b B =>
    obtain ⟨b1, b2, b3⟩ := a
    cases b with
    | nil => exact (b1 rfl).elim
    | cons x b =>
      show laysN h [] [x] (b ++ B.flatten) = _
      rw [lay_same b _ [x] _ (by simp) (k := k) (fun l hl => by rw [List.mem_singleton.mp hl]; exact b2 x List.mem_cons_self) (fun l hl => b2 l (List.mem_cons_of_mem _ hl))]
      exact lays_alt B k ([x] ++ b) [] (by simp) b2 b3
theorem lays_flat (h : Nat) : ∀ (xs cur : List Nat) (done : List (List Nat)), (laysN h done cur xs).flatten = done.flatten ++ cur ++ xs
  | [], cur, done => by
    show (done ++ [cur]).flatten = _
    simp
  | x :: xs, cur, done => by
    show (if _ then laysN h done (cur ++ [x]) xs else laysN h (done ++ [cur]) [x] xs).flatten = _
    split
    · rw [lays_flat h xs]; simp
    · rw [lays_flat h xs]; simp
theorem lay_flat (h : Nat) (xs : List Nat) : (layN h xs).flatten = xs := by
  cases xs with
  | nil => rfl
  | cons x xs =>
    show (laysN h [] [x] xs).flatten = _
    rw [lays_flat]; rfl
/-- list by list the same lines -/
def PermL : List (List Nat) → List (List Nat) → Prop
  | [], [] => True
  | a :: A, b :: B => a.Perm b ∧ PermL A B
  | _, _ => False
theorem PermL.alt {h : Nat} : ∀ {A B : List (List Nat)} {k : Bool}, PermL A B → Alt h k B → Alt h k A
  | [], [], _, _, _ => trivial
  | a :: A, b :: B, k, ⟨p, q⟩, ⟨b1, b2, b3⟩ => ⟨fun e => b1 (by rw [e] at p; exact p.symm.eq_nil), fun l hl => b2 l (p.mem_iff.mp hl), q.alt b3⟩
theorem PermL.app : ∀ {A B C D : List (List Nat)}, PermL A B → PermL C D → PermL (A ++ C) (B ++ D)
  | [], [], _, _, _, q => q
  | _ :: _, _ :: _, _, _, ⟨p, r⟩, q => ⟨p, r.app q⟩
theorem PermL.get : ∀ {A B : List (List Nat)}, PermL A B → A.length = B.length ∧ ∀ i : Nat, (A[i]!).Perm B[i]!
  | [], [], _ => ⟨rfl, fun _ => .refl _⟩
  | a :: A, b :: B, ⟨p, q⟩ => by
    obtain ⟨l, g⟩ := q.get
    refine ⟨by rw [List.length_cons, List.length_cons, l], fun i => ?_⟩
    cases i with
    | zero => exact p
    | succ i => exact g i
/-- an order of the blocks turned about: block by block -/
theorem Blocks.back {M : List (List Nat)} {v : List Nat} (b : Blocks M v) : ∃ B, PermL B M.reverse ∧ v.reverse = B.flatten := by
  induction b with
  | nil => exact ⟨[], trivial, rfl⟩
  | cons a _ ih =>
    rename_i s v w L _
    obtain ⟨B, p, e⟩ := ih
    refine ⟨B ++ [v.reverse], ?_, ?_⟩
    · rw [List.reverse_cons]
      exact p.app ⟨(List.reverse_perm v).trans a, trivial⟩
    · rw [List.reverse_append, e, List.flatten_append]; simp
/-- two neighbours of one kind change places -/
theorem Blocks.swap {h : Nat} {M : List (List Nat)} {v : List Nat} (b : Blocks M v) : ∀ {k : Bool} {a c : List Nat} {x y : Nat}, Alt h k M → v = a ++ x :: y :: c → decide (x < h) = decide (y < h) → Blocks M (a ++ y :: x :: c) := by
  induction b with
  | nil => intro k a c x y _ e _; cases a <;> cases e
  | cons p b ih =>
    rename_i s v w L
    intro k a c x y al e hk
    obtain ⟨a1, a2, a3⟩ := al
    rcases List.append_eq_append_iff.mp e with ⟨t, e1, e2⟩ | ⟨t, e1, e2⟩
    · rw [e1, List.append_assoc]
      exact .cons p (ih a3 e2 hk)
    · cases t with
      | nil =>
        rw [List.append_nil] at e1
        have := ih (a := []) a3 e2.symm hk
        rw [← e1]
        exact .cons p this
      | cons x' t =>
        rw [List.cons_append] at e2
        injection e2 with e3 e4
        subst e3
        have xk : decide (x < h) = k := a2 x (p.mem_iff.mp (by rw [e1]; simp))
        cases t with
        | nil =>
          -- y begins the next block
          exfalso
          rw [List.nil_append] at e4
          cases b with
          | nil => cases e4
          | cons p2 b2 =>
            rename_i s2 v2 w2 L2
            obtain ⟨c1, c2, c3⟩ := a3
            cases v2 with
            | nil => exact c1 p2.symm.eq_nil
            | cons z v2 =>
              rw [List.cons_append] at e4
              injection e4 with e5 e6
              have zk := c2 z (p2.mem_iff.mp List.mem_cons_self)
              rw [← e5, ← hk, xk] at zk
              cases k <;> cases zk
        | cons y' t =>
          rw [List.cons_append] at e4
          injection e4 with e5 e6
          subst e5
          rw [e6]
          have : a ++ y :: x :: (t ++ w) = (a ++ y :: x :: t) ++ w := by simp
          rw [this]
          refine .cons (List.Perm.trans ?_ p) b
          rw [e1]
          exact (List.Perm.swap x y t).append_left a
/-- the layers, rows and columns by turns -/
theorem alt_drop {q : Pic} : ∀ (n i : Nat), i + n = (layersQ q).length → ∃ k, Alt q.length k ((layersQ q).drop i) ∧ (i < (layersQ q).length → ∀ l ∈ (layersQ q)[i]!, decide (l < q.length) = k)
  | 0, i, h => ⟨true, by rw [List.drop_of_length_le (by omega)]; trivial, fun z => by omega⟩
  | n + 1, i, h => by
    have hi : i < (layersQ q).length := by omega
    obtain ⟨k, a, b⟩ := alt_drop (q := q) n (i + 1) (by omega)
    obtain ⟨c1, _, c3⟩ := layersQ_layer _ (mem_get! hi)
    have kd : ∃ k', ∀ l ∈ (layersQ q)[i]!, decide (l < q.length) = k' := by
      rcases c3 with z | z
      · exact ⟨true, fun l hl => decide_eq_true (z l hl)⟩
      · exact ⟨false, fun l hl => decide_eq_false (by have := (z l hl).1; omega)⟩
    obtain ⟨k', hk'⟩ := kd
    rw [drop_at (get!_get? hi)]
    refine ⟨k', ⟨c1, hk', ?_⟩, fun _ => hk'⟩
    rcases Nat.lt_or_ge (i + 1) (layersQ q).length with z | z
    · have b := b z
      obtain ⟨l, hl⟩ := List.exists_mem_of_ne_nil _ c1
      obtain ⟨m, hm⟩ := List.exists_mem_of_ne_nil _ (layersQ_layer _ (mem_get! z)).1
      have : (!k') = k := by
        have e1 := hk' l hl
        have e2 := b m hm
        rw [← e1, ← e2]
        rcases layers_turn z with ⟨t1, t2⟩ | ⟨t1, t2⟩
        · rw [decide_eq_true (t1 l hl), decide_eq_false (by have := t2 m hm; omega)]; rfl
        · rw [decide_eq_false (by have := t1 l hl; omega), decide_eq_true (t2 m hm)]; rfl
      rw [this]; exact a
    · rw [List.drop_of_length_le z]; trivial
theorem alt_layers (q : Pic) : ∃ k, Alt q.length k (layersQ q) := by
  obtain ⟨k, a, _⟩ := alt_drop (q := q) (layersQ q).length 0 (by omega)
  exact ⟨k, a⟩
theorem Alt.snoc {h : Nat} {b : List Nat} : ∀ {A : List (List Nat)} {k : Bool}, Alt h k A → b ≠ [] → (∃ j, (∀ l ∈ b, decide (l < h) = j) ∧ (∀ a, A.getLast? = some a → ∀ l ∈ a, decide (l < h) = !j)) → ∃ k', Alt h k' (A ++ [b])
  | [], _, _, ne, ⟨j, h1, _⟩ => ⟨j, ne, h1, trivial⟩
  | [a], k, ⟨a1, a2, _⟩, ne, ⟨j, h1, h2⟩ => by
    refine ⟨k, a1, a2, ne, fun l hl => ?_, trivial⟩
    obtain ⟨x, hx⟩ := List.exists_mem_of_ne_nil _ a1
    have e1 := a2 x hx
    have e2 := h2 a rfl x hx
    rw [h1 l hl, ← e1, e2, Bool.not_not]
  | a :: c :: A, k, ⟨a1, a2, a3⟩, ne, ⟨j, h1, h2⟩ => by
    have c1 := a3.1
    obtain ⟨k', h3⟩ := Alt.snoc (A := c :: A) a3 ne ⟨j, h1, fun x hx => h2 x (by rw [List.getLast?_cons_cons]; exact hx)⟩
    refine ⟨k, a1, a2, ?_⟩
    obtain ⟨x, hx⟩ := List.exists_mem_of_ne_nil _ c1
    have e1 := a3.2.1 x hx
    have e2 := h3.2.1 x hx
    have : k' = !k := by rw [← e1, ← e2]
    rw [this] at h3
    exact h3
theorem Alt.rev {h : Nat} : ∀ {A : List (List Nat)} {k : Bool}, Alt h k A → ∃ k', Alt h k' A.reverse
  | [], k, _ => ⟨true, trivial⟩
  | a :: A, k, ⟨a1, a2, a3⟩ => by
    obtain ⟨k', h1⟩ := a3.rev
    rw [List.reverse_cons]
    refine h1.snoc a1 ⟨k, a2, fun b hb => ?_⟩
    rw [List.getLast?_reverse] at hb
    cases A with
    | nil => cases hb
    | cons c A =>
      cases hb
      exact a3.2.1
def atL (L : List (List Nat)) (l : Nat) : Nat := L.findIdx fun s => decide (l ∈ s)
theorem atL_eq {L : List (List Nat)} (nd : L.flatten.Nodup) {i l : Nat} (hi : i < L.length) (hl : l ∈ L[i]!) : atL L l = i := by
  have h1 : atL L l < L.length := List.findIdx_lt_length_of_exists ⟨L[i]!, mem_get! hi, decide_eq_true hl⟩
  have h2 := List.findIdx_getElem (w := h1) (p := fun s => decide (l ∈ s))
  have h2 := of_decide_eq_true h2
  have h3 : l ∈ L[atL L l]! := by rw [getElem!_pos L _ h1]; exact h2
  exact flat_uniq nd h1 hi h3 hl
def layP (h w : Nat) (L : List (List Nat)) : Pic := mkP h w fun i j => decide (atL L i < atL L (h + j))
theorem perm_flat : ∀ {A B : List (List Nat)}, PermL A B → A.flatten.Perm B.flatten
  | [], [], _ => .refl _
  | a :: A, b :: B, ⟨p, q⟩ => by
    rw [List.flatten_cons, List.flatten_cons]
    exact p.append (perm_flat q)
/-- layers tell a picture without a core -/
theorem layP_free {q : Pic} (k : PicP q) (hc : coreQ q = []) {B : List (List Nat)} (p : PermL B (layersQ q)) : layP q.length q[0]!.length B = q := by
  have h1 := k.h1; have h30 := k.h30; have w1 := k.w1; have w30 := k.w30
  obtain ⟨bl, bg⟩ := p.get
  have ndB : B.flatten.Nodup := (perm_flat p).nodup_iff.mpr layers_nodup
  refine pic_ext (mkP_pp h1 h30 w1 w30) k (mkP_len _ _ _) (mkP_wid h1) fun i j hi hj => ?_
  rw [show (layP q.length q[0]!.length B).length = q.length from mkP_len _ _ _] at hi
  rw [show (layP q.length q[0]!.length B)[0]!.length = q[0]!.length from mkP_wid h1] at hj
  show ((mkP q.length q[0]!.length _)[i]!)[j]! = _
  rw [mkP_get hi hj]
  have inL : ∀ l, l < q.length + q[0]!.length → ∃ a, a < (layersQ q).length ∧ l ∈ (layersQ q)[a]! := fun l hl => by
    rcases layer_or_core hl with z | z
    · rw [hc] at z; cases z
    · exact mem_flat z
  obtain ⟨a, a1, a2⟩ := inL i (by omega)
  obtain ⟨b, b1, b2⟩ := inL (q.length + j) (by omega)
  rw [atL_eq ndB (by omega) ((bg a).mem_iff.mpr a2), atL_eq ndB (by omega) ((bg b).mem_iff.mpr b2)]
  rcases Nat.lt_trichotomy a b with z | z | z
  · rw [decide_eq_true z]
    exact (color_row a1 a2 hi hj fun m hm y => by
      have := nodup_idx layers_nodup (show m < (layersQ q).length by omega) b1 y b2
      omega).symm
  · subst z
    rcases (layersQ_layer _ (mem_get! a1)).2.2 with y | y
    · have := y _ b2; omega
    · have := (y _ a2).1; omega
  · rw [decide_eq_false (by omega)]
    exact (color_col b1 b2 hi fun m hm y => by
      have := nodup_idx layers_nodup (show m < (layersQ q).length by omega) a1 y a2
      omega).symm
/-- an order of last deeds makes the picture -/
theorem order_made {q : Pic} (k : PicP q) (hc : coreQ q = []) {v : List Nat} (b : Blocks (layersQ q).reverse v) : layP q.length q[0]!.length (layN q.length v.reverse) = q := by
  obtain ⟨B, p, e⟩ := b.back
  rw [List.reverse_reverse] at p
  obtain ⟨kd, al⟩ := alt_layers q
  rw [e, layN_alt (p.alt al)]
  exact layP_free k hc p
theorem free_perm {q : Pic} (hc : coreQ q = []) : (layersQ q).flatten.Perm (List.range (q.length + q[0]!.length)) := by
  refine (List.perm_ext_iff_of_nodup layers_nodup List.nodup_range).mpr fun l => ?_
  rw [List.mem_range]
  refine ⟨layers_lt, fun hl => ?_⟩
  rcases layer_or_core hl with z | z
  · rw [hc] at z; cases z
  · exact z
theorem order_perm {q : Pic} (hc : coreQ q = []) {v : List Nat} (b : Blocks (layersQ q).reverse v) : v.Perm (List.range (q.length + q[0]!.length)) :=
  b.perm.trans ((flat_perm (List.reverse_perm _)).trans (free_perm hc))
end W
namespace W
end W
set_option maxHeartbeats 1000000
namespace W
open PySem L2 G T
def V_is_int (value : Nat) (Q : Bool → Prop) : Prop := Q (decide (True ∧ (¬False)))
theorem snd_is_int (value : Nat) {Q : Bool → Prop} (h : V_is_int value Q) (tp : List D) : ∃ r : Bool, Q r ∧ m_is_int [eN value] tp = .ok (eB r) tp := by
  obtain ⟨d, t, e1, rfl, r, rfl, q⟩ := T.wp_def (n := 1) (s := b_is_int) (ds := [eN value]) (tp := tp) (Q := fun d t => t = tp ∧ ∃ r : Bool, d = eB r ∧ Q r) (by
    unfold V_is_int at h
    change WP _ _ _ _ (b_is_int [some (eN value)] _)
    unfold b_is_int
    exact T.wp_ret (T.ev_andE (P := True) (Q := (¬False)) (T.ev_isi (d := eN value) (T.ev_v rfl) rfl kb_int_int) (fun hp => (T.ev_notE (P := False) (T.ev_isi (d := eN value) (T.ev_v rfl) rfl kb_int_bool)))) ⟨rfl, (decide (True ∧ (¬False))), rfl, h⟩)
  exact ⟨r, q, e1⟩
abbrev F_is_int (_ : Nat) : Bool := true
theorem ok_is_int (v : Nat) : V_is_int v (· = F_is_int v) := by simp [V_is_int]
theorem t_is_int {value : Nat} (_ : True) (tp : List D) : m_is_int [eN value] tp = .ok (eB (F_is_int value)) tp := by
  obtain ⟨r, rfl, e⟩ := snd_is_int value (ok_is_int value) tp
  exact e
end W
set_option maxHeartbeats 1000000
namespace W
open PySem L2 G T
def V_is_picture (value : (List Row)) (Q : Bool → Prop) : Prop := ((((¬True) ∨ (¬(1 ≤ value.length ∧ value.length ≤ 30))) → Q false) ∧ (¬((¬True) ∨ (¬(1 ≤ value.length ∧ value.length ≤ 30))) → (value.length ≤ 1000000) ∧ (¬(¬(∀ x1 ∈ value, True)) → (0 < value.length) ∧ ((value[0]!).length ≤ 1000000)) ∧ ((((¬(∀ x1 ∈ value, True)) ∨ (¬(1 ≤ (value[0]!).length ∧ (value[0]!).length ≤ 30))) → Q false) ∧ (¬((¬(∀ x1 ∈ value, True)) ∨ (¬(1 ≤ (value[0]!).length ∧ (value[0]!).length ≤ 30))) → (value.length ≤ 1000000) ∧ (∀ x6, x6 ∈ value → (x6.length ≤ 1000000) ∧ (0 < value.length) ∧ ((value[0]!).length ≤ 1000000) ∧ ((x6.length = (value[0]!).length) → (x6.length ≤ 1000000))) ∧ Q (decide (∀ x6 ∈ value, ((x6.length = (value[0]!).length) ∧ (∀ x11 ∈ x6, (x11 ∈ [true, false])))))))))
theorem snd_is_picture (value : (List Row)) {Q : Bool → Prop} (h : V_is_picture value Q) (tp : List D) : ∃ r : Bool, Q r ∧ m_is_picture [(eT eR) value] tp = .ok (eB r) tp := by
  obtain ⟨d, t, e1, rfl, r, rfl, q⟩ := T.wp_def (n := 3) (s := b_is_picture) (ds := [(eT eR) value]) (tp := tp) (Q := fun d t => t = tp ∧ ∃ r : Bool, d = eB r ∧ Q r) (by
    unfold V_is_picture at h
    change WP _ _ _ _ (b_is_picture [some ((eT eR) value), none, none] _)
    unfold b_is_picture
    refine T.wp_seq (T.wp_if (P := ((¬True) ∨ (¬(1 ≤ value.length ∧ value.length ≤ 30)))) (T.ev_orT (P := (¬True)) (Q := (¬(1 ≤ value.length ∧ value.length ≤ 30))) (T.ev_notT (P := True) (T.ev_bool (T.ev_isi (d := (eT eR) value) (T.ev_v rfl) rfl kb_tuple_tuple))) (fun hp => (T.ev_notT (P := (1 ≤ value.length ∧ value.length ≤ 30)) (T.ev_bool (T.ev_chLeLe (x := 1) (y := value.length) (z := 30) (T.ev_cN 1) (T.ev_lenT (e := eR) (xs := value) (T.ev_v rfl)) (T.ev_cN 30)))))) (fun hp => ?_) (fun hn => ?_))
    · replace h := h.1 hp
      exact T.wp_ret (T.ev_c rfl) ⟨rfl, false, rfl, h⟩
    · replace h := h.2 hn
      refine T.wp_skip ?_
      change WP _ _ _ _ (At _ [some ((eT eR) value), none, none] _)
      obtain ⟨c2, h⟩ := h
      obtain ⟨c5, h⟩ := h
      refine T.wp_seq (T.wp_if (P := ((¬(∀ x1 ∈ value, True)) ∨ (¬(1 ≤ (value[0]!).length ∧ (value[0]!).length ≤ 30)))) (T.ev_orT (P := (¬(∀ x1 ∈ value, True))) (Q := (¬(1 ≤ (value[0]!).length ∧ (value[0]!).length ≤ 30))) (T.ev_notT (P := (∀ x1 ∈ value, True)) (T.ev_bool (T.ev_allY (xs := value) (R := fun x1 => True) (T.ev_compY (e := eR) (e1 := eB) (xs := value) (ds := fun x1 => [eR x1]) (g := fun x1 => (decide True)) (T.it_T (e := eR) (xs := value) (T.ev_v rfl)) c2 (fun _ => rfl) (fun x1 hx => (T.ev_isi (d := eR x1) (T.ev_v rfl) rfl kb_str_str)))))) (fun hp => match c5 hp with | ⟨c3, c4⟩ => (T.ev_notT (P := (1 ≤ (value[0]!).length ∧ (value[0]!).length ≤ 30)) (T.ev_bool (T.ev_chLeLe (x := 1) (y := (value[0]!).length) (z := 30) (T.ev_cN 1) (T.ev_lenR (r := value[0]!) c4 (T.ev_ixT (e := eR) (xs := value) (i := 0) c3 (T.ev_v rfl) (T.ev_cN 0))) (T.ev_cN 30)))))) (fun hp => ?_) (fun hn => ?_))
      · replace h := h.1 hp
        exact T.wp_ret (T.ev_c rfl) ⟨rfl, false, rfl, h⟩
      · replace h := h.2 hn
        refine T.wp_skip ?_
        change WP _ _ _ _ (At _ [some ((eT eR) value), none, none] _)
        obtain ⟨c7, h⟩ := h
        obtain ⟨c14, h⟩ := h
        exact T.wp_ret (T.ev_allY (xs := value) (R := fun x6 => ((x6.length = (value[0]!).length) ∧ (∀ x11 ∈ x6, (x11 ∈ [true, false])))) (T.ev_compY (e := eR) (e1 := eB) (xs := value) (ds := fun x6 => [eR x6]) (g := fun x6 => (decide ((x6.length = (value[0]!).length) ∧ (∀ x11 ∈ x6, (x11 ∈ [true, false]))))) (T.it_T (e := eR) (xs := value) (T.ev_v rfl)) c7 (fun _ => rfl) (fun x6 hx => match c14 x6 hx with | ⟨c8, c9, c10, c13⟩ => (T.ev_andE (P := (x6.length = (value[0]!).length)) (Q := (∀ x11 ∈ x6, (x11 ∈ [true, false]))) (T.ev_eq (x := x6.length) (y := (value[0]!).length) qN rfl (T.ev_lenR (r := x6) c8 (T.ev_v rfl)) (T.ev_lenR (r := value[0]!) c10 (T.ev_ixT (e := eR) (xs := value) (i := 0) c9 (T.ev_v rfl) (T.ev_cN 0)))) (fun hp => have c12 := c13 hp; (T.ev_allY (xs := x6) (R := fun x11 => (x11 ∈ [true, false])) (T.ev_compY (e := eG) (e1 := eB) (xs := x6) (ds := fun x11 => [eG x11]) (g := fun x11 => (decide (x11 ∈ [true, false]))) (T.it_R (r := x6) (T.ev_v rfl)) c12 (fun _ => rfl) (fun x11 hx => (T.ev_inT (x := x11) (xs := [true, false]) qG rfl (T.ev_v rfl) (T.ev_tup (ds := [eG true, eG false]) (T.ev_cons (T.ev_c (congrArg D.str str_black)) (T.ev_cons (T.ev_c (congrArg D.str str_white)) T.ev_nil)) rfl)))))))))) ⟨rfl, (decide (∀ x6 ∈ value, ((x6.length = (value[0]!).length) ∧ (∀ x11 ∈ x6, (x11 ∈ [true, false]))))), rfl, h⟩)
  exact ⟨r, q, e1⟩
abbrev P_is_picture (p : Pic) : Prop := PicP p
abbrev F_is_picture (_ : Pic) : Bool := true
theorem ok_is_picture {p : Pic} (k : P_is_picture p) : V_is_picture p (· = F_is_picture p) := by
  have h1 := k.h1; have h30 := k.h30; have w1 := k.w1; have w30 := k.w30
  unfold V_is_picture
  refine ⟨fun h => ?_, fun _ => ⟨by omega, fun _ => ⟨by omega, by omega⟩, fun h => ?_, fun _ => ⟨by omega, fun r hr => ?_, ?_⟩⟩⟩
  · rcases h with h | h
    · exact (h trivial).elim
    · exact (h ⟨h1, h30⟩).elim
  · rcases h with h | h
    · exact (h fun _ _ => trivial).elim
    · exact (h ⟨w1, w30⟩).elim
  · have := k.row r hr
    exact ⟨by omega, by omega, by omega, fun _ => by omega⟩
  · refine decide_eq_true fun r hr => ⟨k.row r hr, fun b _ => ?_⟩
    cases b <;> simp
theorem t_is_picture {value : (List Row)} (hP : P_is_picture value) (tp : List D) : m_is_picture [(eT eR) value] tp = .ok (eB (F_is_picture value)) tp := by
  obtain ⟨r, rfl, e⟩ := snd_is_picture value (ok_is_picture hP) tp
  exact e
end W
set_option maxHeartbeats 1000000
namespace W
open PySem L2 G T
def V_lines_of (picture : (List Row)) (Q : Nat → Prop) : Prop := (0 < picture.length) ∧ ((picture[0]!).length ≤ 1000000) ∧ Q (picture.length + (picture[0]!).length)
theorem snd_lines_of (picture : (List Row)) {Q : Nat → Prop} (h : V_lines_of picture Q) (tp : List D) : ∃ r : Nat, Q r ∧ m_lines_of [(eT eR) picture] tp = .ok (eN r) tp := by
  obtain ⟨d, t, e1, rfl, r, rfl, q⟩ := T.wp_def (n := 1) (s := b_lines_of) (ds := [(eT eR) picture]) (tp := tp) (Q := fun d t => t = tp ∧ ∃ r : Nat, d = eN r ∧ Q r) (by
    unfold V_lines_of at h
    change WP _ _ _ _ (b_lines_of [some ((eT eR) picture)] _)
    unfold b_lines_of
    obtain ⟨c1, h⟩ := h
    obtain ⟨c2, h⟩ := h
    exact T.wp_ret (T.ev_add (x := picture.length) (y := (picture[0]!).length) (T.ev_lenT (e := eR) (xs := picture) (T.ev_v rfl)) (T.ev_lenR (r := picture[0]!) c2 (T.ev_ixT (e := eR) (xs := picture) (i := 0) c1 (T.ev_v rfl) (T.ev_cN 0)))) ⟨rfl, (picture.length + (picture[0]!).length), rfl, h⟩)
  exact ⟨r, q, e1⟩
abbrev P_lines_of (p : Pic) : Prop := PicP p
def F_lines_of (p : Pic) : Nat := p.length + p[0]!.length
theorem ok_lines_of {p : Pic} (k : P_lines_of p) : V_lines_of p (· = F_lines_of p) := ⟨k.h1, by have := k.w30; omega, rfl⟩
theorem t_lines_of {picture : (List Row)} (hP : P_lines_of picture) (tp : List D) : m_lines_of [(eT eR) picture] tp = .ok (eN (F_lines_of picture)) tp := by
  obtain ⟨r, rfl, e⟩ := snd_lines_of picture (ok_lines_of hP) tp
  exact e
end W
set_option maxHeartbeats 1000000
namespace W
open PySem L2 G T
def V_painted_line (picture : (List Row)) (line : Nat) (Q : (List Row) → Prop) : Prop := (((line < picture.length) → (0 < picture.length) ∧ ((picture[0]!).length ≤ 1000000) ∧ ((picture[0]!).length ≤ 16777216) ∧ ((picture.take line).length + ([(List.replicate ((picture[0]!).length) true)]).length ≤ 1000000) ∧ (((picture.take line) ++ [(List.replicate ((picture[0]!).length) true)]).length + (picture.drop (line + 1)).length ≤ 1000000) ∧ Q (((picture.take line) ++ [(List.replicate ((picture[0]!).length) true)]) ++ (picture.drop (line + 1)))) ∧ (¬(line < picture.length) → (picture.length ≤ line) ∧ ∀ at_ : Nat, at_ = (line - picture.length) → (picture.length ≤ 1000000) ∧ (∀ x8, x8 ∈ picture → (x8.length ≤ 1000000) ∧ ((x8.take at_).length + [false].length ≤ 1000000) ∧ (((x8.take at_) ++ [false]).length + (x8.drop (at_ + 1)).length ≤ 1000000)) ∧ Q (picture.map fun x8 => (((x8.take at_) ++ [false]) ++ (x8.drop (at_ + 1))))))
theorem snd_painted_line (picture : (List Row)) (line : Nat) {Q : (List Row) → Prop} (h : V_painted_line picture line Q) (tp : List D) : ∃ r : (List Row), Q r ∧ m_painted_line [(eT eR) picture, eN line] tp = .ok ((eT eR) r) tp := by
  obtain ⟨d, t, e1, rfl, r, rfl, q⟩ := T.wp_def (n := 4) (s := b_painted_line) (ds := [(eT eR) picture, eN line]) (tp := tp) (Q := fun d t => t = tp ∧ ∃ r : (List Row), d = (eT eR) r ∧ Q r) (by
    unfold V_painted_line at h
    change WP _ _ _ _ (b_painted_line [some ((eT eR) picture), some (eN line), none, none] _)
    unfold b_painted_line
    refine T.wp_seq (T.wp_if (P := (line < picture.length)) (T.ev_bool (T.ev_lt (x := line) (y := picture.length) (T.ev_v rfl) (T.ev_lenT (e := eR) (xs := picture) (T.ev_v rfl)))) (fun hp => ?_) (fun hn => ?_))
    · replace h := h.1 hp
      obtain ⟨c1, h⟩ := h
      obtain ⟨c2, h⟩ := h
      obtain ⟨c3, h⟩ := h
      obtain ⟨c4, h⟩ := h
      obtain ⟨c5, h⟩ := h
      exact T.wp_ret (T.ev_catT (e := eR) (xs := ((picture.take line) ++ [(List.replicate ((picture[0]!).length) true)])) (ys := (picture.drop (line + 1))) c5 (T.ev_catT (e := eR) (xs := (picture.take line)) (ys := [(List.replicate ((picture[0]!).length) true)]) c4 (T.ev_toT (e := eR) (xs := picture) (k := line) (T.ev_v rfl) (T.ev_v rfl)) (T.ev_tup (ds := [eR (List.replicate ((picture[0]!).length) true)]) (T.ev_cons (T.ev_repG (b := true) (n := (picture[0]!).length) c3 (T.ev_c (congrArg D.str str_black)) (T.ev_lenR (r := picture[0]!) c2 (T.ev_ixT (e := eR) (xs := picture) (i := 0) c1 (T.ev_v rfl) (T.ev_cN 0)))) T.ev_nil) rfl)) (T.ev_fromT (e := eR) (xs := picture) (k := (line + 1)) (T.ev_v rfl) (T.ev_add (x := line) (y := 1) (T.ev_v rfl) (T.ev_cN 1)))) ⟨rfl, (((picture.take line) ++ [(List.replicate ((picture[0]!).length) true)]) ++ (picture.drop (line + 1))), rfl, h⟩
    · replace h := h.2 hn
      refine T.wp_skip ?_
      change WP _ _ _ _ (At _ [some ((eT eR) picture), some (eN line), none, none] _)
      obtain ⟨c6, h⟩ := h
      obtain ⟨at_, d7⟩ : ∃ at_ : Nat, at_ = (line - picture.length) := ⟨_, rfl⟩
      replace h := h at_ d7
      refine T.wp_seq (T.wp_set (T.ev_as d7 (e := eN) (T.ev_sub (x := line) (y := picture.length) c6 (T.ev_v rfl) (T.ev_lenT (e := eR) (xs := picture) (T.ev_v rfl)))) ?_)
      change WP _ _ _ _ (At _ [some ((eT eR) picture), some (eN line), some (eN at_), none] _)
      obtain ⟨c9, h⟩ := h
      obtain ⟨c13, h⟩ := h
      exact T.wp_ret (T.ev_tupleL (e := eR) (xs := (picture.map fun x8 => (((x8.take at_) ++ [false]) ++ (x8.drop (at_ + 1))))) (T.ev_compY (e := eR) (e1 := eR) (xs := picture) (ds := fun x8 => [eR x8]) (g := fun x8 => (((x8.take at_) ++ [false]) ++ (x8.drop (at_ + 1)))) (T.it_T (e := eR) (xs := picture) (T.ev_v rfl)) c9 (fun _ => rfl) (fun x8 hx => match c13 x8 hx with | ⟨c10, c11, c12⟩ => (T.ev_catR (xs := ((x8.take at_) ++ [false])) (ys := (x8.drop (at_ + 1))) c12 (T.ev_catR (xs := (x8.take at_)) (ys := [false]) c11 (T.ev_toR (xs := x8) (k := at_) c10 (T.ev_v rfl) (T.ev_v rfl)) (T.ev_c (congrArg D.str str_white))) (T.ev_fromR (xs := x8) (k := (at_ + 1)) c10 (T.ev_v rfl) (T.ev_add (x := at_) (y := 1) (T.ev_v rfl) (T.ev_cN 1))))))) ⟨rfl, (picture.map fun x8 => (((x8.take at_) ++ [false]) ++ (x8.drop (at_ + 1)))), rfl, h⟩)
  exact ⟨r, q, e1⟩
abbrev P_painted_line (p : Pic) (l : Nat) : Prop := PicP p ∧ l < p.length + p[0]!.length
abbrev F_painted_line (p : Pic) (l : Nat) : Pic := lineQ p l
theorem row_cut {p : Pic} {l : Nat} (k : PicP p) (h : l < p.length) : p.set l (List.replicate (p[0]!).length true) = lineQ p l := by
  refine ext_get! (by rw [List.length_set, lineQ_len]) fun i hi => ?_
  rw [List.length_set] at hi
  rw [get!_set hi]
  unfold lineQ
  rw [mkP_row hi]
  by_cases e : l = i
  · rw [if_pos e]
    refine List.ext_getElem (by simp) fun j h1 h2 => ?_
    rw [List.getElem_map, List.getElem_replicate, if_pos e]
  · rw [if_neg e]
    have w := k.get hi
    refine ext_get! (by rw [w]; simp) fun j hj => ?_
    rw [w] at hj
    rw [get!_map' _ (by rw [List.length_range]; exact hj), get!_range hj, if_neg e, if_neg (by omega)]
theorem col_cut {p : Pic} {l : Nat} (k : PicP p) (h : ¬l < p.length) : (p.map fun r => r.set (l - p.length) false) = lineQ p l := by
  refine ext_get! (by rw [List.length_map, lineQ_len]) fun i hi => ?_
  rw [List.length_map] at hi
  have w := k.get hi
  rw [get!_map' _ hi]
  unfold lineQ
  rw [mkP_row hi]
  refine ext_get! (by rw [List.length_set, w]; simp) fun j hj => ?_
  rw [List.length_set] at hj
  rw [get!_set hj, get!_map' _ (by rw [List.length_range]; omega), get!_range (by omega), if_neg (show ¬l = i by omega)]
  by_cases e : l = p.length + j
  · rw [if_pos e, if_pos (by omega)]
  · rw [if_neg e, if_neg (by omega)]
theorem ok_painted_line {p : Pic} {l : Nat} (h : P_painted_line p l) : V_painted_line p l (· = F_painted_line p l) := by
  obtain ⟨k, h⟩ := h
  have h1 := k.h1; have h30 := k.h30; have w1 := k.w1; have w30 := k.w30
  refine ⟨fun q => ⟨by omega, by omega, by omega, ?_, ?_, ?_⟩, fun q => ⟨by omega, fun a ha => ⟨by omega, fun r hr => ⟨?_, ?_, ?_⟩, ?_⟩⟩⟩
  · rw [List.length_take]; simp; omega
  · rw [List.length_append, List.length_take, List.length_drop]; simp; omega
  · rw [set_cut q]; exact row_cut k q
  · have := k.row r hr; omega
  · have := k.row r hr
    rw [List.length_take]; simp; omega
  · have := k.row r hr
    rw [List.length_append, List.length_take, List.length_drop]; simp; omega
  · subst ha
    show _ = lineQ p l
    rw [← col_cut k q]
    refine List.map_congr_left fun r hr => ?_
    exact set_cut (by have := k.row r hr; omega)
theorem t_painted_line {picture : (List Row)} {line : Nat} (hP : P_painted_line picture line) (tp : List D) : m_painted_line [(eT eR) picture, eN line] tp = .ok ((eT eR) (F_painted_line picture line)) tp := by
  obtain ⟨r, rfl, e⟩ := snd_painted_line picture line (ok_painted_line hP) tp
  exact e
end W
set_option maxHeartbeats 1000000
namespace W
open PySem L2 G T
def V_leads_to (picture : (List Row)) (line : Nat) (Q : (List Nat) → Prop) : Prop := (((line < picture.length) → (line < picture.length) ∧ ((enumP (picture[line]!)).length ≤ 1000000) ∧ Q (((enumP (picture[line]!)).filter fun x2 => decide (x2.2 ≠ true)).map fun x2 => (picture.length + x2.1))) ∧ (¬(line < picture.length) → ((enumP picture).length ≤ 1000000) ∧ (∀ x4, x4 ∈ (enumP picture) → (picture.length ≤ line) ∧ (x4.2.length ≤ 1000000 ∧ (line - picture.length) < x4.2.length)) ∧ Q (((enumP picture).filter fun x4 => decide (x4.2[(line - picture.length)]! = true)).map fun x4 => x4.1)))
theorem snd_leads_to (picture : (List Row)) (line : Nat) {Q : (List Nat) → Prop} (h : V_leads_to picture line Q) (tp : List D) : ∃ r : (List Nat), Q r ∧ m_leads_to [(eT eR) picture, eN line] tp = .ok ((eL eN) r) tp := by
  obtain ⟨d, t, e1, rfl, r, rfl, q⟩ := T.wp_def (n := 6) (s := b_leads_to) (ds := [(eT eR) picture, eN line]) (tp := tp) (Q := fun d t => t = tp ∧ ∃ r : (List Nat), d = (eL eN) r ∧ Q r) (by
    unfold V_leads_to at h
    change WP _ _ _ _ (b_leads_to [some ((eT eR) picture), some (eN line), none, none, none, none] _)
    unfold b_leads_to
    refine T.wp_seq (T.wp_set (T.ev_lenT (e := eR) (xs := picture) (T.ev_v rfl)) ?_)
    change WP _ _ _ _ (At _ [some ((eT eR) picture), some (eN line), some (eN picture.length), none, none, none] _)
    refine T.wp_seq (T.wp_if (P := (line < picture.length)) (T.ev_bool (T.ev_lt (x := line) (y := picture.length) (T.ev_v rfl) (T.ev_v rfl))) (fun hp => ?_) (fun hn => ?_))
    · replace h := h.1 hp
      obtain ⟨c1, h⟩ := h
      obtain ⟨c3, h⟩ := h
      exact T.wp_ret (T.ev_comp (e := (eP eN eG)) (e1 := eN) (xs := (enumP (picture[line]!))) (ds := fun x2 => [eN x2.1, eG x2.2]) (g := fun x2 => (picture.length + x2.1)) (P := fun x2 => (x2.2 ≠ true)) (T.it_enumR (xs := picture[line]!) (T.ev_ixT (e := eR) (xs := picture) (i := line) c1 (T.ev_v rfl) (T.ev_v rfl))) c3 (fun _ => rfl) (fun x2 hx => (T.ev_bool (T.ev_ne (x := x2.2) (y := true) qG rfl (T.ev_v rfl) (T.ev_c (congrArg D.str str_black))))) (fun x2 hx hq => (T.ev_add (x := picture.length) (y := x2.1) (T.ev_v rfl) (T.ev_v rfl)))) ⟨rfl, (((enumP (picture[line]!)).filter fun x2 => decide (x2.2 ≠ true)).map fun x2 => (picture.length + x2.1)), rfl, h⟩
    · replace h := h.2 hn
      refine T.wp_skip ?_
      change WP _ _ _ _ (At _ [some ((eT eR) picture), some (eN line), some (eN picture.length), none, none, none] _)
      obtain ⟨c5, h⟩ := h
      obtain ⟨c8, h⟩ := h
      exact T.wp_ret (T.ev_comp (e := (eP eN eR)) (e1 := eN) (xs := (enumP picture)) (ds := fun x4 => [eN x4.1, eR x4.2]) (g := fun x4 => x4.1) (P := fun x4 => (x4.2[(line - picture.length)]! = true)) (T.it_enumT (e := eR) (xs := picture) (T.ev_v rfl)) c5 (fun _ => rfl) (fun x4 hx => match c8 x4 hx with | ⟨c6, c7⟩ => (T.ev_bool (T.ev_eq (x := x4.2[(line - picture.length)]!) (y := true) qG rfl (T.ev_ixR (r := x4.2) (i := (line - picture.length)) c7 (T.ev_v rfl) (T.ev_sub (x := line) (y := picture.length) c6 (T.ev_v rfl) (T.ev_v rfl))) (T.ev_c (congrArg D.str str_black))))) (fun x4 hx hq => (T.ev_v rfl))) ⟨rfl, (((enumP picture).filter fun x4 => decide (x4.2[(line - picture.length)]! = true)).map fun x4 => x4.1), rfl, h⟩)
  exact ⟨r, q, e1⟩
abbrev P_leads_to (p : Pic) (l : Nat) : Prop := PicP p ∧ l < p.length + p[0]!.length
abbrev F_leads_to (p : Pic) (l : Nat) : List Nat := leadsQ p l
theorem ok_leads_to {p : Pic} {l : Nat} (h : P_leads_to p l) : V_leads_to p l (· = F_leads_to p l) := by
  obtain ⟨k, hl⟩ := h
  have h1 := k.h1; have h30 := k.h30; have w1 := k.w1; have w30 := k.w30
  refine ⟨fun q => ⟨q, ?_, ?_⟩, fun q => ⟨?_, fun x hx => ⟨by omega, ?_⟩, ?_⟩⟩
  · rw [enumP_eq, List.length_map, List.length_range, k.get q]; omega
  · unfold F_leads_to leadsQ
    rw [if_pos q, enumP_eq, List.filter_map, List.map_map, k.get q]
    have : ((fun x : Nat × Bool => decide (x.2 ≠ true)) ∘ fun j => (j, (p[l]!)[j]!)) = fun j => decide ((p[l]!)[j]! = false) := by
      funext j
      show decide ((p[l]!)[j]! ≠ true) = _
      cases (p[l]!)[j]! <;> rfl
    rw [this]; rfl
  · rw [enumP_eq, List.length_map, List.length_range]; omega
  · obtain ⟨a, b⟩ := mem_enumP hx
    have := k.get a
    rw [b]
    omega
  · unfold F_leads_to leadsQ
    rw [if_neg q, enumP_eq, List.filter_map, List.map_map]
    exact List.map_id _
theorem t_leads_to {picture : (List Row)} {line : Nat} (hP : P_leads_to picture line) (tp : List D) : m_leads_to [(eT eR) picture, eN line] tp = .ok ((eL eN) (F_leads_to picture line)) tp := by
  obtain ⟨r, rfl, e⟩ := snd_leads_to picture line (ok_leads_to hP) tp
  exact e
end W
set_option maxHeartbeats 1000000
namespace W
open PySem L2 G T
def V_product_to (number : Nat) (Q : Nat → Prop) : Prop := (2 ≤ 1073741824 ∧ (number + 1) ≤ 1073741824) ∧ ∃ I3 : Nat → Nat → Prop, I3 0 1 ∧ (∀ (i7 : Nat) (x8 : Nat), (List.range' 2 ((number + 1) - 2))[i7]? = some x8 → ∀ found : Nat, I3 i7 found → (cMul ((found : Nat) : Int) ((x8 : Nat) : Int) = true) ∧ ∀ found_1 : Nat, found_1 = (found * x8) → I3 (i7 + 1) found_1) ∧ (∀ found : Nat, I3 (List.range' 2 ((number + 1) - 2)).length found → Q found)
theorem snd_product_to (number : Nat) {Q : Nat → Prop} (h : V_product_to number Q) (tp : List D) : ∃ r : Nat, Q r ∧ m_product_to [eN number] tp = .ok (eN r) tp := by
  obtain ⟨d, t, e1, rfl, r, rfl, q⟩ := T.wp_def (n := 3) (s := b_product_to) (ds := [eN number]) (tp := tp) (Q := fun d t => t = tp ∧ ∃ r : Nat, d = eN r ∧ Q r) (by
    unfold V_product_to at h
    change WP _ _ _ _ (b_product_to [some (eN number), none, none] _)
    unfold b_product_to
    refine T.wp_seq (T.wp_set (T.ev_cN 1) ?_)
    change WP _ _ _ _ (At _ [some (eN number), some (eN 1), none] _)
    obtain ⟨c1, h⟩ := h
    obtain ⟨I3, h4, h5, h6⟩ := h
    refine T.wp_seq (T.wp_for (e := eN) (xs := (List.range' 2 ((number + 1) - 2))) (ds := fun x8 => [eN x8]) (fun k env tz => tp = tz ∧ ∃ found : Nat, ∃ g2 : Option D, env = [some (eN number), some (eN found), g2] ∧ I3 k found) (T.it_range2 (a := 2) (n := (number + 1)) c1 (T.ev_cN 2) (T.ev_add (x := number) (y := 1) (T.ev_v rfl) (T.ev_cN 1))) (fun _ => rfl) ⟨rfl, 1, _, rfl, h4⟩ ?_ ?_)
    · intro i7 x8 env t hk hI
      obtain ⟨rfl, found, g2, rfl, h⟩ := hI
      replace h := h5 i7 x8 hk found h
      change WP _ _ _ _ (At _ [some (eN number), some (eN found), some (eN x8)] _)
      obtain ⟨c11, h⟩ := h
      obtain ⟨found_1, d12⟩ : ∃ found_1 : Nat, found_1 = (found * x8) := ⟨_, rfl⟩
      replace h := h found_1 d12
      refine T.wp_set (T.ev_as d12 (e := eN) (T.ev_mul (x := found) (y := x8) c11 (T.ev_v rfl) (T.ev_v rfl))) ?_
      exact ⟨rfl, found_1, _, rfl, h⟩
    rintro _ _ ⟨rfl, found, g2, rfl, h⟩
    replace h := h6 found h
    change WP _ _ _ _ (At _ [some (eN number), some (eN found), g2] _)
    exact T.wp_ret (T.ev_v rfl) ⟨rfl, found, rfl, h⟩)
  exact ⟨r, q, e1⟩
abbrev P_product_to (n : Nat) : Prop := n ≤ 61
abbrev F_product_to (n : Nat) : Nat := hfac n
theorem ok_product_to {n : Nat} (k : P_product_to n) : V_product_to n (· = F_product_to n) := by
  have k : n ≤ 61 := k
  refine ⟨⟨by omega, by omega⟩, fun i f => f = hfac (i + 1), rfl, fun i x hx f hf => ?_, fun f hf => ?_⟩
  · have hi := (List.getElem?_eq_some_iff.mp hx).1
    rw [List.length_range'] at hi
    rw [List.getElem?_range' (by omega)] at hx
    have ex : x = i + 2 := by have := Option.some.inj hx; omega
    subst ex hf
    exact ⟨cMul_nat (hfac_lt (by omega)) (show i + 2 < 2 ^ 7 by omega) (by omega) (by omega) (by omega), fun g hg => hg⟩
  · rw [List.length_range'] at hf
    rw [hf]
    show hfac (n + 1 - 2 + 1) = hfac n
    cases n with
    | zero => rfl
    | succ n => congr 1
theorem t_product_to {number : Nat} (hP : P_product_to number) (tp : List D) : m_product_to [eN number] tp = .ok (eN (F_product_to number)) tp := by
  obtain ⟨r, rfl, e⟩ := snd_product_to number (ok_product_to hP) tp
  exact e
end W
set_option maxHeartbeats 1000000
namespace W
open PySem L2 G T
def V_common (one : Int) (other : Int) (Q : Int → Prop) : Prop := ∃ (I1 : Int → Int → Prop) (M2 : Int → Int → Nat), I1 one other ∧ M2 one other < 1000000 ∧ (∀ one_1 : Int, ∀ other_1 : Int, I1 one_1 other_1 → (((other_1 ≠ (0 : Int)) → (0 < other_1) ∧ ∀ other_2 : Int, other_2 = (one_1 % other_1) → (I1 other_1 other_2 ∧ M2 other_1 other_2 < M2 one_1 other_1)) ∧ (¬(other_1 ≠ (0 : Int)) → Q ((one_1.natAbs : Nat) : Int))))
theorem snd_common (one : Int) (other : Int) {Q : Int → Prop} (h : V_common one other Q) (tp : List D) : ∃ r : Int, Q r ∧ m_common [eZ one, eZ other] tp = .ok (eZ r) tp := by
  obtain ⟨d, t, e1, rfl, r, rfl, q⟩ := T.wp_def (n := 2) (s := b_common) (ds := [eZ one, eZ other]) (tp := tp) (Q := fun d t => t = tp ∧ ∃ r : Int, d = eZ r ∧ Q r) (by
    unfold V_common at h
    change WP _ _ _ _ (b_common [some (eZ one), some (eZ other)] _)
    unfold b_common
    obtain ⟨I1, M2, h3, h4, h5⟩ := h
    refine T.wp_seq (T.wp_while (fun n env tz => tp = tz ∧ ∃ one_1 : Int, ∃ other_1 : Int, env = [some (eZ one_1), some (eZ other_1)] ∧ I1 one_1 other_1 ∧ M2 one_1 other_1 = n) ⟨_, h4, rfl, one, other, rfl, h3, rfl⟩ ?_)
    intro n6 env t hI
    obtain ⟨rfl, one_1, other_1, rfl, h, rfl⟩ := hI
    replace h := h5 one_1 other_1 h
    refine ⟨(other_1 ≠ (0 : Int)), inferInstance, (T.ev_bool (T.ev_ne (x := other_1) (y := (0 : Int)) qZ rfl (T.ev_v rfl) (T.ev_c rfl))), fun hp => ?_, fun hn => ?_⟩
    · replace h := h.1 hp
      obtain ⟨c8, h⟩ := h
      obtain ⟨other_2, d9⟩ : ∃ other_2 : Int, other_2 = (one_1 % other_1) := ⟨_, rfl⟩
      replace h := h other_2 d9
      refine T.wp_par (T.ev_cons (T.ev_v rfl) (T.ev_cons (T.ev_as d9 (e := eZ) (T.ev_modZ (x := one_1) (y := other_1) c8 (T.ev_v rfl) (T.ev_v rfl))) T.ev_nil)) rfl ?_
      exact ⟨_, h.2, rfl, other_1, other_2, rfl, h.1, rfl⟩
    · replace h := h.2 hn
      change WP _ _ _ _ (At _ [some (eZ one_1), some (eZ other_1)] _)
      exact T.wp_ret (T.ev_absZ (x := one_1) (T.ev_v rfl)) ⟨rfl, ((one_1.natAbs : Nat) : Int), rfl, h⟩)
  exact ⟨r, q, e1⟩
def gcdZ (one other : Int) : Nat := if other = 0 then 0 else if one < 0 then 2 * other.natAbs.log2 + 4 else gcdM one.natAbs other.natAbs
abbrev P_common (a b : Int) : Prop := Lg a 400000 ∧ Lg b 9000 ∧ 0 < b
abbrev F_common (a b : Int) : Int := (Int.gcd a b : Int)
theorem ok_common {a b : Int} (k : P_common a b) : V_common a b (· = F_common a b) := by
  obtain ⟨la, lb, hb⟩ := k
  refine ⟨fun x y => 0 ≤ y ∧ Int.gcd x y = Int.gcd a b, gcdZ, ⟨by omega, rfl⟩, ?_, fun x y h => ⟨fun hy => ⟨by omega, fun z hz => ?_⟩, fun hy => ?_⟩⟩
  · unfold gcdZ
    split
    · omega
    · split
      · have := log_lt lb (by omega); omega
      · have := gcdM_le la lb (by omega); omega
  · subst hz
    have yp : 0 < y := by omega
    have m0 := Int.emod_nonneg x hy
    have m1 := Int.emod_lt_of_pos x yp
    refine ⟨⟨m0, by rw [gcd_mod]; exact h.2⟩, ?_⟩
    unfold gcdZ
    rw [if_neg hy, if_neg (by omega : ¬ y < 0)]
    by_cases xn : x < 0
    · rw [if_pos xn]
      have h1 : (x % y).natAbs < 2 ^ (y.natAbs.log2 + 1) := by
        have := Nat.lt_log2_self (n := y.natAbs)
        omega
      have := gcdM_le (a := y.natAbs) (b := (x % y).natAbs) (Nat.lt_log2_self) h1 (by omega)
      split <;> omega
    · rw [if_neg xn]
      have e : (x % y).natAbs = x.natAbs % y.natAbs := by
        rw [Int.natAbs_emod x hy, if_pos (.inl (by omega))]
      have := gcdM_lt (a := x.natAbs) (b := y.natAbs) (by omega)
      rw [e]
      split <;> omega
  · have e : y = 0 := by omega
    subst e
    show ((x.natAbs : Nat) : Int) = (Int.gcd a b : Int)
    rw [← h.2, Int.gcd_zero_right]
theorem t_common {one : Int} {other : Int} (hP : P_common one other) (tp : List D) : m_common [eZ one, eZ other] tp = .ok (eZ (F_common one other)) tp := by
  obtain ⟨r, rfl, e⟩ := snd_common one other (ok_common hP) tp
  exact e
end W
set_option maxHeartbeats 1000000
namespace W
open PySem L2 G T
def V_by_layers (rows : Nat) (columns : Nat) (told : (List (List Nat))) (Q : (List Row) → Prop) : Prop := ∃ I4 : Nat → (List (Nat × Nat)) → Prop, I4 0 [] ∧ (∀ (i8 : Nat) (x9 : (Nat × (List Nat))), (enumP told)[i8]? = some x9 → ∀ later : (List (Nat × Nat)), I4 i8 later → ∃ I13 : Nat → (List (Nat × Nat)) → Prop, I13 0 later ∧ (∀ (i17 : Nat) (x18 : Nat), x9.2[i17]? = some x18 → ∀ later_1 : (List (Nat × Nat)), I13 i17 later_1 → (later_1.length < 1000000) ∧ ∀ later_2 : (List (Nat × Nat)), later_2 = (dput later_1 x18 x9.1) → I13 (i17 + 1) later_2) ∧ (∀ later_1 : (List (Nat × Nat)), I13 x9.2.length later_1 → I4 (i8 + 1) later_1)) ∧ (∀ later : (List (Nat × Nat)), I4 (enumP told).length later → (rows ≤ 1073741824) ∧ ∃ I29 : Nat → (List Row) → Prop, I29 0 [] ∧ (∀ (i33 : Nat) (x34 : Nat), (List.range rows)[i33]? = some x34 → ∀ found : (List Row), I29 i33 found → (columns ≤ 1073741824) ∧ ((List.range columns).length ≤ 1000000) ∧ (∀ x38, x38 ∈ (List.range columns) → (x34 ∈ dkeys later) ∧ ((rows + x38) ∈ dkeys later)) ∧ (((List.range columns).map fun x38 => (if (((dget later x34).getD default) < ((dget later (rows + x38)).getD default)) then true else false)).length ≤ 16777216) ∧ (found.length < 1000000) ∧ ∀ found_1 : (List Row), found_1 = (found ++ [((List.range columns).map fun x38 => (if (((dget later x34).getD default) < ((dget later (rows + x38)).getD default)) then true else false))]) → I29 (i33 + 1) found_1) ∧ (∀ found : (List Row), I29 (List.range rows).length found → Q found))
theorem snd_by_layers (rows : Nat) (columns : Nat) (told : (List (List Nat))) {Q : (List Row) → Prop} (h : V_by_layers rows columns told Q) (tp : List D) : ∃ r : (List Row), Q r ∧ m_by_layers [eN rows, eN columns, (eL (eL eN)) told] tp = .ok ((eT eR) r) tp := by
  obtain ⟨d, t, e1, rfl, r, rfl, q⟩ := T.wp_def (n := 10) (s := b_by_layers) (ds := [eN rows, eN columns, (eL (eL eN)) told]) (tp := tp) (Q := fun d t => t = tp ∧ ∃ r : (List Row), d = (eT eR) r ∧ Q r) (by
    unfold V_by_layers at h
    change WP _ _ _ _ (b_by_layers [some (eN rows), some (eN columns), some ((eL (eL eN)) told), none, none, none, none, none, none, none] _)
    unfold b_by_layers
    refine T.wp_seq (T.wp_setF (T.ev_c rfl) rfl ?_)
    change WP _ _ _ _ (At _ [some (eN rows), some (eN columns), some ((eL (eL eN)) told), some ((eD eN) []), none, none, none, none, none, none] _)
    obtain ⟨I4, h5, h6, h7⟩ := h
    refine T.wp_seq (T.wp_for (e := (eP eN (eL eN))) (xs := (enumP told)) (ds := fun x9 => [eN x9.1, (eL eN) x9.2]) (fun k env tz => tp = tz ∧ ∃ later : (List (Nat × Nat)), ∃ g1 : Option D, ∃ g2 : Option D, ∃ g3 : Option D, env = [some (eN rows), some (eN columns), some ((eL (eL eN)) told), some ((eD eN) later), g1, g2, g3, none, none, none] ∧ I4 k later) (T.it_enumL (e := (eL eN)) (xs := told) (T.ev_v rfl)) (fun _ => rfl) ⟨rfl, [], _, _, _, rfl, h5⟩ ?_ ?_)
    · intro i8 x9 env t hk hI
      obtain ⟨rfl, later, g1, g2, g3, rfl, h⟩ := hI
      replace h := h6 i8 x9 hk later h
      change WP _ _ _ _ (At _ [some (eN rows), some (eN columns), some ((eL (eL eN)) told), some ((eD eN) later), some (eN x9.1), some ((eL eN) x9.2), g3, none, none, none] _)
      obtain ⟨I13, h14, h15, h16⟩ := h
      refine T.wp_for (e := eN) (xs := x9.2) (ds := fun x18 => [eN x18]) (fun k env tz => tp = tz ∧ ∃ later_1 : (List (Nat × Nat)), ∃ g12 : Option D, env = [some (eN rows), some (eN columns), some ((eL (eL eN)) told), some ((eD eN) later_1), some (eN x9.1), some ((eL eN) x9.2), g12, none, none, none] ∧ I13 k later_1) (T.it_L (e := eN) (xs := x9.2) (T.ev_v rfl)) (fun _ => rfl) ⟨rfl, later, _, rfl, h14⟩ ?_ ?_
      · intro i17 x18 env t hk hI
        obtain ⟨rfl, later_1, g12, rfl, h⟩ := hI
        replace h := h15 i17 x18 hk later_1 h
        change WP _ _ _ _ (At _ [some (eN rows), some (eN columns), some ((eL (eL eN)) told), some ((eD eN) later_1), some (eN x9.1), some ((eL eN) x9.2), some (eN x18), none, none, none] _)
        obtain ⟨c21, h⟩ := h
        obtain ⟨later_2, d22⟩ : ∃ later_2 : (List (Nat × Nat)), later_2 = (dput later_1 x18 x9.1) := ⟨_, rfl⟩
        replace h := h later_2 d22
        refine T.wp_dset (e := eN) (d := later_1) (k := x18) (v := x9.1) rfl (T.ev_v rfl) (T.ev_v rfl) c21 ?_
        rw [← d22]
        exact ⟨rfl, later_2, _, rfl, h⟩
      rintro _ _ ⟨rfl, later_1, g12, rfl, h⟩
      replace h := h16 later_1 h
      exact ⟨rfl, later_1, _, _, _, rfl, h⟩
    rintro _ _ ⟨rfl, later, g1, g2, g3, rfl, h⟩
    replace h := h7 later h
    change WP _ _ _ _ (At _ [some (eN rows), some (eN columns), some ((eL (eL eN)) told), some ((eD eN) later), g1, g2, g3, none, none, none] _)
    refine T.wp_seq (T.wp_setF (T.ev_lst (ds := []) T.ev_nil rfl) rfl ?_)
    change WP _ _ _ _ (At _ [some (eN rows), some (eN columns), some ((eL (eL eN)) told), some ((eD eN) later), g1, g2, g3, some ((eL eR) []), none, none] _)
    obtain ⟨c27, h⟩ := h
    obtain ⟨I29, h30, h31, h32⟩ := h
    refine T.wp_seq (T.wp_for (e := eN) (xs := (List.range rows)) (ds := fun x34 => [eN x34]) (fun k env tz => tp = tz ∧ ∃ found : (List Row), ∃ g28 : Option D, env = [some (eN rows), some (eN columns), some ((eL (eL eN)) told), some ((eD eN) later), g1, g2, g3, some ((eL eR) found), g28, none] ∧ I29 k found) (T.it_range (n := rows) c27 (T.ev_v rfl)) (fun _ => rfl) ⟨rfl, [], _, rfl, h30⟩ ?_ ?_)
    · intro i33 x34 env t hk hI
      obtain ⟨rfl, found, g28, rfl, h⟩ := hI
      replace h := h31 i33 x34 hk found h
      change WP _ _ _ _ (At _ [some (eN rows), some (eN columns), some ((eL (eL eN)) told), some ((eD eN) later), g1, g2, g3, some ((eL eR) found), some (eN x34), none] _)
      obtain ⟨c37, h⟩ := h
      obtain ⟨c39, h⟩ := h
      obtain ⟨c42, h⟩ := h
      obtain ⟨c43, h⟩ := h
      obtain ⟨c44, h⟩ := h
      obtain ⟨found_1, d45⟩ : ∃ found_1 : (List Row), found_1 = (found ++ [((List.range columns).map fun x38 => (if (((dget later x34).getD default) < ((dget later (rows + x38)).getD default)) then true else false))]) := ⟨_, rfl⟩
      replace h := h found_1 d45
      refine T.wp_app (e := eR) (xs := found) (x := ((List.range columns).map fun x38 => (if (((dget later x34).getD default) < ((dget later (rows + x38)).getD default)) then true else false))) rfl (T.ev_joinG (bs := ((List.range columns).map fun x38 => (if (((dget later x34).getD default) < ((dget later (rows + x38)).getD default)) then true else false))) c43 (T.ev_compY (e := eN) (e1 := eG) (xs := (List.range columns)) (ds := fun x38 => [eN x38]) (g := fun x38 => (if (((dget later x34).getD default) < ((dget later (rows + x38)).getD default)) then true else false)) (T.it_range (n := columns) c37 (T.ev_v rfl)) c39 (fun _ => rfl) (fun x38 hx => match c42 x38 hx with | ⟨c40, c41⟩ => (T.ev_ifE (P := (((dget later x34).getD default) < ((dget later (rows + x38)).getD default))) (e := eG) (x := true) (y := false) (T.ev_bool (T.ev_lt (x := ((dget later x34).getD default)) (y := ((dget later (rows + x38)).getD default)) (T.ev_ixK (e := eN) (x := x34) (d := later) c40 (T.ev_v rfl) (T.ev_v rfl)) (T.ev_ixK (e := eN) (x := (rows + x38)) (d := later) c41 (T.ev_v rfl) (T.ev_add (x := rows) (y := x38) (T.ev_v rfl) (T.ev_v rfl))))) (fun hp => (T.ev_c (congrArg D.str str_black))) (fun hp => (T.ev_c (congrArg D.str str_white))))))) c44 ?_
      rw [← d45]
      exact ⟨rfl, found_1, _, rfl, h⟩
    rintro _ _ ⟨rfl, found, g28, rfl, h⟩
    replace h := h32 found h
    change WP _ _ _ _ (At _ [some (eN rows), some (eN columns), some ((eL (eL eN)) told), some ((eD eN) later), g1, g2, g3, some ((eL eR) found), g28, none] _)
    exact T.wp_ret (T.ev_tupleL (e := eR) (xs := found) (T.ev_v rfl)) ⟨rfl, found, rfl, h⟩)
  exact ⟨r, q, e1⟩
abbrev P_by_layers (h w : Nat) (told : List (List Nat)) : Prop := (h ≤ 30 ∧ w ≤ 30) ∧ told.flatten.Perm (List.range (h + w))
abbrev F_by_layers (h w : Nat) (told : List (List Nat)) : Pic := layP h w told
theorem ok_by_layers {h w : Nat} {told : List (List Nat)} (k : P_by_layers h w told) : V_by_layers h w told (· = F_by_layers h w told) := by
  obtain ⟨⟨h30, w30⟩, pm⟩ := k
  have nd : told.flatten.Nodup := pm.nodup_iff.mpr List.nodup_range
  have tl : told.flatten.length ≤ 60 := by rw [pm.length_eq, List.length_range]; omega
  refine ⟨fun i d => d.length ≤ (told.take i).flatten.length ∧ ∀ j, j < i → ∀ l ∈ told[j]!, dget d l = some j, ⟨by simp, fun j hj => by omega⟩, fun i x hx d hd => ?_, fun d hd => ?_⟩
  · obtain ⟨ex, _, hi⟩ := enumP_get hx
    have hi : i < told.length := hi
    subst ex
    obtain ⟨d1, d2⟩ := hd
    have tk := take_snoc (get!_get? hi)
    have tl2 := flat_take_le (i + 1) told
    rw [tk, List.flatten_append, List.length_append, show ([told[i]!].flatten) = told[i]! by simp] at tl2
    refine ⟨fun t d => d.length ≤ (told.take i).flatten.length + t ∧ (∀ j, j < i → ∀ l ∈ told[j]!, dget d l = some j) ∧ ∀ s, s < t → dget d ((told[i]!)[s]!) = some i, ⟨by omega, d2, fun s hs => by omega⟩, fun t x hx d hd => ?_, fun d hd => ?_⟩
    · obtain ⟨ex, ht⟩ := get?_get! hx
      have ht : t < (told[i]!).length := ht
      have ex : x = (told[i]!)[t]! := ex
      obtain ⟨f1, f2, f3⟩ := hd
      have xm : x ∈ told[i]! := by rw [ex]; exact mem_get! ht
      refine ⟨by omega, fun d2 hd2 => ?_⟩
      have e : ∀ l, dget d2 l = if l = x then some i else dget d l := fun l => by rw [hd2]; exact dget_dput d x i l
      have ll : d2.length ≤ d.length + 1 := by rw [hd2]; exact len_dput d x i
      refine ⟨by omega, fun j hj l hl => ?_, fun s hs => ?_⟩
      · rw [e, if_neg fun z => by
          subst z
          have := flat_uniq nd (show j < told.length by omega) hi hl xm
          omega]
        exact f2 j hj l hl
      · rw [e]
        by_cases z : (told[i]!)[s]! = x
        · rw [if_pos z]
        · rw [if_neg z]
          refine f3 s ?_
          rcases Nat.lt_or_ge s t with y | y
          · exact y
          · have : s = t := by omega
            subst this
            exact (z ex.symm).elim
    · obtain ⟨f1, f2, f3⟩ := hd
      have f1 : d.length ≤ (told.take i).flatten.length + (told[i]!).length := f1
      have f3 : ∀ s, s < (told[i]!).length → dget d ((told[i]!)[s]!) = some i := f3
      refine ⟨?_, fun j hj l hl => ?_⟩
      · show d.length ≤ (told.take (i + 1)).flatten.length
        rw [tk, List.flatten_append, List.length_append, show ([told[i]!].flatten) = told[i]! by simp]
        exact f1
      · rcases Nat.lt_or_ge j i with y | y
        · exact f2 j y l hl
        · have : j = i := by omega
          subst this
          obtain ⟨s, hs, e⟩ := List.getElem_of_mem hl
          have := f3 s hs
          rwa [getElem!_pos _ s hs, e] at this
  · have hd : d.length ≤ (told.take (enumP told).length).flatten.length ∧ ∀ j, j < (enumP told).length → ∀ l ∈ told[j]!, dget d l = some j := hd
    have el : (enumP told).length = told.length := by unfold enumP; rw [List.length_mapIdx]
    rw [el] at hd
    obtain ⟨_, hd⟩ := hd
    have at_ : ∀ l, l < h + w → dget d l = some (atL told l) := fun l hl => by
      obtain ⟨j, hj, hlj⟩ := mem_flat (pm.mem_iff.mpr (List.mem_range.mpr hl))
      rw [atL_eq nd hj hlj]
      exact hd j hj l hlj
    have key : ∀ l, l < h + w → l ∈ dkeys d := fun l hl => Classical.byContradiction fun z => by
      have := at_ l hl
      rw [dget_none z] at this; cases this
    refine ⟨by omega, fun i f => f = (List.range i).map fun a => (List.range w).map fun b => decide (atL told a < atL told (h + b)), rfl, fun i x hx f hf => ?_, fun f hf => ?_⟩
    · obtain ⟨ex, hi⟩ := range_get hx
      subst ex
      refine ⟨by omega, by rw [List.length_range]; omega, fun b hb => ⟨key _ (by omega), key _ (by have := List.mem_range.mp hb; omega)⟩, by rw [List.length_map, List.length_range]; omega, by rw [hf, List.length_map, List.length_range]; omega, fun g hg => ?_⟩
      show g = (List.range (x + 1)).map fun a => (List.range w).map fun b => decide (atL told a < atL told (h + b))
      rw [hg, hf, List.range_succ, List.map_append]
      congr 1
      show [_] = [_]
      congr 1
      refine List.map_congr_left fun b hb => ?_
      have hb := List.mem_range.mp hb
      rw [at_ x (by omega), at_ (h + b) (by omega)]
      show (if atL told x < atL told (h + b) then true else false) = _
      split
      · rename_i z; exact (decide_eq_true z).symm
      · rename_i z; exact (decide_eq_false z).symm
    · have hf : f = (List.range (List.range h).length).map fun a => (List.range w).map fun b => decide (atL told a < atL told (h + b)) := hf
      rw [List.length_range] at hf
      exact hf
theorem t_by_layers {rows : Nat} {columns : Nat} {told : (List (List Nat))} (hP : P_by_layers rows columns told) (tp : List D) : m_by_layers [eN rows, eN columns, (eL (eL eN)) told] tp = .ok ((eT eR) (F_by_layers rows columns told)) tp := by
  obtain ⟨r, rfl, e⟩ := snd_by_layers rows columns told (ok_by_layers hP) tp
  exact e
end W
set_option maxHeartbeats 1000000
namespace W
open PySem L2 G T
def V_layers_from (rows : Nat) (value : (List Nat)) (Q : (List (List Nat)) → Prop) : Prop := (value.reverse.length < 1000000) ∧ Q (layN rows value.reverse)
theorem snd_layers_from (rows : Nat) (value : (List Nat)) {Q : (List (List Nat)) → Prop} (h : V_layers_from rows value Q) (tp : List D) : ∃ r : (List (List Nat)), Q r ∧ m_layers_from [eN rows, (eT eN) value] tp = .ok ((eL (eL eN)) r) tp := by
  obtain ⟨d, t, e1, rfl, r, rfl, q⟩ := T.wp_def (n := 4) (s := b_layers_from) (ds := [eN rows, (eT eN) value]) (tp := tp) (Q := fun d t => t = tp ∧ ∃ r : (List (List Nat)), d = (eL (eL eN)) r ∧ Q r) (by
    unfold V_layers_from at h
    change WP _ _ _ _ (b_layers_from [some (eN rows), some ((eT eN) value), none, none] _)
    unfold b_layers_from
    refine T.wp_seq (T.wp_setF (T.ev_lst (ds := []) T.ev_nil rfl) rfl ?_)
    change WP _ _ _ _ (At _ [some (eN rows), some ((eT eN) value), some ((eL (eL eN)) []), none] _)
    obtain ⟨c1, h⟩ := h
    refine T.wp_seq (T.wp_lay (xs := value.reverse) (rows := rows) rfl rfl (T.it_T (e := eN) (xs := value.reverse) (T.ev_revT (e := eN) (xs := value) (T.ev_v rfl))) c1 (by show 3 < 4; omega) ?_)
    change WP _ _ _ _ (At _ [some (eN rows), some ((eT eN) value), some ((eL (eL eN)) (layN rows value.reverse)), none] _)
    exact T.wp_ret (T.ev_v rfl) ⟨rfl, (layN rows value.reverse), rfl, h⟩)
  exact ⟨r, q, e1⟩
abbrev P_layers_from (_ : Nat) (v : List Nat) : Prop := v.length < 1000000
abbrev F_layers_from (rows : Nat) (v : List Nat) : List (List Nat) := layN rows v.reverse
theorem ok_layers_from {rows : Nat} {v : List Nat} (h : P_layers_from rows v) : V_layers_from rows v (· = F_layers_from rows v) := ⟨by rw [List.length_reverse]; exact h, rfl⟩
theorem t_layers_from {rows : Nat} {value : (List Nat)} (hP : P_layers_from rows value) (tp : List D) : m_layers_from [eN rows, (eT eN) value] tp = .ok ((eL (eL eN)) (F_layers_from rows value)) tp := by
  obtain ⟨r, rfl, e⟩ := snd_layers_from rows value (ok_layers_from hP) tp
  exact e
end W
set_option maxHeartbeats 1000000
namespace W
open PySem L2 G T
def V_law_paint (picture : (List Row)) (line : Nat) (Q : (List Row) → Prop) : Prop := (picture.length ≤ 1073741824) ∧ ∃ I5 : Nat → (List Row) → Prop, I5 0 [] ∧ (∀ (i9 : Nat) (x10 : Nat), (List.range picture.length)[i9]? = some x10 → ∀ found : (List Row), I5 i9 found → (0 < picture.length) ∧ ((picture[0]!).length ≤ 1000000) ∧ ((picture[0]!).length ≤ 1073741824) ∧ ∃ I17 : Nat → Row → Prop, I17 0 ([] : Row) ∧ (∀ (i21 : Nat) (x22 : Nat), (List.range ((picture[0]!).length))[i21]? = some x22 → ∀ told : Row, I17 i21 told → (¬(line = x10) → (¬(line = (picture.length + x22)) → (x10 < picture.length) ∧ ((picture[x10]!).length ≤ 1000000 ∧ x22 < (picture[x10]!).length))) ∧ (told.length + ([(if (line = x10) then true else (if (line = (picture.length + x22)) then false else (picture[x10]!)[x22]!))]).length ≤ 1000000) ∧ ∀ told_1 : Row, told_1 = (told ++ [(if (line = x10) then true else (if (line = (picture.length + x22)) then false else (picture[x10]!)[x22]!))]) → I17 (i21 + 1) told_1) ∧ (∀ told : Row, I17 (List.range ((picture[0]!).length)).length told → (found.length < 1000000) ∧ ∀ found_1 : (List Row), found_1 = (found ++ [told]) → I5 (i9 + 1) found_1)) ∧ (∀ found : (List Row), I5 (List.range picture.length).length found → Q found)
theorem snd_law_paint (picture : (List Row)) (line : Nat) {Q : (List Row) → Prop} (h : V_law_paint picture line Q) (tp : List D) : ∃ r : (List Row), Q r ∧ m_law_paint [(eT eR) picture, eN line] tp = .ok ((eT eR) r) tp := by
  obtain ⟨d, t, e1, rfl, r, rfl, q⟩ := T.wp_def (n := 6) (s := b_law_paint) (ds := [(eT eR) picture, eN line]) (tp := tp) (Q := fun d t => t = tp ∧ ∃ r : (List Row), d = (eT eR) r ∧ Q r) (by
    unfold V_law_paint at h
    change WP _ _ _ _ (b_law_paint [some ((eT eR) picture), some (eN line), none, none, none, none] _)
    unfold b_law_paint
    refine T.wp_seq (T.wp_setF (T.ev_lst (ds := []) T.ev_nil rfl) rfl ?_)
    change WP _ _ _ _ (At _ [some ((eT eR) picture), some (eN line), some ((eL eR) []), none, none, none] _)
    obtain ⟨c1, h⟩ := h
    obtain ⟨I5, h6, h7, h8⟩ := h
    refine T.wp_seq (T.wp_for (e := eN) (xs := (List.range picture.length)) (ds := fun x10 => [eN x10]) (fun k env tz => tp = tz ∧ ∃ found : (List Row), ∃ g2 : Option D, ∃ g3 : Option D, ∃ g4 : Option D, env = [some ((eT eR) picture), some (eN line), some ((eL eR) found), g2, g3, g4] ∧ I5 k found) (T.it_range (n := picture.length) c1 (T.ev_lenT (e := eR) (xs := picture) (T.ev_v rfl))) (fun _ => rfl) ⟨rfl, [], _, _, _, rfl, h6⟩ ?_ ?_)
    · intro i9 x10 env t hk hI
      obtain ⟨rfl, found, g2, g3, g4, rfl, h⟩ := hI
      replace h := h7 i9 x10 hk found h
      change WP _ _ _ _ (At _ [some ((eT eR) picture), some (eN line), some ((eL eR) found), some (eN x10), g3, g4] _)
      refine T.wp_seq (T.wp_set (T.ev_c (congrArg D.str str_empty)) ?_)
      change WP _ _ _ _ (At _ [some ((eT eR) picture), some (eN line), some ((eL eR) found), some (eN x10), some (eR ([] : Row)), g4] _)
      obtain ⟨c13, h⟩ := h
      obtain ⟨c14, h⟩ := h
      obtain ⟨c15, h⟩ := h
      obtain ⟨I17, h18, h19, h20⟩ := h
      refine T.wp_seq (T.wp_for (e := eN) (xs := (List.range ((picture[0]!).length))) (ds := fun x22 => [eN x22]) (fun k env tz => tp = tz ∧ ∃ told : Row, ∃ g16 : Option D, env = [some ((eT eR) picture), some (eN line), some ((eL eR) found), some (eN x10), some (eR told), g16] ∧ I17 k told) (T.it_range (n := (picture[0]!).length) c15 (T.ev_lenR (r := picture[0]!) c14 (T.ev_ixT (e := eR) (xs := picture) (i := 0) c13 (T.ev_v rfl) (T.ev_cN 0)))) (fun _ => rfl) ⟨rfl, ([] : Row), _, rfl, h18⟩ ?_ ?_)
      · intro i21 x22 env t hk hI
        obtain ⟨rfl, told, g16, rfl, h⟩ := hI
        replace h := h19 i21 x22 hk told h
        change WP _ _ _ _ (At _ [some ((eT eR) picture), some (eN line), some ((eL eR) found), some (eN x10), some (eR told), some (eN x22)] _)
        obtain ⟨c28, h⟩ := h
        obtain ⟨c29, h⟩ := h
        obtain ⟨told_1, d30⟩ : ∃ told_1 : Row, told_1 = (told ++ [(if (line = x10) then true else (if (line = (picture.length + x22)) then false else (picture[x10]!)[x22]!))]) := ⟨_, rfl⟩
        replace h := h told_1 d30
        refine T.wp_set (T.ev_as d30 (e := eR) (T.ev_catR (xs := told) (ys := [(if (line = x10) then true else (if (line = (picture.length + x22)) then false else (picture[x10]!)[x22]!))]) c29 (T.ev_v rfl) (T.ev_ifE (P := (line = x10)) (e := eG) (x := true) (y := (if (line = (picture.length + x22)) then false else (picture[x10]!)[x22]!)) (T.ev_bool (T.ev_eq (x := line) (y := x10) qN rfl (T.ev_v rfl) (T.ev_v rfl))) (fun hp => (T.ev_c (congrArg D.str str_black))) (fun hp => have c27 := c28 hp; (T.ev_ifE (P := (line = (picture.length + x22))) (e := eG) (x := false) (y := (picture[x10]!)[x22]!) (T.ev_bool (T.ev_eq (x := line) (y := (picture.length + x22)) qN rfl (T.ev_v rfl) (T.ev_add (x := picture.length) (y := x22) (T.ev_lenT (e := eR) (xs := picture) (T.ev_v rfl)) (T.ev_v rfl)))) (fun hp => (T.ev_c (congrArg D.str str_white))) (fun hp => match c27 hp with | ⟨c25, c26⟩ => (T.ev_ixR (r := picture[x10]!) (i := x22) c26 (T.ev_ixT (e := eR) (xs := picture) (i := x10) c25 (T.ev_v rfl) (T.ev_v rfl)) (T.ev_v rfl)))))))) ?_
        exact ⟨rfl, told_1, _, rfl, h⟩
      rintro _ _ ⟨rfl, told, g16, rfl, h⟩
      replace h := h20 told h
      change WP _ _ _ _ (At _ [some ((eT eR) picture), some (eN line), some ((eL eR) found), some (eN x10), some (eR told), g16] _)
      obtain ⟨c33, h⟩ := h
      obtain ⟨found_1, d34⟩ : ∃ found_1 : (List Row), found_1 = (found ++ [told]) := ⟨_, rfl⟩
      replace h := h found_1 d34
      refine T.wp_app (e := eR) (xs := found) (x := told) rfl (T.ev_v rfl) c33 ?_
      rw [← d34]
      exact ⟨rfl, found_1, _, _, _, rfl, h⟩
    rintro _ _ ⟨rfl, found, g2, g3, g4, rfl, h⟩
    replace h := h8 found h
    change WP _ _ _ _ (At _ [some ((eT eR) picture), some (eN line), some ((eL eR) found), g2, g3, g4] _)
    exact T.wp_ret (T.ev_tupleL (e := eR) (xs := found) (T.ev_v rfl)) ⟨rfl, found, rfl, h⟩)
  exact ⟨r, q, e1⟩
abbrev P_law_paint (p : Pic) (_ : Nat) : Prop := PicP p
abbrev F_law_paint (p : Pic) (l : Nat) : Pic := lineQ p l
theorem ok_law_paint {p : Pic} {l : Nat} (k : P_law_paint p l) : V_law_paint p l (· = F_law_paint p l) := by
  have h1 := k.h1; have h30 := k.h30; have w1 := k.w1; have w30 := k.w30
  refine ⟨by omega, fun n f => f = (lineQ p l).take n, rfl, fun i x hx f hf => ?_, fun f hf => ?_⟩
  · obtain ⟨rfl, hi⟩ := range_get hx
    refine ⟨by omega, by omega, by omega, fun n t => t = ((lineQ p l)[x]!).take n, rfl, fun j y hy t ht => ?_, fun t ht => ⟨?_, fun g hg => ?_⟩⟩
    · obtain ⟨rfl, hj⟩ := range_get hy
      refine ⟨fun _ _ => ⟨hi, by rw [k.get hi]; omega⟩, ?_, fun u hu => ?_⟩
      · rw [ht, List.length_take]
        have : ([(if (l = x) then true else (if (l = (p.length + y)) then false else (p[x]!)[y]!))] : Row).length = 1 := rfl
        omega
      · rw [hu, ht]
        refine (take_snoc ?_).symm
        unfold lineQ
        rw [mkP_row hi, List.getElem?_map, hy]; rfl
    · rw [hf, List.length_take]; omega
    · have e : t = (lineQ p l)[x]! := by
        rw [ht, List.length_range]
        exact List.take_of_length_le (by unfold lineQ; rw [mkP_wid hi]; exact Nat.le_refl _)
      rw [hg, hf, e]
      refine (take_snoc ?_).symm
      rw [List.getElem?_eq_getElem (by rw [lineQ_len]; exact hi), getElem!_pos _ x (by rw [lineQ_len]; exact hi)]
  · rw [hf, List.length_range]
    exact List.take_of_length_le (by rw [lineQ_len]; exact Nat.le_refl _)
theorem t_law_paint {picture : (List Row)} {line : Nat} (hP : P_law_paint picture line) (tp : List D) : m_law_paint [(eT eR) picture, eN line] tp = .ok ((eT eR) (F_law_paint picture line)) tp := by
  obtain ⟨r, rfl, e⟩ := snd_law_paint picture line (ok_law_paint hP) tp
  exact e
end W
set_option maxHeartbeats 1000000
namespace W
open PySem L2 G T
def V_law_common (one : Int) (other : Int) (Q : Nat → Prop) : Prop := ∃ (I1 : Nat → Nat → Prop) (M2 : Nat → Nat → Nat), I1 one.natAbs other.natAbs ∧ M2 one.natAbs other.natAbs < 1000000 ∧ (∀ one_1 : Nat, ∀ other_1 : Nat, I1 one_1 other_1 → (((other_1 ≠ 0) → (0 < other_1) ∧ ∀ other_2 : Nat, other_2 = (one_1 % other_1) → (I1 other_1 other_2 ∧ M2 other_1 other_2 < M2 one_1 other_1)) ∧ (¬(other_1 ≠ 0) → Q one_1)))
theorem snd_law_common (one : Int) (other : Int) {Q : Nat → Prop} (h : V_law_common one other Q) (tp : List D) : ∃ r : Nat, Q r ∧ m_law_common [eZ one, eZ other] tp = .ok (eN r) tp := by
  obtain ⟨d, t, e1, rfl, r, rfl, q⟩ := T.wp_def (n := 2) (s := b_law_common) (ds := [eZ one, eZ other]) (tp := tp) (Q := fun d t => t = tp ∧ ∃ r : Nat, d = eN r ∧ Q r) (by
    unfold V_law_common at h
    change WP _ _ _ _ (b_law_common [some (eZ one), some (eZ other)] _)
    unfold b_law_common
    refine T.wp_seq (T.wp_par (T.ev_cons (T.ev_absZ (x := one) (T.ev_v rfl)) (T.ev_cons (T.ev_absZ (x := other) (T.ev_v rfl)) T.ev_nil)) rfl ?_)
    change WP _ _ _ _ (At _ [some (eN one.natAbs), some (eN other.natAbs)] _)
    obtain ⟨I1, M2, h3, h4, h5⟩ := h
    refine T.wp_seq (T.wp_while (fun n env tz => tp = tz ∧ ∃ one_1 : Nat, ∃ other_1 : Nat, env = [some (eN one_1), some (eN other_1)] ∧ I1 one_1 other_1 ∧ M2 one_1 other_1 = n) ⟨_, h4, rfl, one.natAbs, other.natAbs, rfl, h3, rfl⟩ ?_)
    intro n6 env t hI
    obtain ⟨rfl, one_1, other_1, rfl, h, rfl⟩ := hI
    replace h := h5 one_1 other_1 h
    refine ⟨(other_1 ≠ 0), inferInstance, (T.ev_bool (T.ev_ne (x := other_1) (y := 0) qN rfl (T.ev_v rfl) (T.ev_cN 0))), fun hp => ?_, fun hn => ?_⟩
    · replace h := h.1 hp
      obtain ⟨c8, h⟩ := h
      obtain ⟨other_2, d9⟩ : ∃ other_2 : Nat, other_2 = (one_1 % other_1) := ⟨_, rfl⟩
      replace h := h other_2 d9
      refine T.wp_par (T.ev_cons (T.ev_v rfl) (T.ev_cons (T.ev_as d9 (e := eN) (T.ev_mod (x := one_1) (y := other_1) c8 (T.ev_v rfl) (T.ev_v rfl))) T.ev_nil)) rfl ?_
      exact ⟨_, h.2, rfl, other_1, other_2, rfl, h.1, rfl⟩
    · replace h := h.2 hn
      change WP _ _ _ _ (At _ [some (eN one_1), some (eN other_1)] _)
      exact T.wp_ret (T.ev_v rfl) ⟨rfl, one_1, rfl, h⟩)
  exact ⟨r, q, e1⟩
abbrev P_law_common (a b : Int) : Prop := Lg a 400000 ∧ Lg b 400000
abbrev F_law_common (a b : Int) : Nat := Int.gcd a b
theorem ok_law_common {a b : Int} (k : P_law_common a b) : V_law_common a b (· = F_law_common a b) := by
  obtain ⟨la, lb⟩ := k
  refine ⟨fun x y => Nat.gcd x y = Nat.gcd a.natAbs b.natAbs, gcdM, rfl, ?_, fun x y h => ⟨fun hy => ⟨by omega, fun z hz => ?_⟩, fun hy => ?_⟩⟩
  · have := gcdM_le la lb (by omega); omega
  · subst hz
    exact ⟨by rw [← h, Nat.gcd_comm x y, Nat.gcd_rec y x, Nat.gcd_comm], gcdM_lt hy⟩
  · have e : y = 0 := by omega
    subst e
    show x = Int.gcd a b
    rw [Int.gcd_eq_natAbs_gcd_natAbs, ← h, Nat.gcd_zero_right]
theorem t_law_common {one : Int} {other : Int} (hP : P_law_common one other) (tp : List D) : m_law_common [eZ one, eZ other] tp = .ok (eN (F_law_common one other)) tp := by
  obtain ⟨r, rfl, e⟩ := snd_law_common one other (ok_law_common hP) tp
  exact e
end W
set_option maxHeartbeats 1000000
namespace W
open PySem L2 G T
def V_is_in (value : Nat) (least : Nat) (most : Nat) (Q : Bool → Prop) : Prop := Q (decide (((F_is_int value) = true) ∧ (least ≤ value ∧ value ≤ most)))
theorem snd_is_in (value : Nat) (least : Nat) (most : Nat) {Q : Bool → Prop} (h : V_is_in value least most Q) (tp : List D) : ∃ r : Bool, Q r ∧ m_is_in [eN value, eN least, eN most] tp = .ok (eB r) tp := by
  obtain ⟨d, t, e1, rfl, r, rfl, q⟩ := T.wp_def (n := 3) (s := b_is_in) (ds := [eN value, eN least, eN most]) (tp := tp) (Q := fun d t => t = tp ∧ ∃ r : Bool, d = eB r ∧ Q r) (by
    unfold V_is_in at h
    change WP _ _ _ _ (b_is_in [some (eN value), some (eN least), some (eN most)] _)
    unfold b_is_in
    exact T.wp_ret (T.ev_andE (P := ((F_is_int value) = true)) (Q := (least ≤ value ∧ value ≤ most)) (T.ev_decB (F_is_int value) (T.ev_call (T.ev_cons (T.ev_v rfl) T.ev_nil) rfl (t_is_int True.intro _))) (fun hp => (T.ev_chLeLe (x := least) (y := value) (z := most) (T.ev_v rfl) (T.ev_v rfl) (T.ev_v rfl)))) ⟨rfl, (decide (((F_is_int value) = true) ∧ (least ≤ value ∧ value ≤ most))), rfl, h⟩)
  exact ⟨r, q, e1⟩
def F_is_in (v l m : Nat) : Bool := decide (l ≤ v ∧ v ≤ m)
theorem ok_is_in (v l m : Nat) : V_is_in v l m (· = F_is_in v l m) := by simp [V_is_in, F_is_in]
theorem t_is_in {value : Nat} {least : Nat} {most : Nat} (_ : True) (tp : List D) : m_is_in [eN value, eN least, eN most] tp = .ok (eB (F_is_in value least most)) tp := by
  obtain ⟨r, rfl, e⟩ := snd_is_in value least most (ok_is_in value least most) tp
  exact e
end W
set_option maxHeartbeats 1000000
namespace W
open PySem L2 G T
def V_need_picture (value : (List Row)) (Q : Unit → Prop) : Prop := (P_is_picture value) ∧ ((F_is_picture value) = true) ∧ Q ()
theorem snd_need_picture (value : (List Row)) {Q : Unit → Prop} (h : V_need_picture value Q) (tp : List D) : ∃ r : Unit, Q r ∧ m_need_picture [(eT eR) value] tp = .ok (eU r) tp := by
  obtain ⟨d, t, e1, rfl, r, rfl, q⟩ := T.wp_def (n := 1) (s := b_need_picture) (ds := [(eT eR) value]) (tp := tp) (Q := fun d t => t = tp ∧ ∃ r : Unit, d = eU r ∧ Q r) (by
    unfold V_need_picture at h
    change WP _ _ _ _ (b_need_picture [some ((eT eR) value)] _)
    unfold b_need_picture
    obtain ⟨c1, h⟩ := h
    obtain ⟨hf, h⟩ := h
    refine T.wp_if (P := (¬((F_is_picture value) = true))) (T.ev_notT (P := ((F_is_picture value) = true)) (T.ev_dec (F_is_picture value) (T.ev_call (T.ev_cons (T.ev_v rfl) T.ev_nil) rfl (t_is_picture c1 _)))) (fun hp => ?_) (fun hn => ?_)
    · exact absurd hp ((fun h0 => h0 (hf)))
    · refine T.wp_skip ?_
      exact ⟨rfl, (), rfl, h⟩)
  exact ⟨r, q, e1⟩
abbrev P_need_picture (p : Pic) : Prop := PicP p
abbrev F_need_picture (_ : Pic) : Unit := ()
theorem ok_need_picture {p : Pic} (k : P_need_picture p) : V_need_picture p (· = F_need_picture p) := ⟨k, rfl, rfl⟩
theorem t_need_picture {value : (List Row)} (hP : P_need_picture value) (tp : List D) : m_need_picture [(eT eR) value] tp = .ok (eU (F_need_picture value)) tp := by
  obtain ⟨r, rfl, e⟩ := snd_need_picture value (ok_need_picture hP) tp
  exact e
end W
set_option maxHeartbeats 1000000
namespace W
open PySem L2 G T
def V_all_painted (picture : (List Row)) (deeds : (List Nat)) (Q : (List Row) → Prop) : Prop := ∃ I2 : Nat → (List Row) → Prop, I2 0 picture ∧ (∀ (i6 : Nat) (x7 : Nat), deeds[i6]? = some x7 → ∀ picture_1 : (List Row), I2 i6 picture_1 → (P_painted_line picture_1 x7) ∧ ∀ picture_2 : (List Row), picture_2 = (F_painted_line picture_1 x7) → I2 (i6 + 1) picture_2) ∧ (∀ picture_1 : (List Row), I2 deeds.length picture_1 → Q picture_1)
theorem snd_all_painted (picture : (List Row)) (deeds : (List Nat)) {Q : (List Row) → Prop} (h : V_all_painted picture deeds Q) (tp : List D) : ∃ r : (List Row), Q r ∧ m_all_painted [(eT eR) picture, (eL eN) deeds] tp = .ok ((eT eR) r) tp := by
  obtain ⟨d, t, e1, rfl, r, rfl, q⟩ := T.wp_def (n := 3) (s := b_all_painted) (ds := [(eT eR) picture, (eL eN) deeds]) (tp := tp) (Q := fun d t => t = tp ∧ ∃ r : (List Row), d = (eT eR) r ∧ Q r) (by
    unfold V_all_painted at h
    change WP _ _ _ _ (b_all_painted [some ((eT eR) picture), some ((eL eN) deeds), none] _)
    unfold b_all_painted
    obtain ⟨I2, h3, h4, h5⟩ := h
    refine T.wp_seq (T.wp_for (e := eN) (xs := deeds) (ds := fun x7 => [eN x7]) (fun k env tz => tp = tz ∧ ∃ picture_1 : (List Row), ∃ g1 : Option D, env = [some ((eT eR) picture_1), some ((eL eN) deeds), g1] ∧ I2 k picture_1) (T.it_L (e := eN) (xs := deeds) (T.ev_v rfl)) (fun _ => rfl) ⟨rfl, picture, _, rfl, h3⟩ ?_ ?_)
    · intro i6 x7 env t hk hI
      obtain ⟨rfl, picture_1, g1, rfl, h⟩ := hI
      replace h := h4 i6 x7 hk picture_1 h
      change WP _ _ _ _ (At _ [some ((eT eR) picture_1), some ((eL eN) deeds), some (eN x7)] _)
      obtain ⟨c10, h⟩ := h
      obtain ⟨picture_2, d11⟩ : ∃ picture_2 : (List Row), picture_2 = (F_painted_line picture_1 x7) := ⟨_, rfl⟩
      replace h := h picture_2 d11
      refine T.wp_set (T.ev_as d11 (e := (eT eR)) (T.ev_call (T.ev_cons (T.ev_v rfl) (T.ev_cons (T.ev_v rfl) T.ev_nil)) rfl (t_painted_line c10 _))) ?_
      exact ⟨rfl, picture_2, _, rfl, h⟩
    rintro _ _ ⟨rfl, picture_1, g1, rfl, h⟩
    replace h := h5 picture_1 h
    change WP _ _ _ _ (At _ [some ((eT eR) picture_1), some ((eL eN) deeds), g1] _)
    exact T.wp_ret (T.ev_v rfl) ⟨rfl, picture_1, rfl, h⟩)
  exact ⟨r, q, e1⟩
abbrev P_all_painted (p : Pic) (ds : List Nat) : Prop := PicP p ∧ ∀ x ∈ ds, x < p.length + p[0]!.length
abbrev F_all_painted (p : Pic) (ls : List Nat) : Pic := linesQ p ls
theorem ok_all_painted {p : Pic} {ls : List Nat} (h : P_all_painted p ls) : V_all_painted p ls (· = F_all_painted p ls) := by
  obtain ⟨k, h⟩ := h
  refine ⟨fun n q => q = linesQ p (ls.take n), rfl, fun i x hx q hq => ⟨?_, fun r hr => ?_⟩, fun q hq => ?_⟩
  · obtain ⟨a, b, c⟩ := linesQ_pp k (ls.take i)
    rw [hq]
    refine ⟨a, ?_⟩
    rw [b, c]
    exact h x (List.mem_of_getElem? hx)
  · show r = _
    rw [hr, hq, take_snoc hx, linesQ_snoc]
  · rw [hq, List.take_length]
theorem t_all_painted {picture : (List Row)} {deeds : (List Nat)} (hP : P_all_painted picture deeds) (tp : List D) : m_all_painted [(eT eR) picture, (eL eN) deeds] tp = .ok ((eT eR) (F_all_painted picture deeds)) tp := by
  obtain ⟨r, rfl, e⟩ := snd_all_painted picture deeds (ok_all_painted hP) tp
  exact e
end W
set_option maxHeartbeats 1000000
namespace W
open PySem L2 G T
def V_need_order (value : (List Nat)) (size : Nat) (Q : Unit → Prop) : Prop := (value.length ≤ 1000000) ∧ (¬(¬(∀ x1 ∈ value, ((F_is_int x1) = true))) → (size ≤ 16777216)) ∧ ((∀ x1 ∈ value, ((F_is_int x1) = true)) ∧ ((sortN value) = (List.range size))) ∧ Q ()
theorem snd_need_order (value : (List Nat)) (size : Nat) {Q : Unit → Prop} (h : V_need_order value size Q) (tp : List D) : ∃ r : Unit, Q r ∧ m_need_order [(eT eN) value, eN size] tp = .ok (eU r) tp := by
  obtain ⟨d, t, e1, rfl, r, rfl, q⟩ := T.wp_def (n := 3) (s := b_need_order) (ds := [(eT eN) value, eN size]) (tp := tp) (Q := fun d t => t = tp ∧ ∃ r : Unit, d = eU r ∧ Q r) (by
    unfold V_need_order at h
    change WP _ _ _ _ (b_need_order [some ((eT eN) value), some (eN size), none] _)
    unfold b_need_order
    obtain ⟨c2, h⟩ := h
    obtain ⟨c4, h⟩ := h
    obtain ⟨hf, h⟩ := h
    refine T.wp_if (P := ((¬True) ∨ ((¬(∀ x1 ∈ value, ((F_is_int x1) = true))) ∨ ((sortN value) ≠ (List.range size))))) (T.ev_orT (P := (¬True)) (Q := ((¬(∀ x1 ∈ value, ((F_is_int x1) = true))) ∨ ((sortN value) ≠ (List.range size)))) (T.ev_notT (P := True) (T.ev_bool (T.ev_isi (d := (eT eN) value) (T.ev_v rfl) rfl kb_tuple_tuple))) (fun hp => (T.ev_orT (P := (¬(∀ x1 ∈ value, ((F_is_int x1) = true)))) (Q := ((sortN value) ≠ (List.range size))) (T.ev_notT (P := (∀ x1 ∈ value, ((F_is_int x1) = true))) (T.ev_bool (T.ev_allY (xs := value) (R := fun x1 => ((F_is_int x1) = true)) (T.ev_compY (e := eN) (e1 := eB) (xs := value) (ds := fun x1 => [eN x1]) (g := fun x1 => (decide ((F_is_int x1) = true))) (T.it_T (e := eN) (xs := value) (T.ev_v rfl)) c2 (fun _ => rfl) (fun x1 hx => (T.ev_decB (F_is_int x1) (T.ev_call (T.ev_cons (T.ev_v rfl) T.ev_nil) rfl (t_is_int True.intro _)))))))) (fun hp => have c3 := c4 hp; (T.ev_bool (T.ev_ne (x := (sortN value)) (y := (List.range size)) (qL qN) rfl (T.ev_sortT (xs := value) (T.ev_v rfl)) (T.ev_rg1L (n := size) c3 (T.ev_v rfl)))))))) (fun hp => ?_) (fun hn => ?_)
    · exact absurd hp ((fun h0 => h0.elim ((fun h0 => h0 (trivial))) ((fun h0 => h0.elim ((fun h0 => h0 ((hf).1))) ((fun h0 => h0 ((hf).2)))))))
    · refine T.wp_skip ?_
      exact ⟨rfl, (), rfl, h⟩)
  exact ⟨r, q, e1⟩
abbrev P_need_order (o : List Nat) (n : Nat) : Prop := o.Perm (List.range n) ∧ n ≤ 1000
abbrev F_need_order (_ : List Nat) (_ : Nat) : Unit := ()
theorem range_le (n : Nat) : (List.range n).Pairwise (· ≤ ·) := List.pairwise_lt_range.imp fun h => Nat.le_of_lt h
theorem ok_need_order {o : List Nat} {n : Nat} (h : P_need_order o n) : V_need_order o n (· = F_need_order o n) := by
  obtain ⟨h, l⟩ := h
  refine ⟨by rw [h.length_eq, List.length_range]; omega, fun _ => by omega, ⟨fun _ _ => rfl, sortN_of_perm h (range_le n)⟩, rfl⟩
theorem t_need_order {value : (List Nat)} {size : Nat} (hP : P_need_order value size) (tp : List D) : m_need_order [(eT eN) value, eN size] tp = .ok (eU (F_need_order value size)) tp := by
  obtain ⟨r, rfl, e⟩ := snd_need_order value size (ok_need_order hP) tp
  exact e
end W
set_option maxHeartbeats 1000000
namespace W
open PySem L2 G T
def V_layers_of (picture : (List Row)) (Q : (List (List Nat)) → Prop) : Prop := (P_lines_of picture) ∧ ((F_lines_of picture) ≤ 16777216) ∧ ∀ left : (List Nat), left = (List.range (F_lines_of picture)) → (left.length ≤ 1000000) ∧ (∀ x4, x4 ∈ left → (P_leads_to picture x4)) ∧ ∀ ways : (List (List Nat)), ways = (left.map fun x4 => (F_leads_to picture x4)) → ∃ (I12 : (List Nat) → (List (List Nat)) → Prop) (M13 : (List Nat) → (List (List Nat)) → Nat), I12 left [] ∧ M13 left [] < 1000000 ∧ (∀ left_1 : (List Nat), ∀ found : (List (List Nat)), I12 left_1 found → (left_1.length ≤ 1000000) ∧ ∀ told : (List (Nat × Bool)), told = (dictOf (left_1.map fun x19 => (x19, true))) → (left_1.length ≤ 1000000) ∧ (∀ x22, x22 ∈ left_1 → (x22 < ways.length) ∧ ((ways[x22]!).length ≤ 1000000)) ∧ ∀ some_ : (List Nat), some_ = (left_1.filter fun x22 => decide (¬(∃ x25 ∈ ways[x22]!, (x25 ∈ dkeys told)))) → (((some_ = []) → Q found) ∧ (¬(some_ = []) → (found.length < 1000000) ∧ ∀ found_1 : (List (List Nat)), found_1 = (found ++ [some_]) → (some_.length ≤ 1000000) ∧ ∀ gone : (List (Nat × Bool)), gone = (dictOf (some_.map fun x31 => (x31, true))) → (left_1.length ≤ 1000000) ∧ ∀ left_2 : (List Nat), left_2 = (left_1.filter fun x34 => decide (x34 ∉ dkeys gone)) → (I12 left_2 found_1 ∧ M13 left_2 found_1 < M13 left_1 found))))
theorem snd_layers_of (picture : (List Row)) {Q : (List (List Nat)) → Prop} (h : V_layers_of picture Q) (tp : List D) : ∃ r : (List (List Nat)), Q r ∧ m_layers_of [(eT eR) picture] tp = .ok ((eL (eL eN)) r) tp := by
  obtain ⟨d, t, e1, rfl, r, rfl, q⟩ := T.wp_def (n := 9) (s := b_layers_of) (ds := [(eT eR) picture]) (tp := tp) (Q := fun d t => t = tp ∧ ∃ r : (List (List Nat)), d = (eL (eL eN)) r ∧ Q r) (by
    unfold V_layers_of at h
    change WP _ _ _ _ (b_layers_of [some ((eT eR) picture), none, none, none, none, none, none, none, none] _)
    unfold b_layers_of
    obtain ⟨c1, h⟩ := h
    obtain ⟨c2, h⟩ := h
    obtain ⟨left, d3⟩ : ∃ left : (List Nat), left = (List.range (F_lines_of picture)) := ⟨_, rfl⟩
    replace h := h left d3
    refine T.wp_seq (T.wp_par (T.ev_cons (T.ev_as d3 (e := (eL eN)) (T.ev_rg1L (n := (F_lines_of picture)) c2 (T.ev_call (T.ev_cons (T.ev_v rfl) T.ev_nil) rfl (t_lines_of c1 _)))) (T.ev_cons (T.ev_lst (ds := []) T.ev_nil rfl) T.ev_nil)) rfl ?_)
    change WP _ _ _ _ (At _ [some ((eT eR) picture), some ((eL eN) left), some ((eL (eL eN)) []), none, none, none, none, none, none] _)
    obtain ⟨c5, h⟩ := h
    obtain ⟨c7, h⟩ := h
    obtain ⟨ways, d8⟩ : ∃ ways : (List (List Nat)), ways = (left.map fun x4 => (F_leads_to picture x4)) := ⟨_, rfl⟩
    replace h := h ways d8
    refine T.wp_seq (T.wp_set (T.ev_as d8 (e := (eL (eL eN))) (T.ev_compY (e := eN) (e1 := (eL eN)) (xs := left) (ds := fun x4 => [eN x4]) (g := fun x4 => (F_leads_to picture x4)) (T.it_L (e := eN) (xs := left) (T.ev_v rfl)) c5 (fun _ => rfl) (fun x4 hx => have c6 := c7 x4 hx; (T.ev_call (T.ev_cons (T.ev_v rfl) (T.ev_cons (T.ev_v rfl) T.ev_nil)) rfl (t_leads_to c6 _))))) ?_)
    change WP _ _ _ _ (At _ [some ((eT eR) picture), some ((eL eN) left), some ((eL (eL eN)) []), some ((eL (eL eN)) ways), none, none, none, none, none] _)
    obtain ⟨I12, M13, h14, h15, h16⟩ := h
    refine T.wp_while (fun n env tz => tp = tz ∧ ∃ left_1 : (List Nat), ∃ found : (List (List Nat)), ∃ g9 : Option D, ∃ g10 : Option D, ∃ g11 : Option D, env = [some ((eT eR) picture), some ((eL eN) left_1), some ((eL (eL eN)) found), some ((eL (eL eN)) ways), none, g9, g10, none, g11] ∧ I12 left_1 found ∧ M13 left_1 found = n) ⟨_, h15, rfl, left, [], _, _, _, rfl, h14, rfl⟩ ?_
    intro n17 env t hI
    obtain ⟨rfl, left_1, found, g9, g10, g11, rfl, h, rfl⟩ := hI
    replace h := h16 left_1 found h
    refine ⟨(true = true), inferInstance, (T.ev_dec true (T.ev_c rfl)), fun hp => ?_, fun hn => ?_⟩
    · obtain ⟨c20, h⟩ := h
      obtain ⟨told, d21⟩ : ∃ told : (List (Nat × Bool)), told = (dictOf (left_1.map fun x19 => (x19, true))) := ⟨_, rfl⟩
      replace h := h told d21
      refine T.wp_seq (T.wp_set (T.ev_as d21 (e := (eD eB)) (T.ev_dc (e := eB) (e1 := eN) (xs := left_1) (ds := fun x19 => [eN x19]) (k := fun x19 => x19) (v := fun x19 => true) (T.it_L (e := eN) (xs := left_1) (T.ev_v rfl)) c20 (fun _ => rfl) (fun x19 hx => (T.ev_v rfl)) (fun x19 hx => (T.ev_c rfl)))) ?_)
      change WP _ _ _ _ (At _ [some ((eT eR) picture), some ((eL eN) left_1), some ((eL (eL eN)) found), some ((eL (eL eN)) ways), none, some ((eD eB) told), g10, none, g11] _)
      obtain ⟨c23, h⟩ := h
      obtain ⟨c27, h⟩ := h
      obtain ⟨some_, d28⟩ : ∃ some_ : (List Nat), some_ = (left_1.filter fun x22 => decide (¬(∃ x25 ∈ ways[x22]!, (x25 ∈ dkeys told)))) := ⟨_, rfl⟩
      replace h := h some_ d28
      refine T.wp_seq (T.wp_set (T.ev_as d28 (e := (eL eN)) (T.ev_compI (e := eN) (xs := left_1) (ds := fun x22 => [eN x22]) (P := fun x22 => (¬(∃ x25 ∈ ways[x22]!, (x25 ∈ dkeys told)))) (T.it_L (e := eN) (xs := left_1) (T.ev_v rfl)) c23 (fun _ => rfl) (fun x22 hx => match c27 x22 hx with | ⟨c24, c26⟩ => (T.ev_notT (P := (∃ x25 ∈ ways[x22]!, (x25 ∈ dkeys told))) (T.ev_bool (T.ev_anyY (xs := ways[x22]!) (R := fun x25 => (x25 ∈ dkeys told)) (T.ev_compY (e := eN) (e1 := eB) (xs := ways[x22]!) (ds := fun x25 => [eN x25]) (g := fun x25 => (decide (x25 ∈ dkeys told))) (T.it_L (e := eN) (xs := ways[x22]!) (T.ev_ixL (e := (eL eN)) (xs := ways) (i := x22) c24 (T.ev_v rfl) (T.ev_v rfl))) c26 (fun _ => rfl) (fun x25 hx => (T.ev_inK (x := x25) (d := told) (T.ev_v rfl) (T.ev_v rfl)))))))) (fun x22 hx hq => (T.ev_v rfl)))) ?_)
      change WP _ _ _ _ (At _ [some ((eT eR) picture), some ((eL eN) left_1), some ((eL (eL eN)) found), some ((eL (eL eN)) ways), none, some ((eD eB) told), some ((eL eN) some_), none, g11] _)
      refine T.wp_seq (T.wp_if (P := (some_ = [])) (T.ev_bool (T.ev_eq (x := some_) (y := []) (qL qN) rfl (T.ev_v rfl) (T.ev_lst (ds := []) T.ev_nil rfl))) (fun hp => ?_) (fun hn => ?_))
      · replace h := h.1 hp
        exact T.wp_ret (T.ev_v rfl) ⟨rfl, found, rfl, h⟩
      · replace h := h.2 hn
        refine T.wp_skip ?_
        change WP _ _ _ _ (At _ [some ((eT eR) picture), some ((eL eN) left_1), some ((eL (eL eN)) found), some ((eL (eL eN)) ways), none, some ((eD eB) told), some ((eL eN) some_), none, g11] _)
        obtain ⟨c29, h⟩ := h
        obtain ⟨found_1, d30⟩ : ∃ found_1 : (List (List Nat)), found_1 = (found ++ [some_]) := ⟨_, rfl⟩
        replace h := h found_1 d30
        refine T.wp_seq (T.wp_app (e := (eL eN)) (xs := found) (x := some_) rfl (T.ev_v rfl) c29 ?_)
        rw [← d30]
        change WP _ _ _ _ (At _ [some ((eT eR) picture), some ((eL eN) left_1), some ((eL (eL eN)) found_1), some ((eL (eL eN)) ways), none, some ((eD eB) told), some ((eL eN) some_), none, g11] _)
        obtain ⟨c32, h⟩ := h
        obtain ⟨gone, d33⟩ : ∃ gone : (List (Nat × Bool)), gone = (dictOf (some_.map fun x31 => (x31, true))) := ⟨_, rfl⟩
        replace h := h gone d33
        refine T.wp_seq (T.wp_set (T.ev_as d33 (e := (eD eB)) (T.ev_dc (e := eB) (e1 := eN) (xs := some_) (ds := fun x31 => [eN x31]) (k := fun x31 => x31) (v := fun x31 => true) (T.it_L (e := eN) (xs := some_) (T.ev_v rfl)) c32 (fun _ => rfl) (fun x31 hx => (T.ev_v rfl)) (fun x31 hx => (T.ev_c rfl)))) ?_)
        change WP _ _ _ _ (At _ [some ((eT eR) picture), some ((eL eN) left_1), some ((eL (eL eN)) found_1), some ((eL (eL eN)) ways), none, some ((eD eB) told), some ((eL eN) some_), none, some ((eD eB) gone)] _)
        obtain ⟨c35, h⟩ := h
        obtain ⟨left_2, d36⟩ : ∃ left_2 : (List Nat), left_2 = (left_1.filter fun x34 => decide (x34 ∉ dkeys gone)) := ⟨_, rfl⟩
        replace h := h left_2 d36
        refine T.wp_set (T.ev_as d36 (e := (eL eN)) (T.ev_compI (e := eN) (xs := left_1) (ds := fun x34 => [eN x34]) (P := fun x34 => (x34 ∉ dkeys gone)) (T.it_L (e := eN) (xs := left_1) (T.ev_v rfl)) c35 (fun _ => rfl) (fun x34 hx => (T.ev_bool (T.ev_ninK (x := x34) (d := gone) (T.ev_v rfl) (T.ev_v rfl)))) (fun x34 hx hq => (T.ev_v rfl)))) ?_
        exact ⟨_, h.2, rfl, left_2, found_1, _, _, _, rfl, h.1, rfl⟩
    · exact (hn rfl).elim)
  exact ⟨r, q, e1⟩
abbrev P_layers_of (p : Pic) : Prop := PicP p
abbrev F_layers_of (p : Pic) : List (List Nat) := layersQ p
theorem ok_layers_of {p : Pic} (k : P_layers_of p) : V_layers_of p (· = F_layers_of p) := by
  have h1 := k.h1; have h30 := k.h30; have w1 := k.w1; have w30 := k.w30
  have e0 : F_lines_of p = p.length + p[0]!.length := rfl
  rw [V_layers_of, e0]
  refine ⟨k, by omega, fun left hleft => ⟨by rw [hleft, List.length_range]; omega, fun x hx => ⟨k, by rw [hleft] at hx; exact List.mem_range.mp hx⟩, fun ways hw => ?_⟩⟩
  have wl : ways.length = p.length + p[0]!.length := by rw [hw, List.length_map, hleft, List.length_range]
  have wg : ∀ l, l < p.length + p[0]!.length → ways[l]! = leadsQ p l := fun l hl => by
    rw [hw, get!_map' _ (by rw [hleft, List.length_range]; exact hl), hleft, get!_range hl]
  refine ⟨fun l f => ∃ n, f = (liter p n).1 ∧ l = lv p (liter p n) ∧ l.length + n ≤ p.length + p[0]!.length, fun l f => l.length, ⟨0, rfl, ?_, ?_⟩, ?_, fun l f hI => ?_⟩
  · rw [hleft]
    show _ = List.range p.length ++ (List.range p[0]!.length).map fun j => p.length + j
    rw [List.range_add]
  · rw [hleft, List.length_range]; omega
  · show left.length < _
    rw [hleft, List.length_range]; omega
  · obtain ⟨n, rfl, rfl, hn⟩ := hI
    have hr : ∀ i ∈ (liter p n).2.1, i < p.length := fun i hi => liter_row hi
    have hc : ∀ j ∈ (liter p n).2.2, j < p[0]!.length := fun j hj => liter_col hj
    have lt : ∀ l ∈ lv p (liter p n), l < p.length + p[0]!.length := fun l hl => by
      rcases (mem_lv hr l).mp hl with ⟨a, _⟩ | ⟨_, b⟩
      · omega
      · have := hc _ b; omega
    refine ⟨by omega, fun told ht => ⟨by omega, fun x hx => ⟨by rw [wl]; exact lt x hx, ?_⟩, fun some_ hs => ?_⟩⟩
    · rw [wg x (lt x hx)]
      unfold leadsQ
      split
      · rw [List.length_map]
        have := len_filter_le (fun j => decide ((p[x]!)[j]! = false)) (List.range p[0]!.length)
        rw [List.length_range] at this
        omega
      · have := len_filter_le (fun i => decide ((p[i]!)[x - p.length]! = true)) (List.range p.length)
        rw [List.length_range] at this
        omega
    · have es : some_ = freeQ p (liter p n) := by
        rw [hs]
        unfold freeQ
        refine List.filter_congr fun x hx => decide_eq_decide.mpr (not_congr ?_)
        rw [wg x (lt x hx)]
        refine exists_congr fun o => and_congr_right fun _ => ?_
        rw [ht, keys_true]
      refine ⟨fun q => ?_, fun q => ?_⟩
      · rw [es] at q
        have hn2 : n ≤ p.length + p[0]!.length := by omega
        obtain ⟨m, hm⟩ : ∃ m, p.length + p[0]!.length = n + m := ⟨_, (Nat.add_sub_cancel' hn2).symm⟩
        show (liter p n).1 = (liter p (p.length + p[0]!.length)).1
        rw [hm, liter_stop q m]
      · rw [es] at q
        obtain ⟨s1, s2⟩ := lstep_free hr hc q
        have sl : (freeQ p (liter p n)).length ≤ (lv p (liter p n)).length := len_filter_le _ _
        refine ⟨?_, fun f2 hf => ⟨by rw [es]; omega, fun gone hg => ⟨by omega, fun l2 hl2 => ?_⟩⟩⟩
        · have := (liter_sub p n).2.2; omega
        · have e2 : l2 = lv p (liter p (n + 1)) := by
            show l2 = lv p (lstep p (liter p n))
            rw [s2, hl2]
            refine List.filter_congr fun x _ => decide_eq_decide.mpr (not_congr ?_)
            rw [hg, keys_true, es]
          have less : l2.length < (lv p (liter p n)).length := by
            rw [e2]
            show (lv p (lstep p (liter p n))).length < _
            rw [s2]
            obtain ⟨z, hz⟩ := List.exists_mem_of_ne_nil _ q
            have hz2 : z ∈ lv p (liter p n) := (List.mem_filter.mp hz).1
            refine Nat.lt_of_le_of_ne (len_filter_le _ _) fun e => ?_
            have := List.length_filter_eq_length_iff.mp e z hz2
            exact of_decide_eq_true this hz
          refine ⟨⟨n + 1, ?_, e2, by omega⟩, less⟩
          rw [hf, es]
          exact s1.symm
theorem t_layers_of {picture : (List Row)} (hP : P_layers_of picture) (tp : List D) : m_layers_of [(eT eR) picture] tp = .ok ((eL (eL eN)) (F_layers_of picture)) tp := by
  obtain ⟨r, rfl, e⟩ := snd_layers_of picture (ok_layers_of hP) tp
  exact e
end W
set_option maxHeartbeats 1000000
namespace W
open PySem L2 G T
def V_lowered (above : Int) (low : Int) (Q : (Int × Int) → Prop) : Prop := (P_common above low) ∧ ∀ shared : Int, shared = (F_common above low) → (cDiv shared = true) ∧ Q ((above / shared), (low / shared))
theorem snd_lowered (above : Int) (low : Int) {Q : (Int × Int) → Prop} (h : V_lowered above low Q) (tp : List D) : ∃ r : (Int × Int), Q r ∧ m_lowered [eZ above, eZ low] tp = .ok ((eP eZ eZ) r) tp := by
  obtain ⟨d, t, e1, rfl, r, rfl, q⟩ := T.wp_def (n := 3) (s := b_lowered) (ds := [eZ above, eZ low]) (tp := tp) (Q := fun d t => t = tp ∧ ∃ r : (Int × Int), d = (eP eZ eZ) r ∧ Q r) (by
    unfold V_lowered at h
    change WP _ _ _ _ (b_lowered [some (eZ above), some (eZ low), none] _)
    unfold b_lowered
    obtain ⟨c1, h⟩ := h
    obtain ⟨shared, d2⟩ : ∃ shared : Int, shared = (F_common above low) := ⟨_, rfl⟩
    replace h := h shared d2
    refine T.wp_seq (T.wp_set (T.ev_as d2 (e := eZ) (T.ev_call (T.ev_cons (T.ev_v rfl) (T.ev_cons (T.ev_v rfl) T.ev_nil)) rfl (t_common c1 _))) ?_)
    change WP _ _ _ _ (At _ [some (eZ above), some (eZ low), some (eZ shared)] _)
    obtain ⟨c3, h⟩ := h
    exact T.wp_ret (T.ev_tup (ds := [eZ (above / shared), eZ (low / shared)]) (T.ev_cons (T.ev_fdivZ (x := above) (y := shared) c3 (T.ev_v rfl) (T.ev_v rfl)) (T.ev_cons (T.ev_fdivZ (x := low) (y := shared) c3 (T.ev_v rfl) (T.ev_v rfl)) T.ev_nil)) rfl) ⟨rfl, ((above / shared), (low / shared)), rfl, h⟩)
  exact ⟨r, q, e1⟩
abbrev P_lowered (a b : Int) : Prop := Lg a 400000 ∧ Lg b 9000 ∧ 0 < b
abbrev F_lowered (a b : Int) : Int × Int := low a b
theorem ok_lowered {a b : Int} (k : P_lowered a b) : V_lowered a b (· = F_lowered a b) := by
  refine ⟨k, fun s hs => ?_⟩
  subst hs
  exact ⟨cDiv_lg (gcd_pos k.2.2) (gcd_lg k.2.1 k.2.2) (by omega) (by omega), rfl⟩
theorem t_lowered {above : Int} {low : Int} (hP : P_lowered above low) (tp : List D) : m_lowered [eZ above, eZ low] tp = .ok ((eP eZ eZ) (F_lowered above low)) tp := by
  obtain ⟨r, rfl, e⟩ := snd_lowered above low (ok_lowered hP) tp
  exact e
end W
set_option maxHeartbeats 1000000
namespace W
open PySem L2 G T
def V_law_painted (picture : (List Row)) (deeds : (List Nat)) (Q : (List Row) → Prop) : Prop := ∃ I2 : Nat → (List Row) → Prop, I2 0 picture ∧ (∀ (i6 : Nat) (x7 : Nat), deeds[i6]? = some x7 → ∀ picture_1 : (List Row), I2 i6 picture_1 → (P_law_paint picture_1 x7) ∧ ∀ picture_2 : (List Row), picture_2 = (F_law_paint picture_1 x7) → I2 (i6 + 1) picture_2) ∧ (∀ picture_1 : (List Row), I2 deeds.length picture_1 → Q picture_1)
theorem snd_law_painted (picture : (List Row)) (deeds : (List Nat)) {Q : (List Row) → Prop} (h : V_law_painted picture deeds Q) (tp : List D) : ∃ r : (List Row), Q r ∧ m_law_painted [(eT eR) picture, (eL eN) deeds] tp = .ok ((eT eR) r) tp := by
  obtain ⟨d, t, e1, rfl, r, rfl, q⟩ := T.wp_def (n := 3) (s := b_law_painted) (ds := [(eT eR) picture, (eL eN) deeds]) (tp := tp) (Q := fun d t => t = tp ∧ ∃ r : (List Row), d = (eT eR) r ∧ Q r) (by
    unfold V_law_painted at h
    change WP _ _ _ _ (b_law_painted [some ((eT eR) picture), some ((eL eN) deeds), none] _)
    unfold b_law_painted
    obtain ⟨I2, h3, h4, h5⟩ := h
    refine T.wp_seq (T.wp_for (e := eN) (xs := deeds) (ds := fun x7 => [eN x7]) (fun k env tz => tp = tz ∧ ∃ picture_1 : (List Row), ∃ g1 : Option D, env = [some ((eT eR) picture_1), some ((eL eN) deeds), g1] ∧ I2 k picture_1) (T.it_L (e := eN) (xs := deeds) (T.ev_v rfl)) (fun _ => rfl) ⟨rfl, picture, _, rfl, h3⟩ ?_ ?_)
    · intro i6 x7 env t hk hI
      obtain ⟨rfl, picture_1, g1, rfl, h⟩ := hI
      replace h := h4 i6 x7 hk picture_1 h
      change WP _ _ _ _ (At _ [some ((eT eR) picture_1), some ((eL eN) deeds), some (eN x7)] _)
      obtain ⟨c10, h⟩ := h
      obtain ⟨picture_2, d11⟩ : ∃ picture_2 : (List Row), picture_2 = (F_law_paint picture_1 x7) := ⟨_, rfl⟩
      replace h := h picture_2 d11
      refine T.wp_set (T.ev_as d11 (e := (eT eR)) (T.ev_call (T.ev_cons (T.ev_v rfl) (T.ev_cons (T.ev_v rfl) T.ev_nil)) rfl (t_law_paint c10 _))) ?_
      exact ⟨rfl, picture_2, _, rfl, h⟩
    rintro _ _ ⟨rfl, picture_1, g1, rfl, h⟩
    replace h := h5 picture_1 h
    change WP _ _ _ _ (At _ [some ((eT eR) picture_1), some ((eL eN) deeds), g1] _)
    exact T.wp_ret (T.ev_v rfl) ⟨rfl, picture_1, rfl, h⟩)
  exact ⟨r, q, e1⟩
abbrev P_law_painted (p : Pic) (_ : List Nat) : Prop := PicP p
abbrev F_law_painted (p : Pic) (ls : List Nat) : Pic := linesQ p ls
theorem ok_law_painted {p : Pic} {ls : List Nat} (k : P_law_painted p ls) : V_law_painted p ls (· = F_law_painted p ls) := by
  refine ⟨fun n q => q = linesQ p (ls.take n), rfl, fun i x hx q hq => ⟨?_, fun r hr => ?_⟩, fun q hq => ?_⟩
  · rw [hq]; exact (linesQ_pp k _).1
  · show r = _
    rw [hr, hq, take_snoc hx, linesQ_snoc]
  · rw [hq, List.take_length]
theorem t_law_painted {picture : (List Row)} {deeds : (List Nat)} (hP : P_law_painted picture deeds) (tp : List D) : m_law_painted [(eT eR) picture, (eL eN) deeds] tp = .ok ((eT eR) (F_law_painted picture deeds)) tp := by
  obtain ⟨r, rfl, e⟩ := snd_law_painted picture deeds (ok_law_painted hP) tp
  exact e
end W
set_option maxHeartbeats 1000000
namespace W
open PySem L2 G T
def V_law_lowered (above : Int) (low : Int) (Q : (Int × Int) → Prop) : Prop := (P_law_common above low) ∧ ∀ shared : Nat, shared = (F_law_common above low) → (cDiv ((shared : Nat) : Int) = true) ∧ Q ((above / ((shared : Nat) : Int)), (low / ((shared : Nat) : Int)))
theorem snd_law_lowered (above : Int) (low : Int) {Q : (Int × Int) → Prop} (h : V_law_lowered above low Q) (tp : List D) : ∃ r : (Int × Int), Q r ∧ m_law_lowered [eZ above, eZ low] tp = .ok ((eP eZ eZ) r) tp := by
  obtain ⟨d, t, e1, rfl, r, rfl, q⟩ := T.wp_def (n := 3) (s := b_law_lowered) (ds := [eZ above, eZ low]) (tp := tp) (Q := fun d t => t = tp ∧ ∃ r : (Int × Int), d = (eP eZ eZ) r ∧ Q r) (by
    unfold V_law_lowered at h
    change WP _ _ _ _ (b_law_lowered [some (eZ above), some (eZ low), none] _)
    unfold b_law_lowered
    obtain ⟨c1, h⟩ := h
    obtain ⟨shared, d2⟩ : ∃ shared : Nat, shared = (F_law_common above low) := ⟨_, rfl⟩
    replace h := h shared d2
    refine T.wp_seq (T.wp_set (T.ev_as d2 (e := eN) (T.ev_call (T.ev_cons (T.ev_v rfl) (T.ev_cons (T.ev_v rfl) T.ev_nil)) rfl (t_law_common c1 _))) ?_)
    change WP _ _ _ _ (At _ [some (eZ above), some (eZ low), some (eN shared)] _)
    obtain ⟨c3, h⟩ := h
    exact T.wp_ret (T.ev_tup (ds := [eZ (above / ((shared : Nat) : Int)), eZ (low / ((shared : Nat) : Int))]) (T.ev_cons (T.ev_fdivZ (x := above) (y := ((shared : Nat) : Int)) c3 (T.ev_v rfl) (T.ev_v rfl)) (T.ev_cons (T.ev_fdivZ (x := low) (y := ((shared : Nat) : Int)) c3 (T.ev_v rfl) (T.ev_v rfl)) T.ev_nil)) rfl) ⟨rfl, ((above / ((shared : Nat) : Int)), (low / ((shared : Nat) : Int))), rfl, h⟩)
  exact ⟨r, q, e1⟩
abbrev P_law_lowered (a b : Int) : Prop := Lg a 400000 ∧ Lg b 9000 ∧ 0 < b
abbrev F_law_lowered (a b : Int) : Int × Int := low a b
theorem ok_law_lowered {a b : Int} (k : P_law_lowered a b) : V_law_lowered a b (· = F_law_lowered a b) := by
  refine ⟨⟨k.1, k.2.1.mono (by omega)⟩, fun s hs => ?_⟩
  subst hs
  exact ⟨cDiv_lg (gcd_pos k.2.2) (gcd_lg k.2.1 k.2.2) (by omega) (by omega), rfl⟩
theorem t_law_lowered {above : Int} {low : Int} (hP : P_law_lowered above low) (tp : List D) : m_law_lowered [eZ above, eZ low] tp = .ok ((eP eZ eZ) (F_law_lowered above low)) tp := by
  obtain ⟨r, rfl, e⟩ := snd_law_lowered above low (ok_law_lowered hP) tp
  exact e
end W
set_option maxHeartbeats 1000000
namespace W
open PySem L2 G T
def V_need_number (value : Nat) (least : Nat) (most : Nat) (Q : Unit → Prop) : Prop := ((F_is_in value least most) = true) ∧ Q ()
theorem snd_need_number (value : Nat) (least : Nat) (most : Nat) {Q : Unit → Prop} (h : V_need_number value least most Q) (tp : List D) : ∃ r : Unit, Q r ∧ m_need_number [eN value, eN least, eN most] tp = .ok (eU r) tp := by
  obtain ⟨d, t, e1, rfl, r, rfl, q⟩ := T.wp_def (n := 3) (s := b_need_number) (ds := [eN value, eN least, eN most]) (tp := tp) (Q := fun d t => t = tp ∧ ∃ r : Unit, d = eU r ∧ Q r) (by
    unfold V_need_number at h
    change WP _ _ _ _ (b_need_number [some (eN value), some (eN least), some (eN most)] _)
    unfold b_need_number
    obtain ⟨hf, h⟩ := h
    refine T.wp_if (P := (¬((F_is_in value least most) = true))) (T.ev_notT (P := ((F_is_in value least most) = true)) (T.ev_dec (F_is_in value least most) (T.ev_call (T.ev_cons (T.ev_v rfl) (T.ev_cons (T.ev_v rfl) (T.ev_cons (T.ev_v rfl) T.ev_nil))) rfl (t_is_in True.intro _)))) (fun hp => ?_) (fun hn => ?_)
    · exact absurd hp ((fun h0 => h0 (hf)))
    · refine T.wp_skip ?_
      exact ⟨rfl, (), rfl, h⟩)
  exact ⟨r, q, e1⟩
abbrev P_need_number (v l m : Nat) : Prop := l ≤ v ∧ v ≤ m
abbrev F_need_number (_ _ _ : Nat) : Unit := ()
theorem ok_need_number {v l m : Nat} (h : P_need_number v l m) : V_need_number v l m (· = F_need_number v l m) := by
  unfold V_need_number
  exact ⟨by unfold F_is_in; exact decide_eq_true h, rfl⟩
theorem t_need_number {value : Nat} {least : Nat} {most : Nat} (hP : P_need_number value least most) (tp : List D) : m_need_number [eN value, eN least, eN most] tp = .ok (eU (F_need_number value least most)) tp := by
  obtain ⟨r, rfl, e⟩ := snd_need_number value least most (ok_need_number hP) tp
  exact e
end W
set_option maxHeartbeats 1000000
namespace W
open PySem L2 G T
def V_need_line (picture : (List Row)) (value : Nat) (Q : Unit → Prop) : Prop := (P_lines_of picture) ∧ (1 ≤ (F_lines_of picture)) ∧ ((F_is_in value 0 ((F_lines_of picture) - 1)) = true) ∧ Q ()
theorem snd_need_line (picture : (List Row)) (value : Nat) {Q : Unit → Prop} (h : V_need_line picture value Q) (tp : List D) : ∃ r : Unit, Q r ∧ m_need_line [(eT eR) picture, eN value] tp = .ok (eU r) tp := by
  obtain ⟨d, t, e1, rfl, r, rfl, q⟩ := T.wp_def (n := 2) (s := b_need_line) (ds := [(eT eR) picture, eN value]) (tp := tp) (Q := fun d t => t = tp ∧ ∃ r : Unit, d = eU r ∧ Q r) (by
    unfold V_need_line at h
    change WP _ _ _ _ (b_need_line [some ((eT eR) picture), some (eN value)] _)
    unfold b_need_line
    obtain ⟨c1, h⟩ := h
    obtain ⟨c2, h⟩ := h
    obtain ⟨hf, h⟩ := h
    refine T.wp_if (P := (¬((F_is_in value 0 ((F_lines_of picture) - 1)) = true))) (T.ev_notT (P := ((F_is_in value 0 ((F_lines_of picture) - 1)) = true)) (T.ev_dec (F_is_in value 0 ((F_lines_of picture) - 1)) (T.ev_call (T.ev_cons (T.ev_v rfl) (T.ev_cons (T.ev_cN 0) (T.ev_cons (T.ev_sub (x := (F_lines_of picture)) (y := 1) c2 (T.ev_call (T.ev_cons (T.ev_v rfl) T.ev_nil) rfl (t_lines_of c1 _)) (T.ev_cN 1)) T.ev_nil))) rfl (t_is_in True.intro _)))) (fun hp => ?_) (fun hn => ?_)
    · exact absurd hp ((fun h0 => h0 (hf)))
    · refine T.wp_skip ?_
      exact ⟨rfl, (), rfl, h⟩)
  exact ⟨r, q, e1⟩
abbrev P_need_line (p : Pic) (l : Nat) : Prop := PicP p ∧ l < p.length + p[0]!.length
abbrev F_need_line (_ : Pic) (_ : Nat) : Unit := ()
theorem ok_need_line {p : Pic} {l : Nat} (h : P_need_line p l) : V_need_line p l (· = F_need_line p l) := by
  obtain ⟨k, hl⟩ := h
  have h1 := k.h1
  refine ⟨k, by unfold F_lines_of; omega, ?_, rfl⟩
  unfold F_is_in F_lines_of
  exact decide_eq_true ⟨by omega, by omega⟩
theorem t_need_line {picture : (List Row)} {value : Nat} (hP : P_need_line picture value) (tp : List D) : m_need_line [(eT eR) picture, eN value] tp = .ok (eU (F_need_line picture value)) tp := by
  obtain ⟨r, rfl, e⟩ := snd_need_line picture value (ok_need_line hP) tp
  exact e
end W
set_option maxHeartbeats 1000000
namespace W
open PySem L2 G T
def V_are_deeds (picture : (List Row)) (value : (List Nat)) (Q : Bool → Prop) : Prop := (value.length ≤ 1000000) ∧ (∀ x1, x1 ∈ value → (P_lines_of picture) ∧ (1 ≤ (F_lines_of picture))) ∧ Q (decide (True ∧ (∀ x1 ∈ value, ((F_is_in x1 0 ((F_lines_of picture) - 1)) = true))))
theorem snd_are_deeds (picture : (List Row)) (value : (List Nat)) {Q : Bool → Prop} (h : V_are_deeds picture value Q) (tp : List D) : ∃ r : Bool, Q r ∧ m_are_deeds [(eT eR) picture, (eL eN) value] tp = .ok (eB r) tp := by
  obtain ⟨d, t, e1, rfl, r, rfl, q⟩ := T.wp_def (n := 3) (s := b_are_deeds) (ds := [(eT eR) picture, (eL eN) value]) (tp := tp) (Q := fun d t => t = tp ∧ ∃ r : Bool, d = eB r ∧ Q r) (by
    unfold V_are_deeds at h
    change WP _ _ _ _ (b_are_deeds [some ((eT eR) picture), some ((eL eN) value), none] _)
    unfold b_are_deeds
    obtain ⟨c2, h⟩ := h
    obtain ⟨c5, h⟩ := h
    exact T.wp_ret (T.ev_andE (P := True) (Q := (∀ x1 ∈ value, ((F_is_in x1 0 ((F_lines_of picture) - 1)) = true))) (T.ev_isi (d := (eL eN) value) (T.ev_v rfl) rfl kb_list_list) (fun hp => (T.ev_allY (xs := value) (R := fun x1 => ((F_is_in x1 0 ((F_lines_of picture) - 1)) = true)) (T.ev_compY (e := eN) (e1 := eB) (xs := value) (ds := fun x1 => [eN x1]) (g := fun x1 => (decide ((F_is_in x1 0 ((F_lines_of picture) - 1)) = true))) (T.it_L (e := eN) (xs := value) (T.ev_v rfl)) c2 (fun _ => rfl) (fun x1 hx => match c5 x1 hx with | ⟨c3, c4⟩ => (T.ev_decB (F_is_in x1 0 ((F_lines_of picture) - 1)) (T.ev_call (T.ev_cons (T.ev_v rfl) (T.ev_cons (T.ev_cN 0) (T.ev_cons (T.ev_sub (x := (F_lines_of picture)) (y := 1) c4 (T.ev_call (T.ev_cons (T.ev_v rfl) T.ev_nil) rfl (t_lines_of c3 _)) (T.ev_cN 1)) T.ev_nil))) rfl (t_is_in True.intro _)))))))) ⟨rfl, (decide (True ∧ (∀ x1 ∈ value, ((F_is_in x1 0 ((F_lines_of picture) - 1)) = true)))), rfl, h⟩)
  exact ⟨r, q, e1⟩
abbrev P_are_deeds (p : Pic) (v : List Nat) : Prop := PicP p ∧ v.length ≤ 1000
abbrev F_are_deeds (p : Pic) (v : List Nat) : Bool := decide (∀ x ∈ v, x < p.length + p[0]!.length)
theorem ok_are_deeds {p : Pic} {v : List Nat} (h : P_are_deeds p v) : V_are_deeds p v (· = F_are_deeds p v) := by
  obtain ⟨k, h⟩ := h
  have h1 := k.h1
  have e0 : F_lines_of p = p.length + p[0]!.length := rfl
  rw [V_are_deeds, e0]
  refine ⟨by omega, fun x hx => ⟨k, by omega⟩, decide_eq_decide.mpr ⟨fun z x hx => ?_, fun z => ⟨trivial, fun x hx => ?_⟩⟩⟩
  · have := of_decide_eq_true (z.2 x hx); omega
  · have := z x hx
    exact decide_eq_true (by omega)
theorem t_are_deeds {picture : (List Row)} {value : (List Nat)} (hP : P_are_deeds picture value) (tp : List D) : m_are_deeds [(eT eR) picture, (eL eN) value] tp = .ok (eB (F_are_deeds picture value)) tp := by
  obtain ⟨r, rfl, e⟩ := snd_are_deeds picture value (ok_are_deeds hP) tp
  exact e
end W
set_option maxHeartbeats 1000000
namespace W
open PySem L2 G T
def V_layers (picture : (List Row)) (Q : (List (List Nat)) → Prop) : Prop := (P_need_picture picture) ∧ (P_layers_of picture) ∧ ((F_layers_of picture).length ≤ 1000000) ∧ Q ((F_layers_of picture).map fun x3 => x3)
theorem snd_layers (picture : (List Row)) {Q : (List (List Nat)) → Prop} (h : V_layers picture Q) (tp : List D) : ∃ r : (List (List Nat)), Q r ∧ m_layers [(eT eR) picture] tp = .ok ((eT (eT eN)) r) tp := by
  obtain ⟨d, t, e1, rfl, r, rfl, q⟩ := T.wp_def (n := 2) (s := b_layers) (ds := [(eT eR) picture]) (tp := tp) (Q := fun d t => t = tp ∧ ∃ r : (List (List Nat)), d = (eT (eT eN)) r ∧ Q r) (by
    unfold V_layers at h
    change WP _ _ _ _ (b_layers [some ((eT eR) picture), none] _)
    unfold b_layers
    obtain ⟨c1, h⟩ := h
    refine T.wp_seq (T.wp_drop (T.ev_call (T.ev_cons (T.ev_v rfl) T.ev_nil) rfl (t_need_picture c1 _)) ?_)
    change WP _ _ _ _ (At _ [some ((eT eR) picture), none] _)
    obtain ⟨c2, h⟩ := h
    obtain ⟨c4, h⟩ := h
    exact T.wp_ret (T.ev_tupleL (e := (eT eN)) (xs := ((F_layers_of picture).map fun x3 => x3)) (T.ev_compY (e := (eL eN)) (e1 := (eT eN)) (xs := (F_layers_of picture)) (ds := fun x3 => [(eL eN) x3]) (g := fun x3 => x3) (T.it_L (e := (eL eN)) (xs := (F_layers_of picture)) (T.ev_call (T.ev_cons (T.ev_v rfl) T.ev_nil) rfl (t_layers_of c2 _))) c4 (fun _ => rfl) (fun x3 hx => (T.ev_tupleL (e := eN) (xs := x3) (T.ev_v rfl))))) ⟨rfl, ((F_layers_of picture).map fun x3 => x3), rfl, h⟩)
  exact ⟨r, q, e1⟩
abbrev P_layers (p : Pic) : Prop := PicP p
abbrev F_layers (p : Pic) : List (List Nat) := layersQ p
theorem ok_layers {p : Pic} (k : P_layers p) : V_layers p (· = F_layers p) :=
  ⟨k, k, by have := (layersQ_len k).1; show (layersQ p).length ≤ _; omega, List.map_id' _⟩
theorem t_layers {picture : (List Row)} (hP : P_layers picture) (tp : List D) : m_layers [(eT eR) picture] tp = .ok ((eT (eT eN)) (F_layers picture)) tp := by
  obtain ⟨r, rfl, e⟩ := snd_layers picture (ok_layers hP) tp
  exact e
end W
set_option maxHeartbeats 1000000
namespace W
open PySem L2 G T
def V_core_of (picture : (List Row)) (Q : (List Nat) → Prop) : Prop := (P_layers_of picture) ∧ (((F_layers_of picture).flatMap fun x2 => x2).length ≤ 1000000) ∧ ∀ told : (List (Nat × Bool)), told = (dictOf ((F_layers_of picture).flatMap fun x2 => x2.map fun y3 => (y3, true))) → (P_lines_of picture) ∧ ((F_lines_of picture) ≤ 1073741824) ∧ ((List.range (F_lines_of picture)).length ≤ 1000000) ∧ Q ((List.range (F_lines_of picture)).filter fun x8 => decide (x8 ∉ dkeys told))
theorem snd_core_of (picture : (List Row)) {Q : (List Nat) → Prop} (h : V_core_of picture Q) (tp : List D) : ∃ r : (List Nat), Q r ∧ m_core_of [(eT eR) picture] tp = .ok ((eL eN) r) tp := by
  obtain ⟨d, t, e1, rfl, r, rfl, q⟩ := T.wp_def (n := 4) (s := b_core_of) (ds := [(eT eR) picture]) (tp := tp) (Q := fun d t => t = tp ∧ ∃ r : (List Nat), d = (eL eN) r ∧ Q r) (by
    unfold V_core_of at h
    change WP _ _ _ _ (b_core_of [some ((eT eR) picture), none, none, none] _)
    unfold b_core_of
    obtain ⟨c1, h⟩ := h
    obtain ⟨c4, h⟩ := h
    obtain ⟨told, d5⟩ : ∃ told : (List (Nat × Bool)), told = (dictOf ((F_layers_of picture).flatMap fun x2 => x2.map fun y3 => (y3, true))) := ⟨_, rfl⟩
    replace h := h told d5
    refine T.wp_seq (T.wp_set (T.ev_as d5 (e := (eD eB)) (T.ev_dc2 (e := eB) (e1 := (eL eN)) (e2 := eN) (xs := (F_layers_of picture)) (ds := fun x2 => [(eL eN) x2]) (ys := fun x2 => x2) (ds1 := fun y3 => [eN y3]) (k := fun x2 y3 => y3) (v := fun x2 y3 => true) (T.it_L (e := (eL eN)) (xs := (F_layers_of picture)) (T.ev_call (T.ev_cons (T.ev_v rfl) T.ev_nil) rfl (t_layers_of c1 _))) (fun _ => rfl) (fun x2 hx => (T.it_L (e := eN) (xs := x2) (T.ev_v rfl))) (fun _ => rfl) (fun x2 hx y3 hy => (T.ev_v rfl)) (fun x2 hx y3 hy => (T.ev_c rfl)) c4)) ?_)
    change WP _ _ _ _ (At _ [some ((eT eR) picture), some ((eD eB) told), none, none] _)
    obtain ⟨c6, h⟩ := h
    obtain ⟨c7, h⟩ := h
    obtain ⟨c9, h⟩ := h
    exact T.wp_ret (T.ev_compI (e := eN) (xs := (List.range (F_lines_of picture))) (ds := fun x8 => [eN x8]) (P := fun x8 => (x8 ∉ dkeys told)) (T.it_range (n := (F_lines_of picture)) c7 (T.ev_call (T.ev_cons (T.ev_v rfl) T.ev_nil) rfl (t_lines_of c6 _))) c9 (fun _ => rfl) (fun x8 hx => (T.ev_bool (T.ev_ninK (x := x8) (d := told) (T.ev_v rfl) (T.ev_v rfl)))) (fun x8 hx hq => (T.ev_v rfl))) ⟨rfl, ((List.range (F_lines_of picture)).filter fun x8 => decide (x8 ∉ dkeys told)), rfl, h⟩)
  exact ⟨r, q, e1⟩
abbrev P_core_of (p : Pic) : Prop := PicP p
abbrev F_core_of (p : Pic) : List Nat := coreQ p
theorem ok_core_of {p : Pic} (k : P_core_of p) : V_core_of p (· = F_core_of p) := by
  have h1 := k.h1; have h30 := k.h30; have w1 := k.w1; have w30 := k.w30
  have e0 : F_lines_of p = p.length + p[0]!.length := rfl
  have fl : ((layersQ p).flatMap fun x => x).length ≤ 1800 := by
    have := layersQ_flat k
    rwa [show (layersQ p).flatMap (fun x => x) = (layersQ p).flatten from List.flatMap_id']
  rw [V_core_of, e0]
  refine ⟨k, by show ((layersQ p).flatMap fun x => x).length ≤ _; omega, fun told ht => ⟨k, by omega, by rw [List.length_range]; omega, ?_⟩⟩
  unfold F_core_of coreQ
  refine List.filter_congr fun l _ => decide_eq_decide.mpr (not_congr ?_)
  rw [ht]; exact keys_flat _ _
theorem t_core_of {picture : (List Row)} (hP : P_core_of picture) (tp : List D) : m_core_of [(eT eR) picture] tp = .ok ((eL eN) (F_core_of picture)) tp := by
  obtain ⟨r, rfl, e⟩ := snd_core_of picture (ok_core_of hP) tp
  exact e
end W
set_option maxHeartbeats 1000000
namespace W
open PySem L2 G T
def V_law_free (most : Nat) (Q : (List Row) → Prop) : Prop := (P_law_taken most) ∧ ∀ drawn : Nat, (D_law_taken most drawn) → ∀ drawn_1 : Nat, (D_law_taken most drawn_1) → ∀ high : Nat, high = (1 + drawn) → ∀ wide : Nat, wide = (1 + drawn_1) → (wide ≤ 16777216) ∧ (1 ≤ high ∧ high ≤ 1000) ∧ ((high + wide) ≤ 16777216) ∧ ((List.range (high + wide)).length ≤ 10000) ∧ ∀ mixed : (List Nat), (mixed.Perm (List.range (high + wide))) → (P_law_painted (List.replicate high (List.replicate wide false)) mixed) ∧ Q (F_law_painted (List.replicate high (List.replicate wide false)) mixed)
theorem snd_law_free (most : Nat) {Q : (List Row) → Prop} (h : V_law_free most Q) {tp : List D} (ht : Tape tp) : ∃ (r : (List Row)) (tp' : List D), m_law_free [.tape, eN most] tp = .ok ((eT eR) r) tp' ∧ Tape tp' ∧ Q r := by
  obtain ⟨d, t, e1, e2, r, rfl, q⟩ := T.wp_def (n := 4) (s := b_law_free) (ds := [.tape, eN most]) (tp := tp) (Q := fun d t => Tape t ∧ ∃ r : (List Row), d = (eT eR) r ∧ Q r) (by
    unfold V_law_free at h
    change WP _ _ _ _ (b_law_free [some (.tape), some (eN most), none, none] _)
    unfold b_law_free
    obtain ⟨c1, h⟩ := h
    obtain ⟨drawn, t2, e3, k4, p5⟩ := t_law_taken ht c1
    replace h := h drawn p5
    obtain ⟨drawn_1, t6, e7, k8, p9⟩ := t_law_taken k4 c1
    replace h := h drawn_1 p9
    obtain ⟨high, d10⟩ : ∃ high : Nat, high = (1 + drawn) := ⟨_, rfl⟩
    replace h := h high d10
    obtain ⟨wide, d11⟩ : ∃ wide : Nat, wide = (1 + drawn_1) := ⟨_, rfl⟩
    replace h := h wide d11
    refine T.wp_seq (T.wp_par (T.ev_cons (T.ev_as d10 (e := eN) (T.ev_add (x := 1) (y := drawn) (T.ev_cN 1) (T.ev_call (T.ev_cons (T.ev_v rfl) (T.ev_cons (T.ev_v rfl) T.ev_nil)) rfl e3))) (T.ev_cons (T.ev_as d11 (e := eN) (T.ev_add (x := 1) (y := drawn_1) (T.ev_cN 1) (T.ev_call (T.ev_cons (T.ev_v rfl) (T.ev_cons (T.ev_v rfl) T.ev_nil)) rfl e7))) T.ev_nil)) rfl ?_)
    change WP _ _ _ _ (At _ [some (.tape), some (eN most), some (eN high), some (eN wide)] _)
    obtain ⟨c12, h⟩ := h
    obtain ⟨c13, h⟩ := h
    obtain ⟨c14, h⟩ := h
    obtain ⟨c15, h⟩ := h
    obtain ⟨mixed, t16, e17, k18, p19⟩ := t_law_mixedL (xs := (List.range (high + wide))) (e := eN) k8 c15
    replace h := h mixed p19
    obtain ⟨c20, h⟩ := h
    exact T.wp_ret (T.ev_call (T.ev_cons (T.ev_repT1 (e := eR) (x := (List.replicate wide false)) (n := high) c13 (T.ev_tup (ds := [eR (List.replicate wide false)]) (T.ev_cons (T.ev_repG (b := false) (n := wide) c12 (T.ev_c (congrArg D.str str_white)) (T.ev_v rfl)) T.ev_nil) rfl) (T.ev_v rfl)) (T.ev_cons (T.ev_call (T.ev_cons (T.ev_v rfl) (T.ev_cons (T.ev_rg1L (n := (high + wide)) c14 (T.ev_add (x := high) (y := wide) (T.ev_v rfl) (T.ev_v rfl))) T.ev_nil)) rfl e17) T.ev_nil)) rfl (t_law_painted c20 _)) ⟨k18, (F_law_painted (List.replicate high (List.replicate wide false)) mixed), rfl, h⟩)
  exact ⟨_, t, e1, e2, q⟩
abbrev P_law_free (most : Nat) : Prop := 1 ≤ most ∧ most ≤ 30
abbrev D_law_free (most : Nat) (p : Pic) : Prop := PicP p ∧ coreQ p = [] ∧ p.length ≤ most ∧ p[0]!.length ≤ most
theorem free_made {h w : Nat} (h1 : 1 ≤ h) (h30 : h ≤ 30) (w1 : 1 ≤ w) (w30 : w ≤ 30) {ds : List Nat} (hp : ds.Perm (List.range (h + w))) {q : Pic} (hq : q = linesQ (List.replicate h (List.replicate w false)) ds) : PicP q ∧ coreQ q = [] ∧ q.length = h ∧ q[0]!.length = w := by
  have e0 : (List.replicate h (List.replicate w false)).length = h := List.length_replicate
  have e1 : ((List.replicate h (List.replicate w false))[0]!).length = w := by
    rw [getElem!_pos _ 0 (by rw [e0]; omega), List.getElem_replicate]; exact List.length_replicate
  have kp : PicP (List.replicate h (List.replicate w false)) := ⟨fun r hr => by rw [e1, List.eq_of_mem_replicate hr]; exact List.length_replicate, by omega, by omega, by omega, by omega⟩
  obtain ⟨a, b, c⟩ := linesQ_pp kp ds
  have lk : Like (List.replicate h (List.replicate w false)) (linesQ (List.replicate h (List.replicate w false)) ds) := ⟨kp, a, b.symm, c.symm⟩
  subst hq
  rw [e0] at b
  rw [e1] at c
  refine ⟨a, ?_, b, c⟩
  cases z : coreQ (linesQ (List.replicate h (List.replicate w false)) ds) with
  | nil => rfl
  | cons l r =>
    have hl : l ∈ coreQ (linesQ (List.replicate h (List.replicate w false)) ds) := by rw [z]; exact List.mem_cons_self
    have := coreQ_lt hl
    rw [b, c] at this
    exact (made_core lk rfl (hp.mem_iff.mpr (List.mem_range.mpr this)) hl).elim
theorem ok_law_free {most : Nat} (k : P_law_free most) : V_law_free most (D_law_free most) := by
  obtain ⟨m1, m30⟩ := k
  refine ⟨by show 0 < most ∧ most ≤ _; omega, fun d hd e he h hh w hw => ?_⟩
  have hd : d < most := hd
  have he : e < most := he
  refine ⟨by omega, by omega, by omega, by rw [List.length_range]; omega, fun ds hp => ?_⟩
  have e0 : (List.replicate h (List.replicate w false)).length = h := List.length_replicate
  have e1 : ((List.replicate h (List.replicate w false))[0]!).length = w := by
    rw [getElem!_pos _ 0 (by rw [e0]; omega), List.getElem_replicate]; exact List.length_replicate
  obtain ⟨a, b, c, f⟩ := free_made (h := h) (w := w) (by omega) (by omega) (by omega) (by omega) hp rfl
  exact ⟨⟨fun r hr => by rw [e1, List.eq_of_mem_replicate hr]; exact List.length_replicate, by omega, by omega, by omega, by omega⟩, a, b, by show (linesQ _ _).length ≤ _; rw [c]; omega, by show ((linesQ _ _)[0]!).length ≤ _; rw [f]; omega⟩
theorem t_law_free {most : Nat} {tp : List D} (ht : Tape tp) (hP : P_law_free most) : ∃ (r : (List Row)) (tp' : List D), m_law_free [.tape, eN most] tp = .ok ((eT eR) r) tp' ∧ Tape tp' ∧ D_law_free most r := snd_law_free most (ok_law_free hP) ht
end W
set_option maxHeartbeats 1000000
namespace W
open PySem L2 G T
def V_law_plus (one : (Int × Int)) (other : (Int × Int)) (Q : (Int × Int) → Prop) : Prop := (cMul one.1 other.2 = true) ∧ (cMul other.1 one.2 = true) ∧ (cMul one.2 other.2 = true) ∧ (P_law_lowered ((one.1 * other.2) + (other.1 * one.2)) (one.2 * other.2)) ∧ Q (F_law_lowered ((one.1 * other.2) + (other.1 * one.2)) (one.2 * other.2))
theorem snd_law_plus (one : (Int × Int)) (other : (Int × Int)) {Q : (Int × Int) → Prop} (h : V_law_plus one other Q) (tp : List D) : ∃ r : (Int × Int), Q r ∧ m_law_plus [(eP eZ eZ) one, (eP eZ eZ) other] tp = .ok ((eP eZ eZ) r) tp := by
  obtain ⟨d, t, e1, rfl, r, rfl, q⟩ := T.wp_def (n := 2) (s := b_law_plus) (ds := [(eP eZ eZ) one, (eP eZ eZ) other]) (tp := tp) (Q := fun d t => t = tp ∧ ∃ r : (Int × Int), d = (eP eZ eZ) r ∧ Q r) (by
    unfold V_law_plus at h
    change WP _ _ _ _ (b_law_plus [some ((eP eZ eZ) one), some ((eP eZ eZ) other)] _)
    unfold b_law_plus
    obtain ⟨c1, h⟩ := h
    obtain ⟨c2, h⟩ := h
    obtain ⟨c3, h⟩ := h
    obtain ⟨c4, h⟩ := h
    exact T.wp_ret (T.ev_call (T.ev_cons (T.ev_addZ (x := (one.1 * other.2)) (y := (other.1 * one.2)) (T.ev_mulZ (x := one.1) (y := other.2) c1 (T.ev_fst (x := one) (T.ev_v rfl) rfl) (T.ev_snd (x := other) (T.ev_v rfl) rfl)) (T.ev_mulZ (x := other.1) (y := one.2) c2 (T.ev_fst (x := other) (T.ev_v rfl) rfl) (T.ev_snd (x := one) (T.ev_v rfl) rfl))) (T.ev_cons (T.ev_mulZ (x := one.2) (y := other.2) c3 (T.ev_snd (x := one) (T.ev_v rfl) rfl) (T.ev_snd (x := other) (T.ev_v rfl) rfl)) T.ev_nil)) rfl (t_law_lowered c4 _)) ⟨rfl, (F_law_lowered ((one.1 * other.2) + (other.1 * one.2)) (one.2 * other.2)), rfl, h⟩)
  exact ⟨r, q, e1⟩
abbrev P_law_plus (x y : Int × Int) : Prop := (Lg x.1 4000 ∧ Lg x.2 4000 ∧ 0 < x.2) ∧ Lg y.1 4000 ∧ Lg y.2 4000 ∧ 0 < y.2
abbrev F_law_plus (x y : Int × Int) : Int × Int := low (x.1 * y.2 + y.1 * x.2) (x.2 * y.2)
theorem cMul_law_plus {x y : Int} (a : Lg x 4000) (b : Lg y 4000) : cMul x y = true := by
  have h1 := log_lt a (by omega)
  have h2 := log_lt b (by omega)
  exact decide_eq_true (by omega)
theorem ok_law_plus {x y : Int × Int} (k : P_law_plus x y) : V_law_plus x y (· = F_law_plus x y) := by
  obtain ⟨⟨a, b, c⟩, d, e, f⟩ := k
  exact ⟨cMul_law_plus a e, cMul_law_plus d b, cMul_law_plus b e, ⟨((a.mul e).add (d.mul b)).mono (by omega), (b.mul e).mono (by omega), Int.mul_pos c f⟩, rfl⟩
theorem t_law_plus {one : (Int × Int)} {other : (Int × Int)} (hP : P_law_plus one other) (tp : List D) : m_law_plus [(eP eZ eZ) one, (eP eZ eZ) other] tp = .ok ((eP eZ eZ) (F_law_plus one other)) tp := by
  obtain ⟨r, rfl, e⟩ := snd_law_plus one other (ok_law_plus hP) tp
  exact e
end W
set_option maxHeartbeats 1000000
namespace W
open PySem L2 G T
def V_painted (picture : (List Row)) (deeds : (List Nat)) (Q : (List Row) → Prop) : Prop := (P_need_picture picture) ∧ (P_are_deeds picture deeds) ∧ ((F_are_deeds picture deeds) = true) ∧ (P_all_painted picture deeds) ∧ Q (F_all_painted picture deeds)
theorem snd_painted (picture : (List Row)) (deeds : (List Nat)) {Q : (List Row) → Prop} (h : V_painted picture deeds Q) (tp : List D) : ∃ r : (List Row), Q r ∧ m_painted [(eT eR) picture, (eL eN) deeds] tp = .ok ((eT eR) r) tp := by
  obtain ⟨d, t, e1, rfl, r, rfl, q⟩ := T.wp_def (n := 2) (s := b_painted) (ds := [(eT eR) picture, (eL eN) deeds]) (tp := tp) (Q := fun d t => t = tp ∧ ∃ r : (List Row), d = (eT eR) r ∧ Q r) (by
    unfold V_painted at h
    change WP _ _ _ _ (b_painted [some ((eT eR) picture), some ((eL eN) deeds)] _)
    unfold b_painted
    obtain ⟨c1, h⟩ := h
    refine T.wp_seq (T.wp_drop (T.ev_call (T.ev_cons (T.ev_v rfl) T.ev_nil) rfl (t_need_picture c1 _)) ?_)
    change WP _ _ _ _ (At _ [some ((eT eR) picture), some ((eL eN) deeds)] _)
    obtain ⟨c2, h⟩ := h
    obtain ⟨hf, h⟩ := h
    refine T.wp_seq (T.wp_if (P := (¬((F_are_deeds picture deeds) = true))) (T.ev_notT (P := ((F_are_deeds picture deeds) = true)) (T.ev_dec (F_are_deeds picture deeds) (T.ev_call (T.ev_cons (T.ev_v rfl) (T.ev_cons (T.ev_v rfl) T.ev_nil)) rfl (t_are_deeds c2 _)))) (fun hp => ?_) (fun hn => ?_))
    · exact absurd hp ((fun h0 => h0 (hf)))
    · refine T.wp_skip ?_
      change WP _ _ _ _ (At _ [some ((eT eR) picture), some ((eL eN) deeds)] _)
      obtain ⟨c3, h⟩ := h
      exact T.wp_ret (T.ev_call (T.ev_cons (T.ev_v rfl) (T.ev_cons (T.ev_v rfl) T.ev_nil)) rfl (t_all_painted c3 _)) ⟨rfl, (F_all_painted picture deeds), rfl, h⟩)
  exact ⟨r, q, e1⟩
abbrev P_painted (p : Pic) (ds : List Nat) : Prop := PicP p ∧ ds.length ≤ 1000 ∧ ∀ x ∈ ds, x < p.length + p[0]!.length
abbrev F_painted (p : Pic) (ds : List Nat) : Pic := linesQ p ds
theorem ok_painted {p : Pic} {ds : List Nat} (h : P_painted p ds) : V_painted p ds (· = F_painted p ds) := by
  obtain ⟨k, hl, hb⟩ := h
  exact ⟨k, ⟨k, hl⟩, decide_eq_true hb, ⟨k, hb⟩, rfl⟩
theorem t_painted {picture : (List Row)} {deeds : (List Nat)} (hP : P_painted picture deeds) (tp : List D) : m_painted [(eT eR) picture, (eL eN) deeds] tp = .ok ((eT eR) (F_painted picture deeds)) tp := by
  obtain ⟨r, rfl, e⟩ := snd_painted picture deeds (ok_painted hP) tp
  exact e
end W
set_option maxHeartbeats 1000000
namespace W
open PySem L2 G T
def V_plain (rows : Nat) (columns : Nat) (is_black : Nat) (Q : (List Row) → Prop) : Prop := (P_need_number rows 1 30) ∧ (P_need_number columns 1 30) ∧ (P_need_number is_black 0 1) ∧ (columns ≤ 16777216) ∧ (1 ≤ rows ∧ rows ≤ 1000) ∧ Q (List.replicate rows (List.replicate columns (if (is_black = 1) then true else false)))
theorem snd_plain (rows : Nat) (columns : Nat) (is_black : Nat) {Q : (List Row) → Prop} (h : V_plain rows columns is_black Q) (tp : List D) : ∃ r : (List Row), Q r ∧ m_plain [eN rows, eN columns, eN is_black] tp = .ok ((eT eR) r) tp := by
  obtain ⟨d, t, e1, rfl, r, rfl, q⟩ := T.wp_def (n := 3) (s := b_plain) (ds := [eN rows, eN columns, eN is_black]) (tp := tp) (Q := fun d t => t = tp ∧ ∃ r : (List Row), d = (eT eR) r ∧ Q r) (by
    unfold V_plain at h
    change WP _ _ _ _ (b_plain [some (eN rows), some (eN columns), some (eN is_black)] _)
    unfold b_plain
    obtain ⟨c1, h⟩ := h
    refine T.wp_seq (T.wp_drop (T.ev_call (T.ev_cons (T.ev_v rfl) (T.ev_cons (T.ev_cN 1) (T.ev_cons (T.ev_cN 30) T.ev_nil))) rfl (t_need_number c1 _)) ?_)
    change WP _ _ _ _ (At _ [some (eN rows), some (eN columns), some (eN is_black)] _)
    obtain ⟨c2, h⟩ := h
    refine T.wp_seq (T.wp_drop (T.ev_call (T.ev_cons (T.ev_v rfl) (T.ev_cons (T.ev_cN 1) (T.ev_cons (T.ev_cN 30) T.ev_nil))) rfl (t_need_number c2 _)) ?_)
    change WP _ _ _ _ (At _ [some (eN rows), some (eN columns), some (eN is_black)] _)
    obtain ⟨c3, h⟩ := h
    refine T.wp_seq (T.wp_drop (T.ev_call (T.ev_cons (T.ev_v rfl) (T.ev_cons (T.ev_cN 0) (T.ev_cons (T.ev_cN 1) T.ev_nil))) rfl (t_need_number c3 _)) ?_)
    change WP _ _ _ _ (At _ [some (eN rows), some (eN columns), some (eN is_black)] _)
    obtain ⟨c4, h⟩ := h
    obtain ⟨c5, h⟩ := h
    exact T.wp_ret (T.ev_repT1 (e := eR) (x := (List.replicate columns (if (is_black = 1) then true else false))) (n := rows) c5 (T.ev_tup (ds := [eR (List.replicate columns (if (is_black = 1) then true else false))]) (T.ev_cons (T.ev_repG (b := (if (is_black = 1) then true else false)) (n := columns) c4 (T.ev_ifE (P := (is_black = 1)) (e := eG) (x := true) (y := false) (T.ev_bool (T.ev_eq (x := is_black) (y := 1) qN rfl (T.ev_v rfl) (T.ev_cN 1))) (fun hp => (T.ev_c (congrArg D.str str_black))) (fun hp => (T.ev_c (congrArg D.str str_white)))) (T.ev_v rfl)) T.ev_nil) rfl) (T.ev_v rfl)) ⟨rfl, (List.replicate rows (List.replicate columns (if (is_black = 1) then true else false))), rfl, h⟩)
  exact ⟨r, q, e1⟩
abbrev P_plain (h w b : Nat) : Prop := (1 ≤ h ∧ h ≤ 30) ∧ (1 ≤ w ∧ w ≤ 30) ∧ b ≤ 1
def plainQ (h w : Nat) (b : Bool) : Pic := List.replicate h (List.replicate w b)
def F_plain (h w b : Nat) : Pic := plainQ h w (decide (b = 1))
theorem ok_plain {h w b : Nat} (k : P_plain h w b) : V_plain h w b (· = F_plain h w b) := by
  obtain ⟨⟨h1, h2⟩, ⟨w1, w2⟩, hb⟩ := k
  refine ⟨⟨h1, h2⟩, ⟨w1, w2⟩, ⟨by omega, hb⟩, by omega, ⟨by omega, by omega⟩, ?_⟩
  unfold F_plain plainQ
  by_cases q : b = 1 <;> simp [q]
theorem t_plain {rows : Nat} {columns : Nat} {is_black : Nat} (hP : P_plain rows columns is_black) (tp : List D) : m_plain [eN rows, eN columns, eN is_black] tp = .ok ((eT eR) (F_plain rows columns is_black)) tp := by
  obtain ⟨r, rfl, e⟩ := snd_plain rows columns is_black (ok_plain hP) tp
  exact e
end W
set_option maxHeartbeats 1000000
namespace W
open PySem L2 G T
def V_is_free_of (picture : (List Row)) (Q : Bool → Prop) : Prop := (P_core_of picture) ∧ Q (decide ((F_core_of picture) = []))
theorem snd_is_free_of (picture : (List Row)) {Q : Bool → Prop} (h : V_is_free_of picture Q) (tp : List D) : ∃ r : Bool, Q r ∧ m_is_free_of [(eT eR) picture] tp = .ok (eB r) tp := by
  obtain ⟨d, t, e1, rfl, r, rfl, q⟩ := T.wp_def (n := 1) (s := b_is_free_of) (ds := [(eT eR) picture]) (tp := tp) (Q := fun d t => t = tp ∧ ∃ r : Bool, d = eB r ∧ Q r) (by
    unfold V_is_free_of at h
    change WP _ _ _ _ (b_is_free_of [some ((eT eR) picture)] _)
    unfold b_is_free_of
    obtain ⟨c1, h⟩ := h
    exact T.wp_ret (T.ev_eq (x := (F_core_of picture)) (y := []) (qL qN) rfl (T.ev_call (T.ev_cons (T.ev_v rfl) T.ev_nil) rfl (t_core_of c1 _)) (T.ev_lst (ds := []) T.ev_nil rfl)) ⟨rfl, (decide ((F_core_of picture) = [])), rfl, h⟩)
  exact ⟨r, q, e1⟩
abbrev P_is_free_of (p : Pic) : Prop := PicP p
abbrev F_is_free_of (p : Pic) : Bool := decide (coreQ p = [])
theorem ok_is_free_of {p : Pic} (k : P_is_free_of p) : V_is_free_of p (· = F_is_free_of p) := ⟨k, rfl⟩
theorem t_is_free_of {picture : (List Row)} (hP : P_is_free_of picture) (tp : List D) : m_is_free_of [(eT eR) picture] tp = .ok (eB (F_is_free_of picture)) tp := by
  obtain ⟨r, rfl, e⟩ := snd_is_free_of picture (ok_is_free_of hP) tp
  exact e
end W
set_option maxHeartbeats 1000000
namespace W
open PySem L2 G T
def V_need_sides (rows : Nat) (columns : Nat) (Q : Unit → Prop) : Prop := (P_need_number rows 1 30) ∧ (P_need_number columns 1 30) ∧ Q ()
theorem snd_need_sides (rows : Nat) (columns : Nat) {Q : Unit → Prop} (h : V_need_sides rows columns Q) (tp : List D) : ∃ r : Unit, Q r ∧ m_need_sides [eN rows, eN columns] tp = .ok (eU r) tp := by
  obtain ⟨d, t, e1, rfl, r, rfl, q⟩ := T.wp_def (n := 2) (s := b_need_sides) (ds := [eN rows, eN columns]) (tp := tp) (Q := fun d t => t = tp ∧ ∃ r : Unit, d = eU r ∧ Q r) (by
    unfold V_need_sides at h
    change WP _ _ _ _ (b_need_sides [some (eN rows), some (eN columns)] _)
    unfold b_need_sides
    obtain ⟨c1, h⟩ := h
    refine T.wp_seq (T.wp_drop (T.ev_call (T.ev_cons (T.ev_v rfl) (T.ev_cons (T.ev_cN 1) (T.ev_cons (T.ev_cN 30) T.ev_nil))) rfl (t_need_number c1 _)) ?_)
    change WP _ _ _ _ (At _ [some (eN rows), some (eN columns)] _)
    obtain ⟨c2, h⟩ := h
    refine T.wp_drop (T.ev_call (T.ev_cons (T.ev_v rfl) (T.ev_cons (T.ev_cN 1) (T.ev_cons (T.ev_cN 30) T.ev_nil))) rfl (t_need_number c2 _)) ?_
    exact ⟨rfl, (), rfl, h⟩)
  exact ⟨r, q, e1⟩
abbrev P_need_sides (h w : Nat) : Prop := (1 ≤ h ∧ h ≤ 30) ∧ 1 ≤ w ∧ w ≤ 30
abbrev F_need_sides (_ _ : Nat) : Unit := ()
theorem ok_need_sides {h w : Nat} (k : P_need_sides h w) : V_need_sides h w (· = F_need_sides h w) := ⟨k.1, k.2, rfl⟩
theorem t_need_sides {rows : Nat} {columns : Nat} (hP : P_need_sides rows columns) (tp : List D) : m_need_sides [eN rows, eN columns] tp = .ok (eU (F_need_sides rows columns)) tp := by
  obtain ⟨r, rfl, e⟩ := snd_need_sides rows columns (ok_need_sides hP) tp
  exact e
end W
set_option maxHeartbeats 1000000
namespace W
open PySem L2 G T
def V_need_free (picture : (List Row)) (Q : Unit → Prop) : Prop := (P_need_picture picture) ∧ (P_is_free_of picture) ∧ ((F_is_free_of picture) = true) ∧ Q ()
theorem snd_need_free (picture : (List Row)) {Q : Unit → Prop} (h : V_need_free picture Q) (tp : List D) : ∃ r : Unit, Q r ∧ m_need_free [(eT eR) picture] tp = .ok (eU r) tp := by
  obtain ⟨d, t, e1, rfl, r, rfl, q⟩ := T.wp_def (n := 1) (s := b_need_free) (ds := [(eT eR) picture]) (tp := tp) (Q := fun d t => t = tp ∧ ∃ r : Unit, d = eU r ∧ Q r) (by
    unfold V_need_free at h
    change WP _ _ _ _ (b_need_free [some ((eT eR) picture)] _)
    unfold b_need_free
    obtain ⟨c1, h⟩ := h
    refine T.wp_seq (T.wp_drop (T.ev_call (T.ev_cons (T.ev_v rfl) T.ev_nil) rfl (t_need_picture c1 _)) ?_)
    change WP _ _ _ _ (At _ [some ((eT eR) picture)] _)
    obtain ⟨c2, h⟩ := h
    obtain ⟨hf, h⟩ := h
    refine T.wp_if (P := (¬((F_is_free_of picture) = true))) (T.ev_notT (P := ((F_is_free_of picture) = true)) (T.ev_dec (F_is_free_of picture) (T.ev_call (T.ev_cons (T.ev_v rfl) T.ev_nil) rfl (t_is_free_of c2 _)))) (fun hp => ?_) (fun hn => ?_)
    · exact absurd hp ((fun h0 => h0 (hf)))
    · refine T.wp_skip ?_
      exact ⟨rfl, (), rfl, h⟩)
  exact ⟨r, q, e1⟩
abbrev P_need_free (p : Pic) : Prop := PicP p ∧ coreQ p = []
abbrev F_need_free (_ : Pic) : Unit := ()
theorem ok_need_free {p : Pic} (k : P_need_free p) : V_need_free p (· = F_need_free p) := ⟨k.1, k.1, decide_eq_true k.2, rfl⟩
theorem t_need_free {picture : (List Row)} (hP : P_need_free picture) (tp : List D) : m_need_free [(eT eR) picture] tp = .ok (eU (F_need_free picture)) tp := by
  obtain ⟨r, rfl, e⟩ := snd_need_free picture (ok_need_free hP) tp
  exact e
end W
set_option maxHeartbeats 1000000
namespace W
open PySem L2 G T
def V_by_order (rows : Nat) (columns : Nat) (value : (List Nat)) (Q : (List Row) → Prop) : Prop := (P_need_sides rows columns) ∧ (P_need_order value (rows + columns)) ∧ (P_layers_from rows value) ∧ (P_by_layers rows columns (F_layers_from rows value)) ∧ Q (F_by_layers rows columns (F_layers_from rows value))
theorem snd_by_order (rows : Nat) (columns : Nat) (value : (List Nat)) {Q : (List Row) → Prop} (h : V_by_order rows columns value Q) (tp : List D) : ∃ r : (List Row), Q r ∧ m_by_order [eN rows, eN columns, (eT eN) value] tp = .ok ((eT eR) r) tp := by
  obtain ⟨d, t, e1, rfl, r, rfl, q⟩ := T.wp_def (n := 3) (s := b_by_order) (ds := [eN rows, eN columns, (eT eN) value]) (tp := tp) (Q := fun d t => t = tp ∧ ∃ r : (List Row), d = (eT eR) r ∧ Q r) (by
    unfold V_by_order at h
    change WP _ _ _ _ (b_by_order [some (eN rows), some (eN columns), some ((eT eN) value)] _)
    unfold b_by_order
    obtain ⟨c1, h⟩ := h
    refine T.wp_seq (T.wp_drop (T.ev_call (T.ev_cons (T.ev_v rfl) (T.ev_cons (T.ev_v rfl) T.ev_nil)) rfl (t_need_sides c1 _)) ?_)
    change WP _ _ _ _ (At _ [some (eN rows), some (eN columns), some ((eT eN) value)] _)
    obtain ⟨c2, h⟩ := h
    refine T.wp_seq (T.wp_drop (T.ev_call (T.ev_cons (T.ev_v rfl) (T.ev_cons (T.ev_add (x := rows) (y := columns) (T.ev_v rfl) (T.ev_v rfl)) T.ev_nil)) rfl (t_need_order c2 _)) ?_)
    change WP _ _ _ _ (At _ [some (eN rows), some (eN columns), some ((eT eN) value)] _)
    obtain ⟨c3, h⟩ := h
    obtain ⟨c4, h⟩ := h
    exact T.wp_ret (T.ev_call (T.ev_cons (T.ev_v rfl) (T.ev_cons (T.ev_v rfl) (T.ev_cons (T.ev_call (T.ev_cons (T.ev_v rfl) (T.ev_cons (T.ev_v rfl) T.ev_nil)) rfl (t_layers_from c3 _)) T.ev_nil))) rfl (t_by_layers c4 _)) ⟨rfl, (F_by_layers rows columns (F_layers_from rows value)), rfl, h⟩)
  exact ⟨r, q, e1⟩
abbrev P_by_order (h w : Nat) (v : List Nat) : Prop := ((1 ≤ h ∧ h ≤ 30) ∧ 1 ≤ w ∧ w ≤ 30) ∧ v.Perm (List.range (h + w))
abbrev F_by_order (h w : Nat) (v : List Nat) : Pic := layP h w (layN h v.reverse)
theorem ok_by_order {h w : Nat} {v : List Nat} (k : P_by_order h w v) : V_by_order h w v (· = F_by_order h w v) := by
  obtain ⟨k1, pm⟩ := k
  have vl := pm.length_eq
  rw [List.length_range] at vl
  exact ⟨k1, ⟨pm, by omega⟩, by show v.length < 1000000; omega, ⟨⟨k1.1.2, k1.2.2⟩, by rw [lay_flat]; exact (List.reverse_perm v).trans pm⟩, rfl⟩
theorem t_by_order {rows : Nat} {columns : Nat} {value : (List Nat)} (hP : P_by_order rows columns value) (tp : List D) : m_by_order [eN rows, eN columns, (eT eN) value] tp = .ok ((eT eR) (F_by_order rows columns value)) tp := by
  obtain ⟨r, rfl, e⟩ := snd_by_order rows columns value (ok_by_order hP) tp
  exact e
end W
set_option maxHeartbeats 1000000
namespace W
open PySem L2 G T
def V_layer_ways (picture : (List Row)) (Q : Nat → Prop) : Prop := (P_need_free picture) ∧ (P_layers_of picture) ∧ ∃ I4 : Nat → Nat → Prop, I4 0 1 ∧ (∀ (i8 : Nat) (x9 : (List Nat)), (F_layers_of picture)[i8]? = some x9 → ∀ found : Nat, I4 i8 found → (P_product_to x9.length) ∧ (cMul ((found : Nat) : Int) (((F_product_to x9.length) : Nat) : Int) = true) ∧ ∀ found_1 : Nat, found_1 = (found * (F_product_to x9.length)) → I4 (i8 + 1) found_1) ∧ (∀ found : Nat, I4 (F_layers_of picture).length found → Q found)
theorem snd_layer_ways (picture : (List Row)) {Q : Nat → Prop} (h : V_layer_ways picture Q) (tp : List D) : ∃ r : Nat, Q r ∧ m_layer_ways [(eT eR) picture] tp = .ok (eN r) tp := by
  obtain ⟨d, t, e1, rfl, r, rfl, q⟩ := T.wp_def (n := 3) (s := b_layer_ways) (ds := [(eT eR) picture]) (tp := tp) (Q := fun d t => t = tp ∧ ∃ r : Nat, d = eN r ∧ Q r) (by
    unfold V_layer_ways at h
    change WP _ _ _ _ (b_layer_ways [some ((eT eR) picture), none, none] _)
    unfold b_layer_ways
    obtain ⟨c1, h⟩ := h
    refine T.wp_seq (T.wp_drop (T.ev_call (T.ev_cons (T.ev_v rfl) T.ev_nil) rfl (t_need_free c1 _)) ?_)
    change WP _ _ _ _ (At _ [some ((eT eR) picture), none, none] _)
    refine T.wp_seq (T.wp_set (T.ev_cN 1) ?_)
    change WP _ _ _ _ (At _ [some ((eT eR) picture), some (eN 1), none] _)
    obtain ⟨c2, h⟩ := h
    obtain ⟨I4, h5, h6, h7⟩ := h
    refine T.wp_seq (T.wp_for (e := (eL eN)) (xs := (F_layers_of picture)) (ds := fun x9 => [(eL eN) x9]) (fun k env tz => tp = tz ∧ ∃ found : Nat, ∃ g3 : Option D, env = [some ((eT eR) picture), some (eN found), g3] ∧ I4 k found) (T.it_L (e := (eL eN)) (xs := (F_layers_of picture)) (T.ev_call (T.ev_cons (T.ev_v rfl) T.ev_nil) rfl (t_layers_of c2 _))) (fun _ => rfl) ⟨rfl, 1, _, rfl, h5⟩ ?_ ?_)
    · intro i8 x9 env t hk hI
      obtain ⟨rfl, found, g3, rfl, h⟩ := hI
      replace h := h6 i8 x9 hk found h
      change WP _ _ _ _ (At _ [some ((eT eR) picture), some (eN found), some ((eL eN) x9)] _)
      obtain ⟨c12, h⟩ := h
      obtain ⟨c13, h⟩ := h
      obtain ⟨found_1, d14⟩ : ∃ found_1 : Nat, found_1 = (found * (F_product_to x9.length)) := ⟨_, rfl⟩
      replace h := h found_1 d14
      refine T.wp_set (T.ev_as d14 (e := eN) (T.ev_mul (x := found) (y := (F_product_to x9.length)) c13 (T.ev_v rfl) (T.ev_call (T.ev_cons (T.ev_lenL (e := eN) (xs := x9) (T.ev_v rfl)) T.ev_nil) rfl (t_product_to c12 _)))) ?_
      exact ⟨rfl, found_1, _, rfl, h⟩
    rintro _ _ ⟨rfl, found, g3, rfl, h⟩
    replace h := h7 found h
    change WP _ _ _ _ (At _ [some ((eT eR) picture), some (eN found), g3] _)
    exact T.wp_ret (T.ev_v rfl) ⟨rfl, found, rfl, h⟩)
  exact ⟨r, q, e1⟩
abbrev P_layer_ways (p : Pic) : Prop := PicP p ∧ coreQ p = []
abbrev F_layer_ways (p : Pic) : Nat := waysQ p (layersQ p).length
theorem ok_layer_ways {p : Pic} (h : P_layer_ways p) : V_layer_ways p (· = F_layer_ways p) := by
  obtain ⟨k, hc⟩ := h
  have h30 := k.h30; have w30 := k.w30
  refine ⟨⟨k, hc⟩, k, fun i f => f = waysQ p i, rfl, fun i s hs f hf => ?_, fun f hf => hf⟩
  obtain ⟨es, hi⟩ := get?_get! hs
  have es : s = (layersQ p)[i]! := es
  have hi : i < (layersQ p).length := hi
  have sl := (layersQ_len k).2 s (by rw [es]; exact mem_get! hi)
  have hf : f = waysQ p i := hf
  refine ⟨by show s.length ≤ 61; omega, cMul_nat (show f < 2 ^ 400 by rw [hf]; exact waysQ_lt k (by omega)) (hfac_lt (n := s.length) (by omega)) (by omega) (by omega) (by omega), fun g hg => ?_⟩
  show g = waysQ p i * hfac ((layersQ p)[i]!).length
  rw [hg, hf, es]
theorem t_layer_ways {picture : (List Row)} (hP : P_layer_ways picture) (tp : List D) : m_layer_ways [(eT eR) picture] tp = .ok (eN (F_layer_ways picture)) tp := by
  obtain ⟨r, rfl, e⟩ := snd_layer_ways picture (ok_layer_ways hP) tp
  exact e
end W
set_option maxHeartbeats 1000000
namespace W
open PySem L2 G T
def V_is_order (picture : (List Row)) (value : (List Nat)) (Q : Bool → Prop) : Prop := (P_need_free picture) ∧ (P_lines_of picture) ∧ ((((¬True) ∨ (value.length ≠ (F_lines_of picture))) → Q false) ∧ (¬((¬True) ∨ (value.length ≠ (F_lines_of picture))) → (value.length ≤ 1000000) ∧ (((¬(∀ x3 ∈ value, (True ∧ (¬False)))) → Q false) ∧ (¬(¬(∀ x3 ∈ value, (True ∧ (¬False)))) → (P_lines_of picture) ∧ ((F_lines_of picture) ≤ 16777216) ∧ ((((sortN value) ≠ (List.range (F_lines_of picture))) → Q false) ∧ (¬((sortN value) ≠ (List.range (F_lines_of picture))) → (0 < picture.length) ∧ ((picture[0]!).length ≤ 1000000) ∧ (P_layers_from picture.length value) ∧ (P_by_layers picture.length ((picture[0]!).length) (F_layers_from picture.length value)) ∧ Q (decide ((F_by_layers picture.length ((picture[0]!).length) (F_layers_from picture.length value)) = picture))))))))
theorem snd_is_order (picture : (List Row)) (value : (List Nat)) {Q : Bool → Prop} (h : V_is_order picture value Q) (tp : List D) : ∃ r : Bool, Q r ∧ m_is_order [(eT eR) picture, (eT eN) value] tp = .ok (eB r) tp := by
  obtain ⟨d, t, e1, rfl, r, rfl, q⟩ := T.wp_def (n := 3) (s := b_is_order) (ds := [(eT eR) picture, (eT eN) value]) (tp := tp) (Q := fun d t => t = tp ∧ ∃ r : Bool, d = eB r ∧ Q r) (by
    unfold V_is_order at h
    change WP _ _ _ _ (b_is_order [some ((eT eR) picture), some ((eT eN) value), none] _)
    unfold b_is_order
    obtain ⟨c1, h⟩ := h
    refine T.wp_seq (T.wp_drop (T.ev_call (T.ev_cons (T.ev_v rfl) T.ev_nil) rfl (t_need_free c1 _)) ?_)
    change WP _ _ _ _ (At _ [some ((eT eR) picture), some ((eT eN) value), none] _)
    obtain ⟨c2, h⟩ := h
    refine T.wp_seq (T.wp_if (P := ((¬True) ∨ (value.length ≠ (F_lines_of picture)))) (T.ev_orT (P := (¬True)) (Q := (value.length ≠ (F_lines_of picture))) (T.ev_notT (P := True) (T.ev_bool (T.ev_isi (d := (eT eN) value) (T.ev_v rfl) rfl kb_tuple_tuple))) (fun hp => (T.ev_bool (T.ev_ne (x := value.length) (y := (F_lines_of picture)) qN rfl (T.ev_lenT (e := eN) (xs := value) (T.ev_v rfl)) (T.ev_call (T.ev_cons (T.ev_v rfl) T.ev_nil) rfl (t_lines_of c2 _)))))) (fun hp => ?_) (fun hn => ?_))
    · replace h := h.1 hp
      exact T.wp_ret (T.ev_c rfl) ⟨rfl, false, rfl, h⟩
    · replace h := h.2 hn
      refine T.wp_skip ?_
      change WP _ _ _ _ (At _ [some ((eT eR) picture), some ((eT eN) value), none] _)
      obtain ⟨c4, h⟩ := h
      refine T.wp_seq (T.wp_if (P := (¬(∀ x3 ∈ value, (True ∧ (¬False))))) (T.ev_notT (P := (∀ x3 ∈ value, (True ∧ (¬False)))) (T.ev_bool (T.ev_allY (xs := value) (R := fun x3 => (True ∧ (¬False))) (T.ev_compY (e := eN) (e1 := eB) (xs := value) (ds := fun x3 => [eN x3]) (g := fun x3 => (decide (True ∧ (¬False)))) (T.it_T (e := eN) (xs := value) (T.ev_v rfl)) c4 (fun _ => rfl) (fun x3 hx => (T.ev_andE (P := True) (Q := (¬False)) (T.ev_isi (d := eN x3) (T.ev_v rfl) rfl kb_int_int) (fun hp => (T.ev_notE (P := False) (T.ev_isi (d := eN x3) (T.ev_v rfl) rfl kb_int_bool))))))))) (fun hp => ?_) (fun hn => ?_))
      · replace h := h.1 hp
        exact T.wp_ret (T.ev_c rfl) ⟨rfl, false, rfl, h⟩
      · replace h := h.2 hn
        refine T.wp_skip ?_
        change WP _ _ _ _ (At _ [some ((eT eR) picture), some ((eT eN) value), none] _)
        obtain ⟨c5, h⟩ := h
        obtain ⟨c6, h⟩ := h
        refine T.wp_seq (T.wp_if (P := ((sortN value) ≠ (List.range (F_lines_of picture)))) (T.ev_bool (T.ev_ne (x := (sortN value)) (y := (List.range (F_lines_of picture))) (qL qN) rfl (T.ev_sortT (xs := value) (T.ev_v rfl)) (T.ev_rg1L (n := (F_lines_of picture)) c6 (T.ev_call (T.ev_cons (T.ev_v rfl) T.ev_nil) rfl (t_lines_of c5 _))))) (fun hp => ?_) (fun hn => ?_))
        · replace h := h.1 hp
          exact T.wp_ret (T.ev_c rfl) ⟨rfl, false, rfl, h⟩
        · replace h := h.2 hn
          refine T.wp_skip ?_
          change WP _ _ _ _ (At _ [some ((eT eR) picture), some ((eT eN) value), none] _)
          obtain ⟨c7, h⟩ := h
          obtain ⟨c8, h⟩ := h
          obtain ⟨c9, h⟩ := h
          obtain ⟨c10, h⟩ := h
          exact T.wp_ret (T.ev_eq (x := (F_by_layers picture.length ((picture[0]!).length) (F_layers_from picture.length value))) (y := picture) (qT qR) rfl (T.ev_call (T.ev_cons (T.ev_lenT (e := eR) (xs := picture) (T.ev_v rfl)) (T.ev_cons (T.ev_lenR (r := picture[0]!) c8 (T.ev_ixT (e := eR) (xs := picture) (i := 0) c7 (T.ev_v rfl) (T.ev_cN 0))) (T.ev_cons (T.ev_call (T.ev_cons (T.ev_lenT (e := eR) (xs := picture) (T.ev_v rfl)) (T.ev_cons (T.ev_v rfl) T.ev_nil)) rfl (t_layers_from c9 _)) T.ev_nil))) rfl (t_by_layers c10 _)) (T.ev_v rfl)) ⟨rfl, (decide ((F_by_layers picture.length ((picture[0]!).length) (F_layers_from picture.length value)) = picture)), rfl, h⟩)
  exact ⟨r, q, e1⟩
abbrev P_is_order (p : Pic) (v : List Nat) : Prop := (PicP p ∧ coreQ p = []) ∧ v.length ≤ 1000
def F_is_order (p : Pic) (v : List Nat) : Bool := decide (v.Perm (List.range (p.length + p[0]!.length)) ∧ layP p.length p[0]!.length (layN p.length v.reverse) = p)
theorem ok_is_order {p : Pic} {v : List Nat} (h : P_is_order p v) : V_is_order p v (· = F_is_order p v) := by
  obtain ⟨⟨k, hc⟩, hl⟩ := h
  have h1 := k.h1; have h30 := k.h30; have w1 := k.w1; have w30 := k.w30
  have e0 : F_lines_of p = p.length + p[0]!.length := rfl
  rw [V_is_order, e0]
  refine ⟨⟨k, hc⟩, by omega, fun hb => ?_, fun hb => ⟨by omega, fun hb2 => ?_, fun _ => ⟨by omega, by omega, fun hs => ?_, fun hs => ?_⟩⟩⟩
  · show false = F_is_order p v
    refine (decide_eq_false fun z => ?_).symm
    rcases hb with hb | hb
    · exact hb trivial
    · have := z.1.length_eq
      rw [List.length_range] at this
      exact hb this
  · exact (hb2 fun x _ => ⟨trivial, fun z => z⟩).elim
  · show false = F_is_order p v
    exact (decide_eq_false fun z => hs (sortN_of_perm z.1 (List.pairwise_lt_range.imp fun h => Nat.le_of_lt h))).symm
  · have hs : sortN v = List.range (p.length + p[0]!.length) := Decidable.of_not_not hs
    have pm : v.Perm (List.range (p.length + p[0]!.length)) := by rw [← hs]; exact (sortN_perm v).symm
    refine ⟨h1, by omega, by show v.length < 1000000; omega, ⟨⟨h30, w30⟩, by rw [lay_flat]; exact (List.reverse_perm v).trans pm⟩, ?_⟩
    show decide (layP p.length p[0]!.length (layN p.length v.reverse) = p) = F_is_order p v
    exact decide_eq_decide.mpr ⟨fun z => ⟨pm, z⟩, fun z => z.2⟩
theorem is_order_blocks {p : Pic} (k : PicP p) (hc : coreQ p = []) {v : List Nat} (b : Blocks (layersQ p).reverse v) : F_is_order p v = true := decide_eq_true ⟨order_perm hc b, order_made k hc b⟩
theorem t_is_order {picture : (List Row)} {value : (List Nat)} (hP : P_is_order picture value) (tp : List D) : m_is_order [(eT eR) picture, (eT eN) value] tp = .ok (eB (F_is_order picture value)) tp := by
  obtain ⟨r, rfl, e⟩ := snd_is_order picture value (ok_is_order hP) tp
  exact e
end W
set_option maxHeartbeats 1000000
namespace W
open PySem L2 G T
def V_count_orders (picture : (List Row)) (Q : Nat → Prop) : Prop := (P_need_free picture) ∧ (P_layers_of picture) ∧ ∃ I4 : Nat → Nat → Prop, I4 0 1 ∧ (∀ (i8 : Nat) (x9 : (List Nat)), (F_layers_of picture)[i8]? = some x9 → ∀ found : Nat, I4 i8 found → (P_product_to x9.length) ∧ (cMul ((found : Nat) : Int) (((F_product_to x9.length) : Nat) : Int) = true) ∧ ∀ found_1 : Nat, found_1 = (found * (F_product_to x9.length)) → I4 (i8 + 1) found_1) ∧ (∀ found : Nat, I4 (F_layers_of picture).length found → Q found)
theorem snd_count_orders (picture : (List Row)) {Q : Nat → Prop} (h : V_count_orders picture Q) (tp : List D) : ∃ r : Nat, Q r ∧ m_count_orders [(eT eR) picture] tp = .ok (eN r) tp := by
  obtain ⟨d, t, e1, rfl, r, rfl, q⟩ := T.wp_def (n := 3) (s := b_count_orders) (ds := [(eT eR) picture]) (tp := tp) (Q := fun d t => t = tp ∧ ∃ r : Nat, d = eN r ∧ Q r) (by
    unfold V_count_orders at h
    change WP _ _ _ _ (b_count_orders [some ((eT eR) picture), none, none] _)
    unfold b_count_orders
    obtain ⟨c1, h⟩ := h
    refine T.wp_seq (T.wp_drop (T.ev_call (T.ev_cons (T.ev_v rfl) T.ev_nil) rfl (t_need_free c1 _)) ?_)
    change WP _ _ _ _ (At _ [some ((eT eR) picture), none, none] _)
    refine T.wp_seq (T.wp_set (T.ev_cN 1) ?_)
    change WP _ _ _ _ (At _ [some ((eT eR) picture), some (eN 1), none] _)
    obtain ⟨c2, h⟩ := h
    obtain ⟨I4, h5, h6, h7⟩ := h
    refine T.wp_seq (T.wp_for (e := (eL eN)) (xs := (F_layers_of picture)) (ds := fun x9 => [(eL eN) x9]) (fun k env tz => tp = tz ∧ ∃ found : Nat, ∃ g3 : Option D, env = [some ((eT eR) picture), some (eN found), g3] ∧ I4 k found) (T.it_L (e := (eL eN)) (xs := (F_layers_of picture)) (T.ev_call (T.ev_cons (T.ev_v rfl) T.ev_nil) rfl (t_layers_of c2 _))) (fun _ => rfl) ⟨rfl, 1, _, rfl, h5⟩ ?_ ?_)
    · intro i8 x9 env t hk hI
      obtain ⟨rfl, found, g3, rfl, h⟩ := hI
      replace h := h6 i8 x9 hk found h
      change WP _ _ _ _ (At _ [some ((eT eR) picture), some (eN found), some ((eL eN) x9)] _)
      obtain ⟨c12, h⟩ := h
      obtain ⟨c13, h⟩ := h
      obtain ⟨found_1, d14⟩ : ∃ found_1 : Nat, found_1 = (found * (F_product_to x9.length)) := ⟨_, rfl⟩
      replace h := h found_1 d14
      refine T.wp_set (T.ev_as d14 (e := eN) (T.ev_mul (x := found) (y := (F_product_to x9.length)) c13 (T.ev_v rfl) (T.ev_call (T.ev_cons (T.ev_lenL (e := eN) (xs := x9) (T.ev_v rfl)) T.ev_nil) rfl (t_product_to c12 _)))) ?_
      exact ⟨rfl, found_1, _, rfl, h⟩
    rintro _ _ ⟨rfl, found, g3, rfl, h⟩
    replace h := h7 found h
    change WP _ _ _ _ (At _ [some ((eT eR) picture), some (eN found), g3] _)
    exact T.wp_ret (T.ev_v rfl) ⟨rfl, found, rfl, h⟩)
  exact ⟨r, q, e1⟩
abbrev P_count_orders (p : Pic) : Prop := PicP p ∧ coreQ p = []
abbrev F_count_orders (p : Pic) : Nat := waysQ p (layersQ p).length
theorem ok_count_orders {p : Pic} (h : P_count_orders p) : V_count_orders p (· = F_count_orders p) := by
  obtain ⟨k, hc⟩ := h
  have h30 := k.h30; have w30 := k.w30
  refine ⟨⟨k, hc⟩, k, fun i f => f = waysQ p i, rfl, fun i s hs f hf => ?_, fun f hf => hf⟩
  obtain ⟨es, hi⟩ := get?_get! hs
  have es : s = (layersQ p)[i]! := es
  have hi : i < (layersQ p).length := hi
  have sl := (layersQ_len k).2 s (by rw [es]; exact mem_get! hi)
  have hf : f = waysQ p i := hf
  refine ⟨by show s.length ≤ 61; omega, cMul_nat (show f < 2 ^ 400 by rw [hf]; exact waysQ_lt k (by omega)) (hfac_lt (n := s.length) (by omega)) (by omega) (by omega) (by omega), fun g hg => ?_⟩
  show g = waysQ p i * hfac ((layersQ p)[i]!).length
  rw [hg, hf, es]
theorem t_count_orders {picture : (List Row)} (hP : P_count_orders picture) (tp : List D) : m_count_orders [(eT eR) picture] tp = .ok (eN (F_count_orders picture)) tp := by
  obtain ⟨r, rfl, e⟩ := snd_count_orders picture (ok_count_orders hP) tp
  exact e
end W
set_option maxHeartbeats 1000000
namespace W
open PySem L2 G T
def V_places (picture : (List Row)) (line : Nat) (Q : (Nat × Nat) → Prop) : Prop := (P_need_free picture) ∧ (P_need_line picture line) ∧ (P_layers_of picture) ∧ ∃ I5 : Nat → Nat → Prop, I5 0 0 ∧ (∀ (i9 : Nat) (x10 : (List Nat)), ((F_layers_of picture).reverse)[i9]? = some x10 → ∀ ahead : Nat, I5 i9 ahead → (((line ∈ x10) → (1 ≤ (ahead + x10.length)) ∧ Q (ahead, ((ahead + x10.length) - 1))) ∧ (¬(line ∈ x10) → ∀ ahead_1 : Nat, ahead_1 = (ahead + x10.length) → I5 (i9 + 1) ahead_1))) ∧ (∀ ahead : Nat, I5 ((F_layers_of picture).reverse).length ahead → False)
theorem snd_places (picture : (List Row)) (line : Nat) {Q : (Nat × Nat) → Prop} (h : V_places picture line Q) (tp : List D) : ∃ r : (Nat × Nat), Q r ∧ m_places [(eT eR) picture, eN line] tp = .ok ((eP eN eN) r) tp := by
  obtain ⟨d, t, e1, rfl, r, rfl, q⟩ := T.wp_def (n := 4) (s := b_places) (ds := [(eT eR) picture, eN line]) (tp := tp) (Q := fun d t => t = tp ∧ ∃ r : (Nat × Nat), d = (eP eN eN) r ∧ Q r) (by
    unfold V_places at h
    change WP _ _ _ _ (b_places [some ((eT eR) picture), some (eN line), none, none] _)
    unfold b_places
    obtain ⟨c1, h⟩ := h
    refine T.wp_seq (T.wp_drop (T.ev_call (T.ev_cons (T.ev_v rfl) T.ev_nil) rfl (t_need_free c1 _)) ?_)
    change WP _ _ _ _ (At _ [some ((eT eR) picture), some (eN line), none, none] _)
    obtain ⟨c2, h⟩ := h
    refine T.wp_seq (T.wp_drop (T.ev_call (T.ev_cons (T.ev_v rfl) (T.ev_cons (T.ev_v rfl) T.ev_nil)) rfl (t_need_line c2 _)) ?_)
    change WP _ _ _ _ (At _ [some ((eT eR) picture), some (eN line), none, none] _)
    refine T.wp_seq (T.wp_set (T.ev_cN 0) ?_)
    change WP _ _ _ _ (At _ [some ((eT eR) picture), some (eN line), some (eN 0), none] _)
    obtain ⟨c3, h⟩ := h
    obtain ⟨I5, h6, h7, h8⟩ := h
    refine T.wp_seq (T.wp_for (e := (eL eN)) (xs := (F_layers_of picture).reverse) (ds := fun x10 => [(eL eN) x10]) (fun k env tz => tp = tz ∧ ∃ ahead : Nat, ∃ g4 : Option D, env = [some ((eT eR) picture), some (eN line), some (eN ahead), g4] ∧ I5 k ahead) (T.it_L (e := (eL eN)) (xs := (F_layers_of picture).reverse) (T.ev_revL (e := (eL eN)) (xs := (F_layers_of picture)) (T.ev_call (T.ev_cons (T.ev_v rfl) T.ev_nil) rfl (t_layers_of c3 _)))) (fun _ => rfl) ⟨rfl, 0, _, rfl, h6⟩ ?_ ?_)
    · intro i9 x10 env t hk hI
      obtain ⟨rfl, ahead, g4, rfl, h⟩ := hI
      replace h := h7 i9 x10 hk ahead h
      change WP _ _ _ _ (At _ [some ((eT eR) picture), some (eN line), some (eN ahead), some ((eL eN) x10)] _)
      refine T.wp_seq (T.wp_if (P := (line ∈ x10)) (T.ev_bool (T.ev_inL (x := line) (xs := x10) qN rfl (T.ev_v rfl) (T.ev_v rfl))) (fun hp => ?_) (fun hn => ?_))
      · replace h := h.1 hp
        obtain ⟨c13, h⟩ := h
        exact T.wp_ret (T.ev_tup (ds := [eN ahead, eN ((ahead + x10.length) - 1)]) (T.ev_cons (T.ev_v rfl) (T.ev_cons (T.ev_sub (x := (ahead + x10.length)) (y := 1) c13 (T.ev_add (x := ahead) (y := x10.length) (T.ev_v rfl) (T.ev_lenL (e := eN) (xs := x10) (T.ev_v rfl))) (T.ev_cN 1)) T.ev_nil)) rfl) ⟨rfl, (ahead, ((ahead + x10.length) - 1)), rfl, h⟩
      · replace h := h.2 hn
        refine T.wp_skip ?_
        change WP _ _ _ _ (At _ [some ((eT eR) picture), some (eN line), some (eN ahead), some ((eL eN) x10)] _)
        obtain ⟨ahead_1, d14⟩ : ∃ ahead_1 : Nat, ahead_1 = (ahead + x10.length) := ⟨_, rfl⟩
        replace h := h ahead_1 d14
        refine T.wp_augN (x := ahead) (y := x10.length) rfl (T.ev_lenL (e := eN) (xs := x10) (T.ev_v rfl)) ?_
        rw [← d14]
        exact ⟨rfl, ahead_1, _, rfl, h⟩
    rintro _ _ ⟨rfl, ahead, g4, rfl, h⟩
    replace h := h8 ahead h
    change WP _ _ _ _ (At _ [some ((eT eR) picture), some (eN line), some (eN ahead), g4] _)
    exact h.elim)
  exact ⟨r, q, e1⟩
abbrev P_places (p : Pic) (l : Nat) : Prop := (PicP p ∧ coreQ p = []) ∧ l < p.length + p[0]!.length
/-- the lines behind the first so many layers -/
def behindQ (p : Pic) (i : Nat) : Nat := (p.length + p[0]!.length) - aheadQ p i
def F_places (p : Pic) (l : Nat) : Nat × Nat := (behindQ p (atL (layersQ p) l + 1), behindQ p (atL (layersQ p) l + 1) + (layersQ p)[atL (layersQ p) l]!.length - 1)
theorem free_ahead {p : Pic} (hc : coreQ p = []) : aheadQ p (layersQ p).length = p.length + p[0]!.length := by
  unfold aheadQ
  rw [List.take_length, (free_perm hc).length_eq, List.length_range]
theorem behind_step {p : Pic} (hc : coreQ p = []) {i : Nat} (h : i < (layersQ p).length) : behindQ p i = behindQ p (i + 1) + (layersQ p)[i]!.length := by
  have a := aheadQ_succ h
  have b := ahead_mono p (show i + 1 ≤ (layersQ p).length by omega)
  rw [free_ahead hc] at b
  unfold behindQ
  omega
theorem free_at {p : Pic} (hc : coreQ p = []) {l : Nat} (hl : l < p.length + p[0]!.length) : atL (layersQ p) l < (layersQ p).length ∧ l ∈ (layersQ p)[atL (layersQ p) l]! := by
  obtain ⟨j, hj, h⟩ := mem_flat ((free_perm hc).mem_iff.mpr (List.mem_range.mpr hl))
  rw [atL_eq layers_nodup hj h]
  exact ⟨hj, h⟩
theorem ok_places {p : Pic} {l : Nat} (h : P_places p l) : V_places p l (· = F_places p l) := by
  obtain ⟨⟨k, hc⟩, hl⟩ := h
  obtain ⟨f1, f2⟩ := free_at hc hl
  refine ⟨⟨k, hc⟩, ⟨k, hl⟩, k, fun i a => a = behindQ p ((layersQ p).length - i) ∧ atL (layersQ p) l < (layersQ p).length - i, ⟨?_, by omega⟩, fun i s hs a hI => ?_, fun a hI => ?_⟩
  · show 0 = behindQ p (layersQ p).length
    unfold behindQ
    rw [free_ahead hc, Nat.sub_self]
  · have hs : (layersQ p).reverse[i]? = some s := hs
    obtain ⟨i1, i2⟩ := hI
    obtain ⟨hi, es⟩ := List.getElem?_eq_some_iff.mp hs
    rw [List.length_reverse] at hi
    rw [List.getElem_reverse] at es
    have e2 : (layersQ p)[(layersQ p).length - i - 1]! = s := by
      rw [getElem!_pos _ _ (by omega), ← es]
      congr 1; omega
    have hj : (layersQ p).length - i - 1 < (layersQ p).length := by omega
    have bs := behind_step hc hj
    rw [show (layersQ p).length - i - 1 + 1 = (layersQ p).length - i by omega, e2, ← i1] at bs
    refine ⟨fun hm => ?_, fun hm a2 ha2 => ?_⟩
    · have e3 := atL_eq layers_nodup hj (by rw [e2]; exact hm)
      have sp := List.length_pos_of_mem hm
      refine ⟨by omega, ?_⟩
      show (a, a + s.length - 1) = F_places p l
      unfold F_places
      rw [e3, show (layersQ p).length - i - 1 + 1 = (layersQ p).length - i by omega, e2, ← i1]
    · refine ⟨by rw [ha2, show (layersQ p).length - (i + 1) = (layersQ p).length - i - 1 by omega]; exact bs.symm, ?_⟩
      rcases Nat.lt_or_ge (atL (layersQ p) l) ((layersQ p).length - (i + 1)) with z | z
      · exact z
      · have : atL (layersQ p) l = (layersQ p).length - i - 1 := by omega
        rw [this, e2] at f2
        exact (hm f2).elim
  · obtain ⟨_, i2⟩ := hI
    have i2 : atL (layersQ p) l < (layersQ p).length - ((layersQ p).reverse).length := i2
    rw [List.length_reverse] at i2
    omega
theorem places_sum {p : Pic} (hc : coreQ p = []) {l : Nat} (hl : l < p.length + p[0]!.length) : (F_places p l).1 + (layersQ p)[atL (layersQ p) l]!.length = behindQ p (atL (layersQ p) l) ∧ 1 ≤ (layersQ p)[atL (layersQ p) l]!.length ∧ behindQ p (atL (layersQ p) l) ≤ p.length + p[0]!.length ∧ (F_places p l).2 + 1 = behindQ p (atL (layersQ p) l) := by
  obtain ⟨f1, f2⟩ := free_at hc hl
  have := behind_step hc f1
  have sp := List.length_pos_of_mem f2
  refine ⟨this.symm, sp, by unfold behindQ; omega, ?_⟩
  show behindQ p (atL (layersQ p) l + 1) + (layersQ p)[atL (layersQ p) l]!.length - 1 + 1 = _
  omega
theorem t_places {picture : (List Row)} {line : Nat} (hP : P_places picture line) (tp : List D) : m_places [(eT eR) picture, eN line] tp = .ok ((eP eN eN) (F_places picture line)) tp := by
  obtain ⟨r, rfl, e⟩ := snd_places picture line (ok_places hP) tp
  exact e
end W
set_option maxHeartbeats 1000000
namespace W
open PySem L2 G T
def V_before_share (picture : (List Row)) (one : Nat) (other : Nat) (Q : (Int × Int) → Prop) : Prop := (P_need_free picture) ∧ (P_need_line picture one) ∧ (P_need_line picture other) ∧ (P_layers_of picture) ∧ ∃ I6 : Nat → Prop, I6 0 ∧ (∀ (i10 : Nat) (x11 : (List Nat)), (F_layers_of picture)[i10]? = some x11 → I6 i10 → ((((one ∈ x11) ∧ (other ∈ x11)) → Q (if (one ≠ other) then ((1 : Int), (2 : Int)) else ((0 : Int), (1 : Int)))) ∧ (¬((one ∈ x11) ∧ (other ∈ x11)) → (((one ∈ x11) → Q ((0 : Int), (1 : Int))) ∧ (¬(one ∈ x11) → (((other ∈ x11) → Q ((1 : Int), (1 : Int))) ∧ (¬(other ∈ x11) → I6 (i10 + 1)))))))) ∧ (I6 (F_layers_of picture).length → False)
theorem snd_before_share (picture : (List Row)) (one : Nat) (other : Nat) {Q : (Int × Int) → Prop} (h : V_before_share picture one other Q) (tp : List D) : ∃ r : (Int × Int), Q r ∧ m_before_share [(eT eR) picture, eN one, eN other] tp = .ok ((eP eZ eZ) r) tp := by
  obtain ⟨d, t, e1, rfl, r, rfl, q⟩ := T.wp_def (n := 4) (s := b_before_share) (ds := [(eT eR) picture, eN one, eN other]) (tp := tp) (Q := fun d t => t = tp ∧ ∃ r : (Int × Int), d = (eP eZ eZ) r ∧ Q r) (by
    unfold V_before_share at h
    change WP _ _ _ _ (b_before_share [some ((eT eR) picture), some (eN one), some (eN other), none] _)
    unfold b_before_share
    obtain ⟨c1, h⟩ := h
    refine T.wp_seq (T.wp_drop (T.ev_call (T.ev_cons (T.ev_v rfl) T.ev_nil) rfl (t_need_free c1 _)) ?_)
    change WP _ _ _ _ (At _ [some ((eT eR) picture), some (eN one), some (eN other), none] _)
    obtain ⟨c2, h⟩ := h
    refine T.wp_seq (T.wp_drop (T.ev_call (T.ev_cons (T.ev_v rfl) (T.ev_cons (T.ev_v rfl) T.ev_nil)) rfl (t_need_line c2 _)) ?_)
    change WP _ _ _ _ (At _ [some ((eT eR) picture), some (eN one), some (eN other), none] _)
    obtain ⟨c3, h⟩ := h
    refine T.wp_seq (T.wp_drop (T.ev_call (T.ev_cons (T.ev_v rfl) (T.ev_cons (T.ev_v rfl) T.ev_nil)) rfl (t_need_line c3 _)) ?_)
    change WP _ _ _ _ (At _ [some ((eT eR) picture), some (eN one), some (eN other), none] _)
    obtain ⟨c4, h⟩ := h
    obtain ⟨I6, h7, h8, h9⟩ := h
    refine T.wp_seq (T.wp_for (e := (eL eN)) (xs := (F_layers_of picture)) (ds := fun x11 => [(eL eN) x11]) (fun k env tz => tp = tz ∧ ∃ g5 : Option D, env = [some ((eT eR) picture), some (eN one), some (eN other), g5] ∧ I6 k) (T.it_L (e := (eL eN)) (xs := (F_layers_of picture)) (T.ev_call (T.ev_cons (T.ev_v rfl) T.ev_nil) rfl (t_layers_of c4 _))) (fun _ => rfl) ⟨rfl, _, rfl, h7⟩ ?_ ?_)
    · intro i10 x11 env t hk hI
      obtain ⟨rfl, g5, rfl, h⟩ := hI
      replace h := h8 i10 x11 hk h
      change WP _ _ _ _ (At _ [some ((eT eR) picture), some (eN one), some (eN other), some ((eL eN) x11)] _)
      refine T.wp_seq (T.wp_if (P := ((one ∈ x11) ∧ (other ∈ x11))) (T.ev_andT (P := (one ∈ x11)) (Q := (other ∈ x11)) (T.ev_bool (T.ev_inL (x := one) (xs := x11) qN rfl (T.ev_v rfl) (T.ev_v rfl))) (fun hp => (T.ev_bool (T.ev_inL (x := other) (xs := x11) qN rfl (T.ev_v rfl) (T.ev_v rfl))))) (fun hp => ?_) (fun hn => ?_))
      · replace h := h.1 hp
        exact T.wp_ret (T.ev_ifE (P := (one ≠ other)) (e := (eP eZ eZ)) (x := ((1 : Int), (2 : Int))) (y := ((0 : Int), (1 : Int))) (T.ev_bool (T.ev_ne (x := one) (y := other) qN rfl (T.ev_v rfl) (T.ev_v rfl))) (fun hp => (T.ev_tup (ds := [eZ (1 : Int), eZ (2 : Int)]) (T.ev_cons (T.ev_c rfl) (T.ev_cons (T.ev_c rfl) T.ev_nil)) rfl)) (fun hp => (T.ev_tup (ds := [eZ (0 : Int), eZ (1 : Int)]) (T.ev_cons (T.ev_c rfl) (T.ev_cons (T.ev_c rfl) T.ev_nil)) rfl))) ⟨rfl, (if (one ≠ other) then ((1 : Int), (2 : Int)) else ((0 : Int), (1 : Int))), rfl, h⟩
      · replace h := h.2 hn
        refine T.wp_skip ?_
        change WP _ _ _ _ (At _ [some ((eT eR) picture), some (eN one), some (eN other), some ((eL eN) x11)] _)
        refine T.wp_seq (T.wp_if (P := (one ∈ x11)) (T.ev_bool (T.ev_inL (x := one) (xs := x11) qN rfl (T.ev_v rfl) (T.ev_v rfl))) (fun hp => ?_) (fun hn => ?_))
        · replace h := h.1 hp
          exact T.wp_ret (T.ev_tup (ds := [eZ (0 : Int), eZ (1 : Int)]) (T.ev_cons (T.ev_c rfl) (T.ev_cons (T.ev_c rfl) T.ev_nil)) rfl) ⟨rfl, ((0 : Int), (1 : Int)), rfl, h⟩
        · replace h := h.2 hn
          refine T.wp_skip ?_
          change WP _ _ _ _ (At _ [some ((eT eR) picture), some (eN one), some (eN other), some ((eL eN) x11)] _)
          refine T.wp_if (P := (other ∈ x11)) (T.ev_bool (T.ev_inL (x := other) (xs := x11) qN rfl (T.ev_v rfl) (T.ev_v rfl))) (fun hp => ?_) (fun hn => ?_)
          · replace h := h.1 hp
            exact T.wp_ret (T.ev_tup (ds := [eZ (1 : Int), eZ (1 : Int)]) (T.ev_cons (T.ev_c rfl) (T.ev_cons (T.ev_c rfl) T.ev_nil)) rfl) ⟨rfl, ((1 : Int), (1 : Int)), rfl, h⟩
          · replace h := h.2 hn
            refine T.wp_skip ?_
            exact ⟨rfl, _, rfl, h⟩
    rintro _ _ ⟨rfl, g5, rfl, h⟩
    replace h := h9 h
    change WP _ _ _ _ (At _ [some ((eT eR) picture), some (eN one), some (eN other), g5] _)
    exact h.elim)
  exact ⟨r, q, e1⟩
abbrev P_before_share (p : Pic) (one other : Nat) : Prop := (PicP p ∧ coreQ p = []) ∧ one < p.length + p[0]!.length ∧ other < p.length + p[0]!.length
def F_before_share (p : Pic) (one other : Nat) : Int × Int := if atL (layersQ p) one = atL (layersQ p) other then (if one ≠ other then (1, 2) else (0, 1)) else if atL (layersQ p) one < atL (layersQ p) other then (0, 1) else (1, 1)
theorem ok_before_share {p : Pic} {one other : Nat} (h : P_before_share p one other) : V_before_share p one other (· = F_before_share p one other) := by
  obtain ⟨⟨k, hc⟩, h1, h2⟩ := h
  obtain ⟨a1, a2⟩ := free_at hc h1
  obtain ⟨b1, b2⟩ := free_at hc h2
  refine ⟨⟨k, hc⟩, ⟨k, h1⟩, ⟨k, h2⟩, k, fun i => i ≤ atL (layersQ p) one ∧ i ≤ atL (layersQ p) other, ⟨Nat.zero_le _, Nat.zero_le _⟩, fun i s hs hI => ?_, fun hI => ?_⟩
  · obtain ⟨es, hi⟩ := get?_get! hs
    have es : s = (layersQ p)[i]! := es
    have hi : i < (layersQ p).length := hi
    subst es
    have n1 : one ∈ (layersQ p)[i]! ↔ atL (layersQ p) one = i := ⟨fun z => atL_eq layers_nodup hi z, fun z => by rw [← z]; exact a2⟩
    have n2 : other ∈ (layersQ p)[i]! ↔ atL (layersQ p) other = i := ⟨fun z => atL_eq layers_nodup hi z, fun z => by rw [← z]; exact b2⟩
    rw [n1, n2]
    unfold F_before_share
    refine ⟨fun ⟨z1, z2⟩ => ?_, fun z => ⟨fun z1 => ?_, fun z1 => ⟨fun z2 => ?_, fun z2 => ?_⟩⟩⟩
    · rw [z1, z2, if_pos rfl]
    · rw [if_neg (by omega), if_pos (by omega)]
    · rw [if_neg (by omega), if_neg (by omega)]
    · exact ⟨by omega, by omega⟩
  · obtain ⟨c1, c2⟩ := hI
    have c1 : (layersQ p).length ≤ atL (layersQ p) one := c1
    omega
theorem t_before_share {picture : (List Row)} {one : Nat} {other : Nat} (hP : P_before_share picture one other) (tp : List D) : m_before_share [(eT eR) picture, eN one, eN other] tp = .ok ((eP eZ eZ) (F_before_share picture one other)) tp := by
  obtain ⟨r, rfl, e⟩ := snd_before_share picture one other (ok_before_share hP) tp
  exact e
end W
set_option maxHeartbeats 1000000
namespace W
open PySem L2 G T
def V_order_at (picture : (List Row)) (index : Nat) (Q : (List Nat) → Prop) : Prop := (P_count_orders picture) ∧ ∀ whole : Nat, whole = (F_count_orders picture) → (1 ≤ whole) ∧ (P_need_number index 0 (whole - 1)) ∧ (P_layers_of picture) ∧ ∃ I9 : Nat → Nat → Nat → (List Nat) → Prop, I9 0 index whole [] ∧ (∀ (i13 : Nat) (x14 : (List Nat)), ((F_layers_of picture).reverse)[i13]? = some x14 → ∀ index_1 : Nat, ∀ whole_1 : Nat, ∀ found : (List Nat), I9 i13 index_1 whole_1 found → (x14.length ≤ 1073741824) ∧ ∃ I19 : Nat → Nat → Nat → (List Nat) → (List Nat) → Prop, I19 0 index_1 whole_1 found x14 ∧ (∀ (i23 : Nat) (x24 : Nat), (List.range x14.length)[i23]? = some x24 → ∀ index_2 : Nat, ∀ whole_2 : Nat, ∀ found_1 : (List Nat), ∀ left : (List Nat), I19 i23 index_2 whole_2 found_1 left → (cDiv ((left.length : Nat) : Int) = true) ∧ ∀ whole_3 : Nat, whole_3 = (whole_2 / left.length) → (cDiv ((whole_3 : Nat) : Int) = true) ∧ (found_1.length < 1000000) ∧ ((index_2 / whole_3) < left.length ∧ left.length ≤ 1000000) ∧ ∀ found_2 : (List Nat), found_2 = (found_1 ++ [left[(index_2 / whole_3)]!]) → ∀ left_1 : (List Nat), left_1 = (left.eraseIdx (index_2 / whole_3)) → (0 < whole_3) ∧ ∀ index_3 : Nat, index_3 = (index_2 % whole_3) → I19 (i23 + 1) index_3 whole_3 found_2 left_1) ∧ (∀ index_2 : Nat, ∀ whole_2 : Nat, ∀ found_1 : (List Nat), ∀ left : (List Nat), I19 (List.range x14.length).length index_2 whole_2 found_1 left → I9 (i13 + 1) index_2 whole_2 found_1)) ∧ (∀ index_1 : Nat, ∀ whole_1 : Nat, ∀ found : (List Nat), I9 ((F_layers_of picture).reverse).length index_1 whole_1 found → Q found)
theorem snd_order_at (picture : (List Row)) (index : Nat) {Q : (List Nat) → Prop} (h : V_order_at picture index Q) (tp : List D) : ∃ r : (List Nat), Q r ∧ m_order_at [(eT eR) picture, eN index] tp = .ok ((eQ eN) r) tp := by
  obtain ⟨d, t, e1, rfl, r, rfl, q⟩ := T.wp_def (n := 7) (s := b_order_at) (ds := [(eT eR) picture, eN index]) (tp := tp) (Q := fun d t => t = tp ∧ ∃ r : (List Nat), d = (eQ eN) r ∧ Q r) (by
    unfold V_order_at at h
    change WP _ _ _ _ (b_order_at [some ((eT eR) picture), some (eN index), none, none, none, none, none] _)
    unfold b_order_at
    obtain ⟨c1, h⟩ := h
    obtain ⟨whole, d2⟩ : ∃ whole : Nat, whole = (F_count_orders picture) := ⟨_, rfl⟩
    replace h := h whole d2
    refine T.wp_seq (T.wp_set (T.ev_as d2 (e := eN) (T.ev_call (T.ev_cons (T.ev_v rfl) T.ev_nil) rfl (t_count_orders c1 _))) ?_)
    change WP _ _ _ _ (At _ [some ((eT eR) picture), some (eN index), some (eN whole), none, none, none, none] _)
    obtain ⟨c3, h⟩ := h
    obtain ⟨c4, h⟩ := h
    refine T.wp_seq (T.wp_drop (T.ev_call (T.ev_cons (T.ev_v rfl) (T.ev_cons (T.ev_cN 0) (T.ev_cons (T.ev_sub (x := whole) (y := 1) c3 (T.ev_v rfl) (T.ev_cN 1)) T.ev_nil))) rfl (t_need_number c4 _)) ?_)
    change WP _ _ _ _ (At _ [some ((eT eR) picture), some (eN index), some (eN whole), none, none, none, none] _)
    refine T.wp_seq (T.wp_setF (T.ev_lst (ds := []) T.ev_nil rfl) rfl ?_)
    change WP _ _ _ _ (At _ [some ((eT eR) picture), some (eN index), some (eN whole), some ((eL eN) []), none, none, none] _)
    obtain ⟨c5, h⟩ := h
    obtain ⟨I9, h10, h11, h12⟩ := h
    refine T.wp_seq (T.wp_for (e := (eL eN)) (xs := (F_layers_of picture).reverse) (ds := fun x14 => [(eL eN) x14]) (fun k env tz => tp = tz ∧ ∃ index_1 : Nat, ∃ whole_1 : Nat, ∃ found : (List Nat), ∃ g6 : Option D, ∃ g7 : Option D, ∃ g8 : Option D, env = [some ((eT eR) picture), some (eN index_1), some (eN whole_1), some ((eL eN) found), g6, g7, g8] ∧ I9 k index_1 whole_1 found) (T.it_L (e := (eL eN)) (xs := (F_layers_of picture).reverse) (T.ev_revL (e := (eL eN)) (xs := (F_layers_of picture)) (T.ev_call (T.ev_cons (T.ev_v rfl) T.ev_nil) rfl (t_layers_of c5 _)))) (fun _ => rfl) ⟨rfl, index, whole, [], _, _, _, rfl, h10⟩ ?_ ?_)
    · intro i13 x14 env t hk hI
      obtain ⟨rfl, index_1, whole_1, found, g6, g7, g8, rfl, h⟩ := hI
      replace h := h11 i13 x14 hk index_1 whole_1 found h
      change WP _ _ _ _ (At _ [some ((eT eR) picture), some (eN index_1), some (eN whole_1), some ((eL eN) found), some ((eL eN) x14), g7, g8] _)
      refine T.wp_seq (T.wp_setF (T.ev_listL (e := eN) (xs := x14) (T.ev_v rfl)) rfl ?_)
      change WP _ _ _ _ (At _ [some ((eT eR) picture), some (eN index_1), some (eN whole_1), some ((eL eN) found), some ((eL eN) x14), some ((eL eN) x14), g8] _)
      obtain ⟨c17, h⟩ := h
      obtain ⟨I19, h20, h21, h22⟩ := h
      refine T.wp_for (e := eN) (xs := (List.range x14.length)) (ds := fun x24 => [eN x24]) (fun k env tz => tp = tz ∧ ∃ index_2 : Nat, ∃ whole_2 : Nat, ∃ found_1 : (List Nat), ∃ left : (List Nat), ∃ g18 : Option D, env = [some ((eT eR) picture), some (eN index_2), some (eN whole_2), some ((eL eN) found_1), some ((eL eN) x14), some ((eL eN) left), g18] ∧ I19 k index_2 whole_2 found_1 left) (T.it_range (n := x14.length) c17 (T.ev_lenL (e := eN) (xs := x14) (T.ev_v rfl))) (fun _ => rfl) ⟨rfl, index_1, whole_1, found, x14, _, rfl, h20⟩ ?_ ?_
      · intro i23 x24 env t hk hI
        obtain ⟨rfl, index_2, whole_2, found_1, left, g18, rfl, h⟩ := hI
        replace h := h21 i23 x24 hk index_2 whole_2 found_1 left h
        change WP _ _ _ _ (At _ [some ((eT eR) picture), some (eN index_2), some (eN whole_2), some ((eL eN) found_1), some ((eL eN) x14), some ((eL eN) left), some (eN x24)] _)
        obtain ⟨c27, h⟩ := h
        obtain ⟨whole_3, d28⟩ : ∃ whole_3 : Nat, whole_3 = (whole_2 / left.length) := ⟨_, rfl⟩
        replace h := h whole_3 d28
        refine T.wp_seq (T.wp_augFdivN (x := whole_2) (y := left.length) c27 rfl (T.ev_lenL (e := eN) (xs := left) (T.ev_v rfl)) ?_)
        rw [← d28]
        change WP _ _ _ _ (At _ [some ((eT eR) picture), some (eN index_2), some (eN whole_3), some ((eL eN) found_1), some ((eL eN) x14), some ((eL eN) left), some (eN x24)] _)
        obtain ⟨c29, h⟩ := h
        obtain ⟨c30, h⟩ := h
        obtain ⟨c31, h⟩ := h
        obtain ⟨found_2, d32⟩ : ∃ found_2 : (List Nat), found_2 = (found_1 ++ [left[(index_2 / whole_3)]!]) := ⟨_, rfl⟩
        obtain ⟨left_1, d33⟩ : ∃ left_1 : (List Nat), left_1 = (left.eraseIdx (index_2 / whole_3)) := ⟨_, rfl⟩
        replace h := h found_2 d32 left_1 d33
        refine T.wp_seq (T.wp_appPop (e := eN) (xs := found_1) (ys := left) (n := (index_2 / whole_3)) rfl rfl (T.ev_fdiv (x := index_2) (y := whole_3) c29 (T.ev_v rfl) (T.ev_v rfl)) c30 c31 ?_)
        rw [← d32, ← d33]
        change WP _ _ _ _ (At _ [some ((eT eR) picture), some (eN index_2), some (eN whole_3), some ((eL eN) found_2), some ((eL eN) x14), some ((eL eN) left_1), some (eN x24)] _)
        obtain ⟨c34, h⟩ := h
        obtain ⟨index_3, d35⟩ : ∃ index_3 : Nat, index_3 = (index_2 % whole_3) := ⟨_, rfl⟩
        replace h := h index_3 d35
        refine T.wp_set (T.ev_as d35 (e := eN) (T.ev_mod (x := index_2) (y := whole_3) c34 (T.ev_v rfl) (T.ev_v rfl))) ?_
        exact ⟨rfl, index_3, whole_3, found_2, left_1, _, rfl, h⟩
      rintro _ _ ⟨rfl, index_2, whole_2, found_1, left, g18, rfl, h⟩
      replace h := h22 index_2 whole_2 found_1 left h
      exact ⟨rfl, index_2, whole_2, found_1, _, _, _, rfl, h⟩
    rintro _ _ ⟨rfl, index_1, whole_1, found, g6, g7, g8, rfl, h⟩
    replace h := h12 index_1 whole_1 found h
    change WP _ _ _ _ (At _ [some ((eT eR) picture), some (eN index_1), some (eN whole_1), some ((eL eN) found), g6, g7, g8] _)
    exact T.wp_ret (T.ev_tupleQ (e := eN) (xs := found) (T.ev_v rfl)) ⟨rfl, found, rfl, h⟩)
  exact ⟨r, q, e1⟩
abbrev P_order_at (p : Pic) (x : Nat) : Prop := (PicP p ∧ coreQ p = []) ∧ x < waysQ p (layersQ p).length
abbrev F_order_at (p : Pic) (x : Nat) : List Nat := unrA (layersQ p).reverse x
theorem ways_fcs (p : Pic) : waysQ p (layersQ p).length = fcs (layersQ p).reverse := by rw [waysQ_fp, fp_all]
theorem ok_order_at {p : Pic} {x : Nat} (h : P_order_at p x) : V_order_at p x (· = F_order_at p x) := by
  obtain ⟨⟨k, hc⟩, hx⟩ := h
  have h30 := k.h30; have w30 := k.w30
  have f6 := flat60 k
  have rl : (layersQ p).reverse.flatten.length ≤ 60 := by rw [rev_flat]; omega
  have eF := ways_fcs p
  refine ⟨⟨k, hc⟩, fun whole hw => ?_⟩
  have hw : whole = waysQ p (layersQ p).length := hw
  have hpos := fcs_pos (layersQ p).reverse
  refine ⟨by omega, ⟨Nat.zero_le _, by omega⟩, k, fun i y w f => w = fcs ((layersQ p).reverse.drop i) ∧ y < w ∧ f ++ unrA ((layersQ p).reverse.drop i) y = unrA (layersQ p).reverse x, ⟨hw.trans eF, by rw [hw]; exact hx, rfl⟩, fun i s hs y w f hI => ?_, fun y w f hI => ?_⟩
  · have hs : (layersQ p).reverse[i]? = some s := hs
    obtain ⟨i1, i2, i3⟩ := hI
    have ed := drop_at hs
    rw [ed] at i1 i3
    have i1 : w = hfac s.length * fcs ((layersQ p).reverse.drop (i + 1)) := i1
    have sl : s.length ≤ 60 := by
      have := (List.sublist_flatten_of_mem (List.mem_of_getElem? hs)).length_le
      omega
    have dl : ((layersQ p).reverse.drop (i + 1)).flatten.length ≤ 60 := by
      have e : (layersQ p).reverse.flatten = ((layersQ p).reverse.take (i + 1)).flatten ++ ((layersQ p).reverse.drop (i + 1)).flatten := by rw [← List.flatten_append, List.take_append_drop]
      have := congrArg List.length e
      rw [List.length_append] at this
      omega
    have hR := fcs_pos ((layersQ p).reverse.drop (i + 1))
    have hRl := fcs_lt dl
    have i3 : f ++ (unrB (fcs ((layersQ p).reverse.drop (i + 1))) s.length s y ++ unrA ((layersQ p).reverse.drop (i + 1)) (y % fcs ((layersQ p).reverse.drop (i + 1)))) = unrA (layersQ p).reverse x := i3
    have ul := unrA_len (layersQ p).reverse x
    generalize hL : (layersQ p).reverse.drop (i + 1) = L at *
    generalize hRe : fcs L = R at *
    refine ⟨by omega, fun j y w f left => left.length + j = s.length ∧ w = hfac left.length * R ∧ y < w ∧ f ++ (unrB R left.length left y ++ unrA L (y % R)) = unrA (layersQ p).reverse x, ⟨by omega, i1, i2, i3⟩, fun j x' hj y w f left hI => ?_, fun y w f left hI => ?_⟩
    · have hj := (List.getElem?_eq_some_iff.mp hj).1
      rw [List.length_range] at hj
      obtain ⟨k1, k2, k3, k4⟩ := hI
      obtain ⟨n, hn⟩ : ∃ n, left.length = n + 1 := ⟨left.length - 1, by omega⟩
      have fl' := congrArg List.length k4
      rw [List.length_append] at fl'
      rw [hn] at k2 k4
      have e1 : hfac (n + 1) * R = hfac n * R * (n + 1) := by
        show hfac n * (n + 1) * R = _
        rw [Nat.mul_assoc, Nat.mul_comm (n + 1), Nat.mul_assoc]
      refine ⟨cDiv_lg (n := 10) (by omega) (Lg.nat (by omega)) (by omega) (by omega), fun w3 hw3 => ?_⟩
      have e3 : w3 = hfac n * R := by rw [hw3, k2, e1, hn, Nat.mul_div_cancel _ (Nat.succ_pos n)]
      have hP := Nat.mul_pos (hfac_pos n) hR
      have hd : y / w3 < left.length := by
        rw [e3, hn]
        exact unr_lt hR (by rw [← k2]; exact k3)
      have lw : Lg ((w3 : Nat) : Int) 800 := by
        rw [e3, Int.natCast_mul]
        exact (Lg.nat (hfac_lt (n := n) (by omega))).mul (Lg.nat hRl)
      refine ⟨cDiv_lg (by omega) lw (by omega) (by omega), by omega, ⟨hd, by omega⟩, fun f2 hf2 left2 hl2 => ⟨by omega, fun y2 hy2 => ?_⟩⟩
      have ll : left2.length = n := by rw [hl2, List.length_eraseIdx_of_lt hd]; omega
      refine ⟨by omega, by rw [ll]; exact e3, by rw [hy2]; exact Nat.mod_lt _ (by omega), ?_⟩
      rw [ll, hf2, hl2, hy2, ← k4, e3, List.append_assoc]
      have e5 : y % (hfac n * R) % R = y % R := Nat.mod_mod_of_dvd _ (Nat.dvd_mul_left _ _)
      rw [e5]; rfl
    · obtain ⟨k1, k2, k3, k4⟩ := hI
      rw [List.length_range] at k1
      have hl : left.length = 0 := by omega
      rw [hl] at k2 k4
      have k2 : w = 1 * R := k2
      have k4 : f ++ ([] ++ unrA L (y % R)) = unrA (layersQ p).reverse x := k4
      rw [Nat.mod_eq_of_lt (by omega)] at k4
      show w = fcs ((layersQ p).reverse.drop (i + 1)) ∧ y < w ∧ f ++ unrA ((layersQ p).reverse.drop (i + 1)) y = unrA (layersQ p).reverse x
      rw [hL]
      exact ⟨by rw [k2, Nat.one_mul]; exact hRe.symm, k3, k4⟩
  · obtain ⟨i1, i2, i3⟩ := hI
    have i3 : f ++ unrA ((layersQ p).reverse.drop (layersQ p).reverse.length) y = unrA (layersQ p).reverse x := i3
    rw [List.drop_of_length_le (Nat.le_refl _)] at i3
    show f = unrA (layersQ p).reverse x
    rw [← i3]
    exact (List.append_nil _).symm
theorem t_order_at {picture : (List Row)} {index : Nat} (hP : P_order_at picture index) (tp : List D) : m_order_at [(eT eR) picture, eN index] tp = .ok ((eQ eN) (F_order_at picture index)) tp := by
  obtain ⟨r, rfl, e⟩ := snd_order_at picture index (ok_order_at hP) tp
  exact e
end W
set_option maxHeartbeats 1000000
namespace W
open PySem L2 G T
def V_order_number (picture : (List Row)) (value : (List Nat)) (Q : Nat → Prop) : Prop := (P_is_order picture value) ∧ ((F_is_order picture value) = true) ∧ (P_layers_of picture) ∧ ∃ I6 : Nat → Nat → Nat → Prop, I6 0 0 0 ∧ (∀ (i10 : Nat) (x11 : (List Nat)), ((F_layers_of picture).reverse)[i10]? = some x11 → ∀ found : Nat, ∀ at_ : Nat, I6 i10 found at_ → (x11.length ≤ 1073741824) ∧ ∃ I16 : Nat → Nat → Nat → (List Nat) → Prop, I16 0 found at_ x11 ∧ (∀ (i20 : Nat) (x21 : Nat), (List.range x11.length)[i20]? = some x21 → ∀ found_1 : Nat, ∀ at__1 : Nat, ∀ left : (List Nat), I16 i20 found_1 at__1 left → (cMul ((found_1 : Nat) : Int) ((left.length : Nat) : Int) = true) ∧ (at__1 < value.length) ∧ (value[at__1]! ∈ left) ∧ ∀ found_2 : Nat, found_2 = ((found_1 * left.length) + (left.idxOf (value[at__1]!))) → (at__1 < value.length) ∧ (value[at__1]! ∈ left) ∧ ∀ left_1 : (List Nat), left_1 = (left.erase (value[at__1]!)) → ∀ at__2 : Nat, at__2 = (at__1 + 1) → I16 (i20 + 1) found_2 at__2 left_1) ∧ (∀ found_1 : Nat, ∀ at__1 : Nat, ∀ left : (List Nat), I16 (List.range x11.length).length found_1 at__1 left → I6 (i10 + 1) found_1 at__1)) ∧ (∀ found : Nat, ∀ at_ : Nat, I6 ((F_layers_of picture).reverse).length found at_ → Q found)
theorem snd_order_number (picture : (List Row)) (value : (List Nat)) {Q : Nat → Prop} (h : V_order_number picture value Q) (tp : List D) : ∃ r : Nat, Q r ∧ m_order_number [(eT eR) picture, (eT eN) value] tp = .ok (eN r) tp := by
  obtain ⟨d, t, e1, rfl, r, rfl, q⟩ := T.wp_def (n := 7) (s := b_order_number) (ds := [(eT eR) picture, (eT eN) value]) (tp := tp) (Q := fun d t => t = tp ∧ ∃ r : Nat, d = eN r ∧ Q r) (by
    unfold V_order_number at h
    change WP _ _ _ _ (b_order_number [some ((eT eR) picture), some ((eT eN) value), none, none, none, none, none] _)
    unfold b_order_number
    obtain ⟨c1, h⟩ := h
    obtain ⟨hf, h⟩ := h
    refine T.wp_seq (T.wp_if (P := (¬((F_is_order picture value) = true))) (T.ev_notT (P := ((F_is_order picture value) = true)) (T.ev_dec (F_is_order picture value) (T.ev_call (T.ev_cons (T.ev_v rfl) (T.ev_cons (T.ev_v rfl) T.ev_nil)) rfl (t_is_order c1 _)))) (fun hp => ?_) (fun hn => ?_))
    · exact absurd hp ((fun h0 => h0 (hf)))
    · refine T.wp_skip ?_
      change WP _ _ _ _ (At _ [some ((eT eR) picture), some ((eT eN) value), none, none, none, none, none] _)
      refine T.wp_seq (T.wp_par (T.ev_cons (T.ev_cN 0) (T.ev_cons (T.ev_cN 0) T.ev_nil)) rfl ?_)
      change WP _ _ _ _ (At _ [some ((eT eR) picture), some ((eT eN) value), some (eN 0), some (eN 0), none, none, none] _)
      obtain ⟨c2, h⟩ := h
      obtain ⟨I6, h7, h8, h9⟩ := h
      refine T.wp_seq (T.wp_for (e := (eL eN)) (xs := (F_layers_of picture).reverse) (ds := fun x11 => [(eL eN) x11]) (fun k env tz => tp = tz ∧ ∃ found : Nat, ∃ at_ : Nat, ∃ g3 : Option D, ∃ g4 : Option D, ∃ g5 : Option D, env = [some ((eT eR) picture), some ((eT eN) value), some (eN found), some (eN at_), g3, g4, g5] ∧ I6 k found at_) (T.it_L (e := (eL eN)) (xs := (F_layers_of picture).reverse) (T.ev_revL (e := (eL eN)) (xs := (F_layers_of picture)) (T.ev_call (T.ev_cons (T.ev_v rfl) T.ev_nil) rfl (t_layers_of c2 _)))) (fun _ => rfl) ⟨rfl, 0, 0, _, _, _, rfl, h7⟩ ?_ ?_)
      · intro i10 x11 env t hk hI
        obtain ⟨rfl, found, at_, g3, g4, g5, rfl, h⟩ := hI
        replace h := h8 i10 x11 hk found at_ h
        change WP _ _ _ _ (At _ [some ((eT eR) picture), some ((eT eN) value), some (eN found), some (eN at_), some ((eL eN) x11), g4, g5] _)
        refine T.wp_seq (T.wp_setF (T.ev_listL (e := eN) (xs := x11) (T.ev_v rfl)) rfl ?_)
        change WP _ _ _ _ (At _ [some ((eT eR) picture), some ((eT eN) value), some (eN found), some (eN at_), some ((eL eN) x11), some ((eL eN) x11), g5] _)
        obtain ⟨c14, h⟩ := h
        obtain ⟨I16, h17, h18, h19⟩ := h
        refine T.wp_for (e := eN) (xs := (List.range x11.length)) (ds := fun x21 => [eN x21]) (fun k env tz => tp = tz ∧ ∃ found_1 : Nat, ∃ at__1 : Nat, ∃ left : (List Nat), ∃ g15 : Option D, env = [some ((eT eR) picture), some ((eT eN) value), some (eN found_1), some (eN at__1), some ((eL eN) x11), some ((eL eN) left), g15] ∧ I16 k found_1 at__1 left) (T.it_range (n := x11.length) c14 (T.ev_lenL (e := eN) (xs := x11) (T.ev_v rfl))) (fun _ => rfl) ⟨rfl, found, at_, x11, _, rfl, h17⟩ ?_ ?_
        · intro i20 x21 env t hk hI
          obtain ⟨rfl, found_1, at__1, left, g15, rfl, h⟩ := hI
          replace h := h18 i20 x21 hk found_1 at__1 left h
          change WP _ _ _ _ (At _ [some ((eT eR) picture), some ((eT eN) value), some (eN found_1), some (eN at__1), some ((eL eN) x11), some ((eL eN) left), some (eN x21)] _)
          obtain ⟨c24, h⟩ := h
          obtain ⟨c25, h⟩ := h
          obtain ⟨c26, h⟩ := h
          obtain ⟨found_2, d27⟩ : ∃ found_2 : Nat, found_2 = ((found_1 * left.length) + (left.idxOf (value[at__1]!))) := ⟨_, rfl⟩
          replace h := h found_2 d27
          refine T.wp_seq (T.wp_set (T.ev_as d27 (e := eN) (T.ev_add (x := (found_1 * left.length)) (y := (left.idxOf (value[at__1]!))) (T.ev_mul (x := found_1) (y := left.length) c24 (T.ev_v rfl) (T.ev_lenL (e := eN) (xs := left) (T.ev_v rfl))) (T.ev_index (xs := left) (x := value[at__1]!) c26 (T.ev_v rfl) (T.ev_ixT (e := eN) (xs := value) (i := at__1) c25 (T.ev_v rfl) (T.ev_v rfl))))) ?_)
          change WP _ _ _ _ (At _ [some ((eT eR) picture), some ((eT eN) value), some (eN found_2), some (eN at__1), some ((eL eN) x11), some ((eL eN) left), some (eN x21)] _)
          obtain ⟨c28, h⟩ := h
          obtain ⟨c29, h⟩ := h
          obtain ⟨left_1, d30⟩ : ∃ left_1 : (List Nat), left_1 = (left.erase (value[at__1]!)) := ⟨_, rfl⟩
          replace h := h left_1 d30
          refine T.wp_seq (T.wp_lrem (xs := left) (k := value[at__1]!) rfl (T.ev_ixT (e := eN) (xs := value) (i := at__1) c28 (T.ev_v rfl) (T.ev_v rfl)) c29 ?_)
          rw [← d30]
          change WP _ _ _ _ (At _ [some ((eT eR) picture), some ((eT eN) value), some (eN found_2), some (eN at__1), some ((eL eN) x11), some ((eL eN) left_1), some (eN x21)] _)
          obtain ⟨at__2, d31⟩ : ∃ at__2 : Nat, at__2 = (at__1 + 1) := ⟨_, rfl⟩
          replace h := h at__2 d31
          refine T.wp_augN (x := at__1) (y := 1) rfl (T.ev_cN 1) ?_
          rw [← d31]
          exact ⟨rfl, found_2, at__2, left_1, _, rfl, h⟩
        rintro _ _ ⟨rfl, found_1, at__1, left, g15, rfl, h⟩
        replace h := h19 found_1 at__1 left h
        exact ⟨rfl, found_1, at__1, _, _, _, rfl, h⟩
      rintro _ _ ⟨rfl, found, at_, g3, g4, g5, rfl, h⟩
      replace h := h9 found at_ h
      change WP _ _ _ _ (At _ [some ((eT eR) picture), some ((eT eN) value), some (eN found), some (eN at_), g3, g4, g5] _)
      exact T.wp_ret (T.ev_v rfl) ⟨rfl, found, rfl, h⟩)
  exact ⟨r, q, e1⟩
abbrev P_order_number (p : Pic) (v : List Nat) : Prop := (PicP p ∧ coreQ p = []) ∧ Blocks (layersQ p).reverse v
abbrev F_order_number (p : Pic) (v : List Nat) : Nat := nmA (layersQ p).reverse v 0
theorem ok_order_number {p : Pic} {v : List Nat} (h : P_order_number p v) : V_order_number p v (· = F_order_number p v) := by
  obtain ⟨⟨k, hc⟩, hb⟩ := h
  have h30 := k.h30; have w30 := k.w30
  have f6 := flat60 k
  have rl : (layersQ p).reverse.flatten.length ≤ 60 := by rw [rev_flat]; omega
  have vl := hb.perm.length_eq
  refine ⟨⟨⟨k, hc⟩, by omega⟩, is_order_blocks k hc hb, k, fun i f a => f + 1 ≤ 64 ^ a ∧ a ≤ v.length ∧ Blocks ((layersQ p).reverse.drop i) (v.drop a) ∧ nmA ((layersQ p).reverse.drop i) (v.drop a) f = nmA (layersQ p).reverse v 0, ⟨Nat.le_refl _, Nat.zero_le _, hb, rfl⟩, fun i s hs f a hI => ?_, fun f a hI => ?_⟩
  · have hs : (layersQ p).reverse[i]? = some s := hs
    obtain ⟨i1, i2, i3, i4⟩ := hI
    have sl : s.length ≤ 60 := by
      have := (List.sublist_flatten_of_mem (List.mem_of_getElem? hs)).length_le
      omega
    rw [drop_at hs] at i3 i4
    generalize hL : (layersQ p).reverse.drop (i + 1) = L at *
    refine ⟨by omega, fun j f a left => left.length + j = s.length ∧ f + 1 ≤ 64 ^ a ∧ a ≤ v.length ∧ ∃ bl w, v.drop a = bl ++ w ∧ bl.Perm left ∧ Blocks L w ∧ nmA L w (nmB left bl f) = nmA (layersQ p).reverse v 0, ⟨by omega, i1, i2, ?_⟩, fun j x' hj f a left hI => ?_, fun f a left hI => ?_⟩
    · generalize hva : v.drop a = va at i3 i4
      cases i3 with
      | cons b1 b2 =>
        rename_i b w
        exact ⟨b, w, rfl, b1, b2, by rw [← nmA_cut b1.length_eq]; exact i4⟩
    · have hj := (List.getElem?_eq_some_iff.mp hj).1
      rw [List.length_range] at hj
      obtain ⟨k1, k2, k3, bl, w, k4, k5, k6, k7⟩ := hI
      cases bl with
      | nil => have := k5.length_eq; rw [List.length_nil] at this; omega
      | cons b bs =>
        have al : a < v.length := by
          have := congrArg List.length k4
          rw [List.length_drop, List.cons_append, List.length_cons] at this
          omega
        have eb : v[a]! = b ∧ v.drop (a + 1) = bs ++ w := by
          rw [List.drop_eq_getElem_cons al] at k4
          injection k4 with e1 e2
          exact ⟨by rw [getElem!_pos v a al]; exact e1, e2⟩
        have hm : v[a]! ∈ left := by rw [eb.1]; exact k5.mem_iff.mp List.mem_cons_self
        have le1 : left.length ≤ 60 := by omega
        have ix : left.idxOf v[a]! < left.length := List.idxOf_lt_length_iff.mpr hm
        have f4 : f < 2 ^ 400 := Nat.lt_of_lt_of_le (Nat.lt_of_succ_le k2) (Nat.le_trans (Nat.pow_le_pow_right (by decide) (show a ≤ 60 by omega)) (Nat.le_of_lt (pow400 (n := 60) (by omega)).2))
        refine ⟨cMul_nat (n := 400) (m := 10) f4 (by omega) (by omega) (by omega) (by omega), al, hm, fun f2 hf2 => ⟨al, hm, fun left2 hl2 a2 ha2 => ?_⟩⟩
        have l2 : left2.length = left.length - 1 := by rw [hl2, List.length_erase_of_mem hm]
        refine ⟨by omega, ?_, by omega, bs, w, by rw [ha2]; exact eb.2, ?_, k6, ?_⟩
        · rw [hf2, ha2, Nat.pow_succ]
          have := Nat.mul_le_mul (show f + 1 ≤ 64 ^ a from k2) (show left.length ≤ 64 by omega)
          rw [Nat.add_mul] at this
          omega
        · rw [hl2, eb.1]
          have := k5.erase b
          rwa [List.erase_cons_head] at this
        · rw [← k7, hf2, hl2, eb.1]; rfl
    · obtain ⟨k1, k2, k3, bl, w, k4, k5, k6, k7⟩ := hI
      rw [List.length_range] at k1
      have hl : left = [] := List.length_eq_zero_iff.mp (by omega)
      subst hl
      have hb2 := k5.eq_nil
      subst hb2
      show f + 1 ≤ 64 ^ a ∧ a ≤ v.length ∧ Blocks ((layersQ p).reverse.drop (i + 1)) (v.drop a) ∧ nmA ((layersQ p).reverse.drop (i + 1)) (v.drop a) f = nmA (layersQ p).reverse v 0
      rw [hL, k4]
      exact ⟨k2, k3, k6, k7⟩
  · obtain ⟨i1, i2, i3, i4⟩ := hI
    have i4 : nmA ((layersQ p).reverse.drop (layersQ p).reverse.length) (v.drop a) f = nmA (layersQ p).reverse v 0 := i4
    rw [List.drop_of_length_le (Nat.le_refl _)] at i4
    show f = nmA (layersQ p).reverse v 0
    exact i4
theorem t_order_number {picture : (List Row)} {value : (List Nat)} (hP : P_order_number picture value) (tp : List D) : m_order_number [(eT eR) picture, (eT eN) value] tp = .ok (eN (F_order_number picture value)) tp := by
  obtain ⟨r, rfl, e⟩ := snd_order_number picture value (ok_order_number hP) tp
  exact e
end W
set_option maxHeartbeats 1000000
namespace W
open PySem L2 G T
def V_mean_place (picture : (List Row)) (line : Nat) (Q : (Int × Int) → Prop) : Prop := (P_places picture line) ∧ ∀ pair : (Nat × Nat), pair = (F_places picture line) → (P_lowered (((pair.1 + pair.2) : Nat) : Int) (2 : Int)) ∧ Q (F_lowered (((pair.1 + pair.2) : Nat) : Int) (2 : Int))
theorem snd_mean_place (picture : (List Row)) (line : Nat) {Q : (Int × Int) → Prop} (h : V_mean_place picture line Q) (tp : List D) : ∃ r : (Int × Int), Q r ∧ m_mean_place [(eT eR) picture, eN line] tp = .ok ((eP eZ eZ) r) tp := by
  obtain ⟨d, t, e1, rfl, r, rfl, q⟩ := T.wp_def (n := 4) (s := b_mean_place) (ds := [(eT eR) picture, eN line]) (tp := tp) (Q := fun d t => t = tp ∧ ∃ r : (Int × Int), d = (eP eZ eZ) r ∧ Q r) (by
    unfold V_mean_place at h
    change WP _ _ _ _ (b_mean_place [some ((eT eR) picture), some (eN line), none, none] _)
    unfold b_mean_place
    obtain ⟨c1, h⟩ := h
    obtain ⟨pair, d2⟩ : ∃ pair : (Nat × Nat), pair = (F_places picture line) := ⟨_, rfl⟩
    replace h := h pair d2
    refine T.wp_seq (T.wp_unp (ds := [eN pair.1, eN pair.2]) (T.ev_as d2 (e := (eP eN eN)) (T.ev_call (T.ev_cons (T.ev_v rfl) (T.ev_cons (T.ev_v rfl) T.ev_nil)) rfl (t_places c1 _))) rfl ?_)
    change WP _ _ _ _ (At _ [some ((eT eR) picture), some (eN line), some (eN pair.1), some (eN pair.2)] _)
    obtain ⟨c3, h⟩ := h
    exact T.wp_ret (T.ev_call (T.ev_cons (T.ev_add (x := pair.1) (y := pair.2) (T.ev_v rfl) (T.ev_v rfl)) (T.ev_cons (T.ev_c rfl) T.ev_nil)) rfl (t_lowered c3 _)) ⟨rfl, (F_lowered (((pair.1 + pair.2) : Nat) : Int) (2 : Int)), rfl, h⟩)
  exact ⟨r, q, e1⟩
abbrev P_mean_place (p : Pic) (l : Nat) : Prop := (PicP p ∧ coreQ p = []) ∧ l < p.length + p[0]!.length
def F_mean_place (p : Pic) (l : Nat) : Int × Int := low (((F_places p l).1 + (F_places p l).2 : Nat) : Int) 2
theorem mean_rat {p : Pic} (h : P_mean_place p l) : Rat' (F_mean_place p l) (((F_places p l).1 + (F_places p l).2 : Nat) : Int) 2 10 := by
  obtain ⟨⟨k, hc⟩, hl⟩ := h
  have h30 := k.h30; have w30 := k.w30
  obtain ⟨a, b, c, d⟩ := places_sum hc hl
  exact rat_mk (by decide) (Lg.nat (by omega)) (Lg.nat (x := 2) (by decide))
theorem ok_mean_place {p : Pic} {l : Nat} (h : P_mean_place p l) : V_mean_place p l (· = F_mean_place p l) := by
  refine ⟨h, fun pair hp => ?_⟩
  subst hp
  have r := mean_rat h
  exact ⟨⟨r.l1.mono (by omega), r.l2.mono (by omega), r.p⟩, rfl⟩
theorem t_mean_place {picture : (List Row)} {line : Nat} (hP : P_mean_place picture line) (tp : List D) : m_mean_place [(eT eR) picture, eN line] tp = .ok ((eP eZ eZ) (F_mean_place picture line)) tp := by
  obtain ⟨r, rfl, e⟩ := snd_mean_place picture line (ok_mean_place hP) tp
  exact e
end W
set_option maxHeartbeats 1000000
namespace W
open PySem L2 G T
def V_swaps (picture : (List Row)) (value : (List Nat)) (Q : (List Nat) → Prop) : Prop := (P_is_order picture value) ∧ ((F_is_order picture value) = true) ∧ (value.length ≤ 1073741824) ∧ (1 ≤ 1000000) ∧ ((List.range (value.length - 1)).length ≤ 1000000) ∧ (∀ x4, x4 ∈ (List.range (value.length - 1)) → (x4 < value.length) ∧ ((x4 + 1) < value.length)) ∧ Q ((List.range (value.length - 1)).filter fun x4 => decide ((decide (value[x4]! < picture.length)) = (decide (value[(x4 + 1)]! < picture.length))))
theorem snd_swaps (picture : (List Row)) (value : (List Nat)) {Q : (List Nat) → Prop} (h : V_swaps picture value Q) (tp : List D) : ∃ r : (List Nat), Q r ∧ m_swaps [(eT eR) picture, (eT eN) value] tp = .ok ((eT eN) r) tp := by
  obtain ⟨d, t, e1, rfl, r, rfl, q⟩ := T.wp_def (n := 4) (s := b_swaps) (ds := [(eT eR) picture, (eT eN) value]) (tp := tp) (Q := fun d t => t = tp ∧ ∃ r : (List Nat), d = (eT eN) r ∧ Q r) (by
    unfold V_swaps at h
    change WP _ _ _ _ (b_swaps [some ((eT eR) picture), some ((eT eN) value), none, none] _)
    unfold b_swaps
    obtain ⟨c1, h⟩ := h
    obtain ⟨hf, h⟩ := h
    refine T.wp_seq (T.wp_if (P := (¬((F_is_order picture value) = true))) (T.ev_notT (P := ((F_is_order picture value) = true)) (T.ev_dec (F_is_order picture value) (T.ev_call (T.ev_cons (T.ev_v rfl) (T.ev_cons (T.ev_v rfl) T.ev_nil)) rfl (t_is_order c1 _)))) (fun hp => ?_) (fun hn => ?_))
    · exact absurd hp ((fun h0 => h0 (hf)))
    · refine T.wp_skip ?_
      change WP _ _ _ _ (At _ [some ((eT eR) picture), some ((eT eN) value), none, none] _)
      refine T.wp_seq (T.wp_set (T.ev_lenT (e := eR) (xs := picture) (T.ev_v rfl)) ?_)
      change WP _ _ _ _ (At _ [some ((eT eR) picture), some ((eT eN) value), some (eN picture.length), none] _)
      obtain ⟨c2, h⟩ := h
      obtain ⟨c3, h⟩ := h
      obtain ⟨c5, h⟩ := h
      obtain ⟨c8, h⟩ := h
      exact T.wp_ret (T.ev_tupleL (e := eN) (xs := ((List.range (value.length - 1)).filter fun x4 => decide ((decide (value[x4]! < picture.length)) = (decide (value[(x4 + 1)]! < picture.length))))) (T.ev_compI (e := eN) (xs := (List.range (value.length - 1))) (ds := fun x4 => [eN x4]) (P := fun x4 => ((decide (value[x4]! < picture.length)) = (decide (value[(x4 + 1)]! < picture.length)))) (T.it_rangeS (x := value.length) (y := 1) c2 c3 (T.ev_lenT (e := eN) (xs := value) (T.ev_v rfl)) (T.ev_cN 1)) c5 (fun _ => rfl) (fun x4 hx => match c8 x4 hx with | ⟨c6, c7⟩ => (T.ev_bool (T.ev_eq (x := (decide (value[x4]! < picture.length))) (y := (decide (value[(x4 + 1)]! < picture.length))) qB rfl (T.ev_lt (x := value[x4]!) (y := picture.length) (T.ev_ixT (e := eN) (xs := value) (i := x4) c6 (T.ev_v rfl) (T.ev_v rfl)) (T.ev_v rfl)) (T.ev_lt (x := value[(x4 + 1)]!) (y := picture.length) (T.ev_ixT (e := eN) (xs := value) (i := (x4 + 1)) c7 (T.ev_v rfl) (T.ev_add (x := x4) (y := 1) (T.ev_v rfl) (T.ev_cN 1))) (T.ev_v rfl))))) (fun x4 hx hq => (T.ev_v rfl)))) ⟨rfl, ((List.range (value.length - 1)).filter fun x4 => decide ((decide (value[x4]! < picture.length)) = (decide (value[(x4 + 1)]! < picture.length)))), rfl, h⟩)
  exact ⟨r, q, e1⟩
abbrev P_swaps (p : Pic) (v : List Nat) : Prop := (PicP p ∧ coreQ p = []) ∧ Blocks (layersQ p).reverse v
abbrev F_swaps (p : Pic) (v : List Nat) : List Nat := (List.range (v.length - 1)).filter fun x => decide ((decide (v[x]! < p.length)) = (decide (v[x + 1]! < p.length)))
theorem ok_swaps {p : Pic} {v : List Nat} (h : P_swaps p v) : V_swaps p v (· = F_swaps p v) := by
  obtain ⟨⟨k, hc⟩, hb⟩ := h
  have h30 := k.h30; have w30 := k.w30
  have vl := (order_perm hc hb).length_eq
  rw [List.length_range] at vl
  exact ⟨⟨⟨k, hc⟩, by omega⟩, is_order_blocks k hc hb, by omega, by omega, by rw [List.length_range]; omega, fun x hx => ⟨by have := List.mem_range.mp hx; omega, by have := List.mem_range.mp hx; omega⟩, rfl⟩
theorem t_swaps {picture : (List Row)} {value : (List Nat)} (hP : P_swaps picture value) (tp : List D) : m_swaps [(eT eR) picture, (eT eN) value] tp = .ok ((eT eN) (F_swaps picture value)) tp := by
  obtain ⟨r, rfl, e⟩ := snd_swaps picture value (ok_swaps hP) tp
  exact e
end W
set_option maxHeartbeats 1000000
namespace W
open PySem L2 G T
def V_place_shares (picture : (List Row)) (line : Nat) (Q : (List (Int × Int)) → Prop) : Prop := (P_places picture line) ∧ ∀ pair : (Nat × Nat), pair = (F_places picture line) → (pair.1 ≤ pair.2) ∧ (P_lowered (1 : Int) ((((pair.2 - pair.1) + 1) : Nat) : Int)) ∧ ∀ share : (Int × Int), share = (F_lowered (1 : Int) ((((pair.2 - pair.1) + 1) : Nat) : Int)) → (P_lines_of picture) ∧ ((F_lines_of picture) ≤ 1073741824) ∧ ((List.range (F_lines_of picture)).length ≤ 1000000) ∧ Q ((List.range (F_lines_of picture)).map fun x8 => (if (pair.1 ≤ x8 ∧ x8 ≤ pair.2) then share else ((0 : Int), (1 : Int))))
theorem snd_place_shares (picture : (List Row)) (line : Nat) {Q : (List (Int × Int)) → Prop} (h : V_place_shares picture line Q) (tp : List D) : ∃ r : (List (Int × Int)), Q r ∧ m_place_shares [(eT eR) picture, eN line] tp = .ok ((eT (eP eZ eZ)) r) tp := by
  obtain ⟨d, t, e1, rfl, r, rfl, q⟩ := T.wp_def (n := 6) (s := b_place_shares) (ds := [(eT eR) picture, eN line]) (tp := tp) (Q := fun d t => t = tp ∧ ∃ r : (List (Int × Int)), d = (eT (eP eZ eZ)) r ∧ Q r) (by
    unfold V_place_shares at h
    change WP _ _ _ _ (b_place_shares [some ((eT eR) picture), some (eN line), none, none, none, none] _)
    unfold b_place_shares
    obtain ⟨c1, h⟩ := h
    obtain ⟨pair, d2⟩ : ∃ pair : (Nat × Nat), pair = (F_places picture line) := ⟨_, rfl⟩
    replace h := h pair d2
    refine T.wp_seq (T.wp_unp (ds := [eN pair.1, eN pair.2]) (T.ev_as d2 (e := (eP eN eN)) (T.ev_call (T.ev_cons (T.ev_v rfl) (T.ev_cons (T.ev_v rfl) T.ev_nil)) rfl (t_places c1 _))) rfl ?_)
    change WP _ _ _ _ (At _ [some ((eT eR) picture), some (eN line), some (eN pair.1), some (eN pair.2), none, none] _)
    obtain ⟨c3, h⟩ := h
    obtain ⟨c4, h⟩ := h
    obtain ⟨share, d5⟩ : ∃ share : (Int × Int), share = (F_lowered (1 : Int) ((((pair.2 - pair.1) + 1) : Nat) : Int)) := ⟨_, rfl⟩
    replace h := h share d5
    refine T.wp_seq (T.wp_set (T.ev_as d5 (e := (eP eZ eZ)) (T.ev_call (T.ev_cons (T.ev_c rfl) (T.ev_cons (T.ev_add (x := (pair.2 - pair.1)) (y := 1) (T.ev_sub (x := pair.2) (y := pair.1) c3 (T.ev_v rfl) (T.ev_v rfl)) (T.ev_cN 1)) T.ev_nil)) rfl (t_lowered c4 _))) ?_)
    change WP _ _ _ _ (At _ [some ((eT eR) picture), some (eN line), some (eN pair.1), some (eN pair.2), some ((eP eZ eZ) share), none] _)
    obtain ⟨c6, h⟩ := h
    obtain ⟨c7, h⟩ := h
    obtain ⟨c9, h⟩ := h
    exact T.wp_ret (T.ev_tupleL (e := (eP eZ eZ)) (xs := ((List.range (F_lines_of picture)).map fun x8 => (if (pair.1 ≤ x8 ∧ x8 ≤ pair.2) then share else ((0 : Int), (1 : Int))))) (T.ev_compY (e := eN) (e1 := (eP eZ eZ)) (xs := (List.range (F_lines_of picture))) (ds := fun x8 => [eN x8]) (g := fun x8 => (if (pair.1 ≤ x8 ∧ x8 ≤ pair.2) then share else ((0 : Int), (1 : Int)))) (T.it_range (n := (F_lines_of picture)) c7 (T.ev_call (T.ev_cons (T.ev_v rfl) T.ev_nil) rfl (t_lines_of c6 _))) c9 (fun _ => rfl) (fun x8 hx => (T.ev_ifE (P := (pair.1 ≤ x8 ∧ x8 ≤ pair.2)) (e := (eP eZ eZ)) (x := share) (y := ((0 : Int), (1 : Int))) (T.ev_bool (T.ev_chLeLe (x := pair.1) (y := x8) (z := pair.2) (T.ev_v rfl) (T.ev_v rfl) (T.ev_v rfl))) (fun hp => (T.ev_v rfl)) (fun hp => (T.ev_tup (ds := [eZ (0 : Int), eZ (1 : Int)]) (T.ev_cons (T.ev_c rfl) (T.ev_cons (T.ev_c rfl) T.ev_nil)) rfl)))))) ⟨rfl, ((List.range (F_lines_of picture)).map fun x8 => (if (pair.1 ≤ x8 ∧ x8 ≤ pair.2) then share else ((0 : Int), (1 : Int)))), rfl, h⟩)
  exact ⟨r, q, e1⟩
abbrev P_place_shares (p : Pic) (l : Nat) : Prop := (PicP p ∧ coreQ p = []) ∧ l < p.length + p[0]!.length
def F_place_shares (p : Pic) (l : Nat) : List (Int × Int) := (List.range (p.length + p[0]!.length)).map fun x => if (F_places p l).1 ≤ x ∧ x ≤ (F_places p l).2 then low 1 (((layersQ p)[atL (layersQ p) l]!.length : Nat) : Int) else (0, 1)
theorem ok_place_shares {p : Pic} {l : Nat} (h : P_place_shares p l) : V_place_shares p l (· = F_place_shares p l) := by
  obtain ⟨⟨k, hc⟩, hl⟩ := h
  have h30 := k.h30; have w30 := k.w30
  obtain ⟨a, b, c, d⟩ := places_sum hc hl
  refine ⟨⟨⟨k, hc⟩, hl⟩, fun pair hp => ?_⟩
  subst hp
  have e : (F_places p l).2 - (F_places p l).1 + 1 = (layersQ p)[atL (layersQ p) l]!.length := by omega
  rw [e]
  refine ⟨by omega, ⟨(Lg.nat (x := 1) (n := 2) (by decide)).mono (by omega), (Lg.nat (n := 10) (by omega)).mono (by omega), by omega⟩, fun share hs => ⟨k, by show p.length + p[0]!.length ≤ _; omega, by rw [List.length_range]; show p.length + p[0]!.length ≤ _; omega, ?_⟩⟩
  subst hs
  rfl
theorem t_place_shares {picture : (List Row)} {line : Nat} (hP : P_place_shares picture line) (tp : List D) : m_place_shares [(eT eR) picture, eN line] tp = .ok ((eT (eP eZ eZ)) (F_place_shares picture line)) tp := by
  obtain ⟨r, rfl, e⟩ := snd_place_shares picture line (ok_place_shares hP) tp
  exact e
end W
set_option maxHeartbeats 1000000
namespace W
open PySem L2 G T
def V_next_order (picture : (List Row)) (value : (List Nat)) (Q : (Option (List Nat)) → Prop) : Prop := (P_order_number picture value) ∧ ∀ index : Nat, index = ((F_order_number picture value) + 1) → (P_count_orders picture) ∧ ((index < (F_count_orders picture)) → (P_order_at picture index)) ∧ Q (if (index < (F_count_orders picture)) then (some (F_order_at picture index)) else none)
theorem snd_next_order (picture : (List Row)) (value : (List Nat)) {Q : (Option (List Nat)) → Prop} (h : V_next_order picture value Q) (tp : List D) : ∃ r : (Option (List Nat)), Q r ∧ m_next_order [(eT eR) picture, (eT eN) value] tp = .ok ((eO (eT eN)) r) tp := by
  obtain ⟨d, t, e1, rfl, r, rfl, q⟩ := T.wp_def (n := 3) (s := b_next_order) (ds := [(eT eR) picture, (eT eN) value]) (tp := tp) (Q := fun d t => t = tp ∧ ∃ r : (Option (List Nat)), d = (eO (eT eN)) r ∧ Q r) (by
    unfold V_next_order at h
    change WP _ _ _ _ (b_next_order [some ((eT eR) picture), some ((eT eN) value), none] _)
    unfold b_next_order
    obtain ⟨c1, h⟩ := h
    obtain ⟨index, d2⟩ : ∃ index : Nat, index = ((F_order_number picture value) + 1) := ⟨_, rfl⟩
    replace h := h index d2
    refine T.wp_seq (T.wp_set (T.ev_as d2 (e := eN) (T.ev_add (x := (F_order_number picture value)) (y := 1) (T.ev_call (T.ev_cons (T.ev_v rfl) (T.ev_cons (T.ev_v rfl) T.ev_nil)) rfl (t_order_number c1 _)) (T.ev_cN 1))) ?_)
    change WP _ _ _ _ (At _ [some ((eT eR) picture), some ((eT eN) value), some (eN index)] _)
    obtain ⟨c3, h⟩ := h
    obtain ⟨c5, h⟩ := h
    exact T.wp_ret (T.ev_ifE (P := (index < (F_count_orders picture))) (e := (eO (eT eN))) (x := (some (F_order_at picture index))) (y := none) (T.ev_bool (T.ev_lt (x := index) (y := (F_count_orders picture)) (T.ev_v rfl) (T.ev_call (T.ev_cons (T.ev_v rfl) T.ev_nil) rfl (t_count_orders c3 _)))) (fun hp => have c4 := c5 hp; (T.ev_unq (e := eN) (xs := (F_order_at picture index)) (T.ev_call (T.ev_cons (T.ev_v rfl) (T.ev_cons (T.ev_v rfl) T.ev_nil)) rfl (t_order_at c4 _)))) (fun hp => (T.ev_c rfl))) ⟨rfl, (if (index < (F_count_orders picture)) then (some (F_order_at picture index)) else none), rfl, h⟩)
  exact ⟨r, q, e1⟩
abbrev P_next_order (p : Pic) (v : List Nat) : Prop := (PicP p ∧ coreQ p = []) ∧ Blocks (layersQ p).reverse v
def F_next_order (p : Pic) (v : List Nat) : Option (List Nat) := if nmA (layersQ p).reverse v 0 + 1 < waysQ p (layersQ p).length then some (unrA (layersQ p).reverse (nmA (layersQ p).reverse v 0 + 1)) else none
theorem ok_next_order {p : Pic} {v : List Nat} (h : P_next_order p v) : V_next_order p v (· = F_next_order p v) := by
  obtain ⟨⟨k, hc⟩, hb⟩ := h
  refine ⟨⟨⟨k, hc⟩, hb⟩, fun i hi => ⟨⟨k, hc⟩, fun hl => ⟨⟨k, hc⟩, hl⟩, ?_⟩⟩
  rw [hi]; rfl
theorem t_next_order {picture : (List Row)} {value : (List Nat)} (hP : P_next_order picture value) (tp : List D) : m_next_order [(eT eR) picture, (eT eN) value] tp = .ok ((eO (eT eN)) (F_next_order picture value)) tp := by
  obtain ⟨r, rfl, e⟩ := snd_next_order picture value (ok_next_order hP) tp
  exact e
end W
set_option maxHeartbeats 1000000
namespace W
open PySem L2 G T
def V_law : Prop := (P_law_free 14) ∧ ∀ free : (List Row), (D_law_free 14 free) → (0 < free.length) ∧ ((free[0]!).length ≤ 1000000) ∧ (P_count_orders free) ∧ ∀ wide : Nat, wide = (free[0]!).length → ∀ many : Nat, many = (F_count_orders free) → (P_layer_ways free) ∧ (many = (F_layer_ways free)) ∧ (cPow ((10 : Nat) : Int) ((9 : Nat) : Int) = true) ∧ (P_law_taken (10 ^ 9)) ∧ ∀ drawn : Nat, (D_law_taken (10 ^ 9) drawn) → ∀ drawn_1 : Nat, (D_law_taken (10 ^ 9) drawn_1) → (cMul ((drawn : Nat) : Int) ((drawn_1 : Nat) : Int) = true) ∧ (0 < many) ∧ ∀ index : Nat, index = ((drawn * drawn_1) % many) → (P_order_at free index) ∧ ∀ told : (List Nat), told = (F_order_at free index) → (P_order_number free told) ∧ (¬((F_order_number free told) ≠ index) → (P_is_order free told)) ∧ (((F_order_number free told) = index) ∧ ((F_is_order free told) = true)) ∧ (P_by_order free.length wide told) ∧ ((F_by_order free.length wide told) = free) ∧ (P_plain free.length wide 1) ∧ (P_painted (F_plain free.length wide 1) told) ∧ (¬((F_painted (F_plain free.length wide 1) told) ≠ free) → (P_plain free.length wide 0) ∧ (P_painted (F_plain free.length wide 0) told)) ∧ (((F_painted (F_plain free.length wide 1) told) = free) ∧ ((F_painted (F_plain free.length wide 0) told) = free)) ∧ (P_next_order free told) ∧ ∀ there : (Option (List Nat)), there = (F_next_order free told) → ((decide (there = none)) = (decide ((index + 1) = many))) ∧ ((there ≠ none) → (there ≠ none) ∧ (¬(LeT (there.getD default) told) → (there ≠ none) ∧ (P_order_number free (there.getD default)))) ∧ (¬((there ≠ none) ∧ ((LeT (there.getD default) told) ∨ ((F_order_number free (there.getD default)) ≠ (index + 1))))) ∧ (P_layers free) ∧ ∃ I45 : Nat → Nat → Prop, I45 0 0 ∧ (∀ (i49 : Nat) (x50 : (List Nat)), (F_layers free)[i49]? = some x50 → ∀ shifts : Nat, I45 i49 shifts → (1 ≤ (shifts + x50.length)) ∧ ∀ shifts_1 : Nat, shifts_1 = ((shifts + x50.length) - 1) → I45 (i49 + 1) shifts_1) ∧ (∀ shifts : Nat, I45 (F_layers free).length shifts → (P_swaps free told) ∧ ((F_swaps free told).length = shifts) ∧ (P_law_taken (free.length + wide)) ∧ ∀ drawn_2 : Nat, (D_law_taken (free.length + wide) drawn_2) → ∀ drawn_3 : Nat, (D_law_taken (free.length + wide) drawn_3) → (P_places free drawn_2) ∧ ∀ pair : (Nat × Nat), pair = (F_places free drawn_2) → (drawn_2 ∈ told) ∧ (¬(¬(pair.1 ≤ (told.idxOf drawn_2) ∧ (told.idxOf drawn_2) ≤ pair.2)) → (P_mean_place free drawn_2) ∧ (P_law_lowered (((pair.1 + pair.2) : Nat) : Int) (2 : Int))) ∧ (((pair.1 ≤ (told.idxOf drawn_2)) ∧ ((told.idxOf drawn_2) ≤ pair.2)) ∧ ((F_mean_place free drawn_2) = (F_law_lowered (((pair.1 + pair.2) : Nat) : Int) (2 : Int)))) ∧ (P_place_shares free drawn_2) ∧ ∀ shares : (List (Int × Int)), shares = (F_place_shares free drawn_2) → ∀ whole : (Int × Int), whole = ((0 : Int), (1 : Int)) → ∀ mean : (Int × Int), mean = ((0 : Int), (1 : Int)) → ((free.length + wide) ≤ 1073741824) ∧ ∃ I79 : Nat → (Int × Int) → (Int × Int) → Prop, I79 0 whole mean ∧ (∀ (i83 : Nat) (x84 : Nat), (List.range (free.length + wide))[i83]? = some x84 → ∀ whole_1 : (Int × Int), ∀ mean_1 : (Int × Int), I79 i83 whole_1 mean_1 → (x84 < shares.length) ∧ (P_law_plus whole_1 (shares[x84]!)) ∧ (cMul ((shares[x84]!).1) ((x84 : Nat) : Int) = true) ∧ (P_law_lowered ((shares[x84]!).1 * ((x84 : Nat) : Int)) ((shares[x84]!).2)) ∧ (P_law_plus mean_1 (F_law_lowered ((shares[x84]!).1 * ((x84 : Nat) : Int)) ((shares[x84]!).2))) ∧ ∀ whole_2 : (Int × Int), whole_2 = (F_law_plus whole_1 (shares[x84]!)) → ∀ mean_2 : (Int × Int), mean_2 = (F_law_plus mean_1 (F_law_lowered ((shares[x84]!).1 * ((x84 : Nat) : Int)) ((shares[x84]!).2))) → I79 (i83 + 1) whole_2 mean_2) ∧ (∀ whole_1 : (Int × Int), ∀ mean_1 : (Int × Int), I79 (List.range (free.length + wide)).length whole_1 mean_1 → (¬(whole_1 ≠ ((1 : Int), (1 : Int))) → (P_mean_place free drawn_2) ∧ (¬(mean_1 ≠ (F_mean_place free drawn_2)) → ((free.length + wide) ≤ 1073741824) ∧ ((List.range (free.length + wide)).length ≤ 1000000) ∧ (∀ x98, x98 ∈ (List.range (free.length + wide)) → (x98 < shares.length)))) ∧ ((whole_1 = ((1 : Int), (1 : Int))) ∧ ((mean_1 = (F_mean_place free drawn_2)) ∧ (((List.range (free.length + wide)).filter fun x98 => decide ((decide ((shares[x98]!).1 > (0 : Int))) ≠ (decide (pair.1 ≤ x98 ∧ x98 ≤ pair.2)))) = []))) ∧ (((drawn_2 = drawn_3) → (P_before_share free drawn_2 drawn_3) ∧ ((F_before_share free drawn_2 drawn_3) = ((0 : Int), (1 : Int)))) ∧ (¬(drawn_2 = drawn_3) → (P_before_share free drawn_2 drawn_3) ∧ (P_before_share free drawn_3 drawn_2) ∧ (P_law_plus (F_before_share free drawn_2 drawn_3) (F_before_share free drawn_3 drawn_2)) ∧ ((F_law_plus (F_before_share free drawn_2 drawn_3) (F_before_share free drawn_3 drawn_2)) = ((1 : Int), (1 : Int)))))))
theorem snd_law (h : V_law) (ns : List Int) (hns : ns.length ≤ 63) : ∃ tp', retR (b_law (some (.scr ns) :: some .tape :: List.replicate 17 none) [.scr ns, .int 0, .int 5330, .int 0]) = .ok (.bl true) tp' := by
  have ht := tape0 ns 5330 hns (by decide) (by decide)
  generalize [D.scr ns, D.int 0, D.int 5330, D.int 0] = tp at ht ⊢
  refine T.wp_law ?_
  unfold V_law at h
  change WP _ _ _ _ (b_law [some (.scr ns), some (.tape), none, none, none, none, none, none, none, none, none, none, none, none, none, none, none, none, none] _)
  unfold b_law
  obtain ⟨c1, h⟩ := h
  obtain ⟨free, t2, e3, k4, p5⟩ := t_law_free ht c1
  replace h := h free p5
  refine T.wp_seq (T.wp_set (T.ev_call (T.ev_cons (T.ev_v rfl) (T.ev_cons (T.ev_cN 14) T.ev_nil)) rfl e3) ?_)
  change WP _ _ _ _ (At _ [some (.scr ns), some (.tape), some ((eT eR) free), none, none, none, none, none, none, none, none, none, none, none, none, none, none, none, none] _)
  obtain ⟨c6, h⟩ := h
  obtain ⟨c7, h⟩ := h
  obtain ⟨c8, h⟩ := h
  obtain ⟨wide, d9⟩ : ∃ wide : Nat, wide = (free[0]!).length := ⟨_, rfl⟩
  replace h := h wide d9
  obtain ⟨many, d10⟩ : ∃ many : Nat, many = (F_count_orders free) := ⟨_, rfl⟩
  replace h := h many d10
  refine T.wp_seq (T.wp_par (T.ev_cons (T.ev_lenT (e := eR) (xs := free) (T.ev_v rfl)) (T.ev_cons (T.ev_as d9 (e := eN) (T.ev_lenR (r := free[0]!) c7 (T.ev_ixT (e := eR) (xs := free) (i := 0) c6 (T.ev_v rfl) (T.ev_cN 0)))) (T.ev_cons (T.ev_as d10 (e := eN) (T.ev_call (T.ev_cons (T.ev_v rfl) T.ev_nil) rfl (t_count_orders c8 _))) T.ev_nil))) rfl ?_)
  change WP _ _ _ _ (At _ [some (.scr ns), some (.tape), some ((eT eR) free), some (eN free.length), some (eN wide), some (eN many), none, none, none, none, none, none, none, none, none, none, none, none, none] _)
  obtain ⟨c11, h⟩ := h
  obtain ⟨hf, h⟩ := h
  refine T.wp_seq (T.wp_if (P := (many ≠ (F_layer_ways free))) (T.ev_bool (T.ev_ne (x := many) (y := (F_layer_ways free)) qN rfl (T.ev_v rfl) (T.ev_call (T.ev_cons (T.ev_v rfl) T.ev_nil) rfl (t_layer_ways c11 _)))) (fun hp => ?_) (fun hn => ?_))
  · exact absurd hp ((fun h0 => h0 (hf)))
  · refine T.wp_skip ?_
    change WP _ _ _ _ (At _ [some (.scr ns), some (.tape), some ((eT eR) free), some (eN free.length), some (eN wide), some (eN many), none, none, none, none, none, none, none, none, none, none, none, none, none] _)
    obtain ⟨c12, h⟩ := h
    obtain ⟨c13, h⟩ := h
    obtain ⟨drawn, t14, e15, k16, p17⟩ := t_law_taken k4 c13
    replace h := h drawn p17
    obtain ⟨drawn_1, t18, e19, k20, p21⟩ := t_law_taken k16 c13
    replace h := h drawn_1 p21
    obtain ⟨c22, h⟩ := h
    obtain ⟨c23, h⟩ := h
    obtain ⟨index, d24⟩ : ∃ index : Nat, index = ((drawn * drawn_1) % many) := ⟨_, rfl⟩
    replace h := h index d24
    refine T.wp_seq (T.wp_set (T.ev_as d24 (e := eN) (T.ev_mod (x := (drawn * drawn_1)) (y := many) c23 (T.ev_mul (x := drawn) (y := drawn_1) c22 (T.ev_call (T.ev_cons (T.ev_v rfl) (T.ev_cons (T.ev_pow (x := 10) (y := 9) c12 (T.ev_cN 10) (T.ev_cN 9)) T.ev_nil)) rfl e15) (T.ev_call (T.ev_cons (T.ev_v rfl) (T.ev_cons (T.ev_pow (x := 10) (y := 9) c12 (T.ev_cN 10) (T.ev_cN 9)) T.ev_nil)) rfl e19)) (T.ev_v rfl))) ?_)
    change WP _ _ _ _ (At _ [some (.scr ns), some (.tape), some ((eT eR) free), some (eN free.length), some (eN wide), some (eN many), some (eN index), none, none, none, none, none, none, none, none, none, none, none, none] _)
    obtain ⟨c25, h⟩ := h
    obtain ⟨told, d26⟩ : ∃ told : (List Nat), told = (F_order_at free index) := ⟨_, rfl⟩
    replace h := h told d26
    refine T.wp_seq (T.wp_set (T.ev_as d26 (e := (eQ eN)) (T.ev_call (T.ev_cons (T.ev_v rfl) (T.ev_cons (T.ev_v rfl) T.ev_nil)) rfl (t_order_at c25 _))) ?_)
    change WP _ _ _ _ (At _ [some (.scr ns), some (.tape), some ((eT eR) free), some (eN free.length), some (eN wide), some (eN many), some (eN index), some ((eQ eN) told), none, none, none, none, none, none, none, none, none, none, none] _)
    obtain ⟨c27, h⟩ := h
    obtain ⟨c29, h⟩ := h
    obtain ⟨hf, h⟩ := h
    refine T.wp_seq (T.wp_if (P := (((F_order_number free told) ≠ index) ∨ ((F_is_order free told) ≠ true))) (T.ev_orT (P := ((F_order_number free told) ≠ index)) (Q := ((F_is_order free told) ≠ true)) (T.ev_bool (T.ev_ne (x := (F_order_number free told)) (y := index) qN rfl (T.ev_call (T.ev_cons (T.ev_v rfl) (T.ev_cons (T.ev_unq (e := eN) (xs := told) (T.ev_v rfl)) T.ev_nil)) rfl (t_order_number c27 _)) (T.ev_v rfl))) (fun hp => have c28 := c29 hp; (T.ev_bool (T.ev_isNotB (x := (F_is_order free told)) (y := true) (T.ev_call (T.ev_cons (T.ev_v rfl) (T.ev_cons (T.ev_unq (e := eN) (xs := told) (T.ev_v rfl)) T.ev_nil)) rfl (t_is_order c28 _)) (T.ev_c rfl))))) (fun hp => ?_) (fun hn => ?_))
    · exact absurd hp ((fun h0 => h0.elim ((fun h0 => h0 ((hf).1))) ((fun h0 => h0 ((hf).2)))))
    · refine T.wp_skip ?_
      change WP _ _ _ _ (At _ [some (.scr ns), some (.tape), some ((eT eR) free), some (eN free.length), some (eN wide), some (eN many), some (eN index), some ((eQ eN) told), none, none, none, none, none, none, none, none, none, none, none] _)
      obtain ⟨c30, h⟩ := h
      obtain ⟨hf, h⟩ := h
      refine T.wp_seq (T.wp_if (P := ((F_by_order free.length wide told) ≠ free)) (T.ev_bool (T.ev_ne (x := (F_by_order free.length wide told)) (y := free) (qT qR) rfl (T.ev_call (T.ev_cons (T.ev_v rfl) (T.ev_cons (T.ev_v rfl) (T.ev_cons (T.ev_unq (e := eN) (xs := told) (T.ev_v rfl)) T.ev_nil))) rfl (t_by_order c30 _)) (T.ev_v rfl))) (fun hp => ?_) (fun hn => ?_))
      · exact absurd hp ((fun h0 => h0 (hf)))
      · refine T.wp_skip ?_
        change WP _ _ _ _ (At _ [some (.scr ns), some (.tape), some ((eT eR) free), some (eN free.length), some (eN wide), some (eN many), some (eN index), some ((eQ eN) told), none, none, none, none, none, none, none, none, none, none, none] _)
        obtain ⟨c31, h⟩ := h
        obtain ⟨c32, h⟩ := h
        obtain ⟨c35, h⟩ := h
        obtain ⟨hf, h⟩ := h
        refine T.wp_seq (T.wp_if (P := (((F_painted (F_plain free.length wide 1) told) ≠ free) ∨ ((F_painted (F_plain free.length wide 0) told) ≠ free))) (T.ev_orT (P := ((F_painted (F_plain free.length wide 1) told) ≠ free)) (Q := ((F_painted (F_plain free.length wide 0) told) ≠ free)) (T.ev_bool (T.ev_ne (x := (F_painted (F_plain free.length wide 1) told)) (y := free) (qT qR) rfl (T.ev_call (T.ev_cons (T.ev_call (T.ev_cons (T.ev_v rfl) (T.ev_cons (T.ev_v rfl) (T.ev_cons (T.ev_cN 1) T.ev_nil))) rfl (t_plain c31 _)) (T.ev_cons (T.ev_listT (e := eN) (xs := told) (T.ev_unq (e := eN) (xs := told) (T.ev_v rfl))) T.ev_nil)) rfl (t_painted c32 _)) (T.ev_v rfl))) (fun hp => match c35 hp with | ⟨c33, c34⟩ => (T.ev_bool (T.ev_ne (x := (F_painted (F_plain free.length wide 0) told)) (y := free) (qT qR) rfl (T.ev_call (T.ev_cons (T.ev_call (T.ev_cons (T.ev_v rfl) (T.ev_cons (T.ev_v rfl) (T.ev_cons (T.ev_cN 0) T.ev_nil))) rfl (t_plain c33 _)) (T.ev_cons (T.ev_listT (e := eN) (xs := told) (T.ev_unq (e := eN) (xs := told) (T.ev_v rfl))) T.ev_nil)) rfl (t_painted c34 _)) (T.ev_v rfl))))) (fun hp => ?_) (fun hn => ?_))
        · exact absurd hp ((fun h0 => h0.elim ((fun h0 => h0 ((hf).1))) ((fun h0 => h0 ((hf).2)))))
        · refine T.wp_skip ?_
          change WP _ _ _ _ (At _ [some (.scr ns), some (.tape), some ((eT eR) free), some (eN free.length), some (eN wide), some (eN many), some (eN index), some ((eQ eN) told), none, none, none, none, none, none, none, none, none, none, none] _)
          obtain ⟨c36, h⟩ := h
          obtain ⟨there, d37⟩ : ∃ there : (Option (List Nat)), there = (F_next_order free told) := ⟨_, rfl⟩
          replace h := h there d37
          refine T.wp_seq (T.wp_set (T.ev_as d37 (e := (eO (eT eN))) (T.ev_call (T.ev_cons (T.ev_v rfl) (T.ev_cons (T.ev_unq (e := eN) (xs := told) (T.ev_v rfl)) T.ev_nil)) rfl (t_next_order c36 _))) ?_)
          change WP _ _ _ _ (At _ [some (.scr ns), some (.tape), some ((eT eR) free), some (eN free.length), some (eN wide), some (eN many), some (eN index), some ((eQ eN) told), some ((eO (eT eN)) there), none, none, none, none, none, none, none, none, none, none] _)
          obtain ⟨hf, h⟩ := h
          refine T.wp_seq (T.wp_if (P := ((decide (there = none)) ≠ (decide ((index + 1) = many)))) (T.ev_bool (T.ev_ne (x := (decide (there = none))) (y := (decide ((index + 1) = many))) qB rfl (T.ev_isNon (x := there) (fun _ => rfl) (T.ev_v rfl) (T.ev_c rfl)) (T.ev_eq (x := (index + 1)) (y := many) qN rfl (T.ev_add (x := index) (y := 1) (T.ev_v rfl) (T.ev_cN 1)) (T.ev_v rfl)))) (fun hp => ?_) (fun hn => ?_))
          · exact absurd hp ((fun h0 => h0 (hf)))
          · refine T.wp_skip ?_
            change WP _ _ _ _ (At _ [some (.scr ns), some (.tape), some ((eT eR) free), some (eN free.length), some (eN wide), some (eN many), some (eN index), some ((eQ eN) told), some ((eO (eT eN)) there), none, none, none, none, none, none, none, none, none, none] _)
            obtain ⟨c42, h⟩ := h
            obtain ⟨hf, h⟩ := h
            refine T.wp_seq (T.wp_if (P := ((there ≠ none) ∧ ((LeT (there.getD default) told) ∨ ((F_order_number free (there.getD default)) ≠ (index + 1))))) (T.ev_andT (P := (there ≠ none)) (Q := ((LeT (there.getD default) told) ∨ ((F_order_number free (there.getD default)) ≠ (index + 1)))) (T.ev_bool (T.ev_isNotNon (x := there) (fun _ => rfl) (T.ev_v rfl) (T.ev_c rfl))) (fun hp => match c42 hp with | ⟨c38, c41⟩ => (T.ev_orT (P := (LeT (there.getD default) told)) (Q := ((F_order_number free (there.getD default)) ≠ (index + 1))) (T.ev_bool (T.ev_leT (xs := (there.getD default)) (ys := told) (T.ev_get (e := (eT eN)) (x := there) c38 (T.ev_v rfl)) (T.ev_unq (e := eN) (xs := told) (T.ev_v rfl)))) (fun hp => match c41 hp with | ⟨c39, c40⟩ => (T.ev_bool (T.ev_ne (x := (F_order_number free (there.getD default))) (y := (index + 1)) qN rfl (T.ev_call (T.ev_cons (T.ev_v rfl) (T.ev_cons (T.ev_get (e := (eT eN)) (x := there) c39 (T.ev_v rfl)) T.ev_nil)) rfl (t_order_number c40 _)) (T.ev_add (x := index) (y := 1) (T.ev_v rfl) (T.ev_cN 1)))))))) (fun hp => ?_) (fun hn => ?_))
            · exact absurd hp (hf)
            · refine T.wp_skip ?_
              change WP _ _ _ _ (At _ [some (.scr ns), some (.tape), some ((eT eR) free), some (eN free.length), some (eN wide), some (eN many), some (eN index), some ((eQ eN) told), some ((eO (eT eN)) there), none, none, none, none, none, none, none, none, none, none] _)
              refine T.wp_seq (T.wp_set (T.ev_cN 0) ?_)
              change WP _ _ _ _ (At _ [some (.scr ns), some (.tape), some ((eT eR) free), some (eN free.length), some (eN wide), some (eN many), some (eN index), some ((eQ eN) told), some ((eO (eT eN)) there), some (eN 0), none, none, none, none, none, none, none, none, none] _)
              obtain ⟨c43, h⟩ := h
              obtain ⟨I45, h46, h47, h48⟩ := h
              refine T.wp_seq (T.wp_for (e := (eT eN)) (xs := (F_layers free)) (ds := fun x50 => [(eT eN) x50]) (fun k env tz => Tape tz ∧ ∃ shifts : Nat, ∃ g44 : Option D, env = [some (.scr ns), some (.tape), some ((eT eR) free), some (eN free.length), some (eN wide), some (eN many), some (eN index), some ((eQ eN) told), some ((eO (eT eN)) there), some (eN shifts), g44, none, none, none, none, none, none, none, none] ∧ I45 k shifts) (T.it_T (e := (eT eN)) (xs := (F_layers free)) (T.ev_call (T.ev_cons (T.ev_v rfl) T.ev_nil) rfl (t_layers c43 _))) (fun _ => rfl) ⟨k20, 0, _, rfl, h46⟩ ?_ ?_)
              · intro i49 x50 env t hk hI
                obtain ⟨k52, shifts, g44, rfl, h⟩ := hI
                replace h := h47 i49 x50 hk shifts h
                change WP _ _ _ _ (At _ [some (.scr ns), some (.tape), some ((eT eR) free), some (eN free.length), some (eN wide), some (eN many), some (eN index), some ((eQ eN) told), some ((eO (eT eN)) there), some (eN shifts), some ((eT eN) x50), none, none, none, none, none, none, none, none] _)
                obtain ⟨c53, h⟩ := h
                obtain ⟨shifts_1, d54⟩ : ∃ shifts_1 : Nat, shifts_1 = ((shifts + x50.length) - 1) := ⟨_, rfl⟩
                replace h := h shifts_1 d54
                refine T.wp_set (T.ev_as d54 (e := eN) (T.ev_sub (x := (shifts + x50.length)) (y := 1) c53 (T.ev_add (x := shifts) (y := x50.length) (T.ev_v rfl) (T.ev_lenT (e := eN) (xs := x50) (T.ev_v rfl))) (T.ev_cN 1))) ?_
                exact ⟨k52, shifts_1, _, rfl, h⟩
              rintro _ t55 ⟨k56, shifts, g44, rfl, h⟩
              replace h := h48 shifts h
              change WP _ _ _ _ (At _ [some (.scr ns), some (.tape), some ((eT eR) free), some (eN free.length), some (eN wide), some (eN many), some (eN index), some ((eQ eN) told), some ((eO (eT eN)) there), some (eN shifts), g44, none, none, none, none, none, none, none, none] _)
              obtain ⟨c57, h⟩ := h
              obtain ⟨hf, h⟩ := h
              refine T.wp_seq (T.wp_if (P := ((F_swaps free told).length ≠ shifts)) (T.ev_bool (T.ev_ne (x := (F_swaps free told).length) (y := shifts) qN rfl (T.ev_lenT (e := eN) (xs := (F_swaps free told)) (T.ev_call (T.ev_cons (T.ev_v rfl) (T.ev_cons (T.ev_unq (e := eN) (xs := told) (T.ev_v rfl)) T.ev_nil)) rfl (t_swaps c57 _))) (T.ev_v rfl))) (fun hp => ?_) (fun hn => ?_))
              · exact absurd hp ((fun h0 => h0 (hf)))
              · refine T.wp_skip ?_
                change WP _ _ _ _ (At _ [some (.scr ns), some (.tape), some ((eT eR) free), some (eN free.length), some (eN wide), some (eN many), some (eN index), some ((eQ eN) told), some ((eO (eT eN)) there), some (eN shifts), g44, none, none, none, none, none, none, none, none] _)
                obtain ⟨c58, h⟩ := h
                obtain ⟨drawn_2, t59, e60, k61, p62⟩ := t_law_taken k56 c58
                replace h := h drawn_2 p62
                obtain ⟨drawn_3, t63, e64, k65, p66⟩ := t_law_taken k61 c58
                replace h := h drawn_3 p66
                refine T.wp_seq (T.wp_par (T.ev_cons (T.ev_call (T.ev_cons (T.ev_v rfl) (T.ev_cons (T.ev_add (x := free.length) (y := wide) (T.ev_v rfl) (T.ev_v rfl)) T.ev_nil)) rfl e60) (T.ev_cons (T.ev_call (T.ev_cons (T.ev_v rfl) (T.ev_cons (T.ev_add (x := free.length) (y := wide) (T.ev_v rfl) (T.ev_v rfl)) T.ev_nil)) rfl e64) T.ev_nil)) rfl ?_)
                change WP _ _ _ _ (At _ [some (.scr ns), some (.tape), some ((eT eR) free), some (eN free.length), some (eN wide), some (eN many), some (eN index), some ((eQ eN) told), some ((eO (eT eN)) there), some (eN shifts), g44, some (eN drawn_2), some (eN drawn_3), none, none, none, none, none, none] _)
                obtain ⟨c67, h⟩ := h
                obtain ⟨pair, d68⟩ : ∃ pair : (Nat × Nat), pair = (F_places free drawn_2) := ⟨_, rfl⟩
                replace h := h pair d68
                refine T.wp_seq (T.wp_unp (ds := [eN pair.1, eN pair.2]) (T.ev_as d68 (e := (eP eN eN)) (T.ev_call (T.ev_cons (T.ev_v rfl) (T.ev_cons (T.ev_v rfl) T.ev_nil)) rfl (t_places c67 _))) rfl ?_)
                change WP _ _ _ _ (At _ [some (.scr ns), some (.tape), some ((eT eR) free), some (eN free.length), some (eN wide), some (eN many), some (eN index), some ((eQ eN) told), some ((eO (eT eN)) there), some (eN shifts), g44, some (eN drawn_2), some (eN drawn_3), some (eN pair.1), some (eN pair.2), none, none, none, none] _)
                obtain ⟨c69, h⟩ := h
                obtain ⟨c72, h⟩ := h
                obtain ⟨hf, h⟩ := h
                refine T.wp_seq (T.wp_if (P := ((¬(pair.1 ≤ (told.idxOf drawn_2) ∧ (told.idxOf drawn_2) ≤ pair.2)) ∨ ((F_mean_place free drawn_2) ≠ (F_law_lowered (((pair.1 + pair.2) : Nat) : Int) (2 : Int))))) (T.ev_orT (P := (¬(pair.1 ≤ (told.idxOf drawn_2) ∧ (told.idxOf drawn_2) ≤ pair.2))) (Q := ((F_mean_place free drawn_2) ≠ (F_law_lowered (((pair.1 + pair.2) : Nat) : Int) (2 : Int)))) (T.ev_notT (P := (pair.1 ≤ (told.idxOf drawn_2) ∧ (told.idxOf drawn_2) ≤ pair.2)) (T.ev_bool (T.ev_chLeLe (x := pair.1) (y := (told.idxOf drawn_2)) (z := pair.2) (T.ev_v rfl) (T.ev_indexT (xs := told) (x := drawn_2) c69 (T.ev_v rfl) (T.ev_v rfl)) (T.ev_v rfl)))) (fun hp => match c72 hp with | ⟨c70, c71⟩ => (T.ev_bool (T.ev_ne (x := (F_mean_place free drawn_2)) (y := (F_law_lowered (((pair.1 + pair.2) : Nat) : Int) (2 : Int))) (qP qZ qZ) rfl (T.ev_call (T.ev_cons (T.ev_v rfl) (T.ev_cons (T.ev_v rfl) T.ev_nil)) rfl (t_mean_place c70 _)) (T.ev_call (T.ev_cons (T.ev_add (x := pair.1) (y := pair.2) (T.ev_v rfl) (T.ev_v rfl)) (T.ev_cons (T.ev_c rfl) T.ev_nil)) rfl (t_law_lowered c71 _)))))) (fun hp => ?_) (fun hn => ?_))
                · exact absurd hp ((fun h0 => h0.elim ((fun h0 => h0 (⟨((hf).1).1, ((hf).1).2⟩))) ((fun h0 => h0 ((hf).2)))))
                · refine T.wp_skip ?_
                  change WP _ _ _ _ (At _ [some (.scr ns), some (.tape), some ((eT eR) free), some (eN free.length), some (eN wide), some (eN many), some (eN index), some ((eQ eN) told), some ((eO (eT eN)) there), some (eN shifts), g44, some (eN drawn_2), some (eN drawn_3), some (eN pair.1), some (eN pair.2), none, none, none, none] _)
                  obtain ⟨c73, h⟩ := h
                  obtain ⟨shares, d74⟩ : ∃ shares : (List (Int × Int)), shares = (F_place_shares free drawn_2) := ⟨_, rfl⟩
                  replace h := h shares d74
                  obtain ⟨whole, d75⟩ : ∃ whole : (Int × Int), whole = ((0 : Int), (1 : Int)) := ⟨_, rfl⟩
                  replace h := h whole d75
                  obtain ⟨mean, d76⟩ : ∃ mean : (Int × Int), mean = ((0 : Int), (1 : Int)) := ⟨_, rfl⟩
                  replace h := h mean d76
                  refine T.wp_seq (T.wp_par (T.ev_cons (T.ev_as d74 (e := (eT (eP eZ eZ))) (T.ev_call (T.ev_cons (T.ev_v rfl) (T.ev_cons (T.ev_v rfl) T.ev_nil)) rfl (t_place_shares c73 _))) (T.ev_cons (T.ev_as d75 (e := (eP eZ eZ)) (T.ev_tup (ds := [eZ (0 : Int), eZ (1 : Int)]) (T.ev_cons (T.ev_c rfl) (T.ev_cons (T.ev_c rfl) T.ev_nil)) rfl)) (T.ev_cons (T.ev_as d76 (e := (eP eZ eZ)) (T.ev_tup (ds := [eZ (0 : Int), eZ (1 : Int)]) (T.ev_cons (T.ev_c rfl) (T.ev_cons (T.ev_c rfl) T.ev_nil)) rfl)) T.ev_nil))) rfl ?_)
                  change WP _ _ _ _ (At _ [some (.scr ns), some (.tape), some ((eT eR) free), some (eN free.length), some (eN wide), some (eN many), some (eN index), some ((eQ eN) told), some ((eO (eT eN)) there), some (eN shifts), g44, some (eN drawn_2), some (eN drawn_3), some (eN pair.1), some (eN pair.2), some ((eT (eP eZ eZ)) shares), some ((eP eZ eZ) whole), some ((eP eZ eZ) mean), none] _)
                  obtain ⟨c77, h⟩ := h
                  obtain ⟨I79, h80, h81, h82⟩ := h
                  refine T.wp_seq (T.wp_for (e := eN) (xs := (List.range (free.length + wide))) (ds := fun x84 => [eN x84]) (fun k env tz => Tape tz ∧ ∃ whole_1 : (Int × Int), ∃ mean_1 : (Int × Int), ∃ g78 : Option D, env = [some (.scr ns), some (.tape), some ((eT eR) free), some (eN free.length), some (eN wide), some (eN many), some (eN index), some ((eQ eN) told), some ((eO (eT eN)) there), some (eN shifts), g44, some (eN drawn_2), some (eN drawn_3), some (eN pair.1), some (eN pair.2), some ((eT (eP eZ eZ)) shares), some ((eP eZ eZ) whole_1), some ((eP eZ eZ) mean_1), g78] ∧ I79 k whole_1 mean_1) (T.it_range (n := (free.length + wide)) c77 (T.ev_add (x := free.length) (y := wide) (T.ev_v rfl) (T.ev_v rfl))) (fun _ => rfl) ⟨k65, whole, mean, _, rfl, h80⟩ ?_ ?_)
                  · intro i83 x84 env t hk hI
                    obtain ⟨k86, whole_1, mean_1, g78, rfl, h⟩ := hI
                    replace h := h81 i83 x84 hk whole_1 mean_1 h
                    change WP _ _ _ _ (At _ [some (.scr ns), some (.tape), some ((eT eR) free), some (eN free.length), some (eN wide), some (eN many), some (eN index), some ((eQ eN) told), some ((eO (eT eN)) there), some (eN shifts), g44, some (eN drawn_2), some (eN drawn_3), some (eN pair.1), some (eN pair.2), some ((eT (eP eZ eZ)) shares), some ((eP eZ eZ) whole_1), some ((eP eZ eZ) mean_1), some (eN x84)] _)
                    obtain ⟨c87, h⟩ := h
                    obtain ⟨c88, h⟩ := h
                    obtain ⟨c89, h⟩ := h
                    obtain ⟨c90, h⟩ := h
                    obtain ⟨c91, h⟩ := h
                    obtain ⟨whole_2, d92⟩ : ∃ whole_2 : (Int × Int), whole_2 = (F_law_plus whole_1 (shares[x84]!)) := ⟨_, rfl⟩
                    replace h := h whole_2 d92
                    obtain ⟨mean_2, d93⟩ : ∃ mean_2 : (Int × Int), mean_2 = (F_law_plus mean_1 (F_law_lowered ((shares[x84]!).1 * ((x84 : Nat) : Int)) ((shares[x84]!).2))) := ⟨_, rfl⟩
                    replace h := h mean_2 d93
                    refine T.wp_par (T.ev_cons (T.ev_as d92 (e := (eP eZ eZ)) (T.ev_call (T.ev_cons (T.ev_v rfl) (T.ev_cons (T.ev_ixT (e := (eP eZ eZ)) (xs := shares) (i := x84) c87 (T.ev_v rfl) (T.ev_v rfl)) T.ev_nil)) rfl (t_law_plus c88 _))) (T.ev_cons (T.ev_as d93 (e := (eP eZ eZ)) (T.ev_call (T.ev_cons (T.ev_v rfl) (T.ev_cons (T.ev_call (T.ev_cons (T.ev_mulZ (x := (shares[x84]!).1) (y := ((x84 : Nat) : Int)) c89 (T.ev_fst (x := shares[x84]!) (T.ev_ixT (e := (eP eZ eZ)) (xs := shares) (i := x84) c87 (T.ev_v rfl) (T.ev_v rfl)) rfl) (T.ev_v rfl)) (T.ev_cons (T.ev_snd (x := shares[x84]!) (T.ev_ixT (e := (eP eZ eZ)) (xs := shares) (i := x84) c87 (T.ev_v rfl) (T.ev_v rfl)) rfl) T.ev_nil)) rfl (t_law_lowered c90 _)) T.ev_nil)) rfl (t_law_plus c91 _))) T.ev_nil)) rfl ?_
                    exact ⟨k86, whole_2, mean_2, _, rfl, h⟩
                  rintro _ t94 ⟨k95, whole_1, mean_1, g78, rfl, h⟩
                  replace h := h82 whole_1 mean_1 h
                  change WP _ _ _ _ (At _ [some (.scr ns), some (.tape), some ((eT eR) free), some (eN free.length), some (eN wide), some (eN many), some (eN index), some ((eQ eN) told), some ((eO (eT eN)) there), some (eN shifts), g44, some (eN drawn_2), some (eN drawn_3), some (eN pair.1), some (eN pair.2), some ((eT (eP eZ eZ)) shares), some ((eP eZ eZ) whole_1), some ((eP eZ eZ) mean_1), g78] _)
                  obtain ⟨c103, h⟩ := h
                  obtain ⟨hf, h⟩ := h
                  refine T.wp_seq (T.wp_if (P := ((whole_1 ≠ ((1 : Int), (1 : Int))) ∨ ((mean_1 ≠ (F_mean_place free drawn_2)) ∨ (((List.range (free.length + wide)).filter fun x98 => decide ((decide ((shares[x98]!).1 > (0 : Int))) ≠ (decide (pair.1 ≤ x98 ∧ x98 ≤ pair.2)))) ≠ [])))) (T.ev_orT (P := (whole_1 ≠ ((1 : Int), (1 : Int)))) (Q := ((mean_1 ≠ (F_mean_place free drawn_2)) ∨ (((List.range (free.length + wide)).filter fun x98 => decide ((decide ((shares[x98]!).1 > (0 : Int))) ≠ (decide (pair.1 ≤ x98 ∧ x98 ≤ pair.2)))) ≠ []))) (T.ev_bool (T.ev_ne (x := whole_1) (y := ((1 : Int), (1 : Int))) (qP qZ qZ) rfl (T.ev_v rfl) (T.ev_tup (ds := [eZ (1 : Int), eZ (1 : Int)]) (T.ev_cons (T.ev_c rfl) (T.ev_cons (T.ev_c rfl) T.ev_nil)) rfl))) (fun hp => match c103 hp with | ⟨c96, c102⟩ => (T.ev_orT (P := (mean_1 ≠ (F_mean_place free drawn_2))) (Q := (((List.range (free.length + wide)).filter fun x98 => decide ((decide ((shares[x98]!).1 > (0 : Int))) ≠ (decide (pair.1 ≤ x98 ∧ x98 ≤ pair.2)))) ≠ [])) (T.ev_bool (T.ev_ne (x := mean_1) (y := (F_mean_place free drawn_2)) (qP qZ qZ) rfl (T.ev_v rfl) (T.ev_call (T.ev_cons (T.ev_v rfl) (T.ev_cons (T.ev_v rfl) T.ev_nil)) rfl (t_mean_place c96 _)))) (fun hp => match c102 hp with | ⟨c97, c99, c101⟩ => (T.ev_bool (T.ev_ne (x := ((List.range (free.length + wide)).filter fun x98 => decide ((decide ((shares[x98]!).1 > (0 : Int))) ≠ (decide (pair.1 ≤ x98 ∧ x98 ≤ pair.2))))) (y := []) (qL qN) rfl (T.ev_compI (e := eN) (xs := (List.range (free.length + wide))) (ds := fun x98 => [eN x98]) (P := fun x98 => ((decide ((shares[x98]!).1 > (0 : Int))) ≠ (decide (pair.1 ≤ x98 ∧ x98 ≤ pair.2)))) (T.it_range (n := (free.length + wide)) c97 (T.ev_add (x := free.length) (y := wide) (T.ev_v rfl) (T.ev_v rfl))) c99 (fun _ => rfl) (fun x98 hx => have c100 := c101 x98 hx; (T.ev_bool (T.ev_ne (x := (decide ((shares[x98]!).1 > (0 : Int)))) (y := (decide (pair.1 ≤ x98 ∧ x98 ≤ pair.2))) qB rfl (T.ev_gtZ (x := (shares[x98]!).1) (y := (0 : Int)) (T.ev_fst (x := shares[x98]!) (T.ev_ixT (e := (eP eZ eZ)) (xs := shares) (i := x98) c100 (T.ev_v rfl) (T.ev_v rfl)) rfl) (T.ev_c rfl)) (T.ev_chLeLe (x := pair.1) (y := x98) (z := pair.2) (T.ev_v rfl) (T.ev_v rfl) (T.ev_v rfl))))) (fun x98 hx hq => (T.ev_v rfl))) (T.ev_lst (ds := []) T.ev_nil rfl))))))) (fun hp => ?_) (fun hn => ?_))
                  · exact absurd hp ((fun h0 => h0.elim ((fun h0 => h0 ((hf).1))) ((fun h0 => h0.elim ((fun h0 => h0 (((hf).2).1))) ((fun h0 => h0 (((hf).2).2)))))))
                  · refine T.wp_skip ?_
                    change WP _ _ _ _ (At _ [some (.scr ns), some (.tape), some ((eT eR) free), some (eN free.length), some (eN wide), some (eN many), some (eN index), some ((eQ eN) told), some ((eO (eT eN)) there), some (eN shifts), g44, some (eN drawn_2), some (eN drawn_3), some (eN pair.1), some (eN pair.2), some ((eT (eP eZ eZ)) shares), some ((eP eZ eZ) whole_1), some ((eP eZ eZ) mean_1), g78] _)
                    refine T.wp_seq (T.wp_if (P := (drawn_2 = drawn_3)) (T.ev_bool (T.ev_eq (x := drawn_2) (y := drawn_3) qN rfl (T.ev_v rfl) (T.ev_v rfl))) (fun hp => ?_) (fun hn => ?_))
                    · replace h := h.1 hp
                      obtain ⟨c104, h⟩ := h
                      exact T.wp_ret (d := .bl true) (Eq.trans ((T.ev_eq (x := (F_before_share free drawn_2 drawn_3)) (y := ((0 : Int), (1 : Int))) (qP qZ qZ) rfl (T.ev_call (T.ev_cons (T.ev_v rfl) (T.ev_cons (T.ev_v rfl) (T.ev_cons (T.ev_v rfl) T.ev_nil))) rfl (t_before_share c104 _)) (T.ev_tup (ds := [eZ (0 : Int), eZ (1 : Int)]) (T.ev_cons (T.ev_c rfl) (T.ev_cons (T.ev_c rfl) T.ev_nil)) rfl))) (T.ev_tt (P := ((F_before_share free drawn_2 drawn_3) = ((0 : Int), (1 : Int)))) (h))) rfl
                    · replace h := h.2 hn
                      refine T.wp_skip ?_
                      change WP _ _ _ _ (At _ [some (.scr ns), some (.tape), some ((eT eR) free), some (eN free.length), some (eN wide), some (eN many), some (eN index), some ((eQ eN) told), some ((eO (eT eN)) there), some (eN shifts), g44, some (eN drawn_2), some (eN drawn_3), some (eN pair.1), some (eN pair.2), some ((eT (eP eZ eZ)) shares), some ((eP eZ eZ) whole_1), some ((eP eZ eZ) mean_1), g78] _)
                      obtain ⟨c105, h⟩ := h
                      obtain ⟨c106, h⟩ := h
                      obtain ⟨c107, h⟩ := h
                      exact T.wp_ret (d := .bl true) (Eq.trans ((T.ev_eq (x := (F_law_plus (F_before_share free drawn_2 drawn_3) (F_before_share free drawn_3 drawn_2))) (y := ((1 : Int), (1 : Int))) (qP qZ qZ) rfl (T.ev_call (T.ev_cons (T.ev_call (T.ev_cons (T.ev_v rfl) (T.ev_cons (T.ev_v rfl) (T.ev_cons (T.ev_v rfl) T.ev_nil))) rfl (t_before_share c105 _)) (T.ev_cons (T.ev_call (T.ev_cons (T.ev_v rfl) (T.ev_cons (T.ev_v rfl) (T.ev_cons (T.ev_v rfl) T.ev_nil))) rfl (t_before_share c106 _)) T.ev_nil)) rfl (t_law_plus c107 _)) (T.ev_tup (ds := [eZ (1 : Int), eZ (1 : Int)]) (T.ev_cons (T.ev_c rfl) (T.ev_cons (T.ev_c rfl) T.ev_nil)) rfl))) (T.ev_tt (P := ((F_law_plus (F_before_share free drawn_2 drawn_3) (F_before_share free drawn_3 drawn_2)) = ((1 : Int), (1 : Int)))) (h))) rfl
end W
set_option maxHeartbeats 1000000
namespace W
open PySem L2 G T
section
variable {p q : Pic} {v : List Nat}
/-- an order of all lines paints its picture, whatever stood there -/
theorem paint_all (k : Like p q) (hc : coreQ q = []) (b : Blocks (layersQ q).reverse v) : linesQ p v = q := by
  have e : linesQ p ([] ++ backQ q (layersQ q).length) = q := back_makes k (Nat.le_refl _) (fun l hl => by cases hl) fun c hc' => .inl (by
    obtain ⟨c1, _, _⟩ := mem_diff.mp hc'
    rw [List.nil_append, back_all, (flat_perm (List.reverse_perm (layersQ q))).mem_iff]
    rw [k.hh] at c1
    exact (free_perm hc).mem_iff.mpr (List.mem_range.mpr (by omega)))
  rw [List.nil_append, back_all] at e
  have A := k.sd v
  have B := k.sd (layersQ q).reverse.flatten
  refine Eq.trans (pic_ext A.pp B.pp (A.hh.trans B.hh.symm) (A.ww.trans B.ww.symm) fun i j hi hj => ?_) e
  rw [A.hh, ← k.hh] at hi
  rw [A.ww, ← k.ww] at hj
  rw [linesQ_get k.pp hi hj, linesQ_get k.pp hi hj, b.hits hi fun s hs => ?_]
  rw [k.hh]
  rcases (layersQ_layer s (List.mem_reverse.mp hs)).2.2 with z | z
  · exact .inl z
  · exact .inr fun l hl => (z l hl).1
def swN (h : Nat) : List Nat → Nat
  | x :: y :: r => (if decide (x < h) = decide (y < h) then 1 else 0) + swN h (y :: r)
  | _ => 0
theorem sw_filter (h : Nat) : ∀ v : List Nat, ((List.range (v.length - 1)).filter fun x => decide ((decide (v[x]! < h)) = (decide (v[x + 1]! < h)))).length = swN h v
  | [] => rfl
  | [x] => rfl
  | x :: y :: r => by
    have ih := sw_filter h (y :: r)
    show ((List.range (r.length + 1)).filter _).length = (if decide (x < h) = decide (y < h) then 1 else 0) + swN h (y :: r)
    have ih : ((List.range r.length).filter fun i => decide ((decide ((y :: r)[i]! < h)) = (decide ((y :: r)[i + 1]! < h)))).length = swN h (y :: r) := ih
    rw [List.range_succ_eq_map, List.filter_cons, List.filter_map, ← ih]
    by_cases z : decide (x < h) = decide (y < h)
    · rw [if_pos (decide_eq_true (by exact z)), if_pos z, List.length_cons, List.length_map, Nat.add_comm]; rfl
    · rw [if_neg (by simpa using z), if_neg z, List.length_map, Nat.zero_add]; rfl
theorem sw_block {h : Nat} {k : Bool} : ∀ (a w : List Nat), a ≠ [] → (∀ l ∈ a, decide (l < h) = k) → (∀ y r, w = y :: r → decide (y < h) ≠ k) → swN h (a ++ w) + 1 = a.length + swN h w
  | [], _, ne, _, _ => (ne rfl).elim
  | [x], [], _, _, _ => rfl
  | [x], y :: r, _, ha, hw => by
    have h1 := ha x List.mem_cons_self
    have h2 := hw y r rfl
    show (if decide (x < h) = decide (y < h) then 1 else 0) + swN h (y :: r) + 1 = 1 + swN h (y :: r)
    rw [if_neg (fun e => h2 (e.symm.trans h1))]; omega
  | x :: x2 :: a, w, _, ha, hw => by
    have ih := sw_block (x2 :: a) w (by simp) (fun l hl => ha l (List.mem_cons_of_mem _ hl)) hw
    have h1 := ha x List.mem_cons_self
    have h2 := ha x2 (List.mem_cons_of_mem _ List.mem_cons_self)
    show (if decide (x < h) = decide (x2 < h) then 1 else 0) + swN h ((x2 :: a) ++ w) + 1 = (x2 :: a).length + 1 + swN h w
    rw [if_pos (h1.trans h2.symm)]; omega
theorem sw_blocks {h : Nat} {M : List (List Nat)} {v : List Nat} (b : Blocks M v) : ∀ {k : Bool}, Alt h k M → swN h v + M.length = v.length ∧ ∀ y r, v = y :: r → decide (y < h) = k := by
  induction b with
  | nil => exact fun {k} _ => ⟨rfl, fun y r e => by cases e⟩
  | @cons s v w L pm _ ih =>
    intro k ha
    obtain ⟨ne, hk, ha2⟩ := ha
    obtain ⟨i1, i2⟩ := ih ha2
    have vne : v ≠ [] := fun e => by rw [e] at pm; exact ne (List.nil_perm.mp pm)
    have vk : ∀ l ∈ v, decide (l < h) = k := fun l hl => hk l (pm.mem_iff.mp hl)
    have sb := sw_block v w vne vk fun y r e z => by
      have := i2 y r e
      rw [z] at this
      cases k <;> cases this
    refine ⟨?_, fun y r e => ?_⟩
    · rw [List.length_cons, List.length_append]; omega
    · cases v with
      | nil => exact (vne rfl).elim
      | cons a v => cases e; exact vk _ List.mem_cons_self
theorem idx_blocks {M : List (List Nat)} {v : List Nat} (b : Blocks M v) : ∀ {m l : Nat}, M.flatten.Nodup → m < M.length → l ∈ M[m]! → (M.take m).flatten.length ≤ v.idxOf l ∧ v.idxOf l < (M.take m).flatten.length + (M[m]!).length := by
  induction b with
  | nil => exact fun {m l} _ hm _ => absurd hm (Nat.not_lt_zero _)
  | @cons s v w L pm bw ih =>
    intro m l nd hm hl
    have vl := pm.length_eq
    rw [List.flatten_cons] at nd
    obtain ⟨n1, n2, n3⟩ := List.nodup_append.mp nd
    cases m with
    | zero =>
      have hl : l ∈ s := hl
      have lv : l ∈ v := pm.mem_iff.mpr hl
      have := List.idxOf_lt_length_iff.mpr lv
      refine ⟨Nat.zero_le _, ?_⟩
      show _ < 0 + s.length
      rw [List.idxOf_append, if_pos lv]; omega
    | succ m =>
      have hl : l ∈ L[m]! := hl
      have hm : m < L.length := by rw [List.length_cons] at hm; omega
      obtain ⟨a, b⟩ := ih n2 hm hl
      have lv : l ∉ v := fun z => n3 l (pm.mem_iff.mp z) l (flat_mem hm hl) rfl
      rw [List.idxOf_append, if_neg lv, List.take_succ_cons, List.flatten_cons, List.length_append]
      show _ ∧ _ < _ + (L[m]!).length
      omega
theorem rev_get {L : List (List Nat)} {i : Nat} (h : i < L.length) : L.reverse[L.length - 1 - i]! = L[i]! := by
  rw [getElem!_pos L.reverse _ (by rw [List.length_reverse]; omega), List.getElem_reverse, getElem!_pos L i h]
  congr 1; omega
theorem idx_place (hc : coreQ q = []) (b : Blocks (layersQ q).reverse v) {l : Nat} (hl : l < q.length + q[0]!.length) : l ∈ v ∧ (F_places q l).1 ≤ v.idxOf l ∧ v.idxOf l ≤ (F_places q l).2 := by
  obtain ⟨f1, f2⟩ := free_at hc hl
  have nd : (layersQ q).reverse.flatten.Nodup := back_nodup layers_nodup
  have f3 := f2
  rw [← rev_get f1] at f3
  obtain ⟨a, c⟩ := idx_blocks b nd (by rw [List.length_reverse]; omega) f3
  rw [rev_get f1] at c
  have e : ((layersQ q).reverse.take ((layersQ q).length - 1 - atL (layersQ q) l)).flatten.length = behindQ q (atL (layersQ q) l + 1) := by
    have e1 : (layersQ q).reverse.take ((layersQ q).length - 1 - atL (layersQ q) l) = ((layersQ q).drop (atL (layersQ q) l + 1)).reverse := by
      rw [List.take_reverse]
      congr 2
      omega
    rw [e1, (flat_perm (List.reverse_perm _)).length_eq]
    have e2 := free_ahead hc
    have e3 : ((layersQ q).take (atL (layersQ q) l + 1)).flatten.length + ((layersQ q).drop (atL (layersQ q) l + 1)).flatten.length = (layersQ q).flatten.length := by
      rw [← List.length_append, ← List.flatten_append, List.take_append_drop]
    have e4 : aheadQ q (layersQ q).length = (layersQ q).flatten.length := by unfold aheadQ; rw [List.take_length]
    unfold behindQ
    show _ = _ - ((layersQ q).take (atL (layersQ q) l + 1)).flatten.length
    omega
  rw [e] at a c
  refine ⟨(order_perm hc b).mem_iff.mpr (List.mem_range.mpr hl), a, ?_⟩
  show _ ≤ behindQ q (atL (layersQ q) l + 1) + _ - 1
  omega
end
def FineK (x : Int × Int) : Prop := Lg x.1 4000 ∧ Lg x.2 4000 ∧ 0 < x.2
theorem fineK_low {a b : Nat} (ha : a < 2 ^ 20) (hb : b < 2 ^ 20) (h0 : 0 < b) : FineK (low (a : Int) (b : Int)) := (rat_mk (n := 20) (by omega) (Lg.nat ha) (Lg.nat hb)).ok (by omega)
theorem plusK_low {a c b : Nat} (ha : a < 2 ^ 20) (hc : c < 2 ^ 20) (hb : b < 2 ^ 20) (h0 : 0 < b) : F_law_plus (low (a : Int) (b : Int)) (low (c : Int) (b : Int)) = low ((a + c : Nat) : Int) (b : Int) := by
  have e := (rat_mk (n := 20) (show (0 : Int) < (b : Int) by omega) (Lg.nat ha) (Lg.nat hb)).plus (rat_mk (n := 20) (show (0 : Int) < (b : Int) by omega) (Lg.nat hc) (Lg.nat hb))
  show low _ _ = _
  rw [e]
  refine low_eq (Int.mul_pos (by omega) (by omega)) (by omega) ?_
  rw [Int.natCast_add, ← Int.add_mul, Int.mul_assoc]
theorem timesK_low {a b x : Nat} (h0 : 0 < b) : low ((low (a : Int) (b : Int)).1 * (x : Int)) (low (a : Int) (b : Int)).2 = low ((a * x : Nat) : Int) (b : Int) := by
  have hb : (0 : Int) < (b : Int) := by omega
  obtain ⟨g, g0, e1, e2⟩ := low_spec (a := (a : Int)) hb
  refine low_eq (low_pos hb) hb ?_
  generalize (low (a : Int) (b : Int)).1 = s at *
  generalize (low (a : Int) (b : Int)).2 = t at *
  rw [Int.natCast_mul, e1, e2]
  rw [Int.mul_assoc, Int.mul_assoc, Int.mul_assoc]
  rw [Int.mul_comm s (x * (g * t)), Int.mul_comm g (s * (x * t)), Int.mul_comm s (x * t)]
  rw [Int.mul_assoc, Int.mul_assoc, Int.mul_assoc, Int.mul_assoc, Int.mul_comm s g, ← Int.mul_assoc t g s, Int.mul_comm t g, Int.mul_assoc g t s]
def dlt (lo hi x : Nat) : Nat := if lo ≤ x ∧ x ≤ hi then 1 else 0
theorem dlt_sums {lo hi : Nat} (h : lo ≤ hi + 1) : ∀ n, (n ≤ lo → su (dlt lo hi) n = 0 ∧ su (fun x => dlt lo hi x * x) n = 0) ∧ (lo ≤ n → n ≤ hi + 1 → su (dlt lo hi) n = n - lo ∧ 2 * su (fun x => dlt lo hi x * x) n + lo * lo + n = n * n + lo) ∧
    (hi + 1 ≤ n → su (dlt lo hi) n = hi + 1 - lo ∧ 2 * su (fun x => dlt lo hi x * x) n + lo * lo + (hi + 1) = (hi + 1) * (hi + 1) + lo) := by
  intro n
  induction n with
  | zero =>
    refine ⟨fun _ => ⟨rfl, rfl⟩, fun h1 _ => ?_, fun h1 => by omega⟩
    have : lo = 0 := by omega
    subst this
    exact ⟨rfl, rfl⟩
  | succ n ih =>
    obtain ⟨i1, i2, i3⟩ := ih
    have s1 : su (dlt lo hi) (n + 1) = su (dlt lo hi) n + dlt lo hi n := rfl
    have s2 : su (fun x => dlt lo hi x * x) (n + 1) = su (fun x => dlt lo hi x * x) n + dlt lo hi n * n := rfl
    rw [s1, s2]
    have sq : (n + 1) * (n + 1) = n * n + n + n + 1 := by rw [Nat.add_mul, Nat.mul_add, Nat.mul_add]; omega
    by_cases c1 : n < lo
    · have d : dlt lo hi n = 0 := if_neg (by omega)
      obtain ⟨a, b⟩ := i1 (by omega)
      rw [d, a, b]
      refine ⟨fun _ => ⟨rfl, by omega⟩, fun h1 h2 => ?_, fun h1 => ?_⟩
      · have e : lo = n + 1 := by omega
        subst e
        refine ⟨by omega, by omega⟩
      · have e : lo = n + 1 := by omega
        have e2 : hi = n := by omega
        subst e e2
        refine ⟨by omega, by omega⟩
    · by_cases c2 : n ≤ hi
      · have d : dlt lo hi n = 1 := if_pos ⟨by omega, c2⟩
        obtain ⟨a, b⟩ := i2 (by omega) (by omega)
        rw [d, a]
        refine ⟨fun h1 => by omega, fun h1 h2 => ⟨by omega, by rw [sq]; omega⟩, fun h1 => ?_⟩
        have e : hi = n := by omega
        subst e
        exact ⟨by omega, by rw [sq]; omega⟩
      · have d : dlt lo hi n = 0 := if_neg (by omega)
        obtain ⟨a, b⟩ := i3 (by omega)
        rw [d, a]
        refine ⟨fun h1 => by omega, fun h1 h2 => by omega, fun _ => ⟨by omega, by omega⟩⟩
theorem dlt_le (lo hi x : Nat) : dlt lo hi x ≤ 1 := by unfold dlt; split <;> omega
theorem su_lin {f : Nat → Nat} {c : Nat} : ∀ {n : Nat}, (∀ x, x < n → f x ≤ c) → su f n ≤ n * c
  | 0, _ => Nat.zero_le _
  | n + 1, h => by
    have ih := su_lin (f := f) (c := c) (n := n) fun x hx => h x (by omega)
    have h1 := h n (by omega)
    show su f n + f n ≤ (n + 1) * c
    rw [Nat.add_mul]; omega
theorem ok_law : V_law := by
  refine ⟨⟨by omega, by omega⟩, fun q hq => ?_⟩
  obtain ⟨k, hc, q1, q2⟩ := hq
  have h1 := k.h1; have h30 := k.h30; have w1 := k.w1; have w30 := k.w30
  refine ⟨h1, by omega, ⟨k, hc⟩, fun wide ew many em => ?_⟩
  subst ew
  have em : many = waysQ q (layersQ q).length := em
  have mf : many = fcs (layersQ q).reverse := em.trans (ways_fcs q)
  have mpos : 0 < many := by rw [mf]; exact fcs_pos _
  have asc : ∀ s ∈ (layersQ q).reverse, s.Pairwise (· < ·) := fun s hs => (layersQ_layer s (List.mem_reverse.mp hs)).2.1
  have nds : ∀ s ∈ (layersQ q).reverse, s.Nodup := fun s hs => (asc s hs).imp fun h => Nat.ne_of_lt h
  have num : ∀ x, x < many → nmA (layersQ q).reverse (unrA (layersQ q).reverse x) 0 = x := fun x hx => by
    rw [nmA_unrA _ _ _ nds (by rw [← mf]; exact hx)]; omega
  have blk : ∀ x, x < many → Blocks (layersQ q).reverse (unrA (layersQ q).reverse x) := fun x hx => unrA_blocks _ _ (by rw [← mf]; exact hx)
  refine ⟨⟨k, hc⟩, em, by decide, ⟨by decide, by decide⟩, fun d1 hd1 d2 hd2 => ⟨?_, mpos, fun index ei => ?_⟩⟩
  · have hd1 : d1 < 10 ^ 9 := hd1
    have hd2 : d2 < 10 ^ 9 := hd2
    exact cMul_nat (n := 30) (m := 30) (by omega) (by omega) (by omega) (by omega) (by omega)
  have il : index < many := by rw [ei]; exact Nat.mod_lt _ mpos
  refine ⟨⟨⟨k, hc⟩, by rw [← em]; exact il⟩, fun told et => ?_⟩
  have et : told = unrA (layersQ q).reverse index := et
  have bt := blk index il
  rw [← et] at bt
  have nt := num index il
  rw [← et] at nt
  have pm := order_perm hc bt
  have tl := pm.length_eq
  rw [List.length_range] at tl
  have io := is_order_blocks k hc bt
  have pl : ∀ b, P_plain q.length q[0]!.length b ↔ b ≤ 1 := fun b => ⟨fun h => h.2.2, fun h => ⟨⟨h1, h30⟩, ⟨w1, w30⟩, h⟩⟩
  have plk : ∀ b, Like (F_plain q.length q[0]!.length b) q := fun b => by
    have l1 : (F_plain q.length q[0]!.length b).length = q.length := List.length_replicate
    have r0 : (F_plain q.length q[0]!.length b)[0]!.length = q[0]!.length := by
      unfold F_plain plainQ
      rw [getElem!_pos _ 0 (by rw [List.length_replicate]; exact h1), List.getElem_replicate, List.length_replicate]
    refine ⟨⟨fun r hr => ?_, by rw [l1]; exact h1, by rw [l1]; exact h30, by rw [r0]; exact w1, by rw [r0]; exact w30⟩, k, l1, r0⟩
    rw [r0, (List.mem_replicate.mp hr).2, List.length_replicate]
  have pp : ∀ b, P_painted (F_plain q.length q[0]!.length b) told := fun b => ⟨(plk b).pp, by omega, fun x hx => by
    rw [(plk b).hh, (plk b).ww]
    exact List.mem_range.mp (pm.mem_iff.mp hx)⟩
  have pa : ∀ b, F_painted (F_plain q.length q[0]!.length b) told = q := fun b => paint_all (plk b) hc bt
  refine ⟨⟨⟨k, hc⟩, bt⟩, fun _ => ⟨⟨k, hc⟩, by omega⟩, ⟨nt, io⟩, ⟨⟨⟨h1, h30⟩, w1, w30⟩, pm⟩, order_made k hc bt, (pl 1).mpr (by omega), pp 1, fun _ => ⟨(pl 0).mpr (by omega), pp 0⟩, ⟨pa 1, pa 0⟩, ⟨⟨k, hc⟩, bt⟩, fun there eth => ?_⟩
  have eth : there = if index + 1 < many then some (unrA (layersQ q).reverse (index + 1)) else none := by
    rw [eth]
    unfold F_next_order
    rw [nt, ← em]
  have key : ∀ t, there = some t → index + 1 < many ∧ t = unrA (layersQ q).reverse (index + 1) := fun t h => by
    rw [eth] at h
    by_cases z : index + 1 < many
    · rw [if_pos z] at h; exact ⟨z, (Option.some.inj h).symm⟩
    · rw [if_neg z] at h; cases h
  have get : there ≠ none → ∃ t, there = some t := fun ne => Option.ne_none_iff_exists'.mp ne
  refine ⟨?_, fun ne => ?_, fun ⟨ne, z⟩ => ?_, k, fun i s => s + i = aheadQ q i, rfl, fun i x hx s hs => ?_, fun s hs => ?_⟩
  · rw [eth]
    by_cases z : index + 1 < many
    · rw [if_pos z]
      have : ¬index + 1 = many := by omega
      simp [this]
    · rw [if_neg z]
      have : index + 1 = many := by omega
      simp [this]
  · obtain ⟨t, e⟩ := get ne
    obtain ⟨x1, x2⟩ := key t e
    refine ⟨ne, fun _ => ⟨ne, ⟨k, hc⟩, ?_⟩⟩
    rw [e]
    show Blocks _ t
    rw [x2]
    exact blk _ x1
  · obtain ⟨t, e⟩ := get ne
    obtain ⟨x1, x2⟩ := key t e
    rw [e] at z
    rcases z with z | z
    · have z : lexN t told = true := z
      rw [x2, et, unrA_lt _ _ _ asc (Nat.lt_succ_self index) (by rw [← mf]; exact x1)] at z
      cases z
    · refine z ?_
      show nmA _ t 0 = index + 1
      rw [x2]
      exact num _ x1
  · obtain ⟨ex, hi⟩ := get?_get! hx
    have ex : x = (layersQ q)[i]! := ex
    have hi : i < (layersQ q).length := hi
    have xp : 0 < x.length := by rw [ex]; exact List.length_pos_iff.mpr (layersQ_layer _ (mem_get! hi)).1
    have hs : s + i = aheadQ q i := hs
    have as := aheadQ_succ hi
    rw [← ex] at as
    refine ⟨by omega, fun s2 hs2 => ?_⟩
    show s2 + (i + 1) = aheadQ q (i + 1)
    omega
  have hs : s + (layersQ q).length = aheadQ q (layersQ q).length := hs
  have fa := free_ahead hc
  obtain ⟨kd, al⟩ := alt_layers q
  obtain ⟨kr, ar⟩ := al.rev
  have sb := (sw_blocks bt ar).1
  rw [List.length_reverse] at sb
  have sl : (F_swaps q told).length = s := by
    have := sw_filter q.length told
    show ((List.range (told.length - 1)).filter _).length = s
    rw [this]; omega
  refine ⟨⟨⟨k, hc⟩, bt⟩, sl, ⟨by omega, by omega⟩, fun line hline other hother => ?_⟩
  have hline : line < q.length + q[0]!.length := hline
  have hother : other < q.length + q[0]!.length := hother
  obtain ⟨p1, p2, p3⟩ := idx_place hc bt hline
  refine ⟨⟨⟨k, hc⟩, hline⟩, fun pair epair => ?_⟩
  have epair : pair = F_places q line := epair
  obtain ⟨s1, s2, s3, s4⟩ := places_sum hc hline
  rw [← epair] at s1 s4 p2 p3
  generalize hm : ((layersQ q)[atL (layersQ q) line]!).length = m at s1 s2 s4
  obtain ⟨lo, hi⟩ := pair
  simp only at s1 s4 p2 p3
  have hiN : hi < q.length + q[0]!.length := by omega
  have lom : lo + m = hi + 1 := by omega
  have m20 : m < 2 ^ 20 := by omega
  have mean : F_mean_place q line = low ((lo + hi : Nat) : Int) 2 := by
    unfold F_mean_place
    rw [← epair]
  refine ⟨p1, fun _ => ⟨⟨⟨k, hc⟩, hline⟩, (Lg.nat (n := 20) (by omega)).mono (by omega), (Lg.nat (x := 2) (n := 20) (by decide)).mono (by omega), by decide⟩, ⟨⟨p2, p3⟩, mean⟩, ⟨⟨k, hc⟩, hline⟩, fun shares eshares whole ewhole mn emn => ?_⟩
  have sl2 : shares.length = q.length + q[0]!.length := by rw [eshares]; unfold F_place_shares; rw [List.length_map, List.length_range]
  have sh : ∀ x, x < q.length + q[0]!.length → shares[x]! = low ((dlt lo hi x : Nat) : Int) (m : Int) := fun x hx => by
    rw [eshares]
    unfold F_place_shares
    rw [get!_map' _ (by rw [List.length_range]; exact hx), get!_range hx, ← epair, hm]
    unfold dlt
    by_cases z : lo ≤ x ∧ x ≤ hi
    · rw [if_pos z, if_pos z]; rfl
    · rw [if_neg z, if_neg z]
      exact (low_zero (by omega)).symm
  have b1 : ∀ n, n ≤ 60 → su (dlt lo hi) n ≤ 60 := fun n hn => by
    have := su_lin (f := dlt lo hi) (c := 1) (n := n) fun x _ => dlt_le lo hi x
    omega
  have b2 : ∀ n, n ≤ 60 → su (fun x => dlt lo hi x * x) n ≤ 3600 := fun n hn => by
    have := su_lin (f := fun x => dlt lo hi x * x) (c := 60) (n := n) fun x hx => by
      have := Nat.mul_le_mul (dlt_le lo hi x) (show x ≤ 60 by omega)
      show dlt lo hi x * x ≤ 60
      omega
    have := Nat.mul_le_mul hn (Nat.le_refl 60)
    omega
  refine ⟨by omega, fun i w mn => w = low ((su (dlt lo hi) i : Nat) : Int) (m : Int) ∧ mn = low ((su (fun x => dlt lo hi x * x) i : Nat) : Int) (m : Int), ⟨?_, ?_⟩, fun i x hx w mn hI => ?_, fun w mn hI => ?_⟩
  · rw [ewhole]; exact (low_zero (by omega)).symm
  · rw [emn]; exact (low_zero (by omega)).symm
  · obtain ⟨ex, hx⟩ := range_get hx
    subst ex
    obtain ⟨i1, i2⟩ := hI
    have d1 := dlt_le lo hi x
    have c1 := b1 x (by omega)
    have c2 := b2 x (by omega)
    have dx := Nat.mul_le_mul d1 (show x ≤ 60 by omega)
    have R := rat_mk (n := 20) (show (0 : Int) < (m : Int) by omega) (Lg.nat (x := dlt lo hi x) (by omega)) (Lg.nat m20)
    have tl := timesK_low (a := dlt lo hi x) (b := m) (x := x) s2
    rw [sh x hx, i1, i2]
    have fl : F_law_lowered ((low ((dlt lo hi x : Nat) : Int) (m : Int)).1 * (x : Int)) (low ((dlt lo hi x : Nat) : Int) (m : Int)).2 = low ((dlt lo hi x * x : Nat) : Int) (m : Int) := tl
    have lx : Lg ((x : Nat) : Int) 20 := Lg.nat (by omega)
    rw [fl]
    refine ⟨by omega, ⟨fineK_low (by omega) m20 s2, fineK_low (by omega) m20 s2⟩, cMul_lg R.lg.1 lx (by omega) (by omega) (by omega), ⟨(R.lg.1.mul lx).mono (by omega), R.lg.2.mono (by omega), R.pos⟩, ⟨fineK_low (by omega) m20 s2, fineK_low (by omega) m20 s2⟩, fun w2 hw2 mn2 hmn2 => ⟨?_, ?_⟩⟩
    · rw [hw2]
      exact plusK_low (by omega) (by omega) m20 s2
    · rw [hmn2]
      exact plusK_low (by omega) (by omega) m20 s2
  obtain ⟨i1, i2⟩ := hI
  rw [List.length_range] at i1 i2
  obtain ⟨t1, t2⟩ := (dlt_sums (lo := lo) (hi := hi) (by omega) (q.length + q[0]!.length)).2.2 (by omega)
  rw [t1, show hi + 1 - lo = m by omega] at i1
  have w1' : w = (1, 1) := by rw [i1]; exact low_self (by omega)
  have mn1 : mn = F_mean_place q line := by
    rw [i2, mean]
    refine low_eq (by omega) (by decide) ?_
    have e1 : 2 * su (fun x => dlt lo hi x * x) (q.length + q[0]!.length) = (lo + hi) * m := by
      obtain ⟨c, rfl⟩ : ∃ c, m = c + 1 := ⟨m - 1, by omega⟩
      have eh : hi = lo + c := by omega
      subst eh
      have x1 : (lo + c + 1) * (lo + c + 1) = lo * lo + 2 * (lo * (c + 1)) + (c + 1) * (c + 1) := by
        rw [show lo + c + 1 = lo + (c + 1) by omega]
        generalize c + 1 = d
        rw [Nat.add_mul, Nat.mul_add, Nat.mul_add, Nat.mul_comm d lo]; omega
      have x2 : (lo + (lo + c)) * (c + 1) = 2 * (lo * (c + 1)) + c * (c + 1) := by
        rw [Nat.add_mul, Nat.add_mul]; omega
      have x3 : (c + 1) * (c + 1) = c * (c + 1) + (c + 1) := by rw [Nat.add_mul c 1, Nat.one_mul]
      rw [x1, x3] at t2
      rw [x2]
      generalize lo * lo = A at *
      generalize lo * (c + 1) = B at *
      generalize c * (c + 1) = C at *
      omega
    have e2 : ((2 * su (fun x => dlt lo hi x * x) (q.length + q[0]!.length) : Nat) : Int) = (((lo + hi) * m : Nat) : Int) := by rw [e1]
    rw [Int.natCast_mul, Int.natCast_mul] at e2
    rw [Int.mul_comm]
    exact e2
  refine ⟨fun _ => ⟨⟨⟨k, hc⟩, hline⟩, fun _ => ⟨by omega, by rw [List.length_range]; omega, fun x hx => by have := List.mem_range.mp hx; omega⟩⟩, ⟨w1', mn1, ?_⟩, fun e => ?_, fun ne => ?_⟩
  · refine List.filter_eq_nil_iff.mpr fun x hx z => of_decide_eq_true z ?_
    have hx := List.mem_range.mp hx
    rw [sh x hx]
    unfold dlt
    obtain ⟨c, hcm⟩ : ∃ c, m = c + 1 := ⟨m - 1, by omega⟩
    by_cases y : lo ≤ x ∧ x ≤ hi
    · rw [if_pos y, hcm, show ((1 : Nat) : Int) = 1 from rfl, low_one, decide_eq_true y]; rfl
    · rw [if_neg y, decide_eq_false y, show ((0 : Nat) : Int) = 0 from rfl, low_zero (by omega)]; rfl
  · subst e
    refine ⟨⟨⟨k, hc⟩, hline, hline⟩, ?_⟩
    unfold F_before_share
    rw [if_pos rfl, if_neg (by simp)]
  · have F : ∀ x : Int × Int, x = (0, 1) ∨ x = (1, 1) ∨ x = (1, 2) → Lg x.1 4000 ∧ Lg x.2 4000 ∧ 0 < x.2 := fun x hx => by
      rcases hx with e | e | e <;> subst e
      · exact ⟨(Lg.nat (x := 0) (n := 2) (by decide)).mono (by omega), (Lg.nat (x := 1) (n := 2) (by decide)).mono (by omega), by decide⟩
      · exact ⟨(Lg.nat (x := 1) (n := 2) (by decide)).mono (by omega), (Lg.nat (x := 1) (n := 2) (by decide)).mono (by omega), by decide⟩
      · exact ⟨(Lg.nat (x := 1) (n := 2) (by decide)).mono (by omega), (Lg.nat (x := 2) (n := 2) (by decide)).mono (by omega), by decide⟩
    have B : ∀ a b, F_before_share q a b = (0, 1) ∨ F_before_share q a b = (1, 1) ∨ F_before_share q a b = (1, 2) ∨ F_before_share q a b = (0, 1) := fun a b => by
      unfold F_before_share
      split
      · split
        · exact .inr (.inr (.inl rfl))
        · exact .inl rfl
      · split
        · exact .inl rfl
        · exact .inr (.inl rfl)
    have B' : ∀ a b, F_before_share q a b = (0, 1) ∨ F_before_share q a b = (1, 1) ∨ F_before_share q a b = (1, 2) := fun a b => by
      rcases B a b with e | e | e | e
      · exact .inl e
      · exact .inr (.inl e)
      · exact .inr (.inr e)
      · exact .inl e
    refine ⟨⟨⟨k, hc⟩, hline, hother⟩, ⟨⟨k, hc⟩, hother, hline⟩, ⟨F _ (B' _ _), F _ (B' _ _)⟩, ?_⟩
    unfold F_before_share
    rcases Nat.lt_trichotomy (atL (layersQ q) line) (atL (layersQ q) other) with z | z | z
    · rw [if_neg (by omega), if_pos z, if_neg (by omega), if_neg (by omega)]; decide
    · rw [if_pos z, if_pos z.symm, if_pos ne, if_pos (fun e => ne e.symm)]; decide
    · rw [if_neg (by omega), if_neg (by omega), if_neg (by omega), if_pos z]; decide
end W
namespace V
open PySem L2 G W
theorem hv : ∀ ns : List Int, ns.length ≤ 63 → ∃ tp', retR (b_law (some (.scr ns) :: some .tape :: List.replicate 17 none) [.scr ns, .int 0, .int 5330, .int 0]) = .ok (.bl true) tp' := fun ns hns => W.snd_law W.ok_law ns hns
end V
set_option maxHeartbeats 0
namespace Hd
open PySem PySem.Spec PyProof.Rows L2
theorem facts {P : Program} {w : World} {K : PySem.W.Frag} {h : Heap} {mg : Str → Option Value} {f : Addr} (X : K.In h) (hG : h.Ns mainGlobals mg) (hfa : mg ("law" : Str) = some (.ref f)) (c : He.SaysD fa fn K) :
    ∃ fd : FuncData, (∀ (s : Shared) (v : Value), BindsTo s fd ⟨[v], []⟩ [("_law_script", v)]) ∧ ∀ base : Heap, K.In base → base.Ns mainGlobals mg → FnOk P w K mg base CX0 9 f fd ["_law_script"] (_root_.G.spLaw K) := by
  obtain ⟨fd0, F0⟩ := c.def_ 0 (d := d_is_int) rfl
  obtain ⟨fd1, F1⟩ := c.def_ 1 (d := d_is_in) rfl
  obtain ⟨fd2, F2⟩ := c.def_ 2 (d := d_need_number) rfl
  obtain ⟨fd3, F3⟩ := c.def_ 3 (d := d_is_picture) rfl
  obtain ⟨fd4, F4⟩ := c.def_ 4 (d := d_need_picture) rfl
  obtain ⟨fd5, F5⟩ := c.def_ 5 (d := d_lines_of) rfl
  obtain ⟨fd6, F6⟩ := c.def_ 6 (d := d_need_line) rfl
  obtain ⟨fd7, F7⟩ := c.def_ 7 (d := d_are_deeds) rfl
  obtain ⟨fd8, F8⟩ := c.def_ 8 (d := d_painted_line) rfl
  obtain ⟨fd9, F9⟩ := c.def_ 9 (d := d_all_painted) rfl
  obtain ⟨fd10, F10⟩ := c.def_ 10 (d := d_painted) rfl
  obtain ⟨fd11, F11⟩ := c.def_ 11 (d := d_need_order) rfl
  obtain ⟨fd12, F12⟩ := c.def_ 12 (d := d_plain) rfl
  obtain ⟨fd13, F13⟩ := c.def_ 13 (d := d_leads_to) rfl
  obtain ⟨fd14, F14⟩ := c.def_ 14 (d := d_layers_of) rfl
  obtain ⟨fd15, F15⟩ := c.def_ 15 (d := d_layers) rfl
  obtain ⟨fd16, F16⟩ := c.def_ 16 (d := d_core_of) rfl
  obtain ⟨fd17, F17⟩ := c.def_ 17 (d := d_is_free_of) rfl
  obtain ⟨fd18, F18⟩ := c.def_ 18 (d := d_need_free) rfl
  obtain ⟨fd19, F19⟩ := c.def_ 19 (d := d_product_to) rfl
  obtain ⟨fd20, F20⟩ := c.def_ 20 (d := d_common) rfl
  obtain ⟨fd21, F21⟩ := c.def_ 21 (d := d_lowered) rfl
  obtain ⟨fd22, F22⟩ := c.def_ 22 (d := d_need_sides) rfl
  obtain ⟨fd23, F23⟩ := c.def_ 23 (d := d_by_layers) rfl
  obtain ⟨fd24, F24⟩ := c.def_ 24 (d := d_layer_ways) rfl
  obtain ⟨fd25, F25⟩ := c.def_ 25 (d := d_layers_from) rfl
  obtain ⟨fd26, F26⟩ := c.def_ 26 (d := d_by_order) rfl
  obtain ⟨fd27, F27⟩ := c.def_ 27 (d := d_is_order) rfl
  obtain ⟨fd28, F28⟩ := c.def_ 28 (d := d_count_orders) rfl
  obtain ⟨fd29, F29⟩ := c.def_ 29 (d := d_order_at) rfl
  obtain ⟨fd30, F30⟩ := c.def_ 30 (d := d_order_number) rfl
  obtain ⟨fd31, F31⟩ := c.def_ 31 (d := d_places) rfl
  obtain ⟨fd32, F32⟩ := c.def_ 32 (d := d_mean_place) rfl
  obtain ⟨fd33, F33⟩ := c.def_ 33 (d := d_before_share) rfl
  obtain ⟨fd34, F34⟩ := c.def_ 34 (d := d_next_order) rfl
  obtain ⟨fd35, F35⟩ := c.def_ 35 (d := d_swaps) rfl
  obtain ⟨fd36, F36⟩ := c.def_ 36 (d := d_place_shares) rfl
  obtain ⟨fd37, F37⟩ := c.def_ 37 (d := d_law_taken) rfl
  obtain ⟨fd38, F38⟩ := c.def_ 38 (d := d_law_mixed) rfl
  obtain ⟨fd39, F39⟩ := c.def_ 39 (d := d_law_paint) rfl
  obtain ⟨fd40, F40⟩ := c.def_ 40 (d := d_law_painted) rfl
  obtain ⟨fd41, F41⟩ := c.def_ 41 (d := d_law_free) rfl
  obtain ⟨fd42, F42⟩ := c.def_ 42 (d := d_law_common) rfl
  obtain ⟨fd43, F43⟩ := c.def_ 43 (d := d_law_lowered) rfl
  obtain ⟨fd44, F44⟩ := c.def_ 44 (d := d_law_plus) rfl
  obtain ⟨fd45, F45⟩ := c.def_ 45 (d := d_law) rfl
  have T : W.Tx K mg := {
    abs := He.free_ok X hG (c.fact 46 (f := .free "abs") rfl),
    all := He.free_ok X hG (c.fact 47 (f := .free "all") rfl),
    any := He.free_ok X hG (c.fact 48 (f := .free "any") rfl),
    bool := He.free_ok X hG (c.fact 49 (f := .free "bool") rfl),
    enumerate := He.free_ok X hG (c.fact 50 (f := .free "enumerate") rfl),
    int := He.free_ok X hG (c.fact 51 (f := .free "int") rfl),
    isinstance := He.free_ok X hG (c.fact 52 (f := .free "isinstance") rfl),
    len := He.free_ok X hG (c.fact 53 (f := .free "len") rfl),
    list := He.free_ok X hG (c.fact 54 (f := .free "list") rfl),
    range := He.free_ok X hG (c.fact 55 (f := .free "range") rfl),
    sorted := He.free_ok X hG (c.fact 56 (f := .free "sorted") rfl),
    str := He.free_ok X hG (c.fact 57 (f := .free "str") rfl),
    tuple := He.free_ok X hG (c.fact 58 (f := .free "tuple") rfl),
    MOST_SIDE := He.int_ok X hG (c.fact 59 (f := .int "MOST_SIDE" 30) rfl),
    BLACK := He.str_ok X hG (c.fact 60 (f := .str "BLACK" "#") rfl),
    WHITE := He.str_ok X hG (c.fact 61 (f := .str "WHITE" ".") rfl),
    f_is_int := ⟨_, _, F0, He.glo_ok X hG (c.fact 0 (f := .glo "is_int") rfl)⟩,
    f_is_in := ⟨_, _, F1, He.glo_ok X hG (c.fact 1 (f := .glo "is_in") rfl)⟩,
    f_need_number := ⟨_, _, F2, He.glo_ok X hG (c.fact 2 (f := .glo "need_number") rfl)⟩,
    f_is_picture := ⟨_, _, F3, He.glo_ok X hG (c.fact 3 (f := .glo "is_picture") rfl)⟩,
    f_need_picture := ⟨_, _, F4, He.glo_ok X hG (c.fact 4 (f := .glo "need_picture") rfl)⟩,
    f_lines_of := ⟨_, _, F5, He.glo_ok X hG (c.fact 5 (f := .glo "lines_of") rfl)⟩,
    f_need_line := ⟨_, _, F6, He.glo_ok X hG (c.fact 6 (f := .glo "need_line") rfl)⟩,
    f_are_deeds := ⟨_, _, F7, He.glo_ok X hG (c.fact 7 (f := .glo "are_deeds") rfl)⟩,
    f_painted_line := ⟨_, _, F8, He.glo_ok X hG (c.fact 8 (f := .glo "painted_line") rfl)⟩,
    f_all_painted := ⟨_, _, F9, He.glo_ok X hG (c.fact 9 (f := .glo "all_painted") rfl)⟩,
    f_painted := ⟨_, _, F10, He.glo_ok X hG (c.fact 10 (f := .glo "painted") rfl)⟩,
    f_need_order := ⟨_, _, F11, He.glo_ok X hG (c.fact 11 (f := .glo "need_order") rfl)⟩,
    f_plain := ⟨_, _, F12, He.glo_ok X hG (c.fact 12 (f := .glo "plain") rfl)⟩,
    f_leads_to := ⟨_, _, F13, He.glo_ok X hG (c.fact 13 (f := .glo "leads_to") rfl)⟩,
    f_layers_of := ⟨_, _, F14, He.glo_ok X hG (c.fact 14 (f := .glo "layers_of") rfl)⟩,
    f_layers := ⟨_, _, F15, He.glo_ok X hG (c.fact 15 (f := .glo "layers") rfl)⟩,
    f_core_of := ⟨_, _, F16, He.glo_ok X hG (c.fact 16 (f := .glo "core_of") rfl)⟩,
    f_is_free_of := ⟨_, _, F17, He.glo_ok X hG (c.fact 17 (f := .glo "is_free_of") rfl)⟩,
    f_need_free := ⟨_, _, F18, He.glo_ok X hG (c.fact 18 (f := .glo "need_free") rfl)⟩,
    f_product_to := ⟨_, _, F19, He.glo_ok X hG (c.fact 19 (f := .glo "product_to") rfl)⟩,
    f_common := ⟨_, _, F20, He.glo_ok X hG (c.fact 20 (f := .glo "common") rfl)⟩,
    f_lowered := ⟨_, _, F21, He.glo_ok X hG (c.fact 21 (f := .glo "lowered") rfl)⟩,
    f_need_sides := ⟨_, _, F22, He.glo_ok X hG (c.fact 22 (f := .glo "need_sides") rfl)⟩,
    f_by_layers := ⟨_, _, F23, He.glo_ok X hG (c.fact 23 (f := .glo "by_layers") rfl)⟩,
    f_layer_ways := ⟨_, _, F24, He.glo_ok X hG (c.fact 24 (f := .glo "layer_ways") rfl)⟩,
    f_layers_from := ⟨_, _, F25, He.glo_ok X hG (c.fact 25 (f := .glo "layers_from") rfl)⟩,
    f_by_order := ⟨_, _, F26, He.glo_ok X hG (c.fact 26 (f := .glo "by_order") rfl)⟩,
    f_is_order := ⟨_, _, F27, He.glo_ok X hG (c.fact 27 (f := .glo "is_order") rfl)⟩,
    f_count_orders := ⟨_, _, F28, He.glo_ok X hG (c.fact 28 (f := .glo "count_orders") rfl)⟩,
    f_order_at := ⟨_, _, F29, He.glo_ok X hG (c.fact 29 (f := .glo "order_at") rfl)⟩,
    f_order_number := ⟨_, _, F30, He.glo_ok X hG (c.fact 30 (f := .glo "order_number") rfl)⟩,
    f_places := ⟨_, _, F31, He.glo_ok X hG (c.fact 31 (f := .glo "places") rfl)⟩,
    f_mean_place := ⟨_, _, F32, He.glo_ok X hG (c.fact 32 (f := .glo "mean_place") rfl)⟩,
    f_before_share := ⟨_, _, F33, He.glo_ok X hG (c.fact 33 (f := .glo "before_share") rfl)⟩,
    f_next_order := ⟨_, _, F34, He.glo_ok X hG (c.fact 34 (f := .glo "next_order") rfl)⟩,
    f_swaps := ⟨_, _, F35, He.glo_ok X hG (c.fact 35 (f := .glo "swaps") rfl)⟩,
    f_place_shares := ⟨_, _, F36, He.glo_ok X hG (c.fact 36 (f := .glo "place_shares") rfl)⟩,
    f_law_taken := ⟨_, _, F37, He.glo_ok X hG (c.fact 37 (f := .glo "_law_taken") rfl)⟩,
    f_law_mixed := ⟨_, _, F38, He.glo_ok X hG (c.fact 38 (f := .glo "_law_mixed") rfl)⟩,
    f_law_paint := ⟨_, _, F39, He.glo_ok X hG (c.fact 39 (f := .glo "_law_paint") rfl)⟩,
    f_law_painted := ⟨_, _, F40, He.glo_ok X hG (c.fact 40 (f := .glo "_law_painted") rfl)⟩,
    f_law_free := ⟨_, _, F41, He.glo_ok X hG (c.fact 41 (f := .glo "_law_free") rfl)⟩,
    f_law_common := ⟨_, _, F42, He.glo_ok X hG (c.fact 42 (f := .glo "_law_common") rfl)⟩,
    f_law_lowered := ⟨_, _, F43, He.glo_ok X hG (c.fact 43 (f := .glo "_law_lowered") rfl)⟩,
    f_law_plus := ⟨_, _, F44, He.glo_ok X hG (c.fact 44 (f := .glo "_law_plus") rfl)⟩ }
  have e := hfa.symm.trans (He.glo_ok X hG (c.fact 45 (f := .glo "law") rfl))
  cases e
  have b := FunD.bindsA (ps := ["_law_script"]) F45 fun _ _ _ _ _ _ us hl => match us, hl with | [_], _ => rfl
  exact ⟨fd45, fun s v => b s [v] rfl, fun base _ _ => _root_.G.fn_law (k := 8) (N := ["_law_picture", "_law_high", "_law_wide", "_law_many", "_law_index", "_law_told", "_law_there", "_law_shifts", "_law_some", "_law_line", "_law_other", "_law_low", "_law_last", "_law_shares", "_law_whole", "_law_mean", "_law_at"]) F45 W.sc_law (by first | exact Or.inl rfl | exact Or.inr rfl) (by first | exact Or.inl rfl | exact Or.inr rfl) (by decide +kernel) (by decide +kernel) (m := W.b_law) (fun r cdv A outer s H E hr => W.law_body T r cdv A outer s H E hr) _root_.V.hv⟩
end Hd
open PySem PySem.W PySem.Calls PyProof.Rows
theorem PySem.Challenge.cw_linepainters_k30_great_histories_holds : PySem.Challenge.rw_linepainters_k30_great_histories.Holds := by
  w_on; o_law
  refine HandSHeadRun.head_any (r := OpenLaw.row PySem.Challenge.rw_linepainters_k30_great_histories) (q := view (OpenLaw.row PySem.Challenge.rw_linepainters_k30_great_histories).prog [63]) (H := Hd.hk) (ob := Hd.ob) (M := 8000) (loose := Hd.nms) (d := HandSHeadRun.topDef (OpenLaw.row PySem.Challenge.rw_linepainters_k30_great_histories).prog 63) (kwd := []) Hd.ob_eq
    (by kernel_rfl) (fun s => by kernel_rfl) Hd.run (by kernel_rfl) (by kernel_rfl) (by kernel_rfl) (by rfl) (by first | assumption | decide +kernel) (by decide +kernel) ⟨rfl, rfl, rfl, rfl, rfl, by decide +kernel⟩ ?hw ?hc
  case hw => w_witness2
  case hc =>
    refine L2.walk_ofE (l := PySem.Challenge.rw_linepainters_k30_great_histories) (n := 63) (k := 9) (x := "_law_script") (CX := L2.CX0) rfl (by decide) (by kernel_rfl) ⟨rfl, by decide, by decide⟩ ?F (fun _ _ _ _ z => z)
    intro w mg fa h Y hG hmg0
    obtain ⟨K, KX, c⟩ := Y
    have hmg : mg ("law" : PySem.Str) = some (.ref fa) := by
      have e : (HandSHeadRun.topDef (OpenLaw.row PySem.Challenge.rw_linepainters_k30_great_histories).prog 63).name = ("law" : PySem.Str) := by kernel_rfl
      rw [← e]
      exact hmg0
    obtain ⟨fd, hb, hF⟩ := Hd.facts (P := (PySem.Challenge.rw_linepainters_k30_great_histories).prog) (w := w) KX hG hmg c
    exact ⟨K, fd, _root_.G.spLaw K, KX, hb, fun H a ns hl hh hS => ⟨a, ns, rfl, hS, hl, fun _ => rfl⟩, hF⟩
