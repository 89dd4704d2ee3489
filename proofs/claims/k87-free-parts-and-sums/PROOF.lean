import PyProof.Rows.All
import Wide.All
import OpenK.AllK
import Wide.FinOn
import KE.KStateDown
import Lean
import HandS.Base
import HandS.Call
import HandS.Ends
import HandS.More
import HandS.Words
import HandS.WordsExc
import HandS.Defaults
import HandS.Head0
import HandS.Head1
import HandS.Head2
import HandS.HeadEnd
import HandS.HeadHook1
import HandS.HeadHook2
import KE.DataEq
import HandS.ForMost
import HandS.Exc
import HandS.Walk
import HandS.TupAny
import HandS.TupMul
import HandS.IsInst
import HandS.Wide
import HandS.StrMore
import HandS.TupLe
import HandS.Style
import HandS.Conv
import KE.GoesEnum
import HandS.SortInts
import HandS.Zip
import PyProof.WalksMore
import HandS.DictComp
import KE.KDictKeyed
import KE.KSortTupG
import HandS.Star
import HandS.Text
import KE.KDictSum
import HandS.DictEq
import HandS.Iter
import KE.KDictItemsList
import HandS.ListItems
import KE.DataMinMax
import KE.SortData
import KE.GoesZip
import KE.GoesMore
import HandS.WideMore
import HandS.Remove
import KE.KDictWalk
import HandS.SetFor
import HandS.Strs
import PySem.Challenge.RW_linepainters_k87_free_parts_and_sums
set_option Elab.async false
set_option linter.all false
set_option maxRecDepth 100000
set_option maxHeartbeats 1000000
namespace W
open PySem L2
def top (i : Nat) : Stmt := PySem.Challenge.pw_linepainters_k87_free_parts_and_sums.main.body.getD i (.Pass ⟨0, 0, 0, 0⟩)
end W
set_option maxHeartbeats 0
namespace Hd
open PySem PySem.Spec PyProof.Rows L2
def d_is_int : He.DefD := ⟨("is_int", none), "is_int", "is_int", defArgs (W.top 11), defBody (W.top 11), defScope (W.top 11), [], []⟩
def d_is_in : He.DefD := ⟨("is_in", none), "is_in", "is_in", defArgs (W.top 12), defBody (W.top 12), defScope (W.top 12), [], []⟩
def d_need_number : He.DefD := ⟨("need_number", none), "need_number", "need_number", defArgs (W.top 13), defBody (W.top 13), defScope (W.top 13), [], []⟩
def d_is_picture : He.DefD := ⟨("is_picture", none), "is_picture", "is_picture", defArgs (W.top 14), defBody (W.top 14), defScope (W.top 14), [], []⟩
def d_need_picture : He.DefD := ⟨("need_picture", none), "need_picture", "need_picture", defArgs (W.top 15), defBody (W.top 15), defScope (W.top 15), [], []⟩
def d_lines_of : He.DefD := ⟨("lines_of", none), "lines_of", "lines_of", defArgs (W.top 16), defBody (W.top 16), defScope (W.top 16), [], []⟩
def d_black_of : He.DefD := ⟨("black_of", none), "black_of", "black_of", defArgs (W.top 17), defBody (W.top 17), defScope (W.top 17), [], []⟩
def d_black_cells : He.DefD := ⟨("black_cells", none), "black_cells", "black_cells", defArgs (W.top 18), defBody (W.top 18), defScope (W.top 18), [], []⟩
def d_row_sums_of : He.DefD := ⟨("row_sums_of", none), "row_sums_of", "row_sums_of", defArgs (W.top 19), defBody (W.top 19), defScope (W.top 19), [], []⟩
def d_column_sums_of : He.DefD := ⟨("column_sums_of", none), "column_sums_of", "column_sums_of", defArgs (W.top 20), defBody (W.top 20), defScope (W.top 20), [], []⟩
def d_sums : He.DefD := ⟨("sums", none), "sums", "sums", defArgs (W.top 21), defBody (W.top 21), defScope (W.top 21), [], []⟩
def d_part_of : He.DefD := ⟨("part_of", none), "part_of", "part_of", defArgs (W.top 22), defBody (W.top 22), defScope (W.top 22), [], []⟩
def d_leads_to : He.DefD := ⟨("leads_to", none), "leads_to", "leads_to", defArgs (W.top 24), defBody (W.top 24), defScope (W.top 24), [], []⟩
def d_layers_of : He.DefD := ⟨("layers_of", none), "layers_of", "layers_of", defArgs (W.top 25), defBody (W.top 25), defScope (W.top 25), [], []⟩
def d_layers : He.DefD := ⟨("layers", none), "layers", "layers", defArgs (W.top 26), defBody (W.top 26), defScope (W.top 26), [], []⟩
def d_core_of : He.DefD := ⟨("core_of", none), "core_of", "core_of", defArgs (W.top 27), defBody (W.top 27), defScope (W.top 27), [], []⟩
def d_is_free_of : He.DefD := ⟨("is_free_of", none), "is_free_of", "is_free_of", defArgs (W.top 28), defBody (W.top 28), defScope (W.top 28), [], []⟩
def d_is_free : He.DefD := ⟨("is_free", none), "is_free", "is_free", defArgs (W.top 29), defBody (W.top 29), defScope (W.top 29), [], []⟩
def d_need_free : He.DefD := ⟨("need_free", none), "need_free", "need_free", defArgs (W.top 30), defBody (W.top 30), defScope (W.top 30), [], []⟩
def d_chosen : He.DefD := ⟨("chosen", none), "chosen", "chosen", defArgs (W.top 32), defBody (W.top 32), defScope (W.top 32), [], []⟩
def d_ways_left : He.DefD := ⟨("ways_left", none), "ways_left", "ways_left", defArgs (W.top 34), defBody (W.top 34), defScope (W.top 34), [], []⟩
def d_need_sides : He.DefD := ⟨("need_sides", none), "need_sides", "need_sides", defArgs (W.top 35), defBody (W.top 35), defScope (W.top 35), [], []⟩
def d_by_layers : He.DefD := ⟨("by_layers", none), "by_layers", "by_layers", defArgs (W.top 36), defBody (W.top 36), defScope (W.top 36), [], []⟩
def d_are_layers : He.DefD := ⟨("are_layers", none), "are_layers", "are_layers", defArgs (W.top 37), defBody (W.top 37), defScope (W.top 37), [], []⟩
def d_free_by_layers : He.DefD := ⟨("free_by_layers", none), "free_by_layers", "free_by_layers", defArgs (W.top 38), defBody (W.top 38), defScope (W.top 38), [], []⟩
def d_subset_number : He.DefD := ⟨("subset_number", none), "subset_number", "subset_number", defArgs (W.top 39), defBody (W.top 39), defScope (W.top 39), [], []⟩
def d_number_of : He.DefD := ⟨("number_of", none), "number_of", "number_of", defArgs (W.top 40), defBody (W.top 40), defScope (W.top 40), [], []⟩
def d_free_number : He.DefD := ⟨("free_number", none), "free_number", "free_number", defArgs (W.top 41), defBody (W.top 41), defScope (W.top 41), [], []⟩
def d_are_sums : He.DefD := ⟨("are_sums", none), "are_sums", "are_sums", defArgs (W.top 42), defBody (W.top 42), defScope (W.top 42), [], []⟩
def d_need_sums : He.DefD := ⟨("need_sums", none), "need_sums", "need_sums", defArgs (W.top 43), defBody (W.top 43), defScope (W.top 43), [], []⟩
def d_free_by_sums : He.DefD := ⟨("free_by_sums", none), "free_by_sums", "free_by_sums", defArgs (W.top 44), defBody (W.top 44), defScope (W.top 44), [], []⟩
def d_sizes_of : He.DefD := ⟨("sizes_of", none), "sizes_of", "sizes_of", defArgs (W.top 46), defBody (W.top 46), defScope (W.top 46), [], []⟩
def d_shape : He.DefD := ⟨("shape", none), "shape", "shape", defArgs (W.top 47), defBody (W.top 47), defScope (W.top 47), [], []⟩
def d_stairs_of : He.DefD := ⟨("stairs_of", none), "stairs_of", "stairs_of", defArgs (W.top 48), defBody (W.top 48), defScope (W.top 48), [], []⟩
def d_stairs : He.DefD := ⟨("stairs", none), "stairs", "stairs", defArgs (W.top 49), defBody (W.top 49), defScope (W.top 49), [], []⟩
def d_law_taken : He.DefD := ⟨("_law_taken", none), "_law_taken", "_law_taken", defArgs (W.top 51), defBody (W.top 51), defScope (W.top 51), [], []⟩
def d_law_pick : He.DefD := ⟨("_law_pick", none), "_law_pick", "_law_pick", defArgs (W.top 52), defBody (W.top 52), defScope (W.top 52), [], []⟩
def d_law_mixed : He.DefD := ⟨("_law_mixed", none), "_law_mixed", "_law_mixed", defArgs (W.top 53), defBody (W.top 53), defScope (W.top 53), [], []⟩
def d_law : He.DefD := ⟨("law", none), "law", "law", defArgs (W.top 54), defBody (W.top 54), defScope (W.top 54), [], []⟩
def fn : List He.DefD := [d_is_int, d_is_in, d_need_number, d_is_picture, d_need_picture, d_lines_of, d_black_of, d_black_cells, d_row_sums_of, d_column_sums_of, d_sums, d_part_of, d_leads_to, d_layers_of, d_layers, d_core_of, d_is_free_of, d_is_free, d_need_free, d_chosen, d_ways_left, d_need_sides, d_by_layers, d_are_layers, d_free_by_layers, d_subset_number, d_number_of, d_free_number, d_are_sums, d_need_sums, d_free_by_sums, d_sizes_of, d_shape, d_stairs_of, d_stairs, d_law_taken, d_law_pick, d_law_mixed, d_law]
def fa0 : List He.Fa := [.glo "is_int", .glo "is_in", .glo "need_number", .glo "is_picture", .glo "need_picture", .glo "lines_of", .glo "black_of", .glo "black_cells", .glo "row_sums_of", .glo "column_sums_of", .glo "sums", .glo "part_of", .glo "leads_to", .glo "layers_of", .glo "layers", .glo "core_of", .glo "is_free_of", .glo "is_free", .glo "need_free", .glo "chosen", .glo "ways_left", .glo "need_sides", .glo "by_layers", .glo "are_layers", .glo "free_by_layers", .glo "subset_number", .glo "number_of", .glo "free_number", .glo "are_sums", .glo "need_sums"]
def fa1 : List He.Fa := [.glo "free_by_sums", .glo "sizes_of", .glo "shape", .glo "stairs_of", .glo "stairs", .glo "_law_taken", .glo "_law_pick", .glo "_law_mixed", .glo "law", .free "all", .free "any", .free "bool", .free "enumerate", .free "int", .free "isinstance", .free "len", .free "list", .free "max", .free "range", .free "set", .free "sorted", .free "str", .free "sum", .free "tuple", .free "zip", .int "MOST_SIDE" 30, .str "BLACK" "#", .str "WHITE" "."]
def fa : List He.Fa := fa0 ++ fa1
def nm0 : List Str := ["__name__", "PaintError", "BadPicture", "BadNumber", "BadLayers", "BadSums", "NotFree", "MOST_SIDE", "BLACK", "WHITE", "is_int", "is_in", "need_number", "is_picture", "need_picture", "lines_of", "black_of", "black_cells", "row_sums_of", "column_sums_of", "sums", "part_of", "leads_to", "layers_of", "layers", "core_of", "is_free_of", "is_free", "need_free", "chosen"]
def nm1 : List Str := ["ways_left", "need_sides", "by_layers", "are_layers", "free_by_layers", "subset_number", "number_of", "free_number", "are_sums", "need_sums", "free_by_sums", "sizes_of", "shape", "stairs_of", "stairs", "_law_taken", "_law_pick", "_law_mixed"]
abbrev nms : List Str := nm0 ++ nm1
abbrev R : PySem.W.OpenRow := PySem.W.OpenLaw.row PySem.Challenge.rw_linepainters_k87_free_parts_and_sums
abbrev hk : PySem.W.Hook := He.hookD 4 fa fn
def ob (s : PySem.W.SharedT) : He.AlD := He.obsDG 4 fa fn (HandSHeadRun.getT s)
theorem ob_eq (s : PySem.W.SharedT) : ob s = hk.obs s.abs := He.obsDG_eq (HandSHeadRun.getT_eq s)
open HandSHeadRun PySem.W PySem.Calls in
theorem runL (w : World) : ∀ os : OsState, (HandSHeadRun.endF (HandSHeadRun.stepQ (HandSHeadRun.denQ HandSHeadRun.tabQ) R.prog w) 8000 R.prog w os).map (fun s => looksF R.prog (boot_heap w.params) s.abs) = some true := by
  intro os
  kernel_rfl
open HandSHeadRun PySem.W PySem.Calls in
theorem runS (w : World) : ∀ os : OsState, (HandSHeadRun.endF (HandSHeadRun.stepQ (HandSHeadRun.denQ HandSHeadRun.tabQ) R.prog w) 8000 R.prog w os).map (fun s => seenQ (PySem.W.view R.prog [54]) nms (importedModules R.prog.main.body) (fun s => xlAt (PySem.W.view R.prog [54]) [] s && recOk R.toRowW.records s) s.abs) = some (openGood (PySem.W.view R.prog [54]) nms) := by
  intro os
  kernel_rfl
open HandSHeadRun PySem.W PySem.Calls in
theorem runO (w : World) : ∀ os : OsState, (HandSHeadRun.endF (HandSHeadRun.stepQ (HandSHeadRun.denQ HandSHeadRun.tabQ) R.prog w) 8000 R.prog w os).map ob = some (hk.val w) := by
  intro os
  kernel_rfl
theorem three {α β γ δ : Type} {x : Option α} {f : α → β} {g : α → γ} {h : α → δ} {b : β} {c : γ} {d : δ} (h1 : x.map f = some b) (h2 : x.map g = some c) (h3 : x.map h = some d) : x.map (fun s => (f s, g s, h s)) = some (b, c, d) := by
  cases x with
  | none => cases h1
  | some s =>
    have h1 := Option.some.inj h1
    have h2 := Option.some.inj h2
    have h3 := Option.some.inj h3
    show some (f s, g s, h s) = _
    rw [h1, h2, h3]
theorem run (w : World) : HandSHeadRun.RunEq R (PySem.W.view R.prog [54]) hk ob 8000 nms w := fun os => three (runL w os) (runS w os) (runO w os)
end Hd
set_option maxHeartbeats 1000000
set_option maxHeartbeats 1000000
namespace G
open PySem PySem.Spec PyProof.Rows L2
/-- pure data -/
inductive D where
  | non
  | bl (b : Bool)
  | int (i : Int)
  | str (s : Str)
  | tup (xs : List D)
  | lst (xs : List D)
  | dic (kvs : List (D × D))
  | dct (kvs : List (D × D))
  | scr (ns : List Int)
  | tape
  | fn (n : Str)
  | ty (n : String)
  | memo (n : Int)
  deriving Inhabited
mutual
def D.pd : D → PyData
  | .non => .none
  | .bl b => .bool b
  | .int i => .int i
  | .str s => .str s
  | .tup xs => .tuple (pdAll xs)
  | .lst xs => .list (pdAll xs)
  | .scr ns => .list (ns.map PyData.int)
  | .dic _ => .dict []
  | .dct _ => .dict []
  | .tape => .dict []
  | .fn _ => .dict []
  | .ty _ => .dict []
  | .memo _ => .dict []
def pdAll : List D → List PyData
  | [] => []
  | x :: xs => x.pd :: pdAll xs
end
theorem pdAll_map (xs : List D) : pdAll xs = xs.map D.pd := by
  induction xs with
  | nil => rfl
  | cons x xs ih => simp only [pdAll, List.map_cons, ih]
def keyD : Key → D
  | .inl i => .int i
  | .inr x => .str x
def keyT (ks : List Key) : D := .tup (ks.map keyD)
def isDic : HO → Bool
  | .dK _ => true
  | .dT _ => true
  | _ => false
def bin : Nat → Nat → Nat
  | _, 0 => 1
  | 0, _ + 1 => 0
  | n + 1, k + 1 => bin n k + bin n (k + 1)
def waysN : Nat → Nat → Nat → Bool → Nat
  | 0, _, _, _ => 1
  | n + 1, r, c, b => if r + c = 0 then 1 else if b then ((List.range r).map fun m => bin r (m + 1) * waysN n (r - (m + 1)) c false).sum else ((List.range c).map fun m => bin c (m + 1) * waysN n r (c - (m + 1)) true).sum
def tellsF : Int → List Int → Option Int
  | 0, [r, c, b] => if 0 ≤ r ∧ r ≤ 30 ∧ 0 ≤ c ∧ c ≤ 30 ∧ 0 ≤ b ∧ b ≤ 1 then some (waysN (r.toNat + c.toNat) r.toNat c.toNat (decide (b = 1)) : Nat) else none
  | _, _ => none
def hI (ks : List Int) : Int := reduceHash (Builtin.Tuple.tupleHashOf (ks.map hashInt))
def memoP (b : Addr) (xs : List (List Int × Addr × Value)) : Heap → Prop := fun h => ∃ o es ep, h.get? b = some o ∧ o.ExactDict ∧ o.data = .dict es ep ∧ es.toList = xs.map (fun x => (⟨hI x.1, .ref x.2.1, x.2.2⟩ : DictEntry)) ∧ (xs.map (·.1)).Nodup
def vInt : V → Option Int
  | .int i => some i
  | .bl b => some (if b = true then 1 else 0)
  | _ => none
def EntOk (n : Int) (H : Hp) (x : List Int × Addr × Value) : Prop := (∃ vs, H x.2.1 = some (.tup vs) ∧ vs.map vInt = x.1.map some) ∧ ∃ d t, tellsF n x.1 = some d ∧ x.2.2 = .int d t
def MemoAt (n : Int) (H : Hp) (b : Addr) : Prop := ∃ xs, H b = some (.ext (memoP b xs)) ∧ (b == sysModules) = false ∧ ∀ x ∈ xs, EntOk n H x
/-- a mark that no object bears -/
abbrev markM (n : Int) : HO := .ins 0 0 (List.replicate 1001 (("" : Str), V.int n))
theorem markM_inj {n m : Int} (e : markM n = markM m) : n = m := by
  have e := (HO.ins.inj e).2.2
  rw [List.replicate_succ, List.replicate_succ] at e
  exact V.int.inj (Prod.mk.inj (List.cons.inj e).1).2
theorem MemoAt.keep {n : Int} {H H' : Hp} {b : Addr} (h : MemoAt n H b) (k : ∀ u, H b = some u → H' b = some u) (kt : ∀ a xs, H a = some (.tup xs) → H' a = some (.tup xs)) : MemoAt n H' b := by
  obtain ⟨xs, h1, h2, h3⟩ := h
  refine ⟨xs, k _ h1, h2, fun x hx => ?_⟩
  obtain ⟨⟨vs, e1, e2⟩, e3⟩ := h3 x hx
  exact ⟨⟨vs, kt _ _ e1, e2⟩, e3⟩
/-- as it stands; a dict perhaps locked; a dict of known answers where it is marked -/
def At (H : Hp) (b : Addr) (o : HO) : Prop := H b = some o ∨ (isDic o = true ∧ ∃ x, H b = some (.frz x o)) ∨ ∃ n, o = markM n ∧ MemoAt n H b
/-- what stands here stands there, a dict perhaps locked -/
def Same (H H' : Hp) : Prop := ∀ b o, H b = some o → At H' b o
section
variable {Hs Hs' H H' H1 H2 : Hp} {b p : Addr} {o u : HO}
theorem At.rd (h : At H b o) (m : ∀ n, o ≠ markM n) : Rd H b o := h.elim .inl fun h => h.elim (fun h => .inr h.2) fun ⟨n, e, _⟩ => (m n e).elim
theorem At.lst {vs : List V} (h : At H b (.lst vs)) : H b = some (.lst vs) := h.elim id fun h => h.elim (fun h => nomatch h.1) fun ⟨_, e, _⟩ => nomatch e
theorem At.tup {vs : List V} (h : At H b (.tup vs)) : H b = some (.tup vs) := h.elim id fun h => h.elim (fun h => nomatch h.1) fun ⟨_, e, _⟩ => nomatch e
theorem At.frz {x : Obj} {v : HO} (h : At H b (.frz x v)) : H b = some (.frz x v) := h.elim id fun h => h.elim (fun h => nomatch h.1) fun ⟨_, e, _⟩ => nomatch e
theorem At.ext {φ : Heap → Prop} (h : At H b (.ext φ)) : H b = some (.ext φ) := h.elim id fun h => h.elim (fun h => nomatch h.1) fun ⟨_, e, _⟩ => nomatch e
/-- a dict -/
theorem At.dic (h : At H b o) (d : isDic o = true) : H b = some o ∨ ∃ x, H b = some (.frz x o) := h.elim .inl fun h => h.elim (fun h => .inr h.2) fun ⟨_, e, _⟩ => by rw [e] at d; cases d
theorem At.keep (h : At H b o) (k : ∀ u, H b = some u → H' b = some u) (kt : ∀ a xs, H a = some (.tup xs) → H' a = some (.tup xs)) : At H' b o := h.imp (k _) fun h => h.imp (fun ⟨a, x, e⟩ => ⟨a, x, k _ e⟩) fun ⟨n, e, m⟩ => ⟨n, e, m.keep k kt⟩
theorem At.there (h : At H b o) : ∃ u, H b = some u := h.elim (fun e => ⟨_, e⟩) fun h => h.elim (fun ⟨_, _, e⟩ => ⟨_, e⟩) fun ⟨_, _, xs, e, _⟩ => ⟨_, e⟩
theorem At.upd (h : At H b o) (n : b ≠ p) (nt : ∀ xs, H p ≠ some (.tup xs)) : At (upd H p u) b o := h.keep (fun v e => by rw [upd_ne n]; exact e) fun a xs e => by
  rw [upd_ne fun z => nt xs (by rw [← z]; exact e)]; exact e
theorem Same.refl (H : Hp) : Same H H := fun _ _ h => .inl h
theorem Same.trans (a : Same H H1) (b : Same H1 H2) : Same H H2 := fun c o h => by
  rcases a c o h with q | ⟨q, x, e⟩ | ⟨n, e, xs, h1, h2, h3⟩
  · exact b c o q
  · exact .inr (.inl ⟨q, x, (b c _ e).frz⟩)
  · refine .inr (.inr ⟨n, e, xs, (b c _ h1).ext, h2, fun x hx => ?_⟩)
    obtain ⟨⟨vs, e1, e2⟩, e3⟩ := h3 x hx
    exact ⟨⟨vs, (b _ _ e1).tup, e2⟩, e3⟩
theorem At.mono {n : Int} (e : Same H H') (h : At H b (markM n)) : At H' b (markM n) := by
  rcases h with q | ⟨q, _⟩ | ⟨m, em, xs, h1, h2, h3⟩
  · exact e b _ q
  · cases q
  · refine .inr (.inr ⟨m, em, xs, (e _ _ h1).ext, h2, fun x hx => ?_⟩)
    obtain ⟨⟨vs, e1, e2⟩, e3⟩ := h3 x hx
    exact ⟨⟨vs, (e _ _ e1).tup, e2⟩, e3⟩
theorem Same.of (a : ∀ b o, H b = some o → H' b = some o) : Same H H' := fun b o h => .inl (a b o h)
theorem Same.free (e : Same Hs H) {l : Addr} (h : H l = none) : Hs l = none := by
  cases z : Hs l with
  | none => rfl
  | some u =>
    obtain ⟨v, q⟩ := (e l u z).there
    rw [h] at q; cases q
theorem Same.rd (e : Same H H') (h : Rd H b o) (d : ∀ x v, o ≠ .frz x v := by intros; nofun) (m : ∀ n, o ≠ markM n := by intros; nofun) : Rd H' b o := by
  rcases h with h | ⟨x, h⟩
  · exact (e _ _ h).rd m
  · exact .inr ⟨x, (e _ _ h).frz⟩
theorem Same.seq {K : PySem.W.Frag} {a : Addr} {xs : List V} (e : Same Hs H) (h : SqL K Hs a xs) : SqL K H a xs := h.imp (fun h => e.rd h) id
theorem Same.sqt {K : PySem.W.Frag} {a : Addr} {xs : List V} (e : Same Hs H) (h : SqT K Hs a xs) : SqT K H a xs := h.imp (fun h => e.rd h) id
theorem upd_free (e : L2.upd H p u b = none) : H b = none := by
  by_cases q : b = p
  · subst q; rw [upd_same] at e; cases e
  · rwa [upd_ne q] at e
end
section
variable (K : PySem.W.Frag) (mg : Str → Option Value) (r : Addr)
mutual
/-- the value v stands for the data d, all its objects in Hs -/
inductive RepD (Hs : Hp) : V → D → Prop
  | non : RepD Hs .non .non
  | bl (b : Bool) : RepD Hs (.bl b) (.bl b)
  | int (i : Int) : RepD Hs (.int i) (.int i)
  | str (s : Str) : RepD Hs (.str s) (.str s)
  | tup {p : Addr} {vs : List V} {ds : List D} : Hs p = some (.tup vs) → RepDs Hs vs ds → RepD Hs (.ref p) (.tup ds)
  | lst {p : Addr} {vs : List V} {ds : List D} : Hs p = some (.lst vs) → RepDs Hs vs ds → RepD Hs (.ref p) (.lst ds)
  | dicK {p : Addr} {kvs : List (Key × V)} {ds : List (D × D)} : Rd Hs p (.dK kvs) → RepP Hs (kvs.map fun q => (keyD q.1, q.2)) ds → RepD Hs (.ref p) (.dic ds)
  | dicT {p : Addr} {kvs : List (List Key × V)} {ds : List (D × D)} : Rd Hs p (.dT kvs) → RepP Hs (kvs.map fun q => (keyT q.1, q.2)) ds → RepD Hs (.ref p) (.dct ds)
  | scr {p : Addr} {ns : List Int} : SqL K Hs p (ns.map V.int) → RepD Hs (.ref p) (.scr ns)
  | tape : RepD Hs (.ref r) .tape
  | fn {f : Addr} {n : Str} : mg n = some (.ref f) → RepD Hs (.ref f) (.fn n)
  | ty (n : String) : RepD Hs (.ty n) (.ty n)
  | memo {p : Addr} {n : Int} : At Hs p (markM n) → RepD Hs (.ref p) (.memo n)
inductive RepDs (Hs : Hp) : List V → List D → Prop
  | nil : RepDs Hs [] []
  | cons {v : V} {vs : List V} {d : D} {ds : List D} : RepD Hs v d → RepDs Hs vs ds → RepDs Hs (v :: vs) (d :: ds)
inductive RepP (Hs : Hp) : List (D × V) → List (D × D) → Prop
  | nil : RepP Hs [] []
  | cons {k : D} {v : V} {vs : List (D × V)} {d : D} {ds : List (D × D)} : RepD Hs v d → RepP Hs vs ds → RepP Hs ((k, v) :: vs) ((k, d) :: ds)
end
end
section
variable {K : PySem.W.Frag} {mg : Str → Option Value} {r : Addr} {Hs Hs' Hs1 Hs2 H H' H1 H2 : Hp}
mutual
theorem RepD.mono (e : Same Hs Hs') : ∀ {v : V} {d : D}, RepD K mg r Hs v d → RepD K mg r Hs' v d
  | _, _, .non => .non
  | _, _, .bl b => .bl b
  | _, _, .int i => .int i
  | _, _, .str s => .str s
  | _, _, .tup h q => .tup (e _ _ h).tup (RepDs.mono e q)
  | _, _, .lst h q => .lst (e _ _ h).lst (RepDs.mono e q)
  | _, _, .dicK h q => .dicK (e.rd h) (RepP.mono e q)
  | _, _, .dicT h q => .dicT (e.rd h) (RepP.mono e q)
  | _, _, .scr h => .scr (Same.seq e h)
  | _, _, .tape => .tape
  | _, _, .fn h => .fn h
  | _, _, .ty n => .ty n
  | _, _, .memo h => .memo (At.mono e h)
theorem RepDs.mono (e : Same Hs Hs') : ∀ {vs : List V} {ds : List D}, RepDs K mg r Hs vs ds → RepDs K mg r Hs' vs ds
  | _, _, .nil => .nil
  | _, _, .cons h q => .cons (RepD.mono e h) (RepDs.mono e q)
theorem RepP.mono (e : Same Hs Hs') : ∀ {vs : List (D × V)} {ds : List (D × D)}, RepP K mg r Hs vs ds → RepP K mg r Hs' vs ds
  | _, _, .nil => .nil
  | _, _, .cons h q => .cons (RepD.mono e h) (RepP.mono e q)
end
theorem RepDs.length : ∀ {vs : List V} {ds : List D}, RepDs K mg r Hs vs ds → vs.length = ds.length
  | _, _, .nil => rfl
  | _, _, .cons _ q => by simp only [List.length_cons, RepDs.length q]
theorem RepDs.get : ∀ {vs : List V} {ds : List D} {i : Nat} {v : V}, RepDs K mg r Hs vs ds → vs[i]? = some v → ∃ d, ds[i]? = some d ∧ RepD K mg r Hs v d
  | _, _, _, _, .nil, e => by simp at e
  | _, _, 0, _, .cons h _, e => by simp at e; subst e; exact ⟨_, rfl, h⟩
  | _, _, i + 1, _, .cons _ q, e => by
    obtain ⟨d, h1, h2⟩ := RepDs.get (i := i) q (by simpa using e)
    exact ⟨d, by simpa using h1, h2⟩
theorem RepDs.get' : ∀ {vs : List V} {ds : List D} {i : Nat} {d : D}, RepDs K mg r Hs vs ds → ds[i]? = some d → ∃ v, vs[i]? = some v ∧ RepD K mg r Hs v d
  | _, _, _, _, .nil, e => by simp at e
  | _, _, 0, _, .cons h _, e => by simp at e; subst e; exact ⟨_, rfl, h⟩
  | _, _, i + 1, _, .cons _ q, e => by
    obtain ⟨d, h1, h2⟩ := RepDs.get' (i := i) q (by simpa using e)
    exact ⟨d, by simpa using h1, h2⟩
theorem RepDs.append : ∀ {vs ws : List V} {ds es : List D}, RepDs K mg r Hs vs ds → RepDs K mg r Hs ws es → RepDs K mg r Hs (vs ++ ws) (ds ++ es)
  | _, _, _, _, .nil, q => q
  | _, _, _, _, .cons h p, q => .cons h (RepDs.append p q)
theorem RepDs.drop : ∀ {vs : List V} {ds : List D} (n : Nat), RepDs K mg r Hs vs ds → RepDs K mg r Hs (vs.drop n) (ds.drop n)
  | _, _, 0, q => q
  | _, _, _ + 1, .nil => .nil
  | _, _, n + 1, .cons _ q => RepDs.drop n q
theorem RepDs.take : ∀ {vs : List V} {ds : List D} (n : Nat), RepDs K mg r Hs vs ds → RepDs K mg r Hs (vs.take n) (ds.take n)
  | _, _, 0, _ => .nil
  | _, _, _ + 1, .nil => .nil
  | _, _, n + 1, .cons h q => .cons h (RepDs.take n q)
theorem RepDs.set : ∀ {vs : List V} {ds : List D} {v : V} {d : D} (n : Nat), RepDs K mg r Hs vs ds → RepD K mg r Hs v d → RepDs K mg r Hs (vs.set n v) (ds.set n d)
  | _, _, _, _, _, .nil, _ => .nil
  | _, _, _, _, 0, .cons _ q, h => .cons h q
  | _, _, _, _, n + 1, .cons g q, h => .cons g (RepDs.set n q h)
theorem RepDs.eraseIdx : ∀ {vs : List V} {ds : List D} (n : Nat), RepDs K mg r Hs vs ds → RepDs K mg r Hs (vs.eraseIdx n) (ds.eraseIdx n)
  | _, _, _, .nil => .nil
  | _, _, 0, .cons _ q => q
  | _, _, n + 1, .cons g q => .cons g (RepDs.eraseIdx n q)
theorem RepDs.reverse {vs : List V} {ds : List D} (h : RepDs K mg r Hs vs ds) : RepDs K mg r Hs vs.reverse ds.reverse := by
  induction vs generalizing ds with
  | nil => cases h; exact .nil
  | cons v vs ih =>
    cases h with
    | cons a b => rw [List.reverse_cons, List.reverse_cons]; exact (ih b).append (.cons a .nil)
theorem RepDs.ints : ∀ (ns : List Int), RepDs K mg r Hs (ns.map V.int) (ns.map D.int)
  | [] => .nil
  | n :: ns => .cons (.int n) (RepDs.ints ns)
theorem RepDs.ints_of : ∀ {ns : List Int} {vs : List V}, RepDs K mg r Hs vs (ns.map D.int) → vs = ns.map V.int
  | [], _, .nil => rfl
  | n :: ns, _, .cons h q => by cases h; rw [RepDs.ints_of q]; rfl
theorem RepDs.strs_of : ∀ {ns : List Str} {vs : List V}, RepDs K mg r Hs vs (ns.map D.str) → vs = ns.map V.str
  | [], _, .nil => rfl
  | n :: ns, _, .cons h q => by cases h; rw [RepDs.strs_of q]; rfl
theorem RepDs.bls_of : ∀ {ns : List Bool} {vs : List V}, RepDs K mg r Hs vs (ns.map D.bl) → vs = ns.map V.bl
  | [], _, .nil => rfl
  | n :: ns, _, .cons h q => by cases h; rw [RepDs.bls_of q]; rfl
theorem upd_new {H : Hp} {p : Addr} {o : HO} (h : H p = none) (a : Addr) (u : HO) (e : H a = some u) : upd H p o a = some u := by
  rw [upd_ne (ne_of_none e h)]
  exact e
theorem same_new {H : Hp} {p : Addr} {o : HO} (h : H p = none) : Same H (upd H p o) := .of (upd_new h)
end
section
variable (K : PySem.W.Frag) (mg : Str → Option Value) (r : Addr)
/-- what stands still, the heap, the tape at r -/
structure Wd (Hs H : Hp) (tp : List D) : Prop where
  sub : Same Hs H
  tn : Hs r = none
  tH : ∃ vs, H r = some (.lst vs) ∧ RepDs K mg r Hs vs tp
  nx : ∀ b φ, Hs b ≠ some (.ext φ)
structure Grow (Hs H Hs' H' : Hp) : Prop where
  keep : ∀ b o, H b = some o → b ≠ r → Hs b = none → H' b = some o
  free : ∀ b, H' b = none → H b = none
  ex : Same Hs Hs'
  new : ∀ b o, b ≠ r → Hs' b = some o → (∃ u, Hs b = some u) ∨ H b = none ∨ ∃ xs, H b = some (.tup xs)
  tup : ∀ b xs, H b = some (.tup xs) → H' b = some (.tup xs)
end
section
variable {K : PySem.W.Frag} {mg : Str → Option Value} {r : Addr} {Hs Hs' Hs1 Hs2 H H' H1 H2 : Hp} {tp tp' : List D}
theorem Grow.refl (Hs H : Hp) : Grow r Hs H Hs H := ⟨fun _ _ e _ _ => e, fun _ e => e, Same.refl _, fun _ _ _ e => .inl ⟨_, e⟩, fun _ _ e => e⟩
theorem Grow.trans (a : Grow r Hs H Hs1 H1) (b : Grow r Hs1 H1 Hs2 H2) : Grow r Hs H Hs2 H2 where
  keep := fun c o e n hs => by
    cases z : Hs1 c with
    | none => exact b.keep c o (a.keep c o e n hs) n z
    | some u =>
      rcases a.new c u n z with ⟨_, q⟩ | q | ⟨xs, q⟩
      · rw [hs] at q; cases q
      · rw [e] at q; cases q
      · rw [e] at q; cases q
        exact b.tup c xs (a.tup c xs e)
  free := fun c e => a.free c (b.free c e)
  ex := a.ex.trans b.ex
  new := fun c o n e => by
    rcases b.new c o n e with ⟨u, q⟩ | q | ⟨xs, q⟩
    · exact a.new c u n q
    · exact .inr (.inl (a.free c q))
    · cases z : H c with
      | none => exact .inr (.inl rfl)
      | some u =>
        cases y : Hs c with
        | some v => exact .inl ⟨v, rfl⟩
        | none =>
          have := a.keep c u z n y
          rw [q] at this; cases this
          exact .inr (.inr ⟨xs, rfl⟩)
  tup := fun c xs e => b.tup c xs (a.tup c xs e)
theorem Grow.no {c : Addr} {o : HO} (a : Grow r Hs H Hs1 H1) (hs : Hs c = none) (e : H c = some o) (n : c ≠ r) (t : ∀ xs, o ≠ .tup xs := by intros; nofun) : Hs1 c = none := by
  cases z : Hs1 c with
  | none => rfl
  | some u =>
    rcases a.new c u n z with ⟨_, q⟩ | q | ⟨xs, q⟩
    · rw [hs] at q; cases q
    · rw [e] at q; cases q
    · rw [e] at q; cases q; exact (t xs rfl).elim
theorem Wd.ne {p : Addr} {o : HO} (w : Wd K mg r Hs H tp) (h : Hs p = some o) : p ≠ r := fun e => by
  rw [e, w.tn] at h; cases h
theorem Wd.fresh {p : Addr} (w : Wd K mg r Hs H tp) (h : H p = none) : Hs p = none ∧ p ≠ r := by
  refine ⟨w.sub.free h, fun e => ?_⟩
  obtain ⟨vs, q, _⟩ := w.tH
  rw [e, q] at h; cases h
/-- a new object that stands still -/
theorem Wd.alloc {p : Addr} {o : HO} (w : Wd K mg r Hs H tp) (h : H p = none) (no : ∀ φ, o ≠ .ext φ := by intros; nofun) : Grow r Hs H (upd Hs p o) (upd H p o) ∧ Wd K mg r (upd Hs p o) (upd H p o) tp := by
  obtain ⟨hs, ne⟩ := w.fresh h
  refine ⟨⟨fun b u e _ _ => upd_new h b u e, fun b e => upd_free e, same_new hs, fun b u n e => ?_, fun b xs e => upd_new h b _ e⟩, ⟨fun b u e => ?_, ?_, ?_, fun b φ e => ?_⟩⟩
  · by_cases q : b = p
    · subst q; exact .inr (.inl h)
    · rw [upd_ne q] at e; exact .inl ⟨_, e⟩
  · by_cases q : b = p
    · subst q; rw [upd_same] at e; exact .inl (by rw [upd_same]; exact e)
    · rw [upd_ne q] at e; exact (w.sub b u e).upd q fun xs z => by rw [h] at z; cases z
  · rw [upd_ne ne.symm]; exact w.tn
  · obtain ⟨vs, q, z⟩ := w.tH
    exact ⟨vs, by rw [upd_ne ne.symm]; exact q, z.mono (same_new hs)⟩
  · by_cases q : b = p
    · subst q; rw [upd_same] at e; exact no φ (Option.some.inj e)
    · rw [upd_ne q] at e; exact w.nx b φ e
/-- a new object that does not stand still (yet) -/
theorem Wd.lay {p : Addr} {o : HO} (w : Wd K mg r Hs H tp) (h : H p = none) : Grow r Hs H Hs (upd H p o) ∧ Wd K mg r Hs (upd H p o) tp := by
  obtain ⟨hs, ne⟩ := w.fresh h
  refine ⟨⟨fun b u e _ _ => upd_new h b u e, fun b e => upd_free e, Same.refl _, fun b u n e => .inl ⟨_, e⟩, fun b xs e => upd_new h b _ e⟩, ⟨fun b u e => (w.sub b u e).keep (fun v q => upd_new h b v q) fun a xs e => upd_new h a _ e, w.tn, ?_, w.nx⟩⟩
  obtain ⟨vs, q, z⟩ := w.tH
  exact ⟨vs, by rw [upd_ne ne.symm]; exact q, z⟩
/-- an object that is not in Hs is written -/
theorem Wd.write {p : Addr} {o : HO} (w : Wd K mg r Hs H tp) (h : Hs p = none) (ne : p ≠ r) (nt : ∀ xs, H p ≠ some (.tup xs)) : Wd K mg r Hs (upd H p o) tp := by
  refine ⟨fun b u e => ?_, w.tn, ?_, w.nx⟩
  · exact (w.sub b u e).upd (ne_of_none e h) nt
  · obtain ⟨vs, q, z⟩ := w.tH
    exact ⟨vs, by rw [upd_ne ne.symm]; exact q, z⟩
end
inductive RE (α : Type) where
  | ok (a : α) (tp : List D)
  | exn (c : Str) (fs : List (Str × D)) (tp : List D)
  | stuck
def RE.bind {α β : Type} (x : RE α) (k : α → List D → RE β) : RE β := match x with
  | .ok a tp => k a tp
  | .exn c fs tp => .exn c fs tp
  | .stuck => .stuck
@[simp] theorem RE.bind_ok {α β : Type} (a : α) (tp : List D) (k : α → List D → RE β) : (RE.ok a tp).bind k = k a tp := rfl
@[simp] theorem RE.bind_exn {α β : Type} (c : Str) (fs : List (Str × D)) (tp : List D) (k : α → List D → RE β) : (RE.exn c fs tp : RE α).bind k = .exn c fs tp := rfl
@[simp] theorem RE.bind_stuck {α β : Type} (k : α → List D → RE β) : (RE.stuck : RE α).bind k = .stuck := rfl
def RE.of {α : Type} (o : Option α) (tp : List D) : RE α := match o with
  | some a => .ok a tp
  | none => .stuck
@[simp] theorem RE.of_some {α : Type} (a : α) (tp : List D) : RE.of (some a) tp = .ok a tp := rfl
@[simp] theorem RE.of_none {α : Type} (tp : List D) : (RE.of (none : Option α) tp) = .stuck := rfl
section
variable (K : PySem.W.Frag) (mg : Str → Option Value) (r : Addr)
/-- the dict of an exception: its fields -/
def ExD (Hs : Hp) (fs : List (Str × D)) (dx : Option Addr) : Prop :=
  (fs = [] ∧ dx = none) ∨ ∃ a gs, dx = some a ∧ Hs a = some (.xd gs) ∧ ∀ f, match fs.lookup f with
    | some d => ∃ v, gs.lookup f = some v ∧ RepD K mg r Hs v d
    | none => gs.lookup f = none
def Post {β α : Type} (Rp : Hp → Hp → β → α → Prop) (E : XK) (Hs H : Hp) (res : RE α) (Q : β → Hp → Prop) : Prop := match res with
  | .ok d tp' => ∀ v Hs' H', Grow r Hs H Hs' H' → Wd K mg r Hs' H' tp' → Rp Hs' H' v d → Q v H'
  | .exn c fs tp' => ∀ cv dx Hs' H', Grow r Hs H Hs' H' → Wd K mg r Hs' H' tp' → mg c = some cv → ExD K mg r Hs' fs dx → E cv dx H'
  | .stuck => False
end
section
variable {K : PySem.W.Frag} {mg : Str → Option Value} {r : Addr} {Hs Hs' Hs1 Hs2 H H' H1 H2 : Hp} {tp tp' : List D} {α β γ δ : Type} {R1 : Hp → Hp → β → α → Prop} {R2 : Hp → Hp → δ → γ → Prop} {E : XK}
theorem Post.shift {res : RE α} {Q : β → Hp → Prop} (g : Grow r Hs H Hs1 H1) (h : Post K mg r R1 E Hs H res Q) : Post K mg r R1 E Hs1 H1 res Q := by
  cases res with
  | ok d tp' => exact fun v Hs' H' g' w q => h v Hs' H' (g.trans g') w q
  | exn c fs tp' => exact fun cv dx Hs' H' g' w m x => h cv dx Hs' H' (g.trans g') w m x
  | stuck => exact h
theorem Post.imp {res : RE α} {Q Q' : β → Hp → Prop} (h : Post K mg r R1 E Hs H res Q) (k : ∀ v H', Q v H' → Q' v H') : Post K mg r R1 E Hs H res Q' := by
  cases res with
  | ok d tp' => exact fun v Hs' H' g' w q => k _ _ (h v Hs' H' g' w q)
  | exn c fs tp' => exact h
  | stuck => exact h
/-- one thing, then another -/
theorem Post.bind {res : RE α} {k : α → List D → RE γ} {Q : δ → Hp → Prop} {Q1 : β → Hp → Prop} (h : Post K mg r R2 E Hs H (res.bind k) Q)
    (step : ∀ v Hs1 H1 d tp1, res = .ok d tp1 → Grow r Hs H Hs1 H1 → Wd K mg r Hs1 H1 tp1 → R1 Hs1 H1 v d → Post K mg r R2 E Hs1 H1 (k d tp1) Q → Q1 v H1) : Post K mg r R1 E Hs H res Q1 := by
  cases res with
  | ok d tp' => exact fun v Hs' H' g' w q => step v Hs' H' d tp' rfl g' w q (Post.shift g' h)
  | exn c fs tp' => exact h
  | stuck => exact h
theorem Post.ok_of {o : Option α} {Q : β → Hp → Prop} (h : Post K mg r R1 E Hs H (RE.of o tp) Q) : ∃ d, o = some d ∧ ∀ v Hs' H', Grow r Hs H Hs' H' → Wd K mg r Hs' H' tp → R1 Hs' H' v d → Q v H' := by
  cases o with
  | none => exact h.elim
  | some d => exact ⟨d, rfl, h⟩
end
end G
set_option maxHeartbeats 1000000
namespace G
open PySem PySem.Spec PyProof.Rows L2
abbrev DEnv := List (Option D)
abbrev SE (α : Type) := DEnv → List D → RE α
section
variable (K : PySem.W.Frag) (mg : Str → Option Value) (r : Addr)
/-- the object at p (its own slot's alone) holds d, its items stand still -/
def OwnAt (Hs H : Hp) (p : Addr) : D → Prop
  | .lst ds => ∃ vs, H p = some (.lst vs) ∧ RepDs K mg r Hs vs ds
  | .dic ds => ∃ kvs : List (Key × V), H p = some (.dK kvs) ∧ RepP K mg r Hs (kvs.map fun q => (keyD q.1, q.2)) ds
  | .dct ds => ∃ kvs : List (List Key × V), H p = some (.dT kvs) ∧ RepP K mg r Hs (kvs.map fun q => (keyT q.1, q.2)) ds
  | _ => False
/-- as RepD; the topmost object may be one that changes -/
def RepT (Hs H : Hp) (v : V) (d : D) : Prop := RepD K mg r Hs v d ∨ ∃ p, v = .ref p ∧ (p ≠ r ∧ Hs p = none) ∧ OwnAt K mg r Hs H p d
structure Rel (O : List Nat) (Hs0 H0 Hs H : Hp) (σ : L2.St) (env : DEnv) (tp : List D) : Prop where
  wd : Wd K mg r Hs H tp
  gr : Grow r Hs0 H0 Hs H
  len : σ.length = env.length
  vars : ∀ i d, env[i]? = some (some d) → i ∉ O → ∃ v, σ[i]? = some (some v) ∧ RepD K mg r Hs v d
  own : ∀ i, i ∈ O → ∃ d p, env[i]? = some (some d) ∧ σ[i]? = some (some (.ref p)) ∧ Hs p = none ∧ H0 p = none ∧ p ≠ r ∧ OwnAt K mg r Hs H p d
  dis : ∀ i j p, i ∈ O → j ∈ O → σ[i]? = some (some (.ref p)) → σ[j]? = some (some (.ref p)) → i = j
end
section
variable {K : PySem.W.Frag} {mg : Str → Option Value} {r : Addr} {Hs0 H0 Hs Hs' H H' : Hp} {O : List Nat} {σ : L2.St} {env : DEnv} {tp tp' : List D} {p : Addr} {d : D} {v : V}
theorem OwnAt.grow (h : OwnAt K mg r Hs H p d) (e : Same Hs Hs') (k : ∀ o, H p = some o → H' p = some o) : OwnAt K mg r Hs' H' p d := by
  cases d with
  | lst ds => obtain ⟨vs, a, b⟩ := h; exact ⟨vs, k _ a, b.mono e⟩
  | dic ds => obtain ⟨kvs, a, b⟩ := h; exact ⟨kvs, k _ a, RepP.mono e b⟩
  | dct ds => obtain ⟨kvs, a, b⟩ := h; exact ⟨kvs, k _ a, RepP.mono e b⟩
  | _ => exact h.elim
theorem OwnAt.ntup (h : OwnAt K mg r Hs H p d) : ∀ o, H p = some o → ∀ xs, o ≠ .tup xs := fun o e xs z => by
  subst z
  cases d with
  | lst ds => obtain ⟨vs, a, b⟩ := h; rw [e] at a; cases a
  | dic ds => obtain ⟨kvs, a, b⟩ := h; rw [e] at a; cases a
  | dct ds => obtain ⟨kvs, a, b⟩ := h; rw [e] at a; cases a
  | _ => exact h.elim
theorem OwnAt.next (h : OwnAt K mg r Hs H p d) : ∀ φ, H p ≠ some (.ext φ) := fun φ e => by
  cases d with
  | lst ds => obtain ⟨vs, a, b⟩ := h; rw [e] at a; cases a
  | dic ds => obtain ⟨kvs, a, b⟩ := h; rw [e] at a; cases a
  | dct ds => obtain ⟨kvs, a, b⟩ := h; rw [e] at a; cases a
  | _ => exact h.elim
theorem OwnAt.there (h : OwnAt K mg r Hs H p d) : ∃ o, H p = some o := by
  cases d with
  | lst ds => obtain ⟨vs, a, b⟩ := h; exact ⟨_, a⟩
  | dic ds => obtain ⟨kvs, a, b⟩ := h; exact ⟨_, a⟩
  | dct ds => obtain ⟨kvs, a, b⟩ := h; exact ⟨_, a⟩
  | _ => exact h.elim
/-- an owned object comes to stand still -/
theorem OwnAt.rep (h : OwnAt K mg r Hs H p d) (e : Same Hs Hs') (k : ∀ o, H p = some o → Hs' p = some o) : RepD K mg r Hs' (.ref p) d := by
  cases d with
  | lst ds => obtain ⟨vs, a, b⟩ := h; exact .lst (k _ a) (b.mono e)
  | dic ds => obtain ⟨kvs, a, b⟩ := h; exact .dicK (.of (k _ a)) (RepP.mono e b)
  | dct ds => obtain ⟨kvs, a, b⟩ := h; exact .dicT (.of (k _ a)) (RepP.mono e b)
  | _ => exact h.elim
theorem RepT.grow (h : RepT K mg r Hs H v d) (g : Grow r Hs H Hs' H') : RepT K mg r Hs' H' v d := by
  rcases h with h | ⟨p, e, ⟨n, hs⟩, h⟩
  · exact .inl (h.mono g.ex)
  · obtain ⟨o, q⟩ := h.there
    exact .inr ⟨p, e, ⟨n, g.no hs q n (h.ntup o q)⟩, h.grow g.ex fun o q => g.keep p o q n hs⟩
theorem RepD.top (h : RepD K mg r Hs v d) : RepT K mg r Hs H v d := .inl h
theorem Rel.grow (R : Rel K mg r O Hs0 H0 Hs H σ env tp) (g : Grow r Hs H Hs' H') (w : Wd K mg r Hs' H' tp') : Rel K mg r O Hs0 H0 Hs' H' σ env tp' where
  wd := w
  gr := R.gr.trans g
  len := R.len
  vars := fun i d e n => by
    obtain ⟨v, a, b⟩ := R.vars i d e n
    exact ⟨v, a, b.mono g.ex⟩
  own := fun i hi => by
    obtain ⟨d, p, a, b, c, c0, n, o⟩ := R.own i hi
    refine ⟨d, p, a, b, ?_, c0, n, o.grow g.ex fun u q => g.keep p u q n c⟩
    obtain ⟨u', q'⟩ := o.there
    exact g.no c q' n (o.ntup u' q')
  dis := R.dis
end
section
variable (K : PySem.W.Frag) (mg : Str → Option Value) (r : Addr) (X : Cx) (O : List Nat) (E : XK)
abbrev PostE : Hp → Hp → RE D → VK → Prop := Post K mg r (fun Hs _ v d => RepD K mg r Hs v d) E
abbrev PostO : Hp → Hp → RE D → VK → Prop := Post K mg r (fun Hs H v d => RepT K mg r Hs H v d) E
abbrev PostB : Hp → Hp → RE Bool → (Bool → Hp → Prop) → Prop := Post K mg r (fun _ _ (a b : Bool) => a = b) E
abbrev PostA : Hp → Hp → RE (List D) → (List V → Hp → Prop) → Prop := Post K mg r (fun Hs _ v d => RepDs K mg r Hs v d) E
abbrev PostAO : Hp → Hp → RE (List D) → (List V → Hp → Prop) → Prop := Post K mg r (fun Hs H v d => Paired (RepT K mg r Hs H) v d) E
/-- the expression e gives what m says -/
structure GE (e : Expr) (t : TE) (m : SE D) : Prop where
  pe : PE X e t
  snd : ∀ Hs0 H0 Hs H σ env tp Q, Rel K mg r O Hs0 H0 Hs H σ env tp → PostE K mg r E Hs H (m env tp) Q → t σ H Q
/-- as GE, the value may be a slot's own object -/
structure GO (e : Expr) (t : TE) (m : SE D) : Prop where
  pe : PE X e t
  snd : ∀ Hs0 H0 Hs H σ env tp Q, Rel K mg r O Hs0 H0 Hs H σ env tp → PostO K mg r E Hs H (m env tp) Q → t σ H Q
structure GT (e : Expr) (t : TT) (m : SE Bool) : Prop where
  pe : PT X e t
  snd : ∀ Hs0 H0 Hs H σ env tp Q, Rel K mg r O Hs0 H0 Hs H σ env tp → PostB K mg r E Hs H (m env tp) Q → t σ H Q
structure GW (e : Expr) (t : TT) (m : SE Bool) : Prop where
  pe : PW X e t
  snd : ∀ Hs0 H0 Hs H σ env tp Q, Rel K mg r O Hs0 H0 Hs H σ env tp → PostB K mg r E Hs H (m env tp) Q → t σ H Q
structure GA (es : List Expr) (t : TA) (m : SE (List D)) : Prop where
  pe : PA X es t
  snd : ∀ Hs0 H0 Hs H σ env tp Q, Rel K mg r O Hs0 H0 Hs H σ env tp → PostA K mg r E Hs H (m env tp) Q → t σ H Q
structure GAO (es : List Expr) (t : TA) (m : SE (List D)) : Prop where
  pe : PA X es t
  snd : ∀ Hs0 H0 Hs H σ env tp Q, Rel K mg r O Hs0 H0 Hs H σ env tp → PostAO K mg r E Hs H (m env tp) Q → t σ H Q
end
section
variable {K : PySem.W.Frag} {mg : Str → Option Value} {r : Addr} {X : Cx} {O : List Nat} {E : XK} {e a b c : Expr} {es : List Expr} {pos : Pos} {t ta tb tc : TE} {tt tu : TT} {ts : TA}
theorem GE.go {m : SE D} (h : GE K mg r X O E e t m) : GO K mg r X O E e t m := by
  obtain ⟨ht, hs⟩ := h
  refine ⟨ht, fun Hs0 H0 Hs H σ env tp Q R P => hs _ _ _ _ _ _ _ _ R ?_⟩
  unfold PostO at P
  cases q : m env tp with
  | ok d tp' =>
    rw [q] at P
    exact fun v Hs' H' g w x => P v Hs' H' g w (.inl x)
  | exn c fs tp' => rw [q] at P; exact P
  | stuck => rw [q] at P; exact P
def vE (i : Nat) : SE D := fun env tp => match env[i]? with
  | some (some d) => .ok d tp
  | _ => .stuck
def cE (d : D) : SE D := fun _ tp => .ok d tp
theorem ge_var (i : Nat) {x : Str} (hO : i ∉ O := by decide) (hN : X.N[i]? = some x := by rfl) (hv : Vis X.env.scope x := by first | exact Or.inl rfl | exact Or.inr (Or.inl rfl) | exact Or.inr (Or.inr rfl)) (hd : (x == ("__debug__" : Str)) = false := by decide)
    (hcd : (x == ("__classdict__" : Str)) = false := by decide) : GE K mg r X O E (.Name x pos) (tVar i) (vE i) := by
  refine ⟨pe_var hN hv hd hcd, fun Hs0 H0 Hs H σ env tp Q R P => ?_⟩
  unfold vE at P
  split at P
  · rename_i d q
    obtain ⟨v, h1, h2⟩ := R.vars i d q hO
    exact ⟨v, h1, P v Hs H (Grow.refl _ _) R.wd h2⟩
  · exact P.elim
theorem go_own (i : Nat) {x : Str} (hO : i ∈ O := by decide) (hN : X.N[i]? = some x := by rfl) (hv : Vis X.env.scope x := by first | exact Or.inl rfl | exact Or.inr (Or.inl rfl) | exact Or.inr (Or.inr rfl)) (hd : (x == ("__debug__" : Str)) = false := by decide)
    (hcd : (x == ("__classdict__" : Str)) = false := by decide) : GO K mg r X O E (.Name x pos) (tVar i) (vE i) := by
  refine ⟨pe_var hN hv hd hcd, fun Hs0 H0 Hs H σ env tp Q R P => ?_⟩
  obtain ⟨d, p, h1, h2, h3, h4, h5, h6⟩ := R.own i hO
  unfold vE at P
  rw [h1] at P
  exact ⟨_, h2, P _ Hs H (Grow.refl _ _) R.wd (.inr ⟨p, rfl, ⟨h5, h3⟩, h6⟩)⟩
theorem ge_c {e : Expr} {v : V} {d : D} (h : PE X e (tC v)) (hr : ∀ Hs, RepD K mg r Hs v d) : GE K mg r X O E e (tC v) (cE d) :=
  ⟨h, fun Hs0 H0 Hs H σ env tp Q R P => P v Hs H (Grow.refl _ _) R.wd (hr Hs)⟩
theorem ge_int {i j pos} : GE K mg r X O E (.Constant (.int i) j pos) (tC (.int i)) (cE (.int i)) := ge_c pe_int fun _ => .int i
theorem ge_bl {i j pos} : GE K mg r X O E (.Constant (.bool i) j pos) (tC (.bl i)) (cE (.bl i)) := ge_c pe_bl fun _ => .bl i
theorem ge_non {j pos} : GE K mg r X O E (.Constant .none j pos) (tC .non) (cE .non) := ge_c pe_non fun _ => .non
theorem ge_str {i j pos} : GE K mg r X O E (.Constant (.str i) j pos) (tC (.str i)) (cE (.str i)) := ge_c pe_str fun _ => .str i
theorem ge_gint {x : Str} {i : Int} (hm : ∃ t, X.mg x = some (.int i t)) (hg : Gl X x := by rfl) (hd : (x == ("__debug__" : Str)) = false := by decide) : GE K mg r X O E (.Name x pos) (tC (.int i)) (cE (.int i)) := by
  obtain ⟨t, hm⟩ := hm
  exact ge_c (v := .int i) (pe_glob hg hm ⟨t, rfl⟩ hd) fun _ => .int i
theorem ge_gstr {x : Str} {i : Str} (hm : ∃ t, X.mg x = some (.str i t)) (hg : Gl X x := by rfl) (hd : (x == ("__debug__" : Str)) = false := by decide) : GE K mg r X O E (.Name x pos) (tC (.str i)) (cE (.str i)) := by
  obtain ⟨t, hm⟩ := hm
  exact ge_c (v := .str i) (pe_glob hg hm ⟨t, rfl⟩ hd) fun _ => .str i
def nilA : SE (List D) := fun _ tp => .ok [] tp
def consA (m : SE D) (ms : SE (List D)) : SE (List D) := fun env tp => (m env tp).bind fun d tp1 => (ms env tp1).bind fun ds tp2 => .ok (d :: ds) tp2
theorem ga_nil : GA K mg r X O E [] tNil nilA := ⟨pa_nil, fun Hs0 H0 Hs H σ env tp Q R P => P [] Hs H (Grow.refl _ _) R.wd .nil⟩
theorem gao_nil : GAO K mg r X O E [] tNil nilA := ⟨pa_nil, fun Hs0 H0 Hs H σ env tp Q R P => P [] Hs H (Grow.refl _ _) R.wd .nil⟩
theorem ga_cons {m : SE D} {ms : SE (List D)} (h : GE K mg r X O E e t m) (hs : GA K mg r X O E es ts ms) (hst : starEach (e :: es) X.env = (false, eval e X.env) :: starEach es X.env := by rfl) : GA K mg r X O E (e :: es) (tCons t ts) (consA m ms) := by
  obtain ⟨ht, h1⟩ := h
  obtain ⟨hts, h2⟩ := hs
  refine ⟨pa_cons ht hts hst, fun Hs0 H0 Hs H σ env tp Q R P => ?_⟩
  refine h1 _ _ _ _ _ _ _ _ R (Post.bind P fun v Hs1 H1 d tp1 _ g w rv P1 => ?_)
  refine h2 _ _ _ _ _ _ _ _ (R.grow g w) (Post.bind P1 fun vs Hs2 H2 ds tp2 _ g2 w2 rs P2 => ?_)
  exact P2 _ Hs2 H2 (Grow.refl _ _) w2 (.cons (rv.mono g2.ex) rs)
theorem gao_cons {m : SE D} {ms : SE (List D)} (h : GO K mg r X O E e t m) (hs : GAO K mg r X O E es ts ms) (hst : starEach (e :: es) X.env = (false, eval e X.env) :: starEach es X.env := by rfl) : GAO K mg r X O E (e :: es) (tCons t ts) (consA m ms) := by
  obtain ⟨ht, h1⟩ := h
  obtain ⟨hts, h2⟩ := hs
  refine ⟨pa_cons ht hts hst, fun Hs0 H0 Hs H σ env tp Q R P => ?_⟩
  refine h1 _ _ _ _ _ _ _ _ R (Post.bind P fun v Hs1 H1 d tp1 _ g w rv P1 => ?_)
  refine h2 _ _ _ _ _ _ _ _ (R.grow g w) (Post.bind P1 fun vs Hs2 H2 ds tp2 _ g2 w2 rs P2 => ?_)
  exact P2 _ Hs2 H2 (Grow.refl _ _) w2 (.cons (rv.grow g2) rs)
def Fresh (K : PySem.W.Frag) (mg : Str → Option Value) (r : Addr) (Hb : Hp) (Hs H : Hp) (v : V) (d : D) : Prop := ∃ p, v = .ref p ∧ Hb p = none ∧ Hs p = none ∧ p ≠ r ∧ OwnAt K mg r Hs H p d
structure GF (K : PySem.W.Frag) (mg : Str → Option Value) (r : Addr) (X : Cx) (O : List Nat) (E : XK) (e : Expr) (t : TE) (m : SE D) : Prop where
  pe : PE X e t
  snd : ∀ Hs0 H0 Hs H σ env tp Q, Rel K mg r O Hs0 H0 Hs H σ env tp → Post K mg r (Fresh K mg r H) E Hs H (m env tp) Q → t σ H Q
/-- it comes to stand still -/
theorem freeze_fresh {Hb Hs H : Hp} {tp : List D} {v : V} {d : D} (w : Wd K mg r Hs H tp) (h : Fresh K mg r Hb Hs H v d) : ∃ Hs', Same Hs Hs' ∧ Wd K mg r Hs' H tp ∧ RepD K mg r Hs' v d ∧ (∀ b o, Hs' b = some o → (∃ u, Hs b = some u) ∨ Hb b = none) := by
  obtain ⟨p, rfl, hb, hs, ne, oa⟩ := h
  obtain ⟨o, ho⟩ := oa.there
  have e : Same Hs (upd Hs p o) := same_new hs
  refine ⟨upd Hs p o, e, ⟨fun b u q => ?_, by rw [upd_ne ne.symm]; exact w.tn, ?_, fun b φ q => ?_⟩, oa.rep e (fun u q => ?_), fun b u q => ?_⟩
  · by_cases z : b = p
    · subst z; rw [upd_same] at q; exact .inl (ho.trans q)
    · rw [upd_ne z] at q; exact w.sub b u q
  · obtain ⟨vs, a, b⟩ := w.tH
    exact ⟨vs, a, b.mono e⟩
  · by_cases z : b = p
    · subst z; rw [upd_same] at q; exact oa.next φ (ho.trans q)
    · rw [upd_ne z] at q; exact w.nx b φ q
  · rw [ho] at q; cases q; exact upd_same
  · by_cases z : b = p
    · subst z; exact .inr hb
    · rw [upd_ne z] at q; exact .inl ⟨_, q⟩
theorem GF.ge {m : SE D} (h : GF K mg r X O E e t m) : GE K mg r X O E e t m := by
  obtain ⟨ht, hs⟩ := h
  refine ⟨ht, fun Hs0 H0 Hs H σ env tp Q R P => hs _ _ _ _ _ _ _ _ R ?_⟩
  unfold PostE at P
  cases q : m env tp with
  | ok d tp' =>
    rw [q] at P
    intro v Hs' H' g w x
    obtain ⟨Hs2, e, w2, rv, nw⟩ := freeze_fresh w x
    refine P v Hs2 H' ⟨g.keep, g.free, g.ex.trans e, fun b o n z => ?_, g.tup⟩ w2 rv
    rcases nw b o z with ⟨u, z⟩ | z
    · exact g.new b u n z
    · exact .inr (.inl z)
  | exn c fs tp' => rw [q] at P; exact P
  | stuck => rw [q] at P; exact P
def tupE (ms : SE (List D)) : SE D := fun env tp => (ms env tp).bind fun ds tp1 => if ds.length ≤ sizeLine then .ok (.tup ds) tp1 else .stuck
def lstE (ms : SE (List D)) : SE D := fun env tp => (ms env tp).bind fun ds tp1 => if ds.length ≤ sizeLine then .ok (.lst ds) tp1 else .stuck
theorem ge_tup {ms : SE (List D)} {x1} (hs : GA K mg r X O E es ts ms) : GE K mg r X O E (.Tuple es x1 pos) (tTup ts) (tupE ms) := by
  obtain ⟨hts, h2⟩ := hs
  refine ⟨pe_tup hts, fun Hs0 H0 Hs H σ env tp Q R P => ?_⟩
  refine h2 _ _ _ _ _ _ _ _ R (Post.bind P fun vs Hs1 H1 ds tp1 _ g w rs P1 => ?_)
  by_cases q : ds.length ≤ sizeLine
  · rw [if_pos q] at P1
    refine ⟨by rw [rs.length]; exact q, fun p hp => ?_⟩
    obtain ⟨g2, w2⟩ := w.alloc (o := .tup vs) hp
    exact P1 _ _ _ g2 w2 (.tup upd_same (rs.mono g2.ex))
  · rw [if_neg q] at P1; exact P1.elim
/-- what a new object at p gives to a wish of a fresh one -/
theorem fresh_new {Hs H Hs1 H1 : Hp} {p : Addr} {o : HO} {tp : List D} {d : D} (g : Grow r Hs H Hs1 H1) (w : Wd K mg r Hs1 H1 tp) (hp : H1 p = none) (ho : OwnAt K mg r Hs1 (upd H1 p o) p d) :
    Grow r Hs H Hs1 (upd H1 p o) ∧ Wd K mg r Hs1 (upd H1 p o) tp ∧ Fresh K mg r H Hs1 (upd H1 p o) (.ref p) d := by
  obtain ⟨g2, w2⟩ := w.lay (o := o) hp
  obtain ⟨f1, f2⟩ := w.fresh hp
  refine ⟨g.trans g2, w2, p, rfl, ?_, f1, f2, ho⟩
  exact g.free p hp
theorem gf_lst {ms : SE (List D)} (hs : GA K mg r X O E es ts ms) : GF K mg r X O E (.List es pos) (tLst ts) (lstE ms) := by
  obtain ⟨hts, h2⟩ := hs
  refine ⟨pe_lst hts, fun Hs0 H0 Hs H σ env tp Q R P => ?_⟩
  unfold lstE at P
  refine h2 _ _ _ _ _ _ _ _ R ?_
  cases q : ms env tp with
  | ok ds tp1 =>
    rw [q] at P
    intro vs Hs1 H1 g w rs
    by_cases q : ds.length ≤ sizeLine
    · simp only [RE.bind_ok, if_pos q] at P
      refine ⟨by rw [rs.length]; exact q, fun p hp => ?_⟩
      obtain ⟨a, b, c⟩ := fresh_new (o := .lst vs) (d := .lst ds) g w hp ⟨vs, upd_same, rs⟩
      exact P _ _ _ a b c
    · simp only [RE.bind_ok, if_neg q] at P; exact P.elim
  | exn c fs tp1 => rw [q] at P; exact P
  | stuck => rw [q] at P; exact P
def OpS (K : PySem.W.Frag) (mg : Str → Option Value) (r : Addr) (R : R2) (f : D → D → Option D) : Prop := ∀ Hs H tp x y d e z Q, Wd K mg r Hs H tp → RepT K mg r Hs H x d → RepT K mg r Hs H y e → f d e = some z →
  (∀ v Hs' H', Grow r Hs H Hs' H' → Wd K mg r Hs' H' tp → RepD K mg r Hs' v z → Q v H') → R x y H Q
def binE (f : D → D → Option D) (ma mb : SE D) : SE D := fun env tp => (ma env tp).bind fun d tp1 => (mb env tp1).bind fun e tp2 => RE.of (f d e) tp2
theorem bin_sound {R : R2} {f : D → D → Option D} {ma mb : SE D} {ta tb : TE} (hf : OpS K mg r R f) (h1 : ∀ Hs0 H0 Hs H σ env tp Q, Rel K mg r O Hs0 H0 Hs H σ env tp → PostO K mg r E Hs H (ma env tp) Q → ta σ H Q)
    (h2 : ∀ Hs0 H0 Hs H σ env tp Q, Rel K mg r O Hs0 H0 Hs H σ env tp → PostO K mg r E Hs H (mb env tp) Q → tb σ H Q) :
    ∀ Hs0 H0 Hs H σ env tp Q, Rel K mg r O Hs0 H0 Hs H σ env tp → PostE K mg r E Hs H (binE f ma mb env tp) Q → tOp R ta tb σ H Q := by
  intro Hs0 H0 Hs H σ env tp Q Rl P
  refine h1 _ _ _ _ _ _ _ _ Rl (Post.bind P fun v Hs1 H1 d tp1 _ g w rv P1 => ?_)
  refine h2 _ _ _ _ _ _ _ _ (Rl.grow g w) (Post.bind P1 fun u Hs2 H2 e tp2 _ g2 w2 ru P2 => ?_)
  obtain ⟨z, hz, k⟩ := Post.ok_of P2
  exact hf _ _ _ _ _ _ _ _ _ w2 (rv.grow g2) ru hz k
theorem ge_op {op : Operator} {R : R2} {f : D → D → Option D} {ma mb : SE D} (ho : OpR X (binaryOp op) R) (hf : OpS K mg r R f) (ha : GO K mg r X O E a ta ma) (hb : GO K mg r X O E b tb mb) : GE K mg r X O E (.BinOp a op b pos) (tOp R ta tb) (binE f ma mb) :=
  ⟨pe_op ho ha.pe hb.pe, bin_sound hf ha.snd hb.snd⟩
theorem ge_cmp {op : CmpOp} {R : R2} {f : D → D → Option D} {ma mb : SE D} (ho : OpR X (compareOp op) R) (hf : OpS K mg r R f) (ha : GO K mg r X O E a ta ma) (hb : GO K mg r X O E b tb mb) (hm : behindInMarks op b = false) : GE K mg r X O E (.Compare a [op] [b] pos) (tOp R ta tb) (binE f ma mb) :=
  ⟨pe_cmpR ho ha.pe hb.pe hm, bin_sound hf ha.snd hb.snd⟩
/-- two rules for one operator: f is told by the one or the other -/
theorem OpS.or {R R' : R2} {f f1 f2 : D → D → Option D} (h : OpS K mg r R f1) (h' : OpS K mg r R' f2) (hf : ∀ d e z, f d e = some z → f1 d e = some z ∨ f2 d e = some z) : OpS K mg r (fun x y H Q => R x y H Q ∨ R' x y H Q) f := by
  intro Hs H tp x y d e z Q w rx ry hz k
  rcases hf d e z hz with q | q
  · exact .inl (h Hs H tp x y d e z Q w rx ry q k)
  · exact .inr (h' Hs H tp x y d e z Q w rx ry q k)
def chainE (f g : D → D → Option D) (ma mb mc : SE D) : SE D := fun env tp => (ma env tp).bind fun d tp1 => (mb env tp1).bind fun e tp2 => match f d e with
  | some (.bl true) => (mc env tp2).bind fun c tp3 => RE.of (g e c) tp3
  | some (.bl false) => .ok (.bl false) tp2
  | _ => .stuck
theorem chain_sound {R R' : R2} {f g : D → D → Option D} {ma mb mc : SE D} (hf : OpS K mg r R f) (hg : OpS K mg r R' g) (ha : GO K mg r X O E a ta ma) (hb : GO K mg r X O E b tb mb) (hc : GO K mg r X O E c tc mc) :
    ∀ Hs0 H0 Hs H σ env tp Q, Rel K mg r O Hs0 H0 Hs H σ env tp → PostE K mg r E Hs H (chainE f g ma mb mc env tp) Q → tChain R R' ta tb tc σ H Q := by
  intro Hs0 H0 Hs H σ env tp Q Rl P
  refine ha.snd _ _ _ _ _ _ _ _ Rl (Post.bind P fun v Hs1 H1 d tp1 _ g1 w rv P1 => ?_)
  refine hb.snd _ _ _ _ _ _ _ _ (Rl.grow g1 w) (Post.bind P1 fun u Hs2 H2 e tp2 _ g2 w2 ru P2 => ?_)
  cases q : f d e with
  | none => rw [q] at P2; exact P2.elim
  | some z =>
    rw [q] at P2
    refine hf _ _ _ _ _ _ _ _ _ w2 (rv.grow g2) ru q fun y Hs3 H3 g3 w3 ry => ?_
    have P3 := Post.shift g3 P2
    cases z with
    | bl k =>
      cases ry
      refine ⟨k, rfl, ?_⟩
      cases k with
      | false => exact iteF (P3 _ Hs3 H3 (Grow.refl _ _) w3 (.bl _))
      | true =>
        refine iteT (hc.snd _ _ _ _ _ _ _ _ (Rl.grow ((g1.trans g2).trans g3) w3) (Post.bind P3 fun x Hs4 H4 c tp4 _ g4 w4 rx P4 => ?_))
        obtain ⟨z, hz, k⟩ := Post.ok_of P4
        exact hg _ _ _ _ _ _ _ _ _ w4 ((ru.grow g3).grow g4) rx hz k
    | _ => exact P3.elim
theorem ge_chain {op op' : CmpOp} {R R' : R2} {f g : D → D → Option D} {ma mb mc : SE D} (ho : OpR X (compareOp op) R) (ho' : OpR X (compareOp op') R') (hf : OpS K mg r R f) (hg : OpS K mg r R' g) (ha : GO K mg r X O E a ta ma) (hb : GO K mg r X O E b tb mb) (hc : GO K mg r X O E c tc mc)
    (hm : lastMarks [op, op'] [b, c] = false := by with_unfolding_all rfl) : GE K mg r X O E (.Compare a [op, op'] [b, c] pos) (tChain R R' ta tb tc) (chainE f g ma mb mc) :=
  ⟨pe_chain ho ho' ha.pe hb.pe hc.pe hm, chain_sound hf hg ha hb hc⟩
theorem ge_ix {R : R2} {f : D → D → Option D} {ma mb : SE D} (ho : IxR X R) (hf : OpS K mg r R f) (ha : GO K mg r X O E a ta ma) (hb : GO K mg r X O E b tb mb) (hs : PlainIx b := by exact fun _ _ => rfl) : GE K mg r X O E (.Subscript a b pos) (tOp R ta tb) (binE f ma mb) :=
  ⟨pe_ix ho ha.pe hb.pe hs, bin_sound hf ha.snd hb.snd⟩
def UnS (K : PySem.W.Frag) (mg : Str → Option Value) (r : Addr) (R : V → Hp → VK → Prop) (f : D → Option D) : Prop := ∀ Hs H tp x d z Q, Wd K mg r Hs H tp → RepT K mg r Hs H x d → f d = some z →
  (∀ v Hs' H', Grow r Hs H Hs' H' → Wd K mg r Hs' H' tp → RepD K mg r Hs' v z → Q v H') → R x H Q
def unE (f : D → Option D) (ma : SE D) : SE D := fun env tp => (ma env tp).bind fun d tp1 => RE.of (f d) tp1
theorem ge_un {op : UnaryOp} {R : V → Hp → VK → Prop} {f : D → Option D} {ma : SE D} (ho : UnR X (unaryOp op) R) (hf : UnS K mg r R f) (ha : GO K mg r X O E a ta ma) : GE K mg r X O E (.UnaryOp op a pos) (tUn R ta) (unE f ma) := by
  refine ⟨pe_un ho ha.pe, fun Hs0 H0 Hs H σ env tp Q Rl P => ?_⟩
  refine ha.snd _ _ _ _ _ _ _ _ Rl (Post.bind P fun v Hs1 H1 d tp1 _ g w rv P1 => ?_)
  obtain ⟨z, hz, k⟩ := Post.ok_of P1
  exact hf _ _ _ _ _ _ _ w rv hz k
def CallS (K : PySem.W.Frag) (mg : Str → Option Value) (r : Addr) (R : List V → Hp → VK → Prop) (f : List D → Option D) : Prop := ∀ Hs H tp xs ds z Q, Wd K mg r Hs H tp → Paired (RepT K mg r Hs H) xs ds → f ds = some z →
  (∀ v Hs' H', Grow r Hs H Hs' H' → Wd K mg r Hs' H' tp → RepD K mg r Hs' v z → Q v H') → R xs H Q
def callB (f : List D → Option D) (ms : SE (List D)) : SE D := fun env tp => (ms env tp).bind fun ds tp1 => RE.of (f ds) tp1
theorem callB_sound {R : List V → Hp → VK → Prop} {f : List D → Option D} {ms : SE (List D)} (hf : CallS K mg r R f) (h2 : ∀ Hs0 H0 Hs H σ env tp Q, Rel K mg r O Hs0 H0 Hs H σ env tp → PostAO K mg r E Hs H (ms env tp) Q → ts σ H Q) :
    ∀ Hs0 H0 Hs H σ env tp Q, Rel K mg r O Hs0 H0 Hs H σ env tp → PostE K mg r E Hs H (callB f ms env tp) Q → tCB R ts σ H Q := by
  intro Hs0 H0 Hs H σ env tp Q Rl P
  refine h2 _ _ _ _ _ _ _ _ Rl (Post.bind P fun v Hs1 H1 d tp1 _ g w rv P1 => ?_)
  obtain ⟨z, hz, k⟩ := Post.ok_of P1
  exact hf _ _ _ _ _ _ _ w rv hz k
theorem ge_callB {x : Str} {id : String} {p : Pos} {R : List V → Hp → VK → Prop} {f : List D → Option D} {ms : SE (List D)} (hc : CallR X (.builtin id) R) (hf : CallS K mg r R f) (hm : X.mg x = none) (ha : GAO K mg r X O E (e :: es) ts ms) (hg : Gl X x := by rfl)
    (hv : bootBuiltins x = some (.builtin id) := by decide +kernel) (hn : x ≠ "__name__" := by decide) (hdb : (x == ("__debug__" : Str)) = false := by decide)
    (he : starEach (e :: es) X.env = (false, eval e X.env) :: starEach es X.env := by rfl) (hpl : (backTo pos (starEach es X.env)).any (·.1) = false := by rfl) : GE K mg r X O E (.Call (.Name x p) (e :: es) [] pos) (tCB R ts) (callB f ms) :=
  ⟨pe_callB hc hg hm hv ha.pe hn hdb he hpl, callB_sound hf ha.snd⟩
theorem ge_callTy {x : Str} {T : String} {p : Pos} {R : List V → Hp → VK → Prop} {f : List D → Option D} {ms : SE (List D)} (hc : CallR X (.type T) R) (hf : CallS K mg r R f) (hm : X.mg x = none) (ha : GAO K mg r X O E (e :: es) ts ms) (hg : Gl X x := by rfl)
    (hv : bootBuiltins x = some (.type T) := by decide +kernel) (hn : x ≠ "__name__" := by decide) (hdb : (x == ("__debug__" : Str)) = false := by decide)
    (he : starEach (e :: es) X.env = (false, eval e X.env) :: starEach es X.env := by rfl) (hpl : (backTo pos (starEach es X.env)).any (·.1) = false := by rfl) : GE K mg r X O E (.Call (.Name x p) (e :: es) [] pos) (tCB R ts) (callB f ms) :=
  ⟨pe_callTy hc hg hm hv ha.pe hn hdb he hpl, callB_sound hf ha.snd⟩
theorem CallS.or {R R' : List V → Hp → VK → Prop} {f f1 f2 : List D → Option D} (h : CallS K mg r R f1) (h' : CallS K mg r R' f2) (hf : ∀ d z, f d = some z → f1 d = some z ∨ f2 d = some z) : CallS K mg r (fun x H Q => R x H Q ∨ R' x H Q) f := by
  intro Hs H tp xs ds z Q w rx hz k
  rcases hf ds z hz with q | q
  · exact .inl (h Hs H tp xs ds z Q w rx q k)
  · exact .inr (h' Hs H tp xs ds z Q w rx q k)
def isB : D → Option Bool
  | .bl b => some b
  | _ => none
def boolE (m : SE D) : SE Bool := fun env tp => (m env tp).bind fun d tp1 => RE.of (isB d) tp1
theorem repT_bl {Hs H : Hp} {v : V} {b : Bool} (h : RepT K mg r Hs H v (.bl b)) : v = .bl b := by
  rcases h with h | ⟨p, _, _, h⟩
  · cases h; rfl
  · exact h.elim
theorem repT_int {Hs H : Hp} {v : V} {b : Int} (h : RepT K mg r Hs H v (.int b)) : v = .int b := by
  rcases h with h | ⟨p, _, _, h⟩
  · cases h; rfl
  · exact h.elim
theorem repT_str {Hs H : Hp} {v : V} {b : Str} (h : RepT K mg r Hs H v (.str b)) : v = .str b := by
  rcases h with h | ⟨p, _, _, h⟩
  · cases h; rfl
  · exact h.elim
theorem repT_non {Hs H : Hp} {v : V} (h : RepT K mg r Hs H v .non) : v = .non := by
  rcases h with h | ⟨p, _, _, h⟩
  · cases h; rfl
  · exact h.elim
theorem repT_lst {Hs H : Hp} {tp : List D} {v : V} {ds : List D} (w : Wd K mg r Hs H tp) (h : RepT K mg r Hs H v (.lst ds)) : ∃ p vs, v = .ref p ∧ H p = some (.lst vs) ∧ RepDs K mg r Hs vs ds := by
  rcases h with h | ⟨p, e, _, vs, a, b⟩
  · cases h with
    | lst a b => exact ⟨_, _, rfl, (w.sub _ _ a).lst, b⟩
  · exact ⟨p, vs, e, a, b⟩
theorem repT_tup {Hs H : Hp} {tp : List D} {v : V} {ds : List D} (w : Wd K mg r Hs H tp) (h : RepT K mg r Hs H v (.tup ds)) : ∃ p vs, v = .ref p ∧ Hs p = some (.tup vs) ∧ H p = some (.tup vs) ∧ RepDs K mg r Hs vs ds := by
  rcases h with h | ⟨p, e, _, a⟩
  · cases h with
    | tup a b => exact ⟨_, _, rfl, a, (w.sub _ _ a).tup, b⟩
  · exact a.elim
theorem repT_scr {Hs H : Hp} {tp : List D} {v : V} {ns : List Int} (w : Wd K mg r Hs H tp) (h : RepT K mg r Hs H v (.scr ns)) : ∃ p, v = .ref p ∧ SqL K H p (ns.map V.int) := by
  rcases h with h | ⟨p, e, _, a⟩
  · cases h with
    | scr a => exact ⟨_, rfl, Same.seq w.sub a⟩
  · exact a.elim
theorem repT_tape {Hs H : Hp} {v : V} (h : RepT K mg r Hs H v .tape) : v = .ref r := by
  rcases h with h | ⟨p, e, _, a⟩
  · cases h; rfl
  · exact a.elim
theorem boolE_sound {t : TE} {m : SE D} (h1 : ∀ Hs0 H0 Hs H σ env tp Q, Rel K mg r O Hs0 H0 Hs H σ env tp → PostE K mg r E Hs H (m env tp) Q → t σ H Q) :
    ∀ Hs0 H0 Hs H σ env tp Q, Rel K mg r O Hs0 H0 Hs H σ env tp → PostB K mg r E Hs H (boolE m env tp) Q → t σ H (fun x H1 => ∃ c, x = .bl c ∧ Q c H1) := by
  intro Hs0 H0 Hs H σ env tp Q Rl P
  refine h1 _ _ _ _ _ _ _ _ Rl (Post.bind P fun v Hs1 H1 d tp1 _ g w rv P1 => ?_)
  obtain ⟨z, hz, k⟩ := Post.ok_of P1
  cases d with
  | bl b =>
    cases hz; cases rv
    exact ⟨_, rfl, k _ Hs1 H1 (Grow.refl _ _) w rfl⟩
  | _ => cases hz
theorem gt_val {m : SE D} (h : GE K mg r X O E e t m) (he : ∀ whole, isTrue e X.env whole = (do let v ← whole; standAt e.pos; holding [v] (truthy v)) := by intro _; rfl) : GT K mg r X O E e (tB t) (boolE m) :=
  ⟨pt_val h.pe he, boolE_sound h.snd⟩
theorem gt_cmp {op : CmpOp} {R : R2} {f : D → D → Option D} {ma mb : SE D} (ho : OpR X (compareOp op) R) (hf : OpS K mg r R f) (ha : GO K mg r X O E a ta ma) (hb : GO K mg r X O E b tb mb) (hm : behindInMarks op b = false) : GT K mg r X O E (.Compare a [op] [b] pos) (tTest (tOp R ta tb)) (boolE (binE f ma mb)) :=
  ⟨pt_cmpR ho ha.pe hb.pe hm, boolE_sound (bin_sound hf ha.snd hb.snd)⟩
theorem gt_chain {op op' : CmpOp} {R R' : R2} {f g : D → D → Option D} {ma mb mc : SE D} (ho : OpR X (compareOp op) R) (ho' : OpR X (compareOp op') R') (hf : OpS K mg r R f) (hg : OpS K mg r R' g) (ha : GO K mg r X O E a ta ma) (hb : GO K mg r X O E b tb mb) (hc : GO K mg r X O E c tc mc)
    (hm : lastMarks [op, op'] [b, c] = false := by with_unfolding_all rfl) : GT K mg r X O E (.Compare a [op, op'] [b, c] pos) (tTest (tChain R R' ta tb tc)) (boolE (chainE f g ma mb mc)) :=
  ⟨pt_chain ho ho' ha.pe hb.pe hc.pe hm, boolE_sound (chain_sound hf hg ha hb hc)⟩
def notT (m : SE Bool) : SE Bool := fun env tp => (m env tp).bind fun b tp1 => .ok (!b) tp1
def andT (m n : SE Bool) : SE Bool := fun env tp => (m env tp).bind fun b tp1 => if b = true then n env tp1 else .ok false tp1
def orT (m n : SE Bool) : SE Bool := fun env tp => (m env tp).bind fun b tp1 => if b = true then .ok true tp1 else n env tp1
theorem gt_not {m : SE Bool} (h : GT K mg r X O E e tt m) : GT K mg r X O E (.UnaryOp .Not e pos) (tNot tt) (notT m) := by
  refine ⟨pt_not h.pe, fun Hs0 H0 Hs H σ env tp Q Rl P => ?_⟩
  refine h.snd _ _ _ _ _ _ _ _ Rl (Post.bind P fun v Hs1 H1 d tp1 _ g w rv P1 => ?_)
  exact P1 _ Hs1 H1 (Grow.refl _ _) w (by rw [rv])
theorem GW.gt {m : SE Bool} (h : GW K mg r X O E e tt m) : GT K mg r X O E e tt m := ⟨h.pe.pt, h.snd⟩
theorem gw_and1 {m : SE Bool} (h : GT K mg r X O E e tt m) : GW K mg r X O E (.BoolOp .And [e] pos) tt m := ⟨pw_and1 h.pe, h.snd⟩
theorem gw_or1 {m : SE Bool} (h : GT K mg r X O E e tt m) : GW K mg r X O E (.BoolOp .Or [e] pos) tt m := ⟨pw_or1 h.pe, h.snd⟩
theorem gw_and {m n : SE Bool} (h : GT K mg r X O E e tt m) (hb : GW K mg r X O E (.BoolOp .And (b :: es) pos) tu n) : GW K mg r X O E (.BoolOp .And (e :: b :: es) pos) (tAnd tt tu) (andT m n) := by
  refine ⟨pw_and h.pe hb.pe, fun Hs0 H0 Hs H σ env tp Q Rl P => ?_⟩
  refine h.snd _ _ _ _ _ _ _ _ Rl (Post.bind P fun v Hs1 H1 d tp1 _ g w rv P1 => ?_)
  subst rv
  cases v with
  | true => exact iteT (hb.snd _ _ _ _ _ _ _ _ (Rl.grow g w) P1)
  | false => exact iteF (P1 _ Hs1 H1 (Grow.refl _ _) w rfl)
theorem gw_or {m n : SE Bool} (h : GT K mg r X O E e tt m) (hb : GW K mg r X O E (.BoolOp .Or (b :: es) pos) tu n) : GW K mg r X O E (.BoolOp .Or (e :: b :: es) pos) (tOr tt tu) (orT m n) := by
  refine ⟨pw_or h.pe hb.pe, fun Hs0 H0 Hs H σ env tp Q Rl P => ?_⟩
  refine h.snd _ _ _ _ _ _ _ _ Rl (Post.bind P fun v Hs1 H1 d tp1 _ g w rv P1 => ?_)
  subst rv
  cases v with
  | false => exact iteF (hb.snd _ _ _ _ _ _ _ _ (Rl.grow g w) P1)
  | true => exact iteT (P1 _ Hs1 H1 (Grow.refl _ _) w rfl)
def notE (m : SE D) : SE D := fun env tp => (m env tp).bind fun d tp1 => RE.of ((isB d).map fun b => .bl (!b)) tp1
def andE (m n : SE D) : SE D := fun env tp => (m env tp).bind fun d tp1 => match d with
  | .bl true => n env tp1
  | .bl false => .ok (.bl false) tp1
  | _ => .stuck
def orE (m n : SE D) : SE D := fun env tp => (m env tp).bind fun d tp1 => match d with
  | .bl false => n env tp1
  | .bl true => .ok (.bl true) tp1
  | _ => .stuck
theorem ge_one {op} {m : SE D} (h : GE K mg r X O E e t m) : GE K mg r X O E (.BoolOp op [e] pos) t m := ⟨pe_one h.pe, h.snd⟩
theorem ge_not {m : SE D} (h : GE K mg r X O E e t m) : GE K mg r X O E (.UnaryOp .Not e pos) (tNotV t) (notE m) := by
  refine ⟨pe_not h.pe, fun Hs0 H0 Hs H σ env tp Q Rl P => ?_⟩
  refine h.snd _ _ _ _ _ _ _ _ Rl (Post.bind P fun v Hs1 H1 d tp1 _ g w rv P1 => ?_)
  obtain ⟨z, hz, k⟩ := Post.ok_of P1
  cases d with
  | bl b =>
    cases hz; cases rv
    exact ⟨_, rfl, k _ Hs1 H1 (Grow.refl _ _) w (.bl _)⟩
  | _ => cases hz
theorem ge_and {m n : SE D} (h : GE K mg r X O E e ta m) (hb : GE K mg r X O E (.BoolOp .And (b :: es) pos) tb n) : GE K mg r X O E (.BoolOp .And (e :: b :: es) pos) (tAndV ta tb) (andE m n) := by
  refine ⟨pe_and h.pe hb.pe, fun Hs0 H0 Hs H σ env tp Q Rl P => ?_⟩
  refine h.snd _ _ _ _ _ _ _ _ Rl (Post.bind P fun v Hs1 H1 d tp1 _ g w rv P1 => ?_)
  cases d with
  | bl c =>
    cases rv
    refine ⟨c, rfl, ?_⟩
    cases c with
    | true => exact iteT (hb.snd _ _ _ _ _ _ _ _ (Rl.grow g w) P1)
    | false => exact iteF (P1 _ Hs1 H1 (Grow.refl _ _) w (.bl _))
  | _ => exact P1.elim
def ifE (c : SE Bool) (m n : SE D) : SE D := fun env tp => (c env tp).bind fun b tp1 => if b = true then m env tp1 else n env tp1
theorem ge_ifExp {mc : SE Bool} {m n : SE D} (hc : GT K mg r X O E c tt mc) (ha : GE K mg r X O E a ta m) (hb : GE K mg r X O E b tb n) : GE K mg r X O E (.IfExp c a b pos) (tIf tt ta tb) (ifE mc m n) := by
  refine ⟨pe_ifExp hc.pe ha.pe hb.pe, fun Hs0 H0 Hs H σ env tp Q Rl P => ?_⟩
  refine hc.snd _ _ _ _ _ _ _ _ Rl (Post.bind P fun v Hs1 H1 d tp1 _ g w rv P1 => ?_)
  subst rv
  cases v with
  | true => exact iteT (ha.snd _ _ _ _ _ _ _ _ (Rl.grow g w) P1)
  | false => exact iteF (hb.snd _ _ _ _ _ _ _ _ (Rl.grow g w) P1)
end
end G
set_option maxHeartbeats 1000000
namespace G
open PySem PySem.Spec PyProof.Rows L2
section
variable {r : Addr} {X : Cx} {K : PySem.W.Frag} {mg : Str → Option Value} {Hs H : Hp} {tp : List D}
def addD : D → D → Option D
  | .int i, .int j => some (.int (i + j))
  | .str a, .str b => if a.length + b.length ≤ sizeLine then some (.str (a ++ b)) else none
  | .tup a, .tup b => if a.length + b.length ≤ sizeLine then some (.tup (a ++ b)) else none
  | .lst a, .lst b => if a.length + b.length ≤ sizeLine then some (.lst (a ++ b)) else none
  | _, _ => none
abbrev rAddD (K : PySem.W.Frag) : R2 := fun x y H Q => (∃ i j, x = .int i ∧ y = .int j ∧ Q (.int (i + j)) H) ∨ (∃ i j, x = .str i ∧ y = .str j ∧ i.length + j.length ≤ sizeLine ∧ Q (.str (i ++ j)) H) ∨ rCatA K x y H Q ∨ rCat x y H Q
theorem opr_add : OpR X (binaryOp .Add) (rAddD X.K) := op_add.or (op_add_str.or (op_catA.or op_cat))
theorem ops_add : OpS K mg r (rAddD K) addD := by
  intro Hs H tp x y d e z Q w rx ry hz k
  unfold addD at hz
  split at hz
  · cases hz
    exact .inl ⟨_, _, repT_int rx, repT_int ry, k _ _ _ (Grow.refl _ _) w (.int _)⟩
  · split at hz
    · rename_i c
      cases hz
      exact .inr (.inl ⟨_, _, repT_str rx, repT_str ry, c, k _ _ _ (Grow.refl _ _) w (.str _)⟩)
    · cases hz
  · split at hz
    · rename_i c
      cases hz
      obtain ⟨p, vs, rfl, h1, h1', h2⟩ := repT_tup w rx
      obtain ⟨q, us, rfl, g1, g1', g2⟩ := repT_tup w ry
      refine .inr (.inr (.inl ⟨p, q, vs, us, rfl, rfl, .of h1', .of g1', by rw [h2.length, g2.length]; exact c, fun e => ?_, fun _ e => ?_, fun _ _ a ha => ?_⟩))
      · subst e; cases h2
        exact k _ _ _ (Grow.refl _ _) w (.tup g1 g2)
      · subst e; cases g2
        rw [List.append_nil] at k
        exact k _ _ _ (Grow.refl _ _) w (.tup h1 h2)
      · obtain ⟨g, w'⟩ := w.alloc (o := .tup (vs ++ us)) ha
        exact k _ _ _ g w' (.tup upd_same ((h2.append g2).mono g.ex))
    · cases hz
  · split at hz
    · rename_i c
      cases hz
      obtain ⟨p, vs, rfl, h1, h2⟩ := repT_lst w rx
      obtain ⟨q, us, rfl, g1, g2⟩ := repT_lst w ry
      refine .inr (.inr (.inr ⟨p, q, vs, us, rfl, rfl, h1, g1, by rw [h2.length, g2.length]; exact c, fun a ha => ?_⟩))
      obtain ⟨g, w'⟩ := w.alloc (o := .lst (vs ++ us)) ha
      exact k _ _ _ g w' (.lst upd_same ((h2.append g2).mono g.ex))
    · cases hz
  · cases hz
def subD : D → D → Option D
  | .int i, .int j => some (.int (i - j))
  | _, _ => none
theorem ops_sub : OpS K mg r (rI0 fun i j => .int (i - j)) subD := by
  intro Hs H tp x y d e z Q w rx ry hz k
  unfold subD at hz
  split at hz
  · cases hz
    exact ⟨_, _, repT_int rx, repT_int ry, k _ _ _ (Grow.refl _ _) w (.int _)⟩
  · cases hz
def cDiv (j : Int) : Bool := decide (0 < j) && decide (j.natAbs.log2 < 9000)
def fdivD : D → D → Option D
  | .int i, .int j => if cDiv j then some (.int (i / j)) else none
  | _, _ => none
theorem ops_fdiv : OpS K mg r (rI CDivW fun i j => .int (i / j)) fdivD := by
  intro Hs H tp x y d e z Q w rx ry hz k
  unfold fdivD at hz
  split at hz
  · split at hz
    · rename_i c
      cases hz
      have c := Bool.and_eq_true_iff.mp c
      exact ⟨_, _, repT_int rx, repT_int ry, ⟨of_decide_eq_true c.1, of_decide_eq_true c.2⟩, k _ _ _ (Grow.refl _ _) w (.int _)⟩
    · cases hz
  · cases hz
def modD : D → D → Option D
  | .int i, .int j => if 0 < j then some (.int (i % j)) else none
  | _, _ => none
theorem ops_mod : OpS K mg r (rI (fun _ j => 0 < j) fun i j => .int (i % j)) modD := by
  intro Hs H tp x y d e z Q w rx ry hz k
  unfold modD at hz
  split at hz
  · split at hz
    · rename_i c
      cases hz
      exact ⟨_, _, repT_int rx, repT_int ry, c, k _ _ _ (Grow.refl _ _) w (.int _)⟩
    · cases hz
  · cases hz
def cPow (i j : Int) : Bool := decide (0 ≤ j) && (decide (j ≤ 1000000) && decide (i.natAbs < 2 ^ 64))
theorem cPow_ok {i j : Int} (h : cPow i j = true) : CPow i j := by
  have h := Bool.and_eq_true_iff.mp h
  have h2 := Bool.and_eq_true_iff.mp h.2
  exact ⟨of_decide_eq_true h.1, of_decide_eq_true h2.1, of_decide_eq_true h2.2⟩
def powD : D → D → Option D
  | .int i, .int j => if cPow i j then some (.int (i ^ j.toNat)) else none
  | _, _ => none
theorem ops_pow : OpS K mg r (rI CPow fun i j => .int (i ^ j.toNat)) powD := by
  intro Hs H tp x y d e z Q w rx ry hz k
  unfold powD at hz
  split at hz
  · split at hz
    · rename_i c
      cases hz
      exact ⟨_, _, repT_int rx, repT_int ry, cPow_ok c, k _ _ _ (Grow.refl _ _) w (.int _)⟩
    · cases hz
  · cases hz
def negD : D → Option D
  | .int i => some (.int (-i))
  | _ => none
theorem uns_neg : UnS K mg r (rU fun i => .int (-i)) negD := by
  intro Hs H tp x d z Q w rx hz k
  unfold negD at hz
  split at hz
  · cases hz
    exact ⟨_, repT_int rx, k _ _ _ (Grow.refl _ _) w (.int _)⟩
  · cases hz
theorem mulOk_small {x : Str} {n : Int} (h0 : 0 ≤ n) (h : (x.length : Int) * n ≤ 16777216) (h1 : n ≤ 16777216) : MulOk x n := by
  have hm : x.length * n.toNat ≤ 16777216 := by
    obtain ⟨k, rfl⟩ := Int.eq_ofNat_of_zero_le h0
    have : ((x.length * k : Nat) : Int) ≤ 16777216 := by rw [Int.natCast_mul]; exact h
    rw [Int.toNat_natCast]; omega
  refine ⟨by simp only [Bool.or_eq_false_iff, decide_eq_false_iff_not]; omega, fun a b => ?_, fun a b => ?_⟩
  · have h2 : (x.length : Int) ≤ (2 ^ 63 - 1) / n := (Int.le_ediv_iff_mul_le (by omega)).mpr (by omega)
    omega
  · unfold Builtin.Str.tooLong; simp only [decide_eq_false_iff_not]; rw [sizeLine_eq]; omega
theorem op_mul_str : OpR X (binaryOp .Mult) (fun x y H Q => ∃ (a : Str) (n : Int), x = .str a ∧ y = .int n ∧ 0 ≤ n ∧ (a.length : Int) * n ≤ 16777216 ∧ n ≤ 16777216 ∧ Q (.str (Txt.mul a n)) H) := by
  intro pins s σ H x y v u Q I rx ry h
  obtain ⟨a, n, rfl, rfl, h0, h1, h2, q⟩ := h
  obtain ⟨t, rfl⟩ := rx
  obtain ⟨t', rfl⟩ := ry
  exact SB.mul (mulOk_small h0 h1 h2) fun t2 k => ⟨.str _, H, I.tok _, ⟨_, rfl⟩, q⟩
def cMul (i j : Int) : Bool := decide (i.natAbs.log2 + j.natAbs.log2 < 1000000)
def cRep (n : Nat) (k : Int) : Bool := decide (0 ≤ k) && (decide ((n : Int) * k ≤ 16777216) && decide (k ≤ 16777216))
theorem cRep_ok {n : Nat} {k : Int} (h : cRep n k = true) : 0 ≤ k ∧ (n : Int) * k ≤ 16777216 ∧ k ≤ 16777216 := by
  have h := Bool.and_eq_true_iff.mp h
  have h2 := Bool.and_eq_true_iff.mp h.2
  exact ⟨of_decide_eq_true h.1, of_decide_eq_true h2.1, of_decide_eq_true h2.2⟩
theorem tuple_mul1 (l : Addr) (items : Array Value) (n : Nat) (dd : Option Addr) (sl : Array (Option Value)) (u : Tok) :
    Meets (Builtin.«tuple.__mul__» ⟨[.ref l, .int 1 u], []⟩) (fun _ R s => s.heap.get? l = some { cls := .type "tuple", dict := dd, data := .seq items n, slots := sl } ∧
      R (.ok (.ret (Value.ref l))) s) :=
  .of_wp fun prog w A R s h => by
    obtain ⟨hp, g, d, tk, os⟩ := s
    obtain ⟨hl, h⟩ := h
    have f1 := AutoSeq1.idx_int
    have c1 : (items.isEmpty || (1 : Int) == 1) = true := by simp
    have c0 : (decide ((1 : Int) < -(2 ^ 63)) || decide ((1 : Int) ≥ 2 ^ 63)) = false := by decide
    wp_walk using wpAny_loadPart' hl
    exact ⟨_, rfl, h⟩
def rRepT1 (K : PySem.W.Frag) : R2 := fun x y H Q => ∃ l xs, x = .ref l ∧ y = .int 1 ∧ SqT K H l xs ∧ Q (.ref l) H
theorem op_repT1 {X : Cx} : OpR X (binaryOp .Mult) (rRepT1 X.K) := by
  intro pins s σ H x y v u Q I rx ry h
  obtain ⟨l, xs, rfl, rfl, hT, q⟩ := h
  cases rx
  obtain ⟨t, rfl⟩ := ry
  obtain ⟨its, r, ⟨⟨cls, dd, data, sl⟩, ho, hc, n, hd⟩, hs⟩ := I.tuple hT
  simp only at hc hd
  subst hc hd
  refine wpAny_binaryOp_repeat_ref (T := "tuple") (U := "int") (by decide) ⟨_, ho, rfl⟩ (fun s' => typeIs_int s' 1 t) noFill_tuple_mul F.fills_int_mul F.slot_int_rmul repeat_tuple F.slot_int_index.lookup
    (call_meets F.slot_int_rmul (typeIs_int s 1 t) F.entry_int_rmul (F.args_int_rmul_2 _ _) (int_rmul_tuple 1 t l its.toArray n dd sl)
      ⟨ho, rfl, ⟨_, ho, rfl⟩, call_meets F.slot_tuple_mul ⟨_, ho, rfl⟩ F.entry_tuple_mul (F.args_tuple_mul_2 _ _) (tuple_mul1 l its.toArray n dd sl t) ⟨ho, ?_⟩⟩)
  exact ⟨.ref l, H, I, rfl, q⟩
theorem tuple_mul0 (l : Addr) (items : Array Value) (n : Nat) (dd : Option Addr) (sl : Array (Option Value)) (u : Tok) (c1 : (items.isEmpty || (0 : Int) == 1) = false) :
    Meets (Builtin.«tuple.__mul__» ⟨[.ref l, .int 0 u], []⟩) (fun _ R s => s.heap.get? l = some { cls := .type "tuple", dict := dd, data := .seq items n, slots := sl } ∧
      R (.ok (.ret (Value.ref s.heap.objs.size))) { s with heap := s.heap.push { cls := Value.type "tuple", data := Data.seq #[] }, toks := s.toks }) :=
  .of_wp fun prog w A R s h => by
    obtain ⟨hp, g, d, tk, os⟩ := s
    obtain ⟨hl, h⟩ := h
    have f1 := AutoSeq1.idx_int
    have c0 : (decide ((0 : Int) < -(2 ^ 63)) || decide ((0 : Int) ≥ 2 ^ 63)) = false := by decide
    have c2 : (decide ((0 : Int) ≤ 0) || items.isEmpty) = true := by simp
    wp_walk using wpAny_loadPart' hl
    repeat (first
      | (refine wpAny_ite_false (decide_eq_false (by rw [c0]; exact Bool.false_ne_true)) ?_; wp_walk using wpAny_loadPart' hl)
      | (refine wpAny_ite_false (decide_eq_false (by rw [c1]; exact Bool.false_ne_true)) ?_; wp_walk using wpAny_loadPart' hl)
      | (refine wpAny_ite_true (decide_eq_true c2) ?_; wp_walk using wpAny_loadPart' hl))
    exact ⟨_, rfl, h⟩
def rRepT0 (K : PySem.W.Frag) : R2 := fun x y H Q => ∃ l xs, x = .ref l ∧ y = .int 0 ∧ SqT K H l xs ∧ xs ≠ [] ∧ ∀ p, H p = none → Q (.ref p) (upd H p (.tup []))
theorem op_repT0 {X : Cx} : OpR X (binaryOp .Mult) (rRepT0 X.K) := by
  intro pins s σ H x y v u Q I rx ry h
  obtain ⟨l, xs, rfl, rfl, hT, hne, q⟩ := h
  cases rx
  obtain ⟨t, rfl⟩ := ry
  obtain ⟨its, r, ⟨⟨cls, dd, data, sl⟩, ho, hc, n, hd⟩, hs⟩ := I.tuple hT
  simp only at hc hd
  subst hc hd
  have hi : its.toArray.isEmpty = false := by
    cases its with
    | nil => exact absurd (List.eq_nil_of_length_eq_zero r.length) hne
    | cons a b => rfl
  have c1 : (its.toArray.isEmpty || (0 : Int) == 1) = false := by rw [hi]; rfl
  refine wpAny_binaryOp_repeat_ref (T := "tuple") (U := "int") (by decide) ⟨_, ho, rfl⟩ (fun s' => typeIs_int s' 0 t) noFill_tuple_mul F.fills_int_mul F.slot_int_rmul repeat_tuple F.slot_int_index.lookup
    (call_meets F.slot_int_rmul (typeIs_int s 0 t) F.entry_int_rmul (F.args_int_rmul_2 _ _) (int_rmul_tuple 0 t l its.toArray n dd sl)
      ⟨ho, rfl, ⟨_, ho, rfl⟩, call_meets F.slot_tuple_mul ⟨_, ho, rfl⟩ F.entry_tuple_mul (F.args_tuple_mul_2 _ _) (tuple_mul0 l its.toArray n dd sl t c1) ⟨ho, ?_⟩⟩)
  refine ⟨.ref s.heap.objs.size, _, I.laid (t' := s.toks) (o := .tup []) (fun b ob q => Heap.get?_push_of_some _ q) (Nat.le_refl _) ?_, rfl, q _ (I.hok.fresh (Nat.le_refl _))⟩
  exact ⟨Nat.zero_le _, [], .nil, IsTup.new _ _⟩
def cRepT (n : Nat) (k : Int) : Bool := decide (0 < n) && (decide (n ≤ 1000) && (decide (0 ≤ k) && decide (k ≤ 1000)))
theorem cRepT_ok {n : Nat} {k : Int} (h : cRepT n k = true) : 0 < n ∧ n ≤ 1000 ∧ 0 ≤ k ∧ k ≤ 1000 := by
  have h := Bool.and_eq_true_iff.mp h
  have h2 := Bool.and_eq_true_iff.mp h.2
  have h3 := Bool.and_eq_true_iff.mp h2.2
  exact ⟨of_decide_eq_true h.1, of_decide_eq_true h2.1, of_decide_eq_true h3.1, of_decide_eq_true h3.2⟩
def mulD : D → D → Option D
  | .int i, .int j => if cMul i j then some (.int (i * j)) else none
  | .str a, .int n => if cRep a.length n then some (.str (Txt.mul a n)) else none
  | .lst a, .int n => if cRep a.length n then some (.lst (List.replicate n.toNat a).flatten) else none
  | .tup a, .int n => if cRepT a.length n then some (.tup (List.replicate n.toNat a).flatten) else none
  | _, _ => none
abbrev rMulD (K : PySem.W.Frag) : R2 := fun x y H Q => (∃ i j, x = .int i ∧ y = .int j ∧ CMulW i j ∧ Q (.int (i * j)) H) ∨ (∃ (a : Str) (n : Int), x = .str a ∧ y = .int n ∧ 0 ≤ n ∧ (a.length : Int) * n ≤ 16777216 ∧ n ≤ 16777216 ∧ Q (.str (Txt.mul a n)) H) ∨ rRep x y H Q ∨ rRepT K x y H Q ∨ rRepT1 K x y H Q ∨ rRepT0 K x y H Q
theorem opr_mul : OpR X (binaryOp .Mult) (rMulD X.K) := op_mulW.or (op_mul_str.or (op_rep.or (op_repT.or (op_repT1.or op_repT0))))
theorem RepDs.rep {vs : List V} {ds : List D} (h : RepDs K mg r Hs vs ds) : ∀ n : Nat, RepDs K mg r Hs (List.replicate n vs).flatten (List.replicate n ds).flatten
  | 0 => .nil
  | n + 1 => by
    rw [List.replicate_succ, List.replicate_succ, List.flatten_cons, List.flatten_cons]
    exact h.append (RepDs.rep h n)
theorem ops_mul : OpS K mg r (rMulD K) mulD := by
  intro Hs H tp x y d e z Q w rx ry hz k
  unfold mulD at hz
  split at hz
  · split at hz
    · rename_i c
      cases hz
      exact .inl ⟨_, _, repT_int rx, repT_int ry, (show _ < _ from of_decide_eq_true c), k _ _ _ (Grow.refl _ _) w (.int _)⟩
    · cases hz
  · split at hz
    · rename_i c
      cases hz
      have c := cRep_ok c
      exact .inr (.inl ⟨_, _, repT_str rx, repT_int ry, c.1, c.2.1, c.2.2, k _ _ _ (Grow.refl _ _) w (.str _)⟩)
    · cases hz
  · split at hz
    · rename_i a n c
      cases hz
      have c := cRep_ok c
      obtain ⟨p, vs, rfl, h1, h2⟩ := repT_lst w rx
      rw [repT_int ry]
      refine .inr (.inr (.inl ⟨p, n, vs, rfl, rfl, h1, by omega, by omega, ?_, fun q hq => ?_⟩))
      · rw [h2.length, sizeLine_eq]
        have : ((a.length * n.toNat : Nat) : Int) ≤ 16777216 := by
          rw [Int.natCast_mul, Int.toNat_of_nonneg c.1]; exact c.2.1
        omega
      · obtain ⟨g, w'⟩ := w.alloc (o := .lst (List.replicate n.toNat vs).flatten) hq
        exact k _ _ _ g w' (.lst upd_same ((h2.rep _).mono g.ex))
    · cases hz
  · split at hz
    · rename_i a n c
      cases hz
      have c := cRepT_ok c
      obtain ⟨p, vs, rfl, h0, h1, h2⟩ := repT_tup w rx
      rw [repT_int ry]
      have lv : vs.length = a.length := h2.length
      by_cases n1 : n = 1
      · subst n1
        refine .inr (.inr (.inr (.inr (.inl ⟨p, vs, rfl, rfl, .of h1, k _ _ _ (Grow.refl _ _) w (.tup h0 ?_)⟩))))
        have e : (List.replicate (Int.toNat 1) a).flatten = a := by show (List.replicate 1 a).flatten = a; simp
        rw [e]; exact h2
      · by_cases n0 : n = 0
        · subst n0
          refine .inr (.inr (.inr (.inr (.inr ⟨p, vs, rfl, rfl, .of h1, ?_, fun q hq => ?_⟩))))
          · intro e; subst e; simp at lv; omega
          · obtain ⟨g, w'⟩ := w.alloc (o := .tup []) hq
            exact k _ _ _ g w' (.tup upd_same .nil)
        refine .inr (.inr (.inr (.inl ⟨p, n, vs, rfl, rfl, .of h1, ?_, by omega, by omega, by omega, fun q hq => ?_⟩)))
        · intro e; subst e; simp at lv; omega
        · obtain ⟨g, w'⟩ := w.alloc (o := .tup (List.replicate n.toNat vs).flatten) hq
          exact k _ _ _ g w' (.tup upd_same ((h2.rep _).mono g.ex))
    · cases hz
  · cases hz
def ltD : D → D → Option D
  | .int i, .int j => some (.bl (decide (i < j)))
  | .str i, .str j => some (.bl (decide (i.cps.toList < j.cps.toList)))
  | _, _ => none
theorem ops_lt : OpS K mg r (fun x y H Q => (∃ i j, x = .int i ∧ y = .int j ∧ Q (.bl (decide (i < j))) H) ∨ (∃ i j, x = .str i ∧ y = .str j ∧ Q (.bl (decide (i.cps.toList < j.cps.toList))) H)) ltD := by
  intro Hs H tp x y d e z Q w rx ry hz k
  unfold ltD at hz
  split at hz
  · cases hz
    exact .inl ⟨_, _, repT_int rx, repT_int ry, k _ _ _ (Grow.refl _ _) w (.bl _)⟩
  · cases hz
    exact .inr ⟨_, _, repT_str rx, repT_str ry, k _ _ _ (Grow.refl _ _) w (.bl _)⟩
  · cases hz
theorem opr_lt : OpR X (compareOp .Lt) (fun x y H Q => (∃ i j, x = .int i ∧ y = .int j ∧ Q (.bl (decide (i < j))) H) ∨ (∃ i j, x = .str i ∧ y = .str j ∧ Q (.bl (decide (i.cps.toList < j.cps.toList))) H)) := op_lt.or op_lt_str
def leD : D → D → Option D
  | .int i, .int j => some (.bl (decide (i ≤ j)))
  | _, _ => none
def gtD : D → D → Option D
  | .int i, .int j => some (.bl (decide (j < i)))
  | _, _ => none
def geD : D → D → Option D
  | .int i, .int j => some (.bl (decide (j ≤ i)))
  | _, _ => none
theorem ops_le : OpS K mg r (rI0 fun i j => .bl (decide (i ≤ j))) leD := by
  intro Hs H tp x y d e z Q w rx ry hz k
  unfold leD at hz
  split at hz
  · cases hz
    exact ⟨_, _, repT_int rx, repT_int ry, k _ _ _ (Grow.refl _ _) w (.bl _)⟩
  · cases hz
theorem ops_gt : OpS K mg r (rI0 fun i j => .bl (decide (j < i))) gtD := by
  intro Hs H tp x y d e z Q w rx ry hz k
  unfold gtD at hz
  split at hz
  · cases hz
    exact ⟨_, _, repT_int rx, repT_int ry, k _ _ _ (Grow.refl _ _) w (.bl _)⟩
  · cases hz
theorem ops_ge : OpS K mg r (rI0 fun i j => .bl (decide (j ≤ i))) geD := by
  intro Hs H tp x y d e z Q w rx ry hz k
  unfold geD at hz
  split at hz
  · cases hz
    exact ⟨_, _, repT_int rx, repT_int ry, k _ _ _ (Grow.refl _ _) w (.bl _)⟩
  · cases hz
theorem dpAll_ints {H : Hp} : ∀ ns : List Int, DpAll K H (ns.map V.int) (ns.map PyData.int)
  | [] => .nil
  | n :: ns => .cons (.int n) (dpAll_ints ns)
mutual
theorem RepD.dp (w : Same Hs H) : ∀ {v : V} {d : D}, RepD K mg r Hs v d → d.pd.plain = true → Dp K H v d.pd
  | _, _, .non, _ => .non
  | _, _, .bl b, _ => .bl b
  | _, _, .int i, _ => .int i
  | _, _, .str s, _ => .str s
  | _, _, .tup (ds := ds) h q, p => .tup (.of (w _ _ h).tup) (RepDs.dp w q (by simpa only [D.pd, PyData.plain] using p))
  | _, _, .lst (ds := ds) h q, p => .lst (.of (w _ _ h).lst) (RepDs.dp w q (by simpa only [D.pd, PyData.plain] using p))
  | _, _, .scr (ns := ns) h, _ => .lst (Same.seq w h) (dpAll_ints ns)
  | _, _, .dicK _ _, p => by simp only [D.pd, PyData.plain] at p; cases p
  | _, _, .dicT _ _, p => by simp only [D.pd, PyData.plain] at p; cases p
  | _, _, .tape, p => by simp only [D.pd, PyData.plain] at p; cases p
  | _, _, .fn _, p => by simp only [D.pd, PyData.plain] at p; cases p
  | _, _, .ty _, p => by simp only [D.pd, PyData.plain] at p; cases p
theorem RepDs.dp (w : Same Hs H) : ∀ {vs : List V} {ds : List D}, RepDs K mg r Hs vs ds → PyData.plainAll (pdAll ds) = true → DpAll K H vs (pdAll ds)
  | _, _, .nil, _ => .nil
  | _, _, .cons h q, p => by
    simp only [pdAll, PyData.plainAll, Bool.and_eq_true] at p
    exact .cons (RepD.dp w h p.1) (RepDs.dp w q p.2)
end
theorem RepT.dp {v : V} {d : D} (w : Wd K mg r Hs H tp) (h : RepT K mg r Hs H v d) (p : d.pd.plain = true) : Dp K H v d.pd := by
  rcases h with h | ⟨a, rfl, _, h⟩
  · exact RepD.dp w.sub h p
  · cases d with
    | lst ds =>
      obtain ⟨vs, h1, h2⟩ := h
      exact .lst (.of h1) (RepDs.dp w.sub h2 (by simpa only [D.pd, PyData.plain] using p))
    | dic ds => simp only [D.pd, PyData.plain] at p; cases p
    | dct ds => simp only [D.pd, PyData.plain] at p; cases p
    | _ => exact h.elim
/-- may be compared -/
def D.okq (d : D) : Bool := d.pd.plain && decide (d.pd.depth ≤ 60)
theorem okq_ok {d : D} (h : d.okq = true) : d.pd.plain = true ∧ d.pd.depth ≤ 60 := by
  have h := Bool.and_eq_true_iff.mp h
  exact ⟨h.1, of_decide_eq_true h.2⟩
def eqD (d e : D) : Option D := if d.okq && e.okq then some (.bl (PyData.eqv d.pd e.pd)) else none
def neD (d e : D) : Option D := if d.okq && e.okq then some (.bl (!PyData.eqv d.pd e.pd)) else none
def rEqP (K : PySem.W.Frag) : R2 := fun x y H Q => ∃ d e, Dp K H x d ∧ Dp K H y e ∧ d.plain = true ∧ e.plain = true ∧ d.depth ≤ 60 ∧ Q (.bl (PyData.eqv d e)) H
def rNeP (K : PySem.W.Frag) : R2 := fun x y H Q => ∃ d e, Dp K H x d ∧ Dp K H y e ∧ d.plain = true ∧ e.plain = true ∧ d.depth ≤ 60 ∧ Q (.bl (!PyData.eqv d e)) H
theorem op_eqP (hu : X.A.units + 64 < cLine) : OpR X (compareOp .Eq) (rEqP X.K) := by
  intro pins s σ H x y v u Q I rx ry h
  obtain ⟨d, e, hd, he, sd, se, dd, q⟩ := h
  obtain ⟨as, r1⟩ := Dp.reads I d x v hd rx
  obtain ⟨bs, r2⟩ := Dp.reads I e y u he ry
  have : min d.depth e.depth ≤ d.depth := Nat.min_le_left _ _
  exact SeqAt.eq_plain r1 r2 sd se (by omega) ⟨.bl _, H, I, rfl, q⟩
theorem op_neP (hu : X.A.units + 64 < cLine) : OpR X (compareOp .NotEq) (rNeP X.K) := by
  intro pins s σ H x y v u Q I rx ry h
  obtain ⟨d, e, hd, he, sd, se, dd, q⟩ := h
  obtain ⟨as, r1⟩ := Dp.reads I d x v hd rx
  obtain ⟨bs, r2⟩ := Dp.reads I e y u he ry
  have : min d.depth e.depth ≤ d.depth := Nat.min_le_left _ _
  exact SeqAt.ne_plain r1 r2 sd se (by omega) ⟨.bl _, H, I, rfl, q⟩
theorem ops_eq : OpS K mg r (rEqP K) eqD := by
  intro Hs H tp x y d e z Q w rx ry hz k
  unfold eqD at hz
  split at hz
  · rename_i c
    cases hz
    have c := Bool.and_eq_true_iff.mp c
    have c1 := okq_ok c.1
    have c2 := okq_ok c.2
    exact ⟨d.pd, e.pd, rx.dp w c1.1, ry.dp w c2.1, c1.1, c2.1, c1.2, k _ _ _ (Grow.refl _ _) w (.bl _)⟩
  · cases hz
theorem ops_ne : OpS K mg r (rNeP K) neD := by
  intro Hs H tp x y d e z Q w rx ry hz k
  unfold neD at hz
  split at hz
  · rename_i c
    cases hz
    have c := Bool.and_eq_true_iff.mp c
    have c1 := okq_ok c.1
    have c2 := okq_ok c.2
    exact ⟨d.pd, e.pd, rx.dp w c1.1, ry.dp w c2.1, c1.1, c2.1, c1.2, k _ _ _ (Grow.refl _ _) w (.bl _)⟩
  · cases hz
/-- x in a list | tuple -/
def itemsD : D → Option (List D)
  | .lst xs => some xs
  | .tup xs => some xs
  | _ => none
def memD (d : D) (xs : List D) : Bool := xs.any fun z => PyData.eqv z.pd d.pd
def inD (d e : D) : Option D := (itemsD e).bind fun xs => if d.okq && e.okq then some (.bl (memD d xs)) else none
def notInD (d e : D) : Option D := (itemsD e).bind fun xs => if d.okq && e.okq then some (.bl (!memD d xs)) else none
def rInP (K : PySem.W.Frag) (neg : Bool) : R2 := fun x y H Q => ∃ d ds, Dp K H x d ∧ (Dp K H y (.list ds) ∨ Dp K H y (.tuple ds)) ∧ d.plain = true ∧ PyData.plainAll ds = true ∧ d.depth ≤ 60 ∧ Q (.bl (if neg then !(ds.any fun z => PyData.eqv z d) else ds.any fun z => PyData.eqv z d)) H
theorem op_inP (hu : X.A.units + 64 < cLine) : OpR X (compareOp .In) (rInP X.K false) := by
  intro pins s σ H x y v u Q I rx ry h
  obtain ⟨d, ds, hd, he, sd, se, dd, q⟩ := h
  obtain ⟨as, r1⟩ := Dp.reads I d x v hd rx
  have hm : min (PyData.depthAll ds) d.depth ≤ d.depth := Nat.min_le_right _ _
  rcases he with he | he
  · obtain ⟨bs, r2⟩ := Dp.reads I _ y u he ry
    exact SeqAt.in_list_data r2 r1 se sd (by omega) ⟨.bl _, H, I, rfl, q⟩
  · obtain ⟨bs, r2⟩ := Dp.reads I _ y u he ry
    exact SeqAt.in_tuple_data r2 r1 se sd (by omega) ⟨.bl _, H, I, rfl, q⟩
theorem op_notInP (hu : X.A.units + 64 < cLine) : OpR X (compareOp .NotIn) (rInP X.K true) := by
  intro pins s σ H x y v u Q I rx ry h
  obtain ⟨d, ds, hd, he, sd, se, dd, q⟩ := h
  obtain ⟨as, r1⟩ := Dp.reads I d x v hd rx
  have hm : min (PyData.depthAll ds) d.depth ≤ d.depth := Nat.min_le_right _ _
  rcases he with he | he
  · obtain ⟨bs, r2⟩ := Dp.reads I _ y u he ry
    exact SeqAt.notIn_list_data r2 r1 se sd (by omega) ⟨.bl _, H, I, rfl, q⟩
  · obtain ⟨bs, r2⟩ := Dp.reads I _ y u he ry
    exact SeqAt.notIn_tuple_data r2 r1 se sd (by omega) ⟨.bl _, H, I, rfl, q⟩
theorem any_pd (d : D) (xs : List D) : ((pdAll xs).any fun z => PyData.eqv z d.pd) = memD d xs := by
  unfold memD
  rw [pdAll_map, List.any_map]
  rfl
theorem in_core {neg : Bool} {Hs H tp x y d e} {Q : VK} {xs : List D} (w : Wd K mg r Hs H tp) (rx : RepT K mg r Hs H x d) (ry : RepT K mg r Hs H y e) (hi : itemsD e = some xs) (hc : (d.okq && e.okq) = true)
    (k : Q (V.bl (if neg then !memD d xs else memD d xs)) H) : rInP K neg x y H Q := by
  have c := Bool.and_eq_true_iff.mp hc
  have c1 := okq_ok c.1
  have c2 := okq_ok c.2
  have hy := ry.dp w c2.1
  refine ⟨d.pd, pdAll xs, rx.dp w c1.1, ?_, c1.1, ?_, c1.2, by rw [any_pd]; exact k⟩
  · cases e with
    | lst es => cases hi; exact .inl hy
    | tup es => cases hi; exact .inr hy
    | _ => cases hi
  · cases e with
    | lst es => cases hi; simpa only [D.pd, PyData.plain] using c2.1
    | tup es => cases hi; simpa only [D.pd, PyData.plain] using c2.1
    | _ => cases hi
theorem ops_in : OpS K mg r (rInP K false) inD := by
  intro Hs H tp x y d e z Q w rx ry hz k
  unfold inD at hz
  obtain ⟨xs, h1, h2⟩ := Option.bind_eq_some_iff.mp hz
  split at h2
  · rename_i c
    cases h2
    exact in_core w rx ry h1 c (k _ _ _ (Grow.refl _ _) w (.bl _))
  · cases h2
theorem ops_notIn : OpS K mg r (rInP K true) notInD := by
  intro Hs H tp x y d e z Q w rx ry hz k
  unfold notInD at hz
  obtain ⟨xs, h1, h2⟩ := Option.bind_eq_some_iff.mp hz
  split at h2
  · rename_i c
    cases h2
    exact in_core w rx ry h1 c (k _ _ _ (Grow.refl _ _) w (.bl _))
  · cases h2
def isNoneD (d e : D) : Option D := match d, e with
  | .non, .non => some (.bl true)
  | .bl a, .bl b => some (.bl (decide (a = b)))
  | _, .non => some (.bl false)
  | _, _ => none
def isNotNoneD (d e : D) : Option D := match d, e with
  | .non, .non => some (.bl false)
  | .bl a, .bl b => some (.bl (!decide (a = b)))
  | _, .non => some (.bl true)
  | _, _ => none
theorem repT_ne_non {v : V} {d : D} (h : RepT K mg r Hs H v d) (n : d ≠ .non) : decide (v = .non) = false := by
  refine decide_eq_false fun e => ?_
  subst e
  rcases h with h | ⟨p, e, _⟩
  · cases h; exact n rfl
  · cases e
theorem ops_is : OpS K mg r (fun x y H Q => (y = .non ∧ Q (.bl (decide (x = .non))) H) ∨ ∃ a b, x = .bl a ∧ y = .bl b ∧ Q (.bl (decide (a = b))) H) isNoneD := by
  intro Hs H tp x y d e z Q w rx ry hz k
  unfold isNoneD at hz
  split at hz
  · cases hz
    rw [repT_non rx, repT_non ry]
    exact .inl ⟨rfl, k _ _ _ (Grow.refl _ _) w (.bl _)⟩
  · cases hz
    rw [repT_bl rx, repT_bl ry]
    exact .inr ⟨_, _, rfl, rfl, k _ _ _ (Grow.refl _ _) w (.bl _)⟩
  · cases hz
    refine .inl ⟨repT_non ry, ?_⟩
    rw [repT_ne_non rx (by intro e; subst e; simp_all)]
    exact k _ _ _ (Grow.refl _ _) w (.bl _)
  · cases hz
theorem ops_isNot : OpS K mg r (fun x y H Q => (y = .non ∧ Q (.bl (!decide (x = .non))) H) ∨ ∃ a b, x = .bl a ∧ y = .bl b ∧ Q (.bl (!decide (a = b))) H) isNotNoneD := by
  intro Hs H tp x y d e z Q w rx ry hz k
  unfold isNotNoneD at hz
  split at hz
  · cases hz
    rw [repT_non rx, repT_non ry]
    exact .inl ⟨rfl, k _ _ _ (Grow.refl _ _) w (.bl _)⟩
  · cases hz
    rw [repT_bl rx, repT_bl ry]
    exact .inr ⟨_, _, rfl, rfl, k _ _ _ (Grow.refl _ _) w (.bl _)⟩
  · cases hz
    refine .inl ⟨repT_non ry, ?_⟩
    rw [repT_ne_non rx (by intro e; subst e; simp_all)]
    exact k _ _ _ (Grow.refl _ _) w (.bl _)
  · cases hz
theorem opr_is : OpR X (compareOp .Is) (fun x y H Q => (y = .non ∧ Q (.bl (decide (x = .non))) H) ∨ ∃ a b, x = .bl a ∧ y = .bl b ∧ Q (.bl (decide (a = b))) H) := op_isN.or op_is_bl
theorem opr_isNot : OpR X (compareOp .IsNot) (fun x y H Q => (y = .non ∧ Q (.bl (!decide (x = .non))) H) ∨ ∃ a b, x = .bl a ∧ y = .bl b ∧ Q (.bl (!decide (a = b))) H) := op_notN.or op_isnot_bl
def ixD : D → D → Option D
  | .lst xs, .int i => atI xs i
  | .tup xs, .int i => atI xs i
  | .scr ns, .int i => (atI ns i).map .int
  | .str s, .int i => if s.length ≤ sizeLine then (atI s.cps.toList i).map fun c => .str ⟨#[c]⟩ else none
  | _, _ => none
theorem atI_rep {vs : List V} {ds : List D} {i : Int} {d : D} (h : RepDs K mg r Hs vs ds) (e : atI ds i = some d) : ∃ v, atI vs i = some v ∧ RepD K mg r Hs v d := by
  unfold atI at e ⊢
  rw [h.length]
  obtain ⟨j, h1, h2⟩ := Option.bind_eq_some_iff.mp e
  obtain ⟨v, h3, h4⟩ := h.get' h2
  exact ⟨v, by rw [h1]; exact h3, h4⟩
theorem atI_map {α β : Type} (f : α → β) (xs : List α) (i : Int) : atI (xs.map f) i = (atI xs i).map f := by
  unfold atI
  rw [List.length_map]
  cases ixN xs.length i with
  | none => rfl
  | some j => simp
theorem ops_ix : OpS K mg r (rIx K) ixD := by
  intro Hs H tp x y d e z Q w rx ry hz k
  unfold ixD at hz
  split at hz
  · obtain ⟨p, vs, rfl, h1, h2⟩ := repT_lst w rx
    obtain ⟨v, h3, h4⟩ := atI_rep h2 hz
    exact .inl ⟨p, vs, _, v, rfl, repT_int ry, .of h1, h3, k _ _ _ (Grow.refl _ _) w h4⟩
  · obtain ⟨p, vs, rfl, _, h1, h2⟩ := repT_tup w rx
    obtain ⟨v, h3, h4⟩ := atI_rep h2 hz
    exact .inr (.inl ⟨p, vs, _, v, rfl, repT_int ry, .of h1, h3, k _ _ _ (Grow.refl _ _) w h4⟩)
  · obtain ⟨p, rfl, h1⟩ := repT_scr w rx
    obtain ⟨n, h2, h3⟩ := Option.map_eq_some_iff.mp hz
    subst h3
    exact .inl ⟨p, _, _, _, rfl, repT_int ry, h1, by rw [atI_map, h2]; rfl, k _ _ _ (Grow.refl _ _) w (.int _)⟩
  · split at hz
    · rename_i c
      obtain ⟨n, h2, h3⟩ := Option.map_eq_some_iff.mp hz
      subst h3
      exact .inr (.inr ⟨_, _, _, repT_str rx, repT_int ry, c, h2, k _ _ _ (Grow.refl _ _) w (.str _)⟩)
    · cases hz
  · cases hz
/-- a slice's part -/
def optI (m : Option (SE D)) : SE (Option Int) := fun env tp => match m with
  | none => .ok none tp
  | some m => (m env tp).bind fun d tp1 => match d with
    | .int i => .ok (some i) tp1
    | _ => .stuck
structure GP (K : PySem.W.Frag) (mg : Str → Option Value) (r : Addr) (X : Cx) (O : List Nat) (E : XK) (e : Option Expr) (t : TO) (m : SE (Option Int)) : Prop where
  pe : PO X e t
  snd : ∀ Hs0 H0 Hs H σ env tp Q, Rel K mg r O Hs0 H0 Hs H σ env tp → Post K mg r (fun _ _ (a b : Option Int) => a = b) E Hs H (m env tp) Q → t σ H Q
variable {O : List Nat} {E : XK}
theorem gp_none : GP K mg r X O E none tNoPart (optI none) := ⟨po_none, fun Hs0 H0 Hs H σ env tp Q R P => P _ Hs H (Grow.refl _ _) R.wd rfl⟩
theorem gp_some {e : Expr} {t : TE} {m : SE D} (h : GE K mg r X O E e t m) : GP K mg r X O E (some e) (tPart t) (optI (some m)) := by
  refine ⟨po_some h.pe, fun Hs0 H0 Hs H σ env tp Q Rl P => ?_⟩
  refine h.snd _ _ _ _ _ _ _ _ Rl (Post.bind P fun v Hs1 H1 d tp1 _ g w rv P1 => ?_)
  cases d with
  | int i => cases rv; exact ⟨i, rfl, P1 _ Hs1 H1 (Grow.refl _ _) w rfl⟩
  | _ => exact P1.elim
def cutD {α : Type} (xs : List α) (lo hi : Option Int) : List α := (xs.drop (HT.sIx xs.length 0 lo)).take (HT.sIx xs.length xs.length hi - HT.sIx xs.length 0 lo)
def sliceD (d : D) (lo hi : Option Int) : Option D := match d with
  | .lst xs => some (.lst (cutD xs lo hi))
  | .tup xs => some (.tup (cutD xs lo hi))
  | .str s => if s.length ≤ sizeLine then some (.str (cutS s lo hi)) else none
  | _ => none
def sliceE (m : SE D) (ml mh : SE (Option Int)) : SE D := fun env tp => (m env tp).bind fun d tp1 => (ml env tp1).bind fun lo tp2 => (mh env tp2).bind fun hi tp3 => RE.of (sliceD d lo hi) tp3
theorem cut_rep {vs : List V} {ds : List D} (h : RepDs K mg r Hs vs ds) (lo hi : Option Int) : RepDs K mg r Hs (cutV vs lo hi) (cutD ds lo hi) := by
  unfold cutV cutD
  rw [h.length]
  exact (h.drop _).take _
theorem cut_whole {vs : List V} {lo hi : Option Int} (h : HT.sIx vs.length 0 lo = 0 ∧ HT.sIx vs.length vs.length hi = vs.length) : cutV vs lo hi = vs := by
  unfold cutV
  rw [h.1, h.2]
  simp
abbrev rSlD (K : PySem.W.Frag) : V → Option Int → Option Int → Hp → VK → Prop := fun x lo hi H Q => rSlL K x lo hi H Q ∨ rSlA K x lo hi H Q ∨ rSlS x lo hi H Q
theorem ge_slice {e : Expr} {lo hi : Option Expr} {p2 pos : Pos} {t : TE} {tl th : TO} {m : SE D} {ml mh : SE (Option Int)} (h : GO K mg r X O E e t m) (hl : GP K mg r X O E lo tl ml) (hh : GP K mg r X O E hi th mh) (hK : X.K = K := by rfl) : GE K mg r X O E (.Subscript e (.Slice lo hi none p2) pos) (tSl (rSlD K) t tl th) (sliceE m ml mh) := by
  subst hK
  refine ⟨pe_slice (sl_list.or (sl_tupA.or sl_str)) h.pe hl.pe hh.pe, fun Hs0 H0 Hs H σ env tp Q Rl P => ?_⟩
  refine h.snd _ _ _ _ _ _ _ _ Rl (Post.bind P fun v Hs1 H1 d tp1 _ g w rv P1 => ?_)
  refine hl.snd _ _ _ _ _ _ _ _ (Rl.grow g w) (Post.bind P1 fun l Hs2 H2 l' tp2 _ g2 w2 el P2 => ?_)
  refine hh.snd _ _ _ _ _ _ _ _ (Rl.grow (g.trans g2) w2) (Post.bind P2 fun u Hs3 H3 u' tp3 _ g3 w3 eu P3 => ?_)
  subst el eu
  obtain ⟨z, hz, k⟩ := Post.ok_of P3
  have rv := rv.grow (g2.trans g3)
  unfold sliceD at hz
  split at hz
  · cases hz
    obtain ⟨p, vs, rfl, h1, h2⟩ := repT_lst w3 rv
    refine .inl ⟨p, vs, rfl, .of h1, fun q hq => ?_⟩
    obtain ⟨g', w'⟩ := w3.alloc (o := .lst (cutV vs l u)) hq
    exact k _ _ _ g' w' (.lst upd_same ((cut_rep h2 l u).mono g'.ex))
  · cases hz
    obtain ⟨p, vs, rfl, h0, h1, h2⟩ := repT_tup w3 rv
    refine .inr (.inl ⟨p, vs, rfl, .of h1, fun e => ?_, fun _ q hq => ?_⟩)
    · have h4 := cut_rep h2 l u
      rw [cut_whole e] at h4
      exact k _ _ _ (Grow.refl _ _) w3 (.tup h0 h4)
    · obtain ⟨g', w'⟩ := w3.alloc (o := .tup (cutV vs l u)) hq
      exact k _ _ _ g' w' (.tup upd_same ((cut_rep h2 l u).mono g'.ex))
  · split at hz
    · rename_i c
      cases hz
      exact .inr (.inr ⟨_, repT_str rv, c, k _ _ _ (Grow.refl _ _) w3 (.str _)⟩)
    · cases hz
  · cases hz
theorem paired1 {α β : Type} {F : α → β → Prop} {xs : List α} {y : β} (h : Paired F xs [y]) : ∃ x, xs = [x] ∧ F x y := by
  cases h with
  | cons a b => cases b; exact ⟨_, rfl, a⟩
theorem paired2 {α β : Type} {F : α → β → Prop} {xs : List α} {y y' : β} (h : Paired F xs [y, y']) : ∃ x x', xs = [x, x'] ∧ F x y ∧ F x' y' := by
  cases h with
  | cons a b =>
    obtain ⟨x', rfl, h⟩ := paired1 b
    exact ⟨_, _, rfl, a, h⟩
theorem RepP.length : ∀ {vs : List (D × V)} {ds : List (D × D)}, RepP K mg r Hs vs ds → vs.length = ds.length
  | _, _, .nil => rfl
  | _, _, .cons _ q => by simp only [List.length_cons, RepP.length q]
def lenD : List D → Option D
  | [.lst xs] => some (.int xs.length)
  | [.tup xs] => some (.int xs.length)
  | [.scr xs] => some (.int xs.length)
  | [.str s] => if s.length ≤ sizeLine then some (.int s.length) else none
  | _ => none
theorem cs_len : CallS K mg r (fun xs H Q => (∃ p ys, xs = [.ref p] ∧ (SqL K H p ys ∨ SqT K H p ys) ∧ Q (.int ys.length) H) ∨ ∃ z, xs = [.str z] ∧ z.length ≤ sizeLine ∧ Q (.int z.length) H) lenD := by
  intro Hs H tp xs ds z Q w rx hz k
  unfold lenD at hz
  split at hz
  · cases hz
    obtain ⟨x, rfl, h⟩ := paired1 rx
    obtain ⟨p, vs, rfl, h1, h2⟩ := repT_lst w h
    refine .inl ⟨p, vs, rfl, .inl (.of h1), ?_⟩
    rw [h2.length]
    exact k _ _ _ (Grow.refl _ _) w (.int _)
  · cases hz
    obtain ⟨x, rfl, h⟩ := paired1 rx
    obtain ⟨p, vs, rfl, _, h1, h2⟩ := repT_tup w h
    refine .inl ⟨p, vs, rfl, .inr (.of h1), ?_⟩
    rw [h2.length]
    exact k _ _ _ (Grow.refl _ _) w (.int _)
  · cases hz
    obtain ⟨x, rfl, h⟩ := paired1 rx
    obtain ⟨p, rfl, h1⟩ := repT_scr w h
    refine .inl ⟨p, _, rfl, .inl h1, ?_⟩
    rw [List.length_map]
    exact k _ _ _ (Grow.refl _ _) w (.int _)
  · split at hz
    · rename_i c
      cases hz
      obtain ⟨x, rfl, h⟩ := paired1 rx
      exact .inr ⟨_, by rw [repT_str h], c, k _ _ _ (Grow.refl _ _) w (.int _)⟩
    · cases hz
  · cases hz
theorem cr_len : CallR X (.builtin "len") (fun xs H Q => (∃ p ys, xs = [.ref p] ∧ (SqL X.K H p ys ∨ SqT X.K H p ys) ∧ Q (.int ys.length) H) ∨ ∃ z, xs = [.str z] ∧ z.length ≤ sizeLine ∧ Q (.int z.length) H) := call_len_seq.or call_len_str
def intD : List D → Option D
  | [.int i] => some (.int i)
  | [.bl b] => some (.int (if b then 1 else 0))
  | _ => none
theorem cs_int : CallS K mg r (fun xs H Q => (∃ i, xs = [.int i] ∧ Q (.int i) H) ∨ ∃ k, xs = [.bl k] ∧ Q (.int (if k then 1 else 0)) H) intD := by
  intro Hs H tp xs ds z Q w rx hz k
  unfold intD at hz
  split at hz
  · cases hz
    obtain ⟨x, rfl, h⟩ := paired1 rx
    exact .inl ⟨_, by rw [repT_int h], k _ _ _ (Grow.refl _ _) w (.int _)⟩
  · cases hz
    obtain ⟨x, rfl, h⟩ := paired1 rx
    exact .inr ⟨_, by rw [repT_bl h], k _ _ _ (Grow.refl _ _) w (.int _)⟩
  · cases hz
def tupleD : List D → Option D
  | [.lst xs] => some (.tup xs)
  | [.tup xs] => some (.tup xs)
  | _ => none
theorem cs_tuple : CallS K mg r (fun xs H Q => ∃ p ys, xs = [.ref p] ∧ ((SqL K H p ys ∧ ∀ l, H l = none → Q (.ref l) (upd H l (.tup ys))) ∨ (SqT K H p ys ∧ Q (.ref p) H))) tupleD := by
  intro Hs H tp xs ds z Q w rx hz k
  unfold tupleD at hz
  split at hz
  · cases hz
    obtain ⟨x, rfl, h⟩ := paired1 rx
    obtain ⟨p, vs, rfl, h1, h2⟩ := repT_lst w h
    refine ⟨p, vs, rfl, .inl ⟨.of h1, fun q hq => ?_⟩⟩
    obtain ⟨g', w'⟩ := w.alloc (o := .tup vs) hq
    exact k _ _ _ g' w' (.tup upd_same (h2.mono g'.ex))
  · cases hz
    obtain ⟨x, rfl, h⟩ := paired1 rx
    obtain ⟨p, vs, rfl, h0, h1, h2⟩ := repT_tup w h
    exact ⟨p, vs, rfl, .inr ⟨.of h1, k _ _ _ (Grow.refl _ _) w (.tup h0 h2)⟩⟩
  · cases hz
def listD : List D → Option D
  | [.lst xs] => some (.lst xs)
  | [.tup xs] => some (.lst xs)
  | [.scr ns] => some (.lst (ns.map .int))
  | _ => none
def unB : List D → Option (List Bool)
  | [] => some []
  | .bl b :: r => (unB r).map (b :: ·)
  | _ => none
def unI : List D → Option (List Int)
  | [] => some []
  | .int b :: r => (unI r).map (b :: ·)
  | _ => none
def unS : List D → Option (List Str)
  | [] => some []
  | .str b :: r => (unS r).map (b :: ·)
  | _ => none
theorem unB_ok : ∀ {ds : List D} {bs : List Bool}, unB ds = some bs → ds = bs.map .bl
  | [], _, h => by cases h; rfl
  | d :: ds, bs, h => by
    cases d with
    | bl b =>
      obtain ⟨cs, h1, h2⟩ := Option.map_eq_some_iff.mp (show (unB ds).map (b :: ·) = some bs from h)
      subst h2
      rw [unB_ok h1]; rfl
    | _ => cases h
theorem unI_ok : ∀ {ds : List D} {bs : List Int}, unI ds = some bs → ds = bs.map .int
  | [], _, h => by cases h; rfl
  | d :: ds, bs, h => by
    cases d with
    | int b =>
      obtain ⟨cs, h1, h2⟩ := Option.map_eq_some_iff.mp (show (unI ds).map (b :: ·) = some bs from h)
      subst h2
      rw [unI_ok h1]; rfl
    | _ => cases h
theorem unS_ok : ∀ {ds : List D} {bs : List Str}, unS ds = some bs → ds = bs.map .str
  | [], _, h => by cases h; rfl
  | d :: ds, bs, h => by
    cases d with
    | str b =>
      obtain ⟨cs, h1, h2⟩ := Option.map_eq_some_iff.mp (show (unS ds).map (b :: ·) = some bs from h)
      subst h2
      rw [unS_ok h1]; rfl
    | _ => cases h
@[simp] theorem unB_map : ∀ bs : List Bool, unB (bs.map .bl) = some bs
  | [] => rfl
  | b :: bs => by show (unB (bs.map .bl)).map (b :: ·) = _; rw [unB_map bs]; rfl
@[simp] theorem unI_map : ∀ bs : List Int, unI (bs.map .int) = some bs
  | [] => rfl
  | b :: bs => by show (unI (bs.map .int)).map (b :: ·) = _; rw [unI_map bs]; rfl
@[simp] theorem unS_map : ∀ bs : List Str, unS (bs.map .str) = some bs
  | [] => rfl
  | b :: bs => by show (unS (bs.map .str)).map (b :: ·) = _; rw [unS_map bs]; rfl
def allD : List D → Option D
  | [.lst xs] => (unB xs).map fun bs => .bl (bs.all id)
  | _ => none
def anyD : List D → Option D
  | [.lst xs] => (unB xs).map fun bs => .bl (bs.any id)
  | _ => none
def sumD : List D → Option D
  | [.lst xs] => (unI xs).map fun bs => .int bs.sum
  | _ => none
theorem lst_typed {α : Type} {f : α → D} {g : α → V} (hfg : ∀ {Hs : Hp} {ns : List α} {vs : List V}, RepDs K mg r Hs vs (ns.map f) → vs = ns.map g) {v : V} {ns : List α} (w : Wd K mg r Hs H tp) (h : RepT K mg r Hs H v (.lst (ns.map f))) : ∃ p, v = .ref p ∧ H p = some (.lst (ns.map g)) := by
  obtain ⟨p, vs, rfl, h1, h2⟩ := repT_lst w h
  rw [hfg h2] at h1
  exact ⟨p, rfl, h1⟩
theorem cs_all : CallS K mg r (rAll K) allD := by
  intro Hs H tp xs ds z Q w rx hz k
  unfold allD at hz
  split at hz
  · obtain ⟨bs, h1, h2⟩ := Option.map_eq_some_iff.mp hz
    subst h2
    obtain ⟨x, rfl, h⟩ := paired1 rx
    rw [unB_ok h1] at h
    obtain ⟨p, rfl, h3⟩ := lst_typed RepDs.bls_of w h
    exact ⟨p, bs, rfl, .of h3, k _ _ _ (Grow.refl _ _) w (.bl _)⟩
  · cases hz
theorem cs_any : CallS K mg r (rAny K) anyD := by
  intro Hs H tp xs ds z Q w rx hz k
  unfold anyD at hz
  split at hz
  · obtain ⟨bs, h1, h2⟩ := Option.map_eq_some_iff.mp hz
    subst h2
    obtain ⟨x, rfl, h⟩ := paired1 rx
    rw [unB_ok h1] at h
    obtain ⟨p, rfl, h3⟩ := lst_typed RepDs.bls_of w h
    exact ⟨p, bs, rfl, .of h3, k _ _ _ (Grow.refl _ _) w (.bl _)⟩
  · cases hz
theorem cs_sum : CallS K mg r (rSum K) sumD := by
  intro Hs H tp xs ds z Q w rx hz k
  unfold sumD at hz
  split at hz
  · obtain ⟨bs, h1, h2⟩ := Option.map_eq_some_iff.mp hz
    subst h2
    obtain ⟨x, rfl, h⟩ := paired1 rx
    rw [unI_ok h1] at h
    obtain ⟨p, rfl, h3⟩ := lst_typed RepDs.ints_of w h
    exact ⟨p, bs, rfl, .of h3, k _ _ _ (Grow.refl _ _) w (.int _)⟩
  · cases hz
def tyN : D → Option String
  | .non => some "NoneType"
  | .bl _ => some "bool"
  | .int _ => some "int"
  | .str _ => some "str"
  | .tup _ => some "tuple"
  | .lst _ => some "list"
  | _ => none
def unT : List D → Option (List String)
  | [] => some []
  | .ty n :: r => (unT r).map (n :: ·)
  | _ => none
theorem unT_ok : ∀ {ds : List D} {bs : List String}, unT ds = some bs → ds = bs.map .ty
  | [], _, h => by cases h; rfl
  | d :: ds, bs, h => by
    cases d with
    | ty b =>
      obtain ⟨cs, h1, h2⟩ := Option.map_eq_some_iff.mp (show (unT ds).map (b :: ·) = some bs from h)
      subst h2
      rw [unT_ok h1]; rfl
    | _ => cases h
theorem RepDs.tys_of : ∀ {ns : List String} {vs : List V}, RepDs K mg r Hs vs (ns.map D.ty) → vs = ns.map V.ty
  | [], _, .nil => rfl
  | n :: ns, _, .cons h q => by cases h; rw [RepDs.tys_of q]; rfl
def kitBs (a : String) : List String → Option Bool
  | [] => some false
  | b :: bs => match kitB a b, kitBs a bs with
    | some true, some _ => some true
    | some false, some c => some c
    | _, _ => none
theorem kitBs_ok {a : String} : ∀ {bs : List String} {c : Bool}, kitBs a bs = some c → PySem.W.kitAny K (.type a) (bs.map Value.type) = some c
  | [], c, h => by cases h; exact kitAny_nil
  | b :: bs, c, h => by
    have h : (match kitB a b, kitBs a bs with
      | some true, some _ => some true
      | some false, some c => some c
      | _, _ => none) = some c := h
    cases e1 : kitB a b with
    | none => rw [e1] at h; cases h
    | some x =>
      cases e2 : kitBs a bs with
      | none => rw [e1, e2] at h; cases x <;> cases h
      | some y =>
        rw [e1, e2] at h
        refine kitAny_cons (b := x) (kit_ty e1) (fun hb => ?_) (fun hb => ?_)
        · subst hb; cases h; exact kitBs_ok e2
        · subst hb; cases h; rfl
def isiD : List D → Option D
  | [d, .ty n] => (tyN d).bind fun t => (kitB t n).map .bl
  | [d, .tup ds] => (tyN d).bind fun t => (unT ds).bind fun ns => (kitBs t ns).map .bl
  | _ => none
theorem tyx_of {v : V} {d : D} {t : String} (w : Wd K mg r Hs H tp) (h : RepT K mg r Hs H v d) (e : tyN d = some t) : TyX K H v (.type t) := by
  cases d with
  | non => cases e; rw [repT_non h]; exact .base .non
  | bl b => cases e; rw [repT_bl h]; exact .base (.bl _)
  | int b => cases e; rw [repT_int h]; exact .base (.int _)
  | str b => cases e; rw [repT_str h]; exact .base (.str _)
  | tup ds => cases e; obtain ⟨p, vs, rfl, _, h1, h2⟩ := repT_tup w h; exact .base (.tup h1)
  | lst ds => cases e; obtain ⟨p, vs, rfl, h1, h2⟩ := repT_lst w h; exact .base (.lst h1)
  | _ => cases e
theorem cls_all : ∀ ns : List String, Paired ClsV (ns.map V.ty) (ns.map Value.type)
  | [] => .nil
  | n :: ns => .cons (.ty n) (cls_all ns)
theorem cs_isi : CallS K mg r (fun x H Q => rIsi K x H Q ∨ rIsiT K x H Q) isiD := by
  intro Hs H tp xs ds z Q w rx hz k
  unfold isiD at hz
  split at hz
  · obtain ⟨t, h1, h2⟩ := Option.bind_eq_some_iff.mp hz
    obtain ⟨b, h3, h4⟩ := Option.map_eq_some_iff.mp h2
    subst h4
    obtain ⟨x, x', rfl, r1, r2⟩ := paired2 rx
    rcases r2 with r2 | ⟨_, _, _, r2⟩
    · cases r2
      exact .inl ⟨x, _, _, _, b, rfl, .ty _, tyx_of w r1 h1, kit_ty h3, k _ _ _ (Grow.refl _ _) w (.bl _)⟩
    · exact r2.elim
  · obtain ⟨t, h1, h2⟩ := Option.bind_eq_some_iff.mp hz
    obtain ⟨ns, h3, h4⟩ := Option.bind_eq_some_iff.mp h2
    obtain ⟨b, h5, h6⟩ := Option.map_eq_some_iff.mp h4
    subst h6
    obtain ⟨x, x', rfl, r1, r2⟩ := paired2 rx
    obtain ⟨p, vs, rfl, _, g1, g2⟩ := repT_tup w r2
    rw [unT_ok h3] at g2
    rw [RepDs.tys_of g2] at g1
    exact .inr ⟨x, p, _, _, _, b, rfl, g1, cls_all ns, tyx_of w r1 h1, kitBs_ok h5, k _ _ _ (Grow.refl _ _) w (.bl _)⟩
  · cases hz
theorem cr_isi : CallR X (.builtin "isinstance") (fun x H Q => rIsi X.K x H Q ∨ rIsiT X.K x H Q) := call_isi.or call_isiT
theorem ge_ty {x : Str} {T : String} {pos : Pos} (hm : X.mg x = none) (hv : bootBuiltins x = some (.type T) := by decide +kernel) (hg : Gl X x := by rfl) (hn : x ≠ "__name__" := by decide) (hd : (x == ("__debug__" : Str)) = false := by decide) : GE K mg r X O E (.Name x pos) (tC (.ty T)) (cE (.ty T)) :=
  ge_c (v := .ty T) (pe_bltn hg hm hv rfl hn hd) fun _ => .ty T
variable {a b c : Expr} {pos : Pos} {ta tb tc : TE} {ma mb mc : SE D}
theorem ge_add (ha : GO K mg r X O E a ta ma) (hb : GO K mg r X O E b tb mb) (hK : X.K = K := by rfl) : GE K mg r X O E (.BinOp a .Add b pos) (tOp (rAddD K) ta tb) (binE addD ma mb) := by subst hK; exact ge_op opr_add ops_add ha hb
theorem ge_sub (ha : GO K mg r X O E a ta ma) (hb : GO K mg r X O E b tb mb) : GE K mg r X O E (.BinOp a .Sub b pos) (tOp (rI0 fun i j => .int (i - j)) ta tb) (binE subD ma mb) := ge_op op_sub ops_sub ha hb
theorem ge_mul (ha : GO K mg r X O E a ta ma) (hb : GO K mg r X O E b tb mb) (hK : X.K = K := by rfl) : GE K mg r X O E (.BinOp a .Mult b pos) (tOp (rMulD K) ta tb) (binE mulD ma mb) := by subst hK; exact ge_op opr_mul ops_mul ha hb
theorem ge_fdiv (ha : GO K mg r X O E a ta ma) (hb : GO K mg r X O E b tb mb) : GE K mg r X O E (.BinOp a .FloorDiv b pos) (tOp (rI CDivW fun i j => .int (i / j)) ta tb) (binE fdivD ma mb) := ge_op op_fdivW ops_fdiv ha hb
theorem ge_mod (ha : GO K mg r X O E a ta ma) (hb : GO K mg r X O E b tb mb) : GE K mg r X O E (.BinOp a .Mod b pos) (tOp (rI (fun _ j => 0 < j) fun i j => .int (i % j)) ta tb) (binE modD ma mb) := ge_op op_mod ops_mod ha hb
theorem ge_pow (ha : GO K mg r X O E a ta ma) (hb : GO K mg r X O E b tb mb) : GE K mg r X O E (.BinOp a .Pow b pos) (tOp (rI CPow fun i j => .int (i ^ j.toNat)) ta tb) (binE powD ma mb) := ge_op op_pow ops_pow ha hb
theorem ge_neg (ha : GO K mg r X O E a ta ma) : GE K mg r X O E (.UnaryOp .USub a pos) (tUn (rU fun i => .int (-i)) ta) (unE negD ma) := ge_un un_neg uns_neg ha
abbrev rLtD : R2 := fun x y H Q => (∃ i j, x = .int i ∧ y = .int j ∧ Q (.bl (decide (i < j))) H) ∨ (∃ i j, x = .str i ∧ y = .str j ∧ Q (.bl (decide (i.cps.toList < j.cps.toList))) H)
abbrev rLeD : R2 := rI0 fun i j => .bl (decide (i ≤ j))
abbrev rGtD : R2 := rI0 fun i j => .bl (decide (j < i))
abbrev rGeD : R2 := rI0 fun i j => .bl (decide (j ≤ i))
theorem ge_lt (ha : GO K mg r X O E a ta ma) (hb : GO K mg r X O E b tb mb) : GE K mg r X O E (.Compare a [.Lt] [b] pos) (tOp rLtD ta tb) (binE ltD ma mb) := ge_cmp opr_lt ops_lt ha hb (nomark _)
theorem ge_eq (hu : X.A.units + 64 < cLine) (ha : GO K mg r X O E a ta ma) (hb : GO K mg r X O E b tb mb) (hK : X.K = K := by rfl) : GE K mg r X O E (.Compare a [.Eq] [b] pos) (tOp (rEqP K) ta tb) (binE eqD ma mb) := by subst hK; exact ge_cmp (op_eqP hu) ops_eq ha hb (nomark _)
theorem ge_ne (hu : X.A.units + 64 < cLine) (ha : GO K mg r X O E a ta ma) (hb : GO K mg r X O E b tb mb) (hK : X.K = K := by rfl) : GE K mg r X O E (.Compare a [.NotEq] [b] pos) (tOp (rNeP K) ta tb) (binE neD ma mb) := by subst hK; exact ge_cmp (op_neP hu) ops_ne ha hb (nomark _)
theorem ge_in (hu : X.A.units + 64 < cLine) (ha : GO K mg r X O E a ta ma) (hb : GO K mg r X O E b tb mb) (hm : behindInMarks .In b = false := by rfl) (hK : X.K = K := by rfl) : GE K mg r X O E (.Compare a [.In] [b] pos) (tOp (rInP K false) ta tb) (binE inD ma mb) := by subst hK; exact ge_cmp (op_inP hu) ops_in ha hb hm
abbrev rIsD : R2 := fun x y H Q => (y = .non ∧ Q (.bl (decide (x = .non))) H) ∨ ∃ a b, x = .bl a ∧ y = .bl b ∧ Q (.bl (decide (a = b))) H
abbrev rIsNotD : R2 := fun x y H Q => (y = .non ∧ Q (.bl (!decide (x = .non))) H) ∨ ∃ a b, x = .bl a ∧ y = .bl b ∧ Q (.bl (!decide (a = b))) H
theorem ge_isNot (ha : GO K mg r X O E a ta ma) (hb : GO K mg r X O E b tb mb) : GE K mg r X O E (.Compare a [.IsNot] [b] pos) (tOp rIsNotD ta tb) (binE isNotNoneD ma mb) := ge_cmp opr_isNot ops_isNot ha hb (nomark _)
theorem ge_sub1 (ha : GO K mg r X O E a ta ma) (hb : GO K mg r X O E b tb mb) (hs : PlainIx b := by exact fun _ _ => rfl) (hK : X.K = K := by rfl) : GE K mg r X O E (.Subscript a b pos) (tOp (rIx K) ta tb) (binE ixD ma mb) := by subst hK; exact ge_ix ix_seq ops_ix ha hb hs
variable {ts : TA} {ms : SE (List D)} {p : Pos} {es : List Expr} {e : Expr}
abbrev rLenD (K : PySem.W.Frag) : List V → Hp → VK → Prop := fun xs H Q => (∃ p ys, xs = [.ref p] ∧ (SqL K H p ys ∨ SqT K H p ys) ∧ Q (.int ys.length) H) ∨ ∃ z, xs = [.str z] ∧ z.length ≤ sizeLine ∧ Q (.int z.length) H
theorem ge_len (hm : X.mg "len" = none) (ha : GAO K mg r X O E [e] ts ms) (hg : Gl X "len" := by rfl) (he : starEach [e] X.env = (false, eval e X.env) :: starEach [] X.env := by rfl) (hpl : (backTo pos (starEach [] X.env)).any (·.1) = false := by rfl) (hK : X.K = K := by rfl) : GE K mg r X O E (.Call (.Name "len" p) [e] [] pos) (tCB (rLenD K) ts) (callB lenD ms) := by
  subst hK; exact ge_callB (R := rLenD X.K) cr_len cs_len hm ha hg PySem.boot_len (by decide) (by decide) he hpl
abbrev rIntD : List V → Hp → VK → Prop := fun xs H Q => (∃ i, xs = [.int i] ∧ Q (.int i) H) ∨ ∃ k, xs = [.bl k] ∧ Q (.int (if k then 1 else 0)) H
theorem ge_int1 (hm : X.mg "int" = none) (ha : GAO K mg r X O E [e] ts ms) (hg : Gl X "int" := by rfl) (he : starEach [e] X.env = (false, eval e X.env) :: starEach [] X.env := by rfl) (hpl : (backTo pos (starEach [] X.env)).any (·.1) = false := by rfl) : GE K mg r X O E (.Call (.Name "int" p) [e] [] pos) (tCB rIntD ts) (callB intD ms) :=
  ge_callTy (R := rIntD) call_int1 cs_int hm ha hg (by decide +kernel) (by decide) (by decide) he hpl
abbrev rTupleD (K : PySem.W.Frag) : List V → Hp → VK → Prop := fun xs H Q => ∃ p ys, xs = [.ref p] ∧ ((SqL K H p ys ∧ ∀ l, H l = none → Q (.ref l) (upd H l (.tup ys))) ∨ (SqT K H p ys ∧ Q (.ref p) H))
theorem ge_tuple (hm : X.mg "tuple" = none) (ha : GAO K mg r X O E [e] ts ms) (hg : Gl X "tuple" := by rfl) (he : starEach [e] X.env = (false, eval e X.env) :: starEach [] X.env := by rfl) (hpl : (backTo pos (starEach [] X.env)).any (·.1) = false := by rfl) (hK : X.K = K := by rfl) : GE K mg r X O E (.Call (.Name "tuple" p) [e] [] pos) (tCB (rTupleD K) ts) (callB tupleD ms) := by
  subst hK; exact ge_callTy (R := rTupleD X.K) call_tuple_of cs_tuple hm ha hg (by decide +kernel) (by decide) (by decide) he hpl
abbrev rListD1 (K : PySem.W.Frag) : List V → Hp → VK → Prop := fun xs H Q => ∃ p ys, xs = [.ref p] ∧ (SqL K H p ys ∨ SqT K H p ys) ∧ ∀ l, H l = none → Q (.ref l) (upd H l (.lst ys))
theorem ge_all (hc : X.calm = true) (hm : X.mg "all" = none) (ha : GAO K mg r X O E [e] ts ms) (hg : Gl X "all" := by rfl) (he : starEach [e] X.env = (false, eval e X.env) :: starEach [] X.env := by rfl) (hpl : (backTo pos (starEach [] X.env)).any (·.1) = false := by rfl) (hK : X.K = K := by rfl) : GE K mg r X O E (.Call (.Name "all" p) [e] [] pos) (tCB (rAll K) ts) (callB allD ms) := by
  subst hK; exact ge_callB (cr_all hc) cs_all hm ha hg (by decide +kernel) (by decide) (by decide) he hpl
theorem ge_any (hc : X.calm = true) (hm : X.mg "any" = none) (ha : GAO K mg r X O E [e] ts ms) (hg : Gl X "any" := by rfl) (he : starEach [e] X.env = (false, eval e X.env) :: starEach [] X.env := by rfl) (hpl : (backTo pos (starEach [] X.env)).any (·.1) = false := by rfl) (hK : X.K = K := by rfl) : GE K mg r X O E (.Call (.Name "any" p) [e] [] pos) (tCB (rAny K) ts) (callB anyD ms) := by
  subst hK; exact ge_callB (cr_any hc) cs_any hm ha hg (by decide +kernel) (by decide) (by decide) he hpl
abbrev rIsiD (K : PySem.W.Frag) : List V → Hp → VK → Prop := fun x H Q => rIsi K x H Q ∨ rIsiT K x H Q
theorem ge_isi {e2 : Expr} (hm : X.mg "isinstance" = none) (ha : GAO K mg r X O E [e, e2] ts ms) (hg : Gl X "isinstance" := by rfl) (he : starEach [e, e2] X.env = (false, eval e X.env) :: starEach [e2] X.env := by rfl) (hpl : (backTo pos (starEach [e2] X.env)).any (·.1) = false := by rfl) (hK : X.K = K := by rfl) : GE K mg r X O E (.Call (.Name "isinstance" p) [e, e2] [] pos) (tCB (rIsiD K) ts) (callB isiD ms) := by
  subst hK; exact ge_callB (R := rIsiD X.K) cr_isi cs_isi hm ha hg (by decide +kernel) (by decide) (by decide) he hpl
end
end G
set_option maxHeartbeats 1000000
namespace G
open PySem PySem.Spec PyProof.Rows L2
inductive RS where
  | nx (env : DEnv) (tp : List D)
  | rt (d : D) (tp : List D)
  | bk (env : DEnv) (tp : List D)
  | ct (env : DEnv) (tp : List D)
  | exn (c : Str) (fs : List (Str × D)) (tp : List D)
  | stuck
abbrev SS := DEnv → List D → RS
def RE.bindS {α : Type} (x : RE α) (k : α → List D → RS) : RS := match x with
  | .ok a tp => k a tp
  | .exn c fs tp => .exn c fs tp
  | .stuck => .stuck
@[simp] theorem RE.bindS_ok {α : Type} (a : α) (tp : List D) (k : α → List D → RS) : (RE.ok a tp).bindS k = k a tp := rfl
@[simp] theorem RE.bindS_exn {α : Type} (c : Str) (fs : List (Str × D)) (tp : List D) (k : α → List D → RS) : (RE.exn c fs tp : RE α).bindS k = .exn c fs tp := rfl
@[simp] theorem RE.bindS_stuck {α : Type} (k : α → List D → RS) : (RE.stuck : RE α).bindS k = .stuck := rfl
section
variable {K : PySem.W.Frag} {mg : Str → Option Value} {r : Addr} {Hs0 H0 Hs Hs' H H' : Hp} {O O' : List Nat} {σ : L2.St} {env : DEnv} {tp tp' : List D} {p : Addr} {d : D} {v : V}
theorem get_set {α : Type} {xs : List (Option α)} {i j : Nat} {v : α} {w : α} (h : (xs.set i (some v))[j]? = some (some w)) : (j = i ∧ v = w ∧ i < xs.length) ∨ (j ≠ i ∧ xs[j]? = some (some w)) := by
  by_cases q : j = i
  · subst q
    rw [List.getElem?_set] at h
    simp only [if_true] at h
    split at h
    · cases h; exact .inl ⟨rfl, rfl, by assumption⟩
    · cases h
  · rw [List.getElem?_set_ne (Ne.symm q)] at h
    exact .inr ⟨q, h⟩
theorem set_get {α : Type} {xs : List (Option α)} {i : Nat} {v : α} (h : i < xs.length) : (xs.set i (some v))[i]? = some (some v) := by
  rw [List.getElem?_set_self h]
theorem set_gne {α : Type} {xs : List (Option α)} {i j : Nat} {v : Option α} (h : j ≠ i) : (xs.set i v)[j]? = xs[j]? := List.getElem?_set_ne (Ne.symm h)
/-- some owned objects come to stand still -/
theorem Rel.freeze (R : Rel K mg r O Hs0 H0 Hs H σ env tp) (h : ∀ i ∈ O', i ∈ O) : ∃ Hs', Same Hs Hs' ∧ Rel K mg r O' Hs0 H0 Hs' H σ env tp := by
  classical
  let fz : Addr → Prop := fun b => ∃ i, i ∈ O ∧ i ∉ O' ∧ σ[i]? = some (some (.ref b))
  let Hs' : Hp := fun b => if fz b then H b else Hs b
  have fzn : ∀ b, fz b → Hs b = none ∧ H0 b = none ∧ b ≠ r := fun b ⟨i, h1, _, h3⟩ => by
    obtain ⟨d, p, _, b2, c, c0, n, _⟩ := R.own i h1
    rw [h3] at b2; cases b2
    exact ⟨c, c0, n⟩
  have e : Same Hs Hs' := .of fun b o q => by
    show (if fz b then H b else Hs b) = some o
    by_cases z : fz b
    · rw [(fzn b z).1] at q; cases q
    · rw [if_neg z]; exact q
  have sub : Same Hs' H := fun b o q => by
    have q : (if fz b then H b else Hs b) = some o := q
    by_cases z : fz b
    · rw [if_pos z] at q; exact .inl q
    · rw [if_neg z] at q; exact R.wd.sub b o q
  have tn : Hs' r = none := by
    show (if fz r then H r else Hs r) = none
    rw [if_neg fun z => (fzn r z).2.2 rfl]; exact R.wd.tn
  refine ⟨Hs', e, ⟨⟨sub, tn, ?_, fun b φ q => ?_⟩, ⟨R.gr.keep, R.gr.free, R.gr.ex.trans e, fun b o n q => ?_, R.gr.tup⟩, R.len, fun i d a n => ?_, fun i hi => ?_, fun i j p hi hj a b => R.dis i j p (h i hi) (h j hj) a b⟩⟩
  · obtain ⟨vs, a, b⟩ := R.wd.tH
    exact ⟨vs, a, b.mono e⟩
  · have q : (if fz b then H b else Hs b) = some (.ext φ) := q
    by_cases z : fz b
    · rw [if_pos z] at q
      obtain ⟨i, h1, _, h3⟩ := z
      obtain ⟨d, p, _, b2, _, _, _, oa⟩ := R.own i h1
      rw [h3] at b2; cases b2
      exact oa.next φ q
    · rw [if_neg z] at q; exact R.wd.nx b φ q
  · have q : (if fz b then H b else Hs b) = some o := q
    by_cases z : fz b
    · exact .inr (.inl (fzn b z).2.1)
    · rw [if_neg z] at q; exact R.gr.new b o n q
  · by_cases m : i ∈ O
    · obtain ⟨d', p, b1, b2, c, c0, ne, oa⟩ := R.own i m
      rw [a] at b1; cases b1
      refine ⟨_, b2, oa.rep e fun o q => ?_⟩
      show (if fz p then H p else Hs p) = some o
      rw [if_pos ⟨i, m, n, b2⟩]; exact q
    · obtain ⟨v, b1, b2⟩ := R.vars i d a m
      exact ⟨v, b1, b2.mono e⟩
  · obtain ⟨d', p, b1, b2, c, c0, ne, oa⟩ := R.own i (h i hi)
    refine ⟨d', p, b1, b2, ?_, c0, ne, oa.grow e fun o q => q⟩
    show (if fz p then H p else Hs p) = none
    rw [if_neg]
    · exact c
    · rintro ⟨j, hj, hj', q⟩
      have := R.dis i j p (h i hi) hj b2 q
      subst this
      exact hj' hi
/-- a name gets a value that stands still -/
theorem Rel.set (R : Rel K mg r O Hs0 H0 Hs H σ env tp) (i : Nat) (hr : RepD K mg r Hs v d) : Rel K mg r (O.filter (· != i)) Hs0 H0 Hs H (σ.set i (some v)) (env.set i (some d)) tp where
  wd := R.wd
  gr := R.gr
  len := by rw [List.length_set, List.length_set]; exact R.len
  vars := fun j e a n => by
    rcases get_set a with ⟨rfl, rfl, hl⟩ | ⟨ne, a⟩
    · exact ⟨v, set_get (by rw [R.len]; exact hl), hr⟩
    · have n' : j ∉ O := fun m => n (List.mem_filter.mpr ⟨m, by simpa using ne⟩)
      obtain ⟨w, b1, b2⟩ := R.vars j e a n'
      exact ⟨w, by rw [set_gne ne]; exact b1, b2⟩
  own := fun j hj => by
    obtain ⟨m, ne⟩ := List.mem_filter.mp hj
    have ne : j ≠ i := by simpa using ne
    obtain ⟨d', p, b1, b2, c⟩ := R.own j m
    exact ⟨d', p, by rw [set_gne ne]; exact b1, by rw [set_gne ne]; exact b2, c⟩
  dis := fun j l p hj hl a b => by
    obtain ⟨m, ne⟩ := List.mem_filter.mp hj
    obtain ⟨m', ne'⟩ := List.mem_filter.mp hl
    rw [set_gne (by simpa using ne)] at a
    rw [set_gne (by simpa using ne')] at b
    exact R.dis j l p m m' a b
/-- a name gets a fresh object -/
theorem Rel.setF (R : Rel K mg r O Hs0 H0 Hs H σ env tp) (i : Nat) (hi : i < env.length) (h0 : H0 p = none) (hs : Hs p = none) (ne : p ≠ r) (ho : OwnAt K mg r Hs H p d) (hd : ∀ j ∈ O, σ[j]? ≠ some (some (.ref p))) :
    Rel K mg r (i :: O.filter (· != i)) Hs0 H0 Hs H (σ.set i (some (.ref p))) (env.set i (some d)) tp where
  wd := R.wd
  gr := R.gr
  len := by rw [List.length_set, List.length_set]; exact R.len
  vars := fun j e a n => by
    rcases get_set a with ⟨rfl, rfl, hl⟩ | ⟨ne, a⟩
    · exact absurd List.mem_cons_self n
    · have n' : j ∉ O := fun m => n (List.mem_cons_of_mem _ (List.mem_filter.mpr ⟨m, by simpa using ne⟩))
      obtain ⟨w, b1, b2⟩ := R.vars j e a n'
      exact ⟨w, by rw [set_gne ne]; exact b1, b2⟩
  own := fun j hj => by
    rcases List.mem_cons.mp hj with rfl | hj
    · exact ⟨d, p, set_get hi, set_get (by rw [R.len]; exact hi), hs, h0, ne, ho⟩
    · obtain ⟨m, ne⟩ := List.mem_filter.mp hj
      have ne : j ≠ i := by simpa using ne
      obtain ⟨d', p, b1, b2, c⟩ := R.own j m
      exact ⟨d', p, by rw [set_gne ne]; exact b1, by rw [set_gne ne]; exact b2, c⟩
  dis := fun j l q hj hl a b => by
    rcases List.mem_cons.mp hj with rfl | hj
    · rcases List.mem_cons.mp hl with rfl | hl
      · rfl
      · obtain ⟨m', ne'⟩ := List.mem_filter.mp hl
        rw [set_gne (by simpa using ne')] at b
        rw [set_get (by rw [R.len]; exact hi)] at a
        cases a
        exact absurd b (hd l m')
    · obtain ⟨m, ne⟩ := List.mem_filter.mp hj
      rw [set_gne (by simpa using ne)] at a
      rcases List.mem_cons.mp hl with rfl | hl
      · rw [set_get (by rw [R.len]; exact hi)] at b
        cases b
        exact absurd a (hd j m)
      · obtain ⟨m', ne'⟩ := List.mem_filter.mp hl
        rw [set_gne (by simpa using ne')] at b
        exact R.dis j l q m m' a b
/-- an owned object is changed -/
theorem Rel.write {o : HO} {i : Nat} (R : Rel K mg r O Hs0 H0 Hs H σ env tp) (hi : i ∈ O) (hp : σ[i]? = some (some (.ref p))) (ho : OwnAt K mg r Hs (upd H p o) p d) : Rel K mg r O Hs0 H0 Hs (upd H p o) σ (env.set i (some d)) tp := by
  obtain ⟨d0, p0, b1, b2, c, c0, ne, oa⟩ := R.own i hi
  rw [hp] at b2; cases b2
  have hl : i < env.length := by
    rcases Nat.lt_or_ge i env.length with q | q
    · exact q
    · rw [List.getElem?_eq_none q] at b1; cases b1
  refine ⟨R.wd.write c ne (fun xs z => oa.ntup _ z xs rfl), ⟨fun b u q n hs => ?_, fun b e => R.gr.free b (upd_free e), R.gr.ex, R.gr.new, fun b xs e => by rw [upd_ne (ne_of_none e c0)]; exact R.gr.tup b xs e⟩, by rw [List.length_set]; exact R.len, fun j e a n => ?_, fun j hj => ?_, R.dis⟩
  · rw [upd_ne (ne_of_none q c0)]; exact R.gr.keep b u q n hs
  · rcases get_set a with ⟨rfl, rfl, _⟩ | ⟨_, a⟩
    · exact absurd hi n
    · exact R.vars j e a n
  · by_cases q : j = i
    · subst q
      exact ⟨d, p, set_get hl, hp, c, c0, ne, ho⟩
    · obtain ⟨d', p', e1, e2, f, f0, fn, fo⟩ := R.own j hj
      have np : p' ≠ p := fun z => q (by subst z; exact R.dis j i p' hj hi e2 hp)
      exact ⟨d', p', by rw [set_gne q]; exact e1, e2, f, f0, fn, fo.grow (Same.refl _) fun u z => by rw [upd_ne np]; exact z⟩
/-- the tape is written -/
theorem Rel.tape {vs : List V} {j : Nat} (R : Rel K mg r O Hs0 H0 Hs H σ env tp) (h : H r = some (.lst vs)) (hv : RepDs K mg r Hs vs tp) (hr : RepD K mg r Hs v d) : Rel K mg r O Hs0 H0 Hs (upd H r (.lst (vs.set j v))) σ env (tp.set j d) := by
  refine ⟨⟨fun b u q => ?_, R.wd.tn, ⟨_, upd_same, hv.set j hr⟩, R.wd.nx⟩, ⟨fun b u q n hs => ?_, fun b e => R.gr.free b (upd_free e), R.gr.ex, R.gr.new, fun b xs e => by have q := R.gr.tup b xs e; rw [upd_ne (ne_of q h (by intro z; cases z))]; exact q⟩, R.len, R.vars, fun i hi => ?_, R.dis⟩
  · exact (R.wd.sub b u q).upd (ne_of_none q R.wd.tn) fun xs z => by rw [h] at z; cases z
  · rw [upd_ne n]; exact R.gr.keep b u q n hs
  · obtain ⟨d', p, b1, b2, c, c0, ne, oa⟩ := R.own i hi
    exact ⟨d', p, b1, b2, c, c0, ne, oa.grow (Same.refl _) fun u z => by rw [upd_ne ne]; exact z⟩
end
section
variable (K : PySem.W.Frag) (mg : Str → Option Value) (r : Addr) (X : Cx) (E : XK) (O On Ol : List Nat)
def PostS (Hs0 H0 Hs : Hp) (res : RS) (D : Ends) : Prop := match res with
  | .nx env' tp' => ∀ σ' Hs' H', Same Hs Hs' → Rel K mg r On Hs0 H0 Hs' H' σ' env' tp' → D.nx σ' H'
  | .rt d tp' => ∀ v Hs' H', Grow r Hs0 H0 Hs' H' → Wd K mg r Hs' H' tp' → RepD K mg r Hs' v d → D.rt v H'
  | .bk env' tp' => ∀ σ' Hs' H', Same Hs Hs' → Rel K mg r Ol Hs0 H0 Hs' H' σ' env' tp' → D.bk σ' H'
  | .ct env' tp' => ∀ σ' Hs' H', Same Hs Hs' → Rel K mg r Ol Hs0 H0 Hs' H' σ' env' tp' → D.ct σ' H'
  | .exn c fs tp' => ∀ cv dx Hs' H', Grow r Hs0 H0 Hs' H' → Wd K mg r Hs' H' tp' → mg c = some cv → ExD K mg r Hs' fs dx → E cv dx H'
  | .stuck => False
structure GS (st : Stmt) (t : TS) (m : SS) : Prop where
  pe : PS X st t
  snd : ∀ Hs0 H0 Hs H σ env tp D, Rel K mg r O Hs0 H0 Hs H σ env tp → PostS K mg r E On Ol Hs0 H0 Hs (m env tp) D → t D σ H
structure GSs (st : List Stmt) (t : TS) (m : SS) : Prop where
  pe : PSs X st t
  snd : ∀ Hs0 H0 Hs H σ env tp D, Rel K mg r O Hs0 H0 Hs H σ env tp → PostS K mg r E On Ol Hs0 H0 Hs (m env tp) D → t D σ H
end
section
variable {K : PySem.W.Frag} {mg : Str → Option Value} {r : Addr} {X : Cx} {E : XK} {O O1 On Ol : List Nat} {e a b : Expr} {es : List Expr} {pos : Pos} {t ta tb : TE} {tt : TT} {ts : TA} {s1 : Stmt} {ss : List Stmt} {u u1 u2 : TS}
theorem PostS.shift {Hs0 H0 Hs Hs1 : Hp} {res : RS} {D : Ends} (e : Same Hs Hs1) (h : PostS K mg r E On Ol Hs0 H0 Hs res D) : PostS K mg r E On Ol Hs0 H0 Hs1 res D := by
  cases res with
  | nx env tp => exact fun σ Hs' H' e' R => h σ Hs' H' (e.trans e') R
  | bk env tp => exact fun σ Hs' H' e' R => h σ Hs' H' (e.trans e') R
  | ct env tp => exact fun σ Hs' H' e' R => h σ Hs' H' (e.trans e') R
  | _ => exact h
/-- an expression's value, then the rest of a statement -/
theorem PostS.bind {β α : Type} {R1 : Hp → Hp → β → α → Prop} {Hs0 H0 Hs H : Hp} {σ : L2.St} {env : DEnv} {tp : List D} {res : RE α} {k : α → List D → RS} {D : Ends} {Q1 : β → Hp → Prop} (R : Rel K mg r O Hs0 H0 Hs H σ env tp) (h : PostS K mg r E On Ol Hs0 H0 Hs (res.bindS k) D)
    (step : ∀ v Hs1 H1 d tp1, res = .ok d tp1 → Grow r Hs H Hs1 H1 → Wd K mg r Hs1 H1 tp1 → Rel K mg r O Hs0 H0 Hs1 H1 σ env tp1 → R1 Hs1 H1 v d → PostS K mg r E On Ol Hs0 H0 Hs1 (k d tp1) D → Q1 v H1) : Post K mg r R1 E Hs H res Q1 := by
  cases res with
  | ok d tp1 => exact fun v Hs1 H1 g w q => step v Hs1 H1 d tp1 rfl g w (R.grow g w) q (PostS.shift g.ex h)
  | exn c fs tp1 => exact fun cv dx Hs1 H1 g w m x => h cv dx Hs1 H1 (R.gr.trans g) w m x
  | stuck => exact h
theorem PostS.weak {On' : List Nat} {Hs0 H0 Hs : Hp} {res : RS} {D : Ends} (h : PostS K mg r E On' Ol Hs0 H0 Hs res D) (hO : ∀ i ∈ On', i ∈ On) : PostS K mg r E On Ol Hs0 H0 Hs res D := by
  cases res with
  | nx env tp =>
    intro σ Hs1 H e1 R
    obtain ⟨Hs', e, R'⟩ := R.freeze hO
    exact h σ Hs' H (e1.trans e) R'
  | _ => exact h
/-- ahead of it some owned objects come to stand still -/
theorem GS.pre {O' : List Nat} {m : SS} (hO : ∀ i ∈ O', i ∈ O) (h : GS K mg r X E O' On Ol s1 u m) : GS K mg r X E O On Ol s1 u m :=
  ⟨h.pe, fun Hs0 H0 Hs H σ env tp D R P => by
    obtain ⟨Hs', e, R'⟩ := R.freeze hO
    exact h.snd _ _ _ _ _ _ _ _ R' (P.shift e)⟩
/-- behind it -/
theorem GS.post {On' : List Nat} {m : SS} (hO : ∀ i ∈ On', i ∈ On) (h : GS K mg r X E O On Ol s1 u m) : GS K mg r X E O On' Ol s1 u m :=
  ⟨h.pe, fun Hs0 H0 Hs H σ env tp D R P => h.snd _ _ _ _ _ _ _ _ R (P.weak hO)⟩
theorem GSs.post {On' : List Nat} {m : SS} (hO : ∀ i ∈ On', i ∈ On) (h : GSs K mg r X E O On Ol ss u m) : GSs K mg r X E O On' Ol ss u m :=
  ⟨h.pe, fun Hs0 H0 Hs H σ env tp D R P => h.snd _ _ _ _ _ _ _ _ R (P.weak hO)⟩
def skipS : SS := fun env tp => .nx env tp
def seqS (m n : SS) : SS := fun env tp => match m env tp with
  | .nx e tp1 => n e tp1
  | x => x
theorem gss_nil : GSs K mg r X E O O Ol [] tNext skipS := ⟨pss_nil, fun Hs0 H0 Hs H σ env tp D R P => P _ _ _ (Same.refl _) R⟩
theorem gss_cons {m n : SS} (h1 : GS K mg r X E O O1 Ol s1 u1 m) (h2 : GSs K mg r X E O1 On Ol ss u2 n) : GSs K mg r X E O On Ol (s1 :: ss) (tSeq u1 u2) (seqS m n) := by
  refine ⟨pss_cons h1.pe h2.pe, fun Hs0 H0 Hs H σ env tp D R P => ?_⟩
  refine h1.snd _ _ _ _ _ _ _ _ R ?_
  unfold seqS at P
  cases q : m env tp with
  | nx e tp1 => rw [q] at P; exact fun σ' Hs' H' e' R' => h2.snd _ _ _ _ _ _ _ _ R' (P.shift e')
  | rt d tp1 => rw [q] at P; exact P
  | bk e tp1 => rw [q] at P; exact P
  | ct e tp1 => rw [q] at P; exact P
  | exn c fs tp1 => rw [q] at P; exact P
  | stuck => rw [q] at P; exact P
theorem gss_one {m : SS} (h1 : GS K mg r X E O On Ol s1 u1 m) : GSs K mg r X E O On Ol [s1] u1 m := ⟨pss_one h1.pe, h1.snd⟩
def setS (i : Nat) (m : SE D) : SS := fun env tp => (m env tp).bindS fun d tp1 => .nx (env.set i (some d)) tp1
def retS (m : SE D) : SS := fun env tp => (m env tp).bindS fun d tp1 => .rt d tp1
def dropS (m : SE D) : SS := fun env tp => (m env tp).bindS fun _ tp1 => .nx env tp1
def ifS (c : SE Bool) (m n : SS) : SS := fun env tp => (c env tp).bindS fun b tp1 => if b = true then m env tp1 else n env tp1
theorem setS_sound {m : SE D} (i : Nat) (h : ∀ Hs0 H0 Hs H σ env tp Q, Rel K mg r O Hs0 H0 Hs H σ env tp → PostE K mg r E Hs H (m env tp) Q → t σ H Q) :
    ∀ Hs0 H0 Hs H σ env tp D, Rel K mg r O Hs0 H0 Hs H σ env tp → PostS K mg r E (O.filter (· != i)) Ol Hs0 H0 Hs (setS i m env tp) D → tAsg t (gName i) D σ H := by
  intro Hs0 H0 Hs H σ env tp D R P
  exact h _ _ _ _ _ _ _ _ R (PostS.bind R P fun v Hs1 H1 d tp1 _ g w R1 rv P1 => P1 _ _ _ (Same.refl _) (R1.set i rv))
def setFS (i : Nat) (m : SE D) : SS := fun env tp => (m env tp).bindS fun d tp1 => if i < env.length then .nx (env.set i (some d)) tp1 else .stuck
theorem Rel.new_ne {Hs0 H0 Hs H : Hp} {σ : L2.St} {env : DEnv} {tp : List D} {p : Addr} (R : Rel K mg r O Hs0 H0 Hs H σ env tp) (h1 : H p = none) (h3 : p ≠ r) : H0 p = none ∧ ∀ j ∈ O, σ[j]? ≠ some (some (.ref p)) := by
  refine ⟨?_, fun j hj q => ?_⟩
  · exact R.gr.free p h1
  · obtain ⟨d', p', b1, b2, c, c0, ne, oa⟩ := R.own j hj
    rw [q] at b2; cases b2
    obtain ⟨o, ho⟩ := oa.there
    rw [ho] at h1; cases h1
theorem setF_sound {m : SE D} (i : Nat) (h : ∀ Hs0 H0 Hs H σ env tp Q, Rel K mg r O Hs0 H0 Hs H σ env tp → Post K mg r (Fresh K mg r H) E Hs H (m env tp) Q → t σ H Q) :
    ∀ Hs0 H0 Hs H σ env tp D, Rel K mg r O Hs0 H0 Hs H σ env tp → PostS K mg r E (i :: O.filter (· != i)) Ol Hs0 H0 Hs (setFS i m env tp) D → tAsg t (gName i) D σ H := by
  intro Hs0 H0 Hs H σ env tp D R P
  refine h _ _ _ _ _ _ _ _ R (PostS.bind R P fun v Hs1 H1 d tp1 _ g w R1 rv P1 => ?_)
  obtain ⟨p, rfl, h1, h2, h3, h4⟩ := rv
  split at P1
  · rename_i hl
    obtain ⟨n1, n2⟩ := R.new_ne h1 h3
    exact P1 _ _ _ (Same.refl _) (R1.setF i hl n1 h2 h3 h4 n2)
  · exact P1.elim
theorem gs_set {m : SE D} (i : Nat) {x : Str} {pos' : Pos} (hN : X.N.Nodup) (h : GE K mg r X O E e t m) (hi : X.N[i]? = some x := by rfl) (hx : Loc X.env.scope x := by first | exact Or.inl rfl | exact Or.inr rfl) (hs : swapsWith e (some (.Name x pos')) pos.line X.env = pure false := by rfl)
    (hf : X.fn x = true ∨ X.env.scope.names.lookup x = some .local := by first | exact .inl rfl | exact .inr rfl) : GS K mg r X E O (O.filter (· != i)) Ol (.Assign [.Name x pos'] e pos) (tAsg t (gName i)) (setS i m) :=
  ⟨ps_set hN hi hx h.pe hs hf, setS_sound i h.snd⟩
theorem gs_setF {m : SE D} (i : Nat) {x : Str} {pos' : Pos} (hN : X.N.Nodup) (h : GF K mg r X O E e t m) (hi : X.N[i]? = some x := by rfl) (hx : Loc X.env.scope x := by first | exact Or.inl rfl | exact Or.inr rfl) (hs : swapsWith e (some (.Name x pos')) pos.line X.env = pure false := by rfl)
    (hf : X.fn x = true ∨ X.env.scope.names.lookup x = some .local := by first | exact .inl rfl | exact .inr rfl) : GS K mg r X E O (i :: O.filter (· != i)) Ol (.Assign [.Name x pos'] e pos) (tAsg t (gName i)) (setFS i m) :=
  ⟨ps_set hN hi hx h.pe hs hf, setF_sound i h.snd⟩
theorem gs_ret {m : SE D} (h : GE K mg r X O E e t m) : GS K mg r X E O On Ol (.Return (some e) pos) (tRet t) (retS m) :=
  ⟨ps_ret h.pe, fun Hs0 H0 Hs H σ env tp D R P => h.snd _ _ _ _ _ _ _ _ R (PostS.bind R P fun v Hs1 H1 d tp1 _ g w R1 rv P1 => P1 v Hs1 H1 R1.gr w rv)⟩
/-- a slot's own object is handed back -/
theorem gs_retO (i : Nat) {x : Str} (hO : i ∈ O) (hN : X.N[i]? = some x := by rfl) {p2 : Pos} (hv : Vis X.env.scope x := by first | exact Or.inl rfl | exact Or.inr (Or.inl rfl) | exact Or.inr (Or.inr rfl)) (hd : (x == ("__debug__" : Str)) = false := by decide)
    (hcd : (x == ("__classdict__" : Str)) = false := by decide) : GS K mg r X E O On Ol (.Return (some (.Name x p2)) pos) (tRet (tVar i)) (retS (vE i)) :=
  GS.pre (O' := []) (fun _ h => nomatch h) (gs_ret (ge_var i (by simp) hN hv hd hcd))
theorem gs_drop {m : SE D} (h : GE K mg r X O E e t m) (hs : swapsWith e none pos.line X.env = pure false := by rfl) : GS K mg r X E O O Ol (.Expr e pos) (tDrop t) (dropS m) :=
  ⟨ps_expr h.pe hs, fun Hs0 H0 Hs H σ env tp D R P => h.snd _ _ _ _ _ _ _ _ R (PostS.bind R P fun v Hs1 H1 d tp1 _ g w R1 rv P1 => P1 _ _ _ (Same.refl _) R1)⟩
theorem gs_never : GS K mg r X E O On Ol s1 tNever (fun _ _ => .stuck) := ⟨ps_never, fun Hs0 H0 Hs H σ env tp D R P => P⟩
theorem gs_if {mc : SE Bool} {m n : SS} {bs : List Stmt} (hc : GT K mg r X O E e tt mc) (h1 : GSs K mg r X E O On Ol ss u1 m) (h2 : GSs K mg r X E O On Ol bs u2 n) : GS K mg r X E O On Ol (.If e ss bs pos) (tIfS tt u1 u2) (ifS mc m n) := by
  refine ⟨ps_if hc.pe h1.pe h2.pe, fun Hs0 H0 Hs H σ env tp D R P => ?_⟩
  refine hc.snd _ _ _ _ _ _ _ _ R (PostS.bind R P fun v Hs1 H1 d tp1 _ g w R1 rv P1 => ?_)
  subst rv
  cases v with
  | true => exact iteT (h1.snd _ _ _ _ _ _ _ _ R1 P1)
  | false => exact iteF (h2.snd _ _ _ _ _ _ _ _ R1 P1)
def appS (i : Nat) (m : SE D) : SS := fun env tp => match env[i]? with
  | some (some (.lst ds)) => (m env tp).bindS fun d tp1 => if ds.length < sizeLine then .nx (env.set i (some (.lst (ds ++ [d])))) tp1 else .stuck
  | _ => .stuck
theorem gs_append {m : SE D} (i : Nat) {x : Str} {p1 p2 p3 : Pos} (hO : i ∈ O) (h : GE K mg r X O E e t m) (hK : X.K = K := by rfl) (hN : X.N[i]? = some x := by rfl) (hv : Vis X.env.scope x := by first | exact Or.inl rfl | exact Or.inr (Or.inl rfl) | exact Or.inr (Or.inr rfl)) (hd : (x == ("__debug__" : Str)) = false := by decide)
    (hcd : (x == ("__classdict__" : Str)) = false := by decide)
    (hbase : attributeBase (.Name x p1) "append" X.env (eval (.Name x p1) X.env) = eval (.Name x p1) X.env := by rfl)
    (hfew : ((backTo p3 (starEach [e] X.env)).all (fun x => !x.1) && (backToKw p3 (keywordEach [] X.env)).all (fun x => x.1.isSome) && decide ([e].length + ([] : List Keyword).length + (if ([] : List Keyword).isEmpty then 0 else 1) < 30)) = true := by rfl)
    (hline : (p2.endLine == p3.line) = true := by rfl) (hs : starEach [e] X.env = (false, eval e X.env) :: starEach [] X.env := by rfl) (hplain : (backTo p3 (starEach [] X.env)).any (·.1) = false := by rfl)
    (hsw : swapsWith (.Call (.Attribute (.Name x p1) "append" p2) [e] [] p3) none pos.line X.env = pure false := by rfl) :
    GS K mg r X E O O Ol (.Expr (.Call (.Attribute (.Name x p1) "append" p2) [e] [] p3) pos) (tDrop (tBM K "list" rAppend (tVar i) (tCons t tNil))) (appS i m) := by
  subst hK
  refine ⟨ps_expr (pe_bm PySem.F.plainAttrs_list PySem.F.slot_list_append PySem.F.type_list_append mt_append (pe_var hN hv hd hcd) (pa_cons h.pe pa_nil hs) hbase hfew hline hs hplain) hsw, fun Hs0 H0 Hs H σ env tp D R P => ?_⟩
  obtain ⟨d0, p, b1, b2, c, c0, ne, oa⟩ := R.own i hO
  unfold appS at P
  rw [b1] at P
  cases d0 with
  | lst ds =>
    obtain ⟨vs0, k1, _⟩ := oa
    refine ⟨_, b2, .inl ⟨rfl, vs0, .of k1⟩, ?_⟩
    refine h.snd _ _ _ _ _ _ _ _ R (PostS.bind R P fun v Hs1 H1 d tp1 _ g w R1 rv P1 => ?_)
    obtain ⟨d1, p1, e1, e2, f, f0, fn, fo⟩ := R1.own i hO
    rw [b2] at e2; cases e2
    rw [b1] at e1; cases e1
    obtain ⟨vs, h1, h2⟩ := fo
    split at P1
    · rename_i hz
      refine ⟨p, vs, v, rfl, rfl, h1, by rw [h2.length]; exact hz, ?_⟩
      exact P1 _ _ _ (Same.refl _) (R1.write hO b2 ⟨_, upd_same, h2.append (.cons rv .nil)⟩)
    · exact P1.elim
  | _ => exact P.elim
def tixE (ma mb : SE D) : SE D := fun env tp => (ma env tp).bind fun d tp1 => match d with
  | .tape => (mb env tp1).bind fun e tp2 => match e with
    | .int i => RE.of (atI tp2 i) tp2
    | _ => .stuck
  | _ => .stuck
theorem ge_tix {ma mb : SE D} (ha : GO K mg r X O E a ta ma) (hb : GO K mg r X O E b tb mb) (hs : PlainIx b := by exact fun _ _ => rfl) (hK : X.K = K := by rfl) : GE K mg r X O E (.Subscript a b pos) (tOp (rIx K) ta tb) (tixE ma mb) := by
  subst hK
  refine ⟨pe_ix ix_seq ha.pe hb.pe hs, fun Hs0 H0 Hs H σ env tp Q R P => ?_⟩
  refine ha.snd _ _ _ _ _ _ _ _ R (Post.bind P fun v Hs1 H1 d tp1 _ g w rv P1 => ?_)
  cases d with
  | tape =>
    refine hb.snd _ _ _ _ _ _ _ _ (R.grow g w) (Post.bind P1 fun u Hs2 H2 e tp2 _ g2 w2 ru P2 => ?_)
    cases e with
    | int i =>
      obtain ⟨z, hz, k⟩ := Post.ok_of P2
      obtain ⟨vs, h1, h2⟩ := w2.tH
      obtain ⟨y, h3, h4⟩ := atI_rep h2 hz
      exact .inl ⟨r, vs, i, y, repT_tape rv, repT_int ru, .of h1, h3, k _ _ _ (Grow.refl _ _) w2 h4⟩
    | _ => exact P2.elim
  | _ => exact P1.elim
def tsetS (j : Nat) (ma mi m : SE D) : SS := fun env tp => (m env tp).bindS fun d tp1 => (ma env tp1).bindS fun o tp2 => (mi env tp2).bindS fun i tp3 => match o, i with
  | .tape, .int k => if ixN tp3.length k = some j then .nx env (tp3.set j d) else .stuck
  | _, _ => .stuck
theorem gs_tset {ma mi m : SE D} (j : Nat) {p1 : Pos} (h : GE K mg r X O E e t m) (ha : GO K mg r X O E a ta ma) (hb : GO K mg r X O E b tb mi)
    (hg : ∀ v, assign (.Subscript a b p1) X.env v = (do
      let ov ← holding [v] (eval a X.env)
      let iv ← holding [v, ov] (eval b X.env)
      standAt p1
      holding [v, ov, iv] (setItem ov iv v)
      release [v, ov, iv] []) := by intro _; rfl)
    (hs : swapsWithSole [.Subscript a b p1] e pos.line X.env = pure false := by rfl) (hw : swappedStores [.Subscript a b p1] e X.env = pure none := by rfl)
    (h1 : (assignEach [.Subscript a b p1] X.env).map (·.2) = [assign (.Subscript a b p1) X.env] := by rfl) :
    GS K mg r X E O O Ol (.Assign [.Subscript a b p1] e pos) (tAsg t (gSub ta tb rSetL)) (tsetS j ma mi m) := by
  refine ⟨ps_asg h.pe (pg_sub ha.pe hb.pe set_list hg) hs hw h1, fun Hs0 H0 Hs H σ env tp D R P => ?_⟩
  refine h.snd _ _ _ _ _ _ _ _ R (PostS.bind R P fun v Hs1 H1 d tp1 _ g w R1 rv P1 => ?_)
  refine ha.snd _ _ _ _ _ _ _ _ R1 (PostS.bind R1 P1 fun o Hs2 H2 od tp2 _ g2 w2 R2 ro P2 => ?_)
  refine hb.snd _ _ _ _ _ _ _ _ R2 (PostS.bind R2 P2 fun i Hs3 H3 id tp3 _ g3 w3 R3 ri P3 => ?_)
  split at P3
  · split at P3
    · rename_i q
      obtain ⟨vs, h1, h2⟩ := w3.tH
      refine ⟨r, vs, _, j, repT_tape ro, repT_int ri, h1, by rw [h2.length]; exact q, ?_⟩
      exact P3 _ _ _ (Same.refl _) (R3.tape h1 h2 (rv.mono (g2.ex.trans g3.ex)))
    · exact P3.elim
  · exact P3.elim
def setAll {α : Type} : List (Option α) → List Nat → List α → List (Option α)
  | s, i :: is, v :: vs => setAll (s.set i (some v)) is vs
  | s, _, _ => s
/-- the target of a loop: the slots that are set -/
structure GG (K : PySem.W.Frag) (mg : Str → Option Value) (r : Addr) (X : Cx) (tg : Expr) (g : TG) (is : List Nat) (f : D → Option (List D)) : Prop where
  pe : PG X tg g
  snd : ∀ v d ds Hs H tp σ (Q : L2.St → Hp → Prop), Wd K mg r Hs H tp → RepD K mg r Hs v d → f d = some ds → (∀ vs, RepDs K mg r Hs vs ds → vs.length = is.length → Q (setAll σ is vs) H) → g v σ H Q
def t1 : D → Option (List D) := fun d => some [d]
def tN (n : Nat) : D → Option (List D)
  | .tup ds => if ds.length = n then some ds else none
  | _ => none
theorem gg_name (i : Nat) {x : Str} (hN : X.N.Nodup) (hi : X.N[i]? = some x := by rfl) (hx : Loc X.env.scope x := by first | exact Or.inl rfl | exact Or.inr rfl) (hf : X.fn x = true ∨ X.env.scope.names.lookup x = some .local := by first | exact .inl rfl | exact .inr rfl) :
    GG K mg r X (.Name x pos) (gName i) [i] t1 :=
  ⟨pg_name hN hi hx hf, fun v d ds Hs H tp σ Q w rv hf q => by
    cases hf
    exact q [v] (.cons rv .nil) rfl⟩
structure GGs (K : PySem.W.Frag) (mg : Str → Option Value) (r : Addr) (X : Cx) (tg : List Expr) (g : TGs) (is : List Nat) : Prop where
  pe : PGs X tg g
  snd : ∀ vs σ H (Q : L2.St → Hp → Prop), vs.length = is.length → Q (setAll σ is vs) H → g vs σ H Q
theorem ggs_nil : GGs K mg r X [] gNil [] := ⟨pgs_nil, fun vs σ H Q hl q => by
  cases vs with
  | nil => exact ⟨rfl, q⟩
  | cons _ _ => cases hl⟩
theorem ggs_cons (i : Nat) {is : List Nat} {x : Str} {g : TGs} (hN : X.N.Nodup) (h : GGs K mg r X es g is) (hi : X.N[i]? = some x := by rfl) (hx : Loc X.env.scope x := by first | exact Or.inl rfl | exact Or.inr rfl) (hf : X.fn x = true ∨ X.env.scope.names.lookup x = some .local := by first | exact .inl rfl | exact .inr rfl)
    (hs : (assignEach (.Name x pos :: es) X.env).map (·.2) = assign (.Name x pos) X.env :: (assignEach es X.env).map (·.2) := by rfl) : GGs K mg r X (.Name x pos :: es) (gCons (gName i) g) (i :: is) :=
  ⟨pgs_cons (pg_name hN hi hx hf) h.pe hs, fun vs σ H Q hl q => by
    cases vs with
    | nil => cases hl
    | cons v vs => exact ⟨v, vs, rfl, h.snd vs _ H Q (by simpa using hl) q⟩⟩
theorem gg_tup {is : List Nat} {g : TGs} {k : Nat} {n : Nat} (hc : X.calm = true) (h : GGs K mg r X es g is) (hn : is.length = n) (hK : X.K = K := by rfl) (hn1 : (assignEach es X.env).length = n := by rfl) (hst : (assignEach es X.env).findIdx? (·.1) = none := by rfl) : GG K mg r X (.Tuple es k pos) (gTup K n g) is (tN n) := by
  subst hK
  refine ⟨pg_tup hc h.pe hn1 hst, fun v d ds Hs H tp σ Q w rv hf q => ?_⟩
  cases d with
  | tup xs =>
    have hf : (if xs.length = n then some xs else none) = some ds := hf
    split at hf
    · rename_i hl
      cases hf
      cases rv with
      | tup h1 h2 => exact ⟨_, _, rfl, .of (w.sub _ _ h1).tup, by rw [h2.length]; exact hl, h.snd _ σ H Q (by rw [h2.length, hn]; exact hl) (q _ h2 (by rw [h2.length, hn]; exact hl))⟩
    · cases hf
  | _ => cases hf
theorem filt_id {O : List Nat} {i : Nat} (h : i ∉ O) : O.filter (· != i) = O := List.filter_eq_self.mpr fun a ha => by
  have : a ≠ i := fun e => h (e ▸ ha)
  simpa using this
theorem rel_setAll {Hs0 H0 Hs H : Hp} {tp : List D} : ∀ (is : List Nat) (σ : L2.St) (env : DEnv) (vs : List V) (ds : List D), Rel K mg r O Hs0 H0 Hs H σ env tp → (∀ i ∈ is, i ∉ O) → RepDs K mg r Hs vs ds → vs.length = is.length → Rel K mg r O Hs0 H0 Hs H (setAll σ is vs) (setAll env is ds) tp
  | [], σ, env, vs, ds, R, _, h, hl => by
    cases vs with
    | nil => cases h; exact R
    | cons _ _ => cases hl
  | i :: is, σ, env, vs, ds, R, hn, h, hl => by
    cases h with
    | nil => cases hl
    | cons h1 h2 =>
      have R1 := R.set i h1
      rw [filt_id (hn i List.mem_cons_self)] at R1
      exact rel_setAll is _ _ _ _ R1 (fun j hj => hn j (List.mem_cons_of_mem _ hj)) h2 (by simpa using hl)
def WalksD (K : PySem.W.Frag) (mg : Str → Option Value) (r : Addr) (J : It) (Hs1 : Hp) (items : List D) : Prop :=
  ∃ (Gd : Hp → Prop) (Y : Nat → Hp → V → Hp → Prop), Walk J items.length Gd Y ∧ (∀ Hs H, Same Hs1 Hs → Same Hs H → Gd H) ∧
    ∀ i Hs H tp x H', i < items.length → Same Hs1 Hs → Wd K mg r Hs H tp → Y i H x H' → ∃ Hs' d, Grow r Hs H Hs' H' ∧ Wd K mg r Hs' H' tp ∧ items[i]? = some d ∧ RepD K mg r Hs' x d
structure GI (K : PySem.W.Frag) (mg : Str → Option Value) (r : Addr) (X : Cx) (O : List Nat) (E : XK) (tg : Expr) (e : Expr) (wi : TI) (m : SE (List D)) : Prop where
  pe : PI X tg e wi
  snd : ∀ Hs0 H0 Hs H σ env tp Q, Rel K mg r O Hs0 H0 Hs H σ env tp → Post K mg r (fun Hs _ J items => WalksD K mg r J Hs items) E Hs H (m env tp) Q → wi σ H Q
theorem pi_or {tg : Expr} {w1 w2 : TI} (h1 : PI X tg e w1) (h2 : PI X tg e w2) : PI X tg e (fun σ H R => w1 σ H R ∨ w2 σ H R) :=
  ⟨fun pins s σ H R I h => h.elim (h1.run pins s σ H R I) (h2.run pins s σ H R I)⟩
/-- the items of a list, a tuple, a text -/
def seqD : D → Option (List D)
  | .lst xs => some xs
  | .tup xs => some xs
  | .scr ns => some (ns.map .int)
  | .str s => some (s.cps.toList.map fun c => .str ⟨#[c]⟩)
  | _ => none
def seqI (m : SE D) : SE (List D) := fun env tp => (m env tp).bind fun d tp1 => RE.of (seqD d) tp1
abbrev iSeq (K : PySem.W.Frag) (t : TE) : TI := fun σ H R => iList K t σ H R ∨ iTup K t σ H R ∨ iStr t σ H R
theorem walks_list {K : PySem.W.Frag} {mg : Str → Option Value} {r : Addr} {Hs : Hp} {a : Addr} {vs : List V} {ds : List D} (h : SqL K Hs a vs) (hr : RepDs K mg r Hs vs ds) : WalksD K mg r (Itl K a) Hs ds := by
  refine ⟨_, _, by rw [← hr.length]; exact walk_list (K := K) (a := a) (xs := vs), fun Hs2 H e1 e2 => Same.seq e2 (Same.seq e1 h), fun i Hs2 H tp x H' hi e w y => ?_⟩
  obtain ⟨rfl, y⟩ := y
  obtain ⟨d, h1, h2⟩ := hr.get y
  exact ⟨Hs2, d, Grow.refl _ _, w, h1, h2.mono e⟩
theorem sqt_mono {K : PySem.W.Frag} {H H' : Hp} {a : Addr} {xs : List V} (e : Same H H') (h : SqT K H a xs) : SqT K H' a xs := e.sqt h
theorem walks_tup {K : PySem.W.Frag} {mg : Str → Option Value} {r : Addr} {Hs : Hp} {a : Addr} {vs : List V} {ds : List D} (h : SqT K Hs a vs) (hr : RepDs K mg r Hs vs ds) : WalksD K mg r (Itt K a) Hs ds := by
  refine ⟨_, _, by rw [← hr.length]; exact walk_tup (K := K) (a := a) (xs := vs), fun Hs2 H e1 e2 => sqt_mono e2 (sqt_mono e1 h), fun i Hs2 H tp x H' hi e w y => ?_⟩
  obtain ⟨rfl, y⟩ := y
  obtain ⟨d, h1, h2⟩ := hr.get y
  exact ⟨Hs2, d, Grow.refl _ _, w, h1, h2.mono e⟩
theorem walks_str {K : PySem.W.Frag} {mg : Str → Option Value} {r : Addr} {Hs : Hp} {z : Str} : WalksD K mg r (Its z) Hs (z.cps.toList.map fun c => .str ⟨#[c]⟩) := by
  refine ⟨_, _, by rw [List.length_map, Array.length_toList]; exact walk_str (z := z), fun Hs2 H e1 e2 => trivial, fun i Hs2 H tp x H' hi e w y => ?_⟩
  obtain ⟨rfl, c, y, rfl⟩ := y
  refine ⟨Hs2, .str ⟨#[c]⟩, Grow.refl _ _, w, ?_, .str _⟩
  rw [List.getElem?_map, Array.getElem?_toList, y]
  rfl
theorem gi_seq {tg : Expr} {m : SE D} (h : GE K mg r X O E e t m) (hK : X.K = K := by rfl) : GI K mg r X O E tg e (iSeq K t) (seqI m) := by
  subst hK
  refine ⟨pi_or (pi_list h.pe) (pi_or (pi_tup h.pe) (pi_str h.pe)), fun Hs0 H0 Hs H σ env tp Q R P => ?_⟩
  unfold seqI at P
  cases q : m env tp with
  | stuck => rw [q] at P; exact P.elim
  | exn c fs tp1 =>
    rw [q] at P
    refine .inl (h.snd _ _ _ _ _ _ _ _ R ?_)
    rw [q]; exact P
  | ok d tp1 =>
    rw [q] at P
    obtain ⟨items, hz, k⟩ := Post.ok_of (show Post X.K mg r (fun Hs _ J items => WalksD X.K mg r J Hs items) E Hs H (RE.of (seqD d) tp1) Q from P)
    cases d with
    | lst xs =>
      cases hz
      refine .inl (h.snd _ _ _ _ _ _ _ _ R ?_)
      rw [q]
      intro v Hs1 H1 g w rv
      cases rv with
      | lst h1 h2 => exact ⟨_, rfl, ⟨_, .of (w.sub _ _ h1).lst⟩, k _ Hs1 H1 g w (walks_list (.of h1) h2)⟩
    | scr ns =>
      cases hz
      refine .inl (h.snd _ _ _ _ _ _ _ _ R ?_)
      rw [q]
      intro v Hs1 H1 g w rv
      cases rv with
      | scr h1 => exact ⟨_, rfl, ⟨_, Same.seq w.sub h1⟩, k _ Hs1 H1 g w (walks_list h1 (RepDs.ints ns))⟩
    | tup xs =>
      cases hz
      refine .inr (.inl (h.snd _ _ _ _ _ _ _ _ R ?_))
      rw [q]
      intro v Hs1 H1 g w rv
      cases rv with
      | tup h1 h2 => exact ⟨_, rfl, ⟨_, .of (w.sub _ _ h1).tup⟩, k _ Hs1 H1 g w (walks_tup (.of h1) h2)⟩
    | str s =>
      cases hz
      refine .inr (.inr (h.snd _ _ _ _ _ _ _ _ R ?_))
      rw [q]
      intro v Hs1 H1 g w rv
      cases rv
      exact ⟨_, rfl, k _ Hs1 H1 g w walks_str⟩
    | _ => cases hz
/-- range -/
def cRg (i : Int) : Bool := decide (-(2 ^ 62) ≤ i) && decide (i < 2 ^ 62)
theorem cRg_ok {i : Int} (h : cRg i = true) : -(2 ^ 62) ≤ i ∧ i < 2 ^ 62 := by
  have h := Bool.and_eq_true_iff.mp h
  exact ⟨of_decide_eq_true h.1, of_decide_eq_true h.2⟩
def rangeL (lo hi : Int) : List D := (List.range (hi - lo).toNat).map fun (i : Nat) => .int (lo + i)
def range1D : List D → Option (List D)
  | [.int j] => if cRg j then some (rangeL 0 j) else none
  | _ => none
def range2D : List D → Option (List D)
  | [.int i, .int j] => if cRg i && cRg j then some (rangeL i j) else none
  | _ => none
def rangeI (f : List D → Option (List D)) (ms : SE (List D)) : SE (List D) := fun env tp => (ms env tp).bind fun ds tp1 => RE.of (f ds) tp1
theorem walks_range {K : PySem.W.Frag} {mg : Str → Option Value} {r : Addr} {Hs : Hp} {lo hi : Int} : WalksD K mg r (Itr lo (hi - lo).toNat) Hs (rangeL lo hi) := by
  have hl : (rangeL lo hi).length = (hi - lo).toNat := by unfold rangeL; rw [List.length_map, List.length_range]
  refine ⟨_, _, by rw [hl]; exact walk_range, fun Hs2 H e1 e2 => trivial, fun i Hs2 H tp x H' hi e w y => ?_⟩
  obtain ⟨rfl, rfl⟩ := y
  refine ⟨Hs2, .int (lo + i), Grow.refl _ _, w, ?_, .int _⟩
  rw [hl] at hi
  unfold rangeL
  rw [List.getElem?_map, List.getElem?_range hi]
  rfl
theorem gi_range1 {tg : Expr} {m : SE (List D)} {p : Pos} (hm : X.mg "range" = none) (h : GAO K mg r X O E [e] ts m) (hg : Gl X "range" := by rfl) (hs : starEach [e] X.env = [(false, eval e X.env)] := by rfl) : GI K mg r X O E tg (.Call (.Name "range" p) [e] [] pos) (iRng1 ts) (rangeI range1D m) := by
  refine ⟨pi_range1 hg hm h.pe hs, fun Hs0 H0 Hs H σ env tp Q R P => ?_⟩
  refine h.snd _ _ _ _ _ _ _ _ R (Post.bind P fun vs Hs1 H1 ds tp1 _ g w rv P1 => ?_)
  obtain ⟨items, hz, k⟩ := Post.ok_of P1
  unfold range1D at hz
  split at hz
  · split at hz
    · rename_i c
      cases hz
      obtain ⟨x, rfl, h1⟩ := paired1 rv
      have c := cRg_ok c
      refine ⟨_, by rw [repT_int h1], c.1, c.2, ?_⟩
      refine k _ Hs1 H1 (Grow.refl _ _) w ?_
      have q := fun j => walks_range (K := K) (mg := mg) (r := r) (Hs := Hs1) (lo := 0) (hi := j)
      simp only [Int.sub_zero] at q
      exact q _
    · cases hz
  · cases hz
theorem gi_range2 {tg e2 : Expr} {m : SE (List D)} {p : Pos} (hm : X.mg "range" = none) (h : GAO K mg r X O E [e, e2] ts m) (hg : Gl X "range" := by rfl) (hs : starEach [e, e2] X.env = [(false, eval e X.env), (false, eval e2 X.env)] := by rfl) (hs2 : starEach [e2] X.env = [(false, eval e2 X.env)] := by rfl) :
    GI K mg r X O E tg (.Call (.Name "range" p) [e, e2] [] pos) (iRng2 ts) (rangeI range2D m) := by
  refine ⟨pi_range2 hg hm h.pe hs hs2, fun Hs0 H0 Hs H σ env tp Q R P => ?_⟩
  refine h.snd _ _ _ _ _ _ _ _ R (Post.bind P fun vs Hs1 H1 ds tp1 _ g w rv P1 => ?_)
  obtain ⟨items, hz, k⟩ := Post.ok_of P1
  unfold range2D at hz
  split at hz
  · split at hz
    · rename_i c
      cases hz
      obtain ⟨x, x', rfl, h1, h2⟩ := paired2 rv
      have c := Bool.and_eq_true_iff.mp c
      have c1 := cRg_ok c.1
      have c2 := cRg_ok c.2
      exact ⟨_, _, by rw [repT_int h1, repT_int h2], ⟨c1.1, c1.2, c2.1, c2.2⟩, k _ Hs1 H1 (Grow.refl _ _) w walks_range⟩
    · cases hz
  · cases hz
def forL (tgt : D → Option (List D)) (is : List Nat) (body : SS) : List D → SS
  | [], env, tp => .nx env tp
  | d :: ds, env, tp => match tgt d with
    | some es => (match body (setAll env is es) tp with
      | .nx e t => forL tgt is body ds e t
      | .ct e t => forL tgt is body ds e t
      | .bk e t => .nx e t
      | x => x)
    | none => .stuck
def forS (mi : SE (List D)) (tgt : D → Option (List D)) (is : List Nat) (body : SS) : SS := fun env tp => (mi env tp).bindS fun items tp1 => forL tgt is body items env tp1
theorem gs_for {tg : Expr} {mi : SE (List D)} {wi : TI} {g : TG} {is : List Nat} {tgt : D → Option (List D)} {body : SS} (hp : PassesOwn (model X.prog X.w) X.A X.env X.xe) (hc : X.calm = true) (hi : GI K mg r X O E tg e wi mi) (hg : GG K mg r X tg g is tgt) (hb : GSs K mg r X E O O O ss u body) (hO : ∀ i ∈ is, i ∉ O)
    (hlen : ∀ d ds, tgt d = some ds → ds.length = is.length) (hs : ∀ x, foldedSetIterable e X.env x = pure x := by intro _; rfl) : GS K mg r X E O O Ol (.For tg e ss [] pos) (tFor wi g u) (forS mi tgt is body) := by
  refine ⟨ps_for hp hc hi.pe hg.pe hb.pe hs, fun Hs0 H0 Hs H σ env tp D R P => ?_⟩
  refine hi.snd _ _ _ _ _ _ _ _ R (PostS.bind R P fun J Hs1 H1 items tp1 _ gg w R1 wd P1 => ?_)
  obtain ⟨Gd, Y, wk, hG, hY⟩ := wd
  refine for_it wk (fun i σ H => ∃ Hs env tp, Rel K mg r O Hs0 H0 Hs H σ env tp ∧ Same Hs1 Hs ∧ PostS K mg r E O Ol Hs0 H0 Hs (forL tgt is body (items.drop i) env tp) D) ⟨Hs1, env, tp1, R1, Same.refl _, P1⟩ (fun i σ H _ ⟨Hs2, _, _, R2, e2, _⟩ => hG Hs2 H e2 R2.wd.sub) (fun i x σ H H' hi ⟨Hs2, env2, tp2, R2, e2, P2⟩ y => ?_) (fun σ H ⟨Hs2, env2, tp2, R2, e2, P2⟩ => ?_)
  · obtain ⟨Hs3, d, g3, w3, hd, rd⟩ := hY i Hs2 H tp2 x H' hi e2 R2.wd y
    rw [List.drop_eq_getElem_cons hi] at P2
    have hd' : items[i] = d := by rw [List.getElem?_eq_getElem hi] at hd; exact Option.some.inj hd
    rw [hd'] at P2
    unfold forL at P2
    cases q : tgt d with
    | none => rw [q] at P2; exact P2.elim
    | some es =>
      rw [q] at P2
      simp only at P2
      refine hg.snd x d es Hs3 H' tp2 σ _ w3 rd q fun vs rs hl => ?_
      have R3 := rel_setAll is _ _ _ _ (R2.grow g3 w3) hO rs hl
      refine hb.snd _ _ _ _ _ _ _ _ R3 ?_
      have P2 := P2.shift g3.ex
      have e3 := e2.trans g3.ex
      have again : ∀ {e t}, PostS K mg r E O Ol Hs0 H0 Hs3 (forL tgt is body (items.drop (i + 1)) e t) D → ∀ σ' Hs' H', Same Hs3 Hs' → Rel K mg r O Hs0 H0 Hs' H' σ' e t → ∃ Hs env tp, Rel K mg r O Hs0 H0 Hs H' σ' env tp ∧ Same Hs1 Hs ∧ PostS K mg r E O Ol Hs0 H0 Hs (forL tgt is body (items.drop (i + 1)) env tp) D := fun P σ' Hs' H' e4 R' => ⟨Hs', _, _, R', e3.trans e4, P.shift e4⟩
      cases q2 : body (setAll env2 is es) tp2 with
      | nx e t => rw [q2] at P2; exact again P2
      | ct e t => rw [q2] at P2; exact again P2
      | bk e t => rw [q2] at P2; exact P2
      | rt d t => rw [q2] at P2; exact P2
      | exn c fs t => rw [q2] at P2; exact P2
      | stuck => rw [q2] at P2; exact P2
  · rw [List.drop_length] at P2
    exact P2 _ _ _ (Same.refl _) R2
end
end G
set_option maxHeartbeats 1000000
namespace G
open PySem PySem.Spec PyProof.Rows L2
section
variable {K : PySem.W.Frag} {mg : Str → Option Value} {r : Addr} {X : Cx} {E : XK} {O O1 On Ol : List Nat} {e a b : Expr} {es : List Expr} {pos : Pos} {t ta tb : TE} {tt : TT} {ts : TA} {s1 : Stmt} {ss : List Stmt} {u u1 u2 : TS}
def whileF (c : SE Bool) (body : SS) : Nat → SS
  | 0, _, _ => .stuck
  | n + 1, env, tp => (c env tp).bindS fun b tp1 => if b = true then (match body env tp1 with
      | .nx e t => whileF c body n e t
      | .ct e t => whileF c body n e t
      | .bk e t => .nx e t
      | x => x)
    else .nx env tp1
def whileS (n : Nat) (c : SE Bool) (body : SS) : SS := whileF c body n
theorem gs_while (n : Nat) {mc : SE Bool} {body : SS} (hp : PassesOwn (model X.prog X.w) X.A X.env X.xe) (hc : GT K mg r X O E e tt mc) (hb : GSs K mg r X E O O O ss u body) : GS K mg r X E O O Ol (.While e ss [] pos) (tWhile tt u) (whileS n mc body) := by
  refine ⟨ps_while hp hc.pe hb.pe, fun Hs0 H0 Hs H σ env tp D R P => ?_⟩
  refine ⟨fun m σ H => ∃ Hs env tp, Rel K mg r O Hs0 H0 Hs H σ env tp ∧ PostS K mg r E O Ol Hs0 H0 Hs (whileF mc body m env tp) D, ⟨n, Hs, env, tp, R, P⟩, ?_⟩
  rintro m σ1 H1 ⟨Hs1, env1, tp1, R1, P1⟩
  cases m with
  | zero => exact P1.elim
  | succ m =>
    unfold whileF at P1
    refine hc.snd _ _ _ _ _ _ _ _ R1 (PostS.bind R1 P1 fun v Hs2 H2 d tp2 _ g w R2 rv P2 => ?_)
    subst rv
    cases v with
    | false => exact iteF (P2 _ _ _ (Same.refl _) R2)
    | true =>
      refine iteT ⟨fun σ H => ∃ Hs env tp, Rel K mg r O Hs0 H0 Hs H σ env tp ∧ PostS K mg r E O Ol Hs0 H0 Hs (whileF mc body m env tp) D, fun σ' H' q => ⟨m, Nat.lt_succ_self m, q⟩, ?_⟩
      rw [if_pos rfl] at P2
      refine hb.snd _ _ _ _ _ _ _ _ R2 ?_
      have again : ∀ {e t}, PostS K mg r E O Ol Hs0 H0 Hs2 (whileF mc body m e t) D → ∀ σ' Hs' H', Same Hs2 Hs' → Rel K mg r O Hs0 H0 Hs' H' σ' e t → ∃ Hs env tp, Rel K mg r O Hs0 H0 Hs H' σ' env tp ∧ PostS K mg r E O Ol Hs0 H0 Hs (whileF mc body m env tp) D := fun P σ' Hs' H' e4 R' => ⟨Hs', _, _, R', P.shift e4⟩
      cases q2 : body env1 tp2 with
      | nx e t => rw [q2] at P2; exact again P2
      | ct e t => rw [q2] at P2; exact again P2
      | bk e t => rw [q2] at P2; exact P2
      | rt d t => rw [q2] at P2; exact P2
      | exn c fs t => rw [q2] at P2; exact P2
      | stuck => rw [q2] at P2; exact P2
def wipeE {α : Type} (σ : List (Option α)) : List Nat → List (Option α)
  | [] => σ
  | v :: vs => (wipeE σ vs).set v none
theorem wipe_eq (σ : L2.St) : ∀ vs : List Nat, wipe σ vs = wipeE σ vs
  | [] => rfl
  | v :: vs => by unfold wipe wipeE; rw [wipe_eq σ vs]
theorem Rel.unset {Hs0 H0 Hs H : Hp} {σ : L2.St} {env : DEnv} {tp : List D} (R : Rel K mg r O Hs0 H0 Hs H σ env tp) (i : Nat) (hi : i ∉ O) : Rel K mg r O Hs0 H0 Hs H (σ.set i none) (env.set i none) tp where
  wd := R.wd
  gr := R.gr
  len := by rw [List.length_set, List.length_set]; exact R.len
  vars := fun j d a n => by
    have ne : j ≠ i := fun q => by
      subst q
      rw [List.getElem?_set] at a
      simp only [if_true] at a
      split at a <;> cases a
    rw [set_gne ne] at a ⊢
    exact R.vars j d a n
  own := fun j hj => by
    have ne : j ≠ i := fun q => hi (q ▸ hj)
    rw [set_gne ne, set_gne ne]
    exact R.own j hj
  dis := fun j l p hj hl a b => by
    rw [set_gne (by rintro rfl; exact hi hj)] at a
    rw [set_gne (by rintro rfl; exact hi hl)] at b
    exact R.dis j l p hj hl a b
theorem Rel.wiped {Hs0 H0 Hs H : Hp} {σ : L2.St} {env : DEnv} {tp : List D} (R : Rel K mg r O Hs0 H0 Hs H σ env tp) : ∀ vs : List Nat, (∀ i ∈ vs, i ∉ O) → Rel K mg r O Hs0 H0 Hs H (wipeE σ vs) (wipeE env vs) tp
  | [], _ => R
  | v :: vs, h => (Rel.wiped R vs fun i hi => h i (List.mem_cons_of_mem _ hi)).unset v (h v List.mem_cons_self)
theorem wipe_get {α : Type} {σ : List (Option α)} {i : Nat} : ∀ {vs : List Nat}, i ∉ vs → (wipeE σ vs)[i]? = σ[i]?
  | [], _ => rfl
  | v :: vs, h => by
    unfold wipeE
    rw [set_gne (by rintro rfl; exact h List.mem_cons_self), wipe_get fun q => h (List.mem_cons_of_mem _ q)]
theorem wipe_len {α : Type} {σ : List (Option α)} : ∀ {vs : List Nat}, (wipeE σ vs).length = σ.length
  | [] => rfl
  | v :: vs => by unfold wipeE; rw [List.length_set, wipe_len]
theorem wipe_none {α : Type} {σ : List (Option α)} {i : Nat} : ∀ {vs : List Nat}, i ∈ vs → (wipeE σ vs)[i]? = some none ∨ (wipeE σ vs)[i]? = none
  | v :: vs, h => by
    unfold wipeE
    by_cases q : i = v
    · subst q
      rw [List.getElem?_set]
      simp only [if_true]
      split
      · exact .inl rfl
      · exact .inr rfl
    · rw [set_gne q]
      rcases List.mem_cons.mp h with z | z
      · exact absurd z q
      · exact wipe_none z
theorem wipe_set {α : Type} {σ : List (Option α)} {i : Nat} {v : Option α} {vs : List Nat} (h : i ∈ vs) : wipeE (σ.set i v) vs = wipeE σ vs := by
  apply List.ext_getElem?
  intro j
  by_cases hj : j ∈ vs
  · have l1 : (wipeE (σ.set i v) vs).length = (wipeE σ vs).length := by rw [wipe_len, wipe_len, List.length_set]
    rcases Nat.lt_or_ge j (wipeE σ vs).length with q | q
    · rcases wipe_none (σ := σ.set i v) hj with a | a
      · rcases wipe_none (σ := σ) hj with b | b
        · rw [a, b]
        · rw [List.getElem?_eq_none_iff] at b; omega
      · rw [List.getElem?_eq_none_iff] at a; omega
    · rw [List.getElem?_eq_none q, List.getElem?_eq_none (by omega)]
  · rw [wipe_get hj, wipe_get hj, set_gne (by rintro rfl; exact hj h)]
theorem wipe_wipe {α : Type} {σ : List (Option α)} {vs : List Nat} : ∀ ws : List Nat, (∀ i ∈ ws, i ∈ vs) → wipeE (wipeE σ ws) vs = wipeE σ vs
  | [], _ => rfl
  | w :: ws, h => by
    show wipeE ((wipeE σ ws).set w none) vs = _
    rw [wipe_set (h w List.mem_cons_self), wipe_wipe ws fun i hi => h i (List.mem_cons_of_mem _ hi)]
theorem wipe_setAll {α : Type} {vs : List Nat} : ∀ (is : List Nat) (σ : List (Option α)) (ws : List α), (∀ i ∈ is, i ∈ vs) → wipeE (setAll σ is ws) vs = wipeE σ vs
  | [], σ, ws, _ => by unfold setAll; rfl
  | i :: is, σ, [], _ => by unfold setAll; rfl
  | i :: is, σ, w :: ws, h => by
    show wipeE (setAll (σ.set i (some w)) is ws) vs = _
    rw [wipe_setAll is _ ws fun j hj => h j (List.mem_cons_of_mem _ hj), wipe_set (h i List.mem_cons_self)]
/-- the items that a comprehension makes -/
def compL (f : D → List D → RE (Option D)) : List D → List D → RE (List D)
  | [], tp => .ok [] tp
  | d :: ds, tp => match f d tp with
    | .ok o tp1 => (match compL f ds tp1 with
      | .ok xs tp2 => .ok (o.toList ++ xs) tp2
      | _ => .stuck)
    | _ => .stuck
def yesT : SE Bool := fun _ tp => .ok true tp
def compTurn1 (tgt : D → Option (List D)) (is : List Nat) (c : SE Bool) (m : SE D) (env : DEnv) (d : D) (tp : List D) : RE (Option D) := match tgt d with
  | some ds => (c (setAll env is ds) tp).bind fun b tp1 => if b = true then (m (setAll env is ds) tp1).bind fun x tp2 => .ok (some x) tp2 else .ok none tp1
  | none => .stuck
def compE (mi : SE (List D)) (vs : List Nat) (tgt : D → Option (List D)) (is : List Nat) (c : SE Bool) (m : SE D) : SE D := fun env tp => (mi env tp).bind fun items tp1 =>
  if items.length ≤ sizeLine then (match compL (compTurn1 tgt is c m (wipeE env vs)) items tp1 with
    | .ok xs tp2 => .ok (.lst xs) tp2
    | _ => .stuck) else .stuck
/-- a clause's tests -/
structure GTs (K : PySem.W.Frag) (mg : Str → Option Value) (r : Addr) (X : Cx) (O : List Nat) (E : XK) (es : List Expr) (t : TT) (m : SE Bool) : Prop where
  pe : PTs X es t
  snd : ∀ Hs0 H0 Hs H σ env tp Q, Rel K mg r O Hs0 H0 Hs H σ env tp → PostB K mg r E Hs H (m env tp) Q → t σ H Q
theorem gts_nil : GTs K mg r X O E [] tYes yesT := ⟨pts_nil, fun Hs0 H0 Hs H σ env tp Q R P => P true Hs H (Grow.refl _ _) R.wd rfl⟩
theorem gts_one {m : SE Bool} (h : GT K mg r X O E e tt m) : GTs K mg r X O E [e] tt m := ⟨pts_one h.pe, h.snd⟩
theorem compL_cons {f : D → List D → RE (Option D)} {d : D} {ds : List D} {tp tpE : List D} {xs : List D} (h : compL f (d :: ds) tp = .ok xs tpE) : ∃ o tp1 xs', f d tp = .ok o tp1 ∧ compL f ds tp1 = .ok xs' tpE ∧ xs = o.toList ++ xs' := by
  unfold compL at h
  cases q : f d tp with
  | ok o tp1 =>
    rw [q] at h
    simp only at h
    cases q2 : compL f ds tp1 with
    | ok xs' tp2 =>
      rw [q2] at h
      simp only [RE.ok.injEq] at h
      exact ⟨o, tp1, xs', rfl, by rw [q2, h.2], h.1.symm⟩
    | _ => rw [q2] at h; cases h
  | _ => rw [q] at h; cases h
theorem Rel.other {Hs0 H0 Hs H : Hp} {σ : L2.St} {env : DEnv} {tp : List D} {p : Addr} {o : HO} (R : Rel K mg r O Hs0 H0 Hs H σ env tp) (hs : Hs p = none) (h0 : H0 p = none) (ne : p ≠ r) (hO : ∀ j ∈ O, σ[j]? ≠ some (some (.ref p))) (nt : ∀ xs, H p ≠ some (.tup xs) := by (intro xs z; first | (rw [upd_same] at z; cases z; done) | (exfalso; simp [*] at z; done))) : Rel K mg r O Hs0 H0 Hs (upd H p o) σ env tp := by
  refine ⟨R.wd.write hs ne nt, ⟨fun b u q n hs => ?_, fun b e => R.gr.free b (upd_free e), R.gr.ex, R.gr.new, fun b xs e => by rw [upd_ne (ne_of_none e h0)]; exact R.gr.tup b xs e⟩, R.len, R.vars, fun j hj => ?_, R.dis⟩
  · rw [upd_ne (ne_of_none q h0)]; exact R.gr.keep b u q n hs
  · obtain ⟨d', p', b1, b2, c, c0, n, oa⟩ := R.own j hj
    have np : p' ≠ p := fun z => hO j hj (z ▸ b2)
    exact ⟨d', p', b1, b2, c, c0, n, oa.grow (Same.refl _) fun u z => by rw [upd_ne np]; exact z⟩
theorem Grow.other {Hs H Hs' H' : Hp} {p : Addr} {o : HO} (g : Grow r Hs H Hs' H') (h : H p = none) : Grow r Hs H Hs' (upd H' p o) :=
  ⟨fun b u q n hs => by rw [upd_ne (ne_of_none q h)]; exact g.keep b u q n hs, fun b e => g.free b (upd_free e), g.ex, g.new, fun b xs e => by rw [upd_ne (ne_of_none e h)]; exact g.tup b xs e⟩
theorem comp_sound {wi : TI} {g : TG} {te : TE} {is vs : List Nat} {tgt : D → Option (List D)} {mi : SE (List D)} {c : SE Bool} {m : SE D}
    (hi : ∀ Hs0 H0 Hs H σ env tp Q, Rel K mg r O Hs0 H0 Hs H σ env tp → Post K mg r (fun Hs _ J items => WalksD K mg r J Hs items) E Hs H (mi env tp) Q → wi σ H Q)
    (hg : ∀ v d ds Hs H tp σ (Q : L2.St → Hp → Prop), Wd K mg r Hs H tp → RepD K mg r Hs v d → tgt d = some ds → (∀ vs, RepDs K mg r Hs vs ds → vs.length = is.length → Q (setAll σ is vs) H) → g v σ H Q)
    (ht : ∀ Hs0 H0 Hs H σ env tp Q, Rel K mg r O Hs0 H0 Hs H σ env tp → PostB K mg r E0 Hs H (c env tp) Q → tt σ H Q)
    (he : ∀ Hs0 H0 Hs H σ env tp Q, Rel K mg r O Hs0 H0 Hs H σ env tp → PostE K mg r E0 Hs H (m env tp) Q → te σ H Q)
    (hvs : ∀ i ∈ vs, i ∉ O) (his : ∀ i ∈ is, i ∈ vs) :
    ∀ Hs0 H0 Hs H σ env tp Q, Rel K mg r O Hs0 H0 Hs H σ env tp → Post K mg r (Fresh K mg r H) E Hs H (compE mi vs tgt is c m env tp) Q → tLc wi g tt te vs σ H Q := by
  intro Hs0 H0 Hs H σ env tp Q R P
  refine hi _ _ _ _ _ _ _ _ R ?_
  unfold compE at P
  cases q : mi env tp with
  | stuck => rw [q] at P; exact P.elim
  | exn cc fs tp1 => rw [q] at P; exact P
  | ok items tp1 =>
    rw [q] at P
    intro J Hs1 H1 g1 w1 wd Dl hD
    simp only [RE.bind_ok] at P
    by_cases hz : items.length ≤ sizeLine
    case neg => rw [if_neg hz] at P; exact P.elim
    rw [if_pos hz] at P
    cases q2 : compL (compTurn1 tgt is c m (wipeE env vs)) items tp1 with
    | stuck => rw [q2] at P; exact P.elim
    | exn cc fs tp2 => rw [q2] at P; exact P.elim
    | ok all tpE =>
      rw [q2] at P
      have P : ∀ v Hs' H', Grow r Hs H Hs' H' → Wd K mg r Hs' H' tpE → Fresh K mg r H Hs' H' v (.lst all) → Q v H' := P
      obtain ⟨Gd, Y, wk, hG, hY⟩ := wd
      have R1 := R.grow g1 w1
      obtain ⟨fD, neD⟩ := w1.fresh hD
      have h0D : H Dl = none := g1.free Dl hD
      have Rw := R1.wiped vs hvs
      obtain ⟨gl, wl⟩ := w1.lay (o := .lst []) hD
      obtain ⟨n1, n2⟩ := R.new_ne h0D neD
      have n3 : ∀ j ∈ O, (wipeE σ vs)[j]? ≠ some (some (.ref Dl)) := fun j hj z => n2 j hj (by rw [← z, wipe_get fun q => hvs j q hj])
      have hisO : ∀ i ∈ is, i ∉ O := fun i hi => hvs i (his i hi)
      refine lc_it wk (Qd := fun H' => Q (.ref Dl) H') (fun i H' => ∃ Hs2 vsL dsL tp xs, Rel K mg r O Hs0 H0 Hs2 H' (wipeE σ vs) (wipeE env vs) tp ∧ Same Hs1 Hs2 ∧ Grow r Hs H Hs2 H' ∧ Hs2 Dl = none ∧ H' Dl = some (.lst vsL) ∧ RepDs K mg r Hs2 vsL dsL ∧ dsL.length ≤ i ∧
        compL (compTurn1 tgt is c m (wipeE env vs)) (items.drop i) tp = .ok xs tpE ∧ dsL ++ xs = all) ⟨Hs1, [], [], tp1, all, Rw.grow gl wl, Same.refl _, g1.trans gl, fD, upd_same, .nil, Nat.le_refl _, q2, rfl⟩ ?_ ?_ ?_
      · rintro i H' _ ⟨Hs2, vsL, dsL, tp2, xs, R2, e2, _⟩
        exact hG Hs2 H' e2 R2.wd.sub
      · rintro i x H2 H3 hi2 ⟨Hs2, vsL, dsL, tp2, xs, R2, e2, g2, f2, hD2, rs2, hl2, hc2, ha2⟩ y
        obtain ⟨Hs3, d, g3, w3, hd, rd⟩ := hY i Hs2 H2 tp2 x H3 hi2 e2 R2.wd y
        rw [List.drop_eq_getElem_cons hi2] at hc2
        have hd' : items[i] = d := by rw [List.getElem?_eq_getElem hi2] at hd; exact Option.some.inj hd
        rw [hd'] at hc2
        obtain ⟨o, tp3, xs', hf, hrest, hxs⟩ := compL_cons hc2
        unfold compTurn1 at hf
        cases qt : tgt d with
        | none => rw [qt] at hf; cases hf
        | some es =>
          rw [qt] at hf
          simp only at hf
          rw [wipe_eq]
          refine hg x d es Hs3 H3 tp2 _ _ w3 rd qt fun ws rs hl => ⟨by rw [wipe_eq, wipe_setAll is _ _ his, wipe_wipe vs fun _ h => h], ?_⟩
          have R3 := rel_setAll is _ _ _ _ (R2.grow g3 w3) hisO rs hl
          have f3 := g3.no f2 hD2 neD
          have hD3 := g3.keep Dl _ hD2 neD f2
          refine ht _ _ _ _ _ _ _ _ R3 ?_
          cases qb : c (setAll (wipeE env vs) is es) tp2 with
          | stuck => rw [qb] at hf; cases hf
          | exn cc fs tp4 => rw [qb] at hf; cases hf
          | ok b tpb =>
            rw [qb] at hf
            simp only [RE.bind_ok] at hf
            intro v Hs4 H4 g4 w4 ev
            subst ev
            have f4 := g4.no f3 hD3 neD
            have hD4 := g4.keep Dl _ hD3 neD f3
            cases v with
            | false =>
              rw [if_neg Bool.false_ne_true] at hf
              simp only [RE.ok.injEq] at hf
              obtain ⟨ho, htp⟩ := hf
              subst ho htp
              refine iteF ⟨Hs4, vsL, dsL, tpb, xs', R2.grow (g3.trans g4) w4, e2.trans (g3.ex.trans g4.ex), g2.trans (g3.trans g4), f4, hD4, rs2.mono (g3.ex.trans g4.ex), by omega, hrest, ?_⟩
              rw [← ha2, hxs]; rfl
            | true =>
              rw [if_pos rfl] at hf
              refine iteT (he _ _ _ _ _ _ _ _ (R3.grow g4 w4) ?_)
              cases qm : m (setAll (wipeE env vs) is es) tpb with
              | stuck => rw [qm] at hf; cases hf
              | exn cc fs tp4 => rw [qm] at hf; cases hf
              | ok z tpz =>
                rw [qm] at hf
                simp only [RE.bind_ok, RE.ok.injEq] at hf
                obtain ⟨ho, htp⟩ := hf
                subst ho htp
                intro y5 Hs5 H5 g5 w5 ry
                have f5 := g5.no f4 hD4 neD
                have hD5 := g5.keep Dl _ hD4 neD f4
                have e5 := g3.ex.trans (g4.ex.trans g5.ex)
                refine ⟨vsL, hD5, by rw [rs2.length]; omega, Hs5, vsL ++ [y5], dsL ++ [z], tpz, xs', ?_, e2.trans e5, ?_, f5, upd_same, (rs2.mono e5).append (.cons ry .nil), by rw [List.length_append, List.length_singleton]; omega, hrest, ?_⟩
                · exact (R2.grow (g3.trans (g4.trans g5)) w5).other f5 n1 neD n3 (fun xs z => by rw [hD5] at z; cases z)
                · exact (g2.trans (g3.trans (g4.trans g5))).other h0D
                · rw [← ha2, hxs, List.append_assoc]; rfl
      · rintro H2 ⟨Hs2, vsL, dsL, tp2, xs, R2, e2, g2, f2, hD2, rs2, hl2, hc2, ha2⟩
        rw [List.drop_length] at hc2
        unfold compL at hc2
        simp only [RE.ok.injEq] at hc2
        obtain ⟨hx, htp⟩ := hc2
        subst hx htp
        rw [List.append_nil] at ha2
        subst ha2
        exact P _ Hs2 H2 g2 R2.wd ⟨Dl, rfl, h0D, f2, neD, vsL, hD2, rs2⟩
/-- a list comprehension (one clause) -/
theorem gf_lc {elt tg iter : Expr} {ifs : List Expr} {scope : Scope} {own : List (Str × Nat)} {wi : TI} {g : TG} {te : TE} {is : List Nat} {tgt : D → Option (List D)} {mi : SE (List D)} {c : SE Bool} {m : SE D} (hc : X.calm = true) (hN : X.N.Nodup) (hi : GI K mg r X O E tg iter wi mi) (ok : BlkOk X.N X.env.scope scope own)
    (hg : ∀ (s : Shared) (H : Hp) (C : Addr) (cl : List (Str × Addr)) (fp : List Addr), GG K mg r (X.blk s H scope (compEnvC scope cl C X.env) fp) tg g is tgt)
    (ht : ∀ (s : Shared) (H : Hp) (C : Addr) (cl : List (Str × Addr)) (fp : List Addr), GTs K mg r (X.blk s H scope (compEnvC scope cl C X.env) fp) O E0 ifs tt c)
    (he : ∀ (s : Shared) (H : Hp) (C : Addr) (cl : List (Str × Addr)) (fp : List Addr), GE K mg r (X.blk s H scope (compEnvC scope cl C X.env) fp) O E0 elt te m)
    (hvs : ∀ i ∈ own.map (·.2), i ∉ O) (his : ∀ i ∈ is, i ∈ own.map (·.2)) (hs : ∀ x, foldedSetIterable iter X.env x = pure x := by intro _; rfl) :
    GF K mg r X O E (.ListComp elt [⟨tg, iter, ifs, 0⟩] scope pos) (tLc wi g tt te (own.map (·.2))) (compE mi (own.map (·.2)) tgt is c m) :=
  ⟨pe_lc hc hN hi.pe ok (fun s H C cl fp => (hg s H C cl fp).pe) (fun s H C cl fp => (ht s H C cl fp).pe) (fun s H C cl fp => (he s H C cl fp).pe) hs,
    comp_sound hi.snd (hg X.s_0 X.H_0 0 [] []).snd (ht X.s_0 X.H_0 0 [] []).snd (he X.s_0 X.H_0 0 [] []).snd hvs his⟩
/-- name = [..] on one line, the name a local -/
theorem lc_stmt {i : Nat} {y : Str} {py : Pos} {elt tg iter : Expr} {ifs : List Expr} {scope : Scope} {own : List (Str × Nat)} {pos spos : Pos} {wi : TI} {g : TG} {te : TE} {is : List Nat} {tgt : D → Option (List D)} {mi : SE (List D)} {c : SE Bool} {m : SE D} (hc : X.calm = true) (hN : X.N.Nodup) (hi : GI K mg r X O E tg iter wi mi) (ok : BlkOk X.N X.env.scope scope own)
    (hg : ∀ (s : Shared) (H : Hp) (C : Addr) (cl : List (Str × Addr)) (fp : List Addr), GG K mg r (X.blk s H scope (compEnvC scope cl C X.env) fp) tg g is tgt)
    (ht : ∀ (s : Shared) (H : Hp) (C : Addr) (cl : List (Str × Addr)) (fp : List Addr), GTs K mg r (X.blk s H scope (compEnvC scope cl C X.env) fp) O E0 ifs tt c)
    (he : ∀ (s : Shared) (H : Hp) (C : Addr) (cl : List (Str × Addr)) (fp : List Addr), GE K mg r (X.blk s H scope (compEnvC scope cl C X.env) fp) O E0 elt te m)
    (hvs : ∀ i ∈ own.map (·.2), i ∉ O) (his : ∀ i ∈ is, i ∈ own.map (·.2)) (hy : X.N[i]? = some y := by rfl) (hyl : X.env.scope.names.lookup y = some .local := by rfl)
    (hsw : swapsWith (.ListComp elt [⟨tg, iter, ifs, 0⟩] scope pos) (some (.Name y py)) spos.line X.env = pure true := by exact sw_true rfl rfl rfl (by decide +kernel)) (hs : ∀ x, foldedSetIterable iter X.env x = pure x := by intro _; rfl) :
    PS X (.Assign [.Name y py] (.ListComp elt [⟨tg, iter, ifs, 0⟩] scope pos) spos) (tAsg (tLc wi g tt te (own.map (·.2))) (gName i)) ∧
    ∀ Hs0 H0 Hs H σ env tp Q, Rel K mg r O Hs0 H0 Hs H σ env tp → Post K mg r (Fresh K mg r H) E Hs H (compE mi (own.map (·.2)) tgt is c m env tp) Q → tLc wi g tt te (own.map (·.2)) σ H Q :=
  ⟨ps_setLc hc hN hy hyl hsw hi.pe ok (fun s H C cl fp => (hg s H C cl fp).pe) (fun s H C cl fp => (ht s H C cl fp).pe) (fun s H C cl fp => (he s H C cl fp).pe) hs,
    comp_sound hi.snd (hg X.s_0 X.H_0 0 [] []).snd (ht X.s_0 X.H_0 0 [] []).snd (he X.s_0 X.H_0 0 [] []).snd hvs his⟩
theorem ge_of_gf {m : SE D} (h : ∀ Hs0 H0 Hs H σ env tp Q, Rel K mg r O Hs0 H0 Hs H σ env tp → Post K mg r (Fresh K mg r H) E Hs H (m env tp) Q → t σ H Q) : ∀ Hs0 H0 Hs H σ env tp Q, Rel K mg r O Hs0 H0 Hs H σ env tp → PostE K mg r E Hs H (m env tp) Q → t σ H Q := by
  intro Hs0 H0 Hs H σ env tp Q R P
  refine h _ _ _ _ _ _ _ _ R ?_
  unfold PostE at P
  cases q : m env tp with
  | ok d tp' =>
    rw [q] at P
    intro v Hs' H' g w x
    obtain ⟨Hs2, e, w2, rv, nw⟩ := freeze_fresh w x
    refine P v Hs2 H' ⟨g.keep, g.free, g.ex.trans e, fun b o n z => ?_, g.tup⟩ w2 rv
    rcases nw b o z with ⟨u, z⟩ | z
    · exact g.new b u n z
    · exact .inr (.inl z)
  | exn c fs tp' => rw [q] at P; exact P
  | stuck => rw [q] at P; exact P
theorem gs_setLc {i : Nat} {st : Stmt} {m : SE D} (h : PS X st (tAsg t (gName i)) ∧ ∀ Hs0 H0 Hs H σ env tp Q, Rel K mg r O Hs0 H0 Hs H σ env tp → Post K mg r (Fresh K mg r H) E Hs H (m env tp) Q → t σ H Q) : GS K mg r X E O (O.filter (· != i)) Ol st (tAsg t (gName i)) (setS i m) :=
  ⟨h.1, setS_sound i (ge_of_gf h.2)⟩
def spOf (K : PySem.W.Frag) (mg : Str → Option Value) (r : Addr) (n : Nat) (m : List D → List D → RE D) : Sp := fun vs H Q E => ∃ Hs ds tp, vs.length = n ∧ Wd K mg r Hs H tp ∧ RepDs K mg r Hs vs ds ∧ PostE K mg r E Hs H (m ds tp) Q
structure DefOk (P : Program) (w : World) (K : PySem.W.Frag) (mg : Str → Option Value) (base : Heap) (CX : CXT) (r : Addr) (x : Str) (k n : Nat) (m : List D → List D → RE D) : Prop where
  ex : ∃ f fd ps, FnOk P w K mg base CX k f fd ps (spOf K mg r n m) ∧ mg x = some (.ref f) ∧ PySem.W.keepIn K (.ref f) = true ∧ Binds K fd ps []
def callE (n : Nat) (m : List D → List D → RE D) (ms : SE (List D)) : SE D := fun env tp => (ms env tp).bind fun ds tp1 => if ds.length = n then m ds tp1 else .stuck
theorem call_sound {n : Nat} {m : List D → List D → RE D} {ms : SE (List D)} (h : ∀ Hs0 H0 Hs H σ env tp Q, Rel K mg r O Hs0 H0 Hs H σ env tp → PostA K mg r E Hs H (ms env tp) Q → ts σ H Q) :
    ∀ Hs0 H0 Hs H σ env tp Q, Rel K mg r O Hs0 H0 Hs H σ env tp → PostE K mg r E Hs H (callE n m ms env tp) Q → tCall (spOf K mg r n m) [] E ts σ H Q := by
  intro Hs0 H0 Hs H σ env tp Q R P
  refine h _ _ _ _ _ _ _ _ R (Post.bind P fun vs Hs1 H1 ds tp1 _ g w rs P1 => ?_)
  split at P1
  · rename_i hl
    exact ⟨Hs1, ds, tp1, by rw [List.append_nil, rs.length]; exact hl, w, by rw [List.append_nil]; exact rs, P1⟩
  · exact P1.elim
theorem ge_call {CX : CXT} {x : Str} {k n : Nat} {m : List D → List D → RE D} {ms : SE (List D)} {p : Pos} (dk : DefOk X.prog X.w X.K X.mg X.base CX r x k n m) (hr : Room k X.A) (hx : Passes CX X E) (ha : GA K mg r X O E (e :: es) ts ms) (hK : X.K = K := by rfl) (hmg : X.mg = mg := by rfl) (hg : Gl X x := by rfl)
    (hdb : (x == ("__debug__" : Str)) = false := by decide) (he : starEach (e :: es) X.env = (false, eval e X.env) :: starEach es X.env := by rfl) (hpl : (backTo pos (starEach es X.env)).any (·.1) = false := by rfl) :
    GE K mg r X O E (.Call (.Name x p) (e :: es) [] pos) (tCall (spOf K mg r n m) [] E ts) (callE n m ms) := by
  subst hK hmg
  obtain ⟨f, fd, ps, F, hm, hk, hb⟩ := dk.ex
  exact ⟨pe_call F hr hg hm hk hb .nil hx ha.pe hdb he hpl, call_sound ha.snd⟩
/-- a body's result as a def's -/
def retR : RS → RE D
  | .rt d tp => .ok d tp
  | .nx _ tp => .ok .non tp
  | _ => .stuck
def defD (N : Nat) (body : SS) : List D → List D → RE D := fun ds tp => retR (body (ds.map some ++ List.replicate (N - ds.length) none) tp)
theorem rel_start {Hs H : Hp} {tp : List D} {N : List Str} {vs : List V} {ds : List D} (w : Wd K mg r Hs H tp) (rs : RepDs K mg r Hs vs ds) : Rel K mg r [] Hs H Hs H (L2.start N vs) (ds.map some ++ List.replicate (N.length - ds.length) none) tp where
  wd := w
  gr := Grow.refl _ _
  len := by unfold L2.start; rw [List.length_append, List.length_append, List.length_map, List.length_map, List.length_replicate, List.length_replicate, rs.length]
  vars := fun i d a _ => by
    have hi : i < ds.length := by
      rcases Nat.lt_or_ge i ds.length with q | q
      · exact q
      · rw [List.getElem?_append_right (by rw [List.length_map]; exact q), List.getElem?_replicate] at a
        split at a <;> cases a
    rw [List.getElem?_append_left (by rw [List.length_map]; exact hi), List.getElem?_map] at a
    obtain ⟨d', h1, h2⟩ := Option.map_eq_some_iff.mp a
    cases h2
    obtain ⟨v, h3, h4⟩ := rs.get' h1
    refine ⟨v, ?_, h4⟩
    unfold L2.start
    rw [List.getElem?_append_left (by rw [List.length_map, rs.length]; exact hi), List.getElem?_map, h3]
    rfl
  own := fun i hi => nomatch hi
  dis := fun i j p hi => nomatch hi
section
variable {P : Program} {w : World} {base : Heap}
theorem fn_def {x qual : Str} {params : Arguments} {body : List Stmt} {scope : Scope} {f : Addr} {fd : FuncData} {N ps : List Str} {k : Nat} {m : SS} (F : FunD K x qual params body scope [] [] f fd) (S : FnScope N ps scope) (hm : mg x = some (.ref f))
    (hb : ∀ (kV doc pm : Value) (an : Option Addr) (cdv ct : Value) (us : List Value), us.length = ps.length → bindArgs (PySem.W.fnOf x qual params body scope .none kV doc pm an cdv ct) ⟨us, []⟩ = pure (ps.zip us))
    (h : ∀ (cdv : Value) (A : Around) (outer : List Env) (s : Shared) (H : Hp) (E : XK), Room k (A.deeper (envOfC qual scope s.heap.objs.size f cdv)) → ∃ On u, GSs K mg r (cxOf CX0 P w K mg base N qual scope f cdv A outer s H E).nox E0 [] On [] body u m) :
    DefOk P w K mg base CX0 r x (k + 1) ps.length (defD N.length m) := by
  refine ⟨f, fd, ps, F.ok S (fun vs H Q E q => ?_) (fun cdv A outer s H vs Q E hr q => ?_), hm, F.kp, F.bindsN hb⟩
  · obtain ⟨_, _, _, h1, _⟩ := q
    exact h1
  · obtain ⟨Hs, ds, tp, hl, wd, rs, P1⟩ := q
    obtain ⟨On, u, hG⟩ := h cdv A outer s H E hr
    refine ⟨u, hG.pe.nox, hG.snd _ _ _ _ _ _ _ _ (rel_start wd rs) ?_⟩
    unfold defD at P1
    cases q : m (ds.map some ++ List.replicate (N.length - ds.length) none) tp with
    | rt d tp' =>
      rw [q] at P1
      exact fun v Hs' H' g w rv => P1 v Hs' H' g w rv
    | nx env' tp' =>
      rw [q] at P1
      exact fun σ' Hs' H' e R => P1 .non Hs' H' R.gr R.wd .non
    | bk env' tp' => rw [q] at P1; exact P1.elim
    | ct env' tp' => rw [q] at P1; exact P1.elim
    | exn c fs tp' => rw [q] at P1; exact P1.elim
    | stuck => rw [q] at P1; exact P1.elim
/-- the law: its first statement makes the tape -/
def spLaw (K : PySem.W.Frag) : Sp := fun vs H Q _ => ∃ (a : Addr) (ns : List Int), vs = [.ref a] ∧ SqL K H a (ns.map V.int) ∧ ns.length ≤ 63 ∧ ∀ H', Q (.bl true) H'
/-- the heap without its other things -/
def noX (H : Hp) : Hp := fun b => match H b with
  | some (.ext _) => none
  | o => o
theorem noX_some {H : Hp} {b : Addr} {o : HO} (h : noX H b = some o) : H b = some o := by
  unfold noX at h
  split at h
  · cases h
  · exact h
theorem noX_next {H : Hp} {b : Addr} {φ : Heap → Prop} : noX H b ≠ some (.ext φ) := fun h => by
  have e := noX_some h
  unfold noX at h
  rw [e] at h
  cases h
theorem noX_none {H : Hp} {b : Addr} (h : H b = none) : noX H b = none := by unfold noX; rw [h]
theorem noX_seq {H : Hp} {a : Addr} {xs : List V} (h : SqL K H a xs) : SqL K (noX H) a xs := h.imp (fun h => by
  rcases h with h | ⟨o, h⟩
  · exact .inl (by unfold noX; rw [h])
  · exact .inr ⟨o, by unfold noX; rw [h]⟩) id
theorem fn_law {x qual : Str} {params : Arguments} {body : List Stmt} {scope : Scope} {f : Addr} {fd : FuncData} {N : List Str} {k : Nat} {sx rx : Str} {p1 p2 p3 p4 p5 p6 p7 : Pos} {k0 k1 k2 : Nat} {c : Int} {m : SS}
    (F : FunD K x qual params (.Assign [.Name rx p1] (.List [.Name sx p2, .Constant (.int 0) k0 p3, .Constant (.int c) k1 p4, .Constant (.int 0) k2 p5] p6) p7 :: body) scope [] [] f fd) (S : FnScope (sx :: rx :: N) [sx] scope) (hlx : scope.names.lookup sx = some .local ∨ scope.names.lookup sx = some .cell) (hlr : scope.names.lookup rx = some .local ∨ scope.names.lookup rx = some .cell)
    (hd : (sx == ("__debug__" : Str)) = false := by decide) (hcd : (sx == ("__classdict__" : Str)) = false := by decide)
    (h : ∀ (r : Addr) (cdv : Value) (A : Around) (outer : List Env) (s : Shared) (H : Hp) (E : XK), Room k (A.deeper (envOfC qual scope s.heap.objs.size f cdv)) → ∃ On u, GSs K mg r (cxOf CX0 P w K mg base (sx :: rx :: N) qual scope f cdv A outer s H E).nox E0 [] On [] body u m)
    (hv : ∀ ns : List Int, ns.length ≤ 63 → ∃ tp', retR (m (some (.scr ns) :: some .tape :: List.replicate N.length none) [.scr ns, .int 0, .int c, .int 0]) = .ok (.bl true) tp') :
    FnOk P w K mg base CX0 (k + 1) f fd [sx] (spLaw K) := by
  refine F.ok S (fun vs H Q E q => ?_) (fun cdv A outer s H vs Q E hr q => ?_)
  · obtain ⟨a, ns, rfl, _⟩ := q
    rfl
  · obtain ⟨a, ns, rfl, hS, hlen, kq⟩ := q
    have vs1 : Vis scope sx := hlx.elim .inl fun q => .inr (.inl q)
    refine ⟨tSeq (tAsg (tLst (tCons (tVar 0) (tCons (tC (.int 0)) (tCons (tC (.int c)) (tCons (tC (.int 0)) tNil))))) (gName 1)) (fun D σ H1 => ∃ p, H p = none ∧ H1 = upd H p (.lst [.ref a, .int 0, .int c, .int 0]) ∧ σ = some (.ref a) :: some (.ref p) :: List.replicate N.length none ∧ ∀ v H', v = .bl true → D.rt v H'), ?_, ?_⟩
    · refine PSs.nox (pss_cons (ps_set (i := 1) S.nd rfl hlr (pe_lst (pa_cons (pe_var (i := 0) rfl vs1 hd hcd) (pa_cons pe_int (pa_cons pe_int (pa_cons pe_int pa_nil)))))) ?_)
      refine ⟨fun pins s2 σ H1 D I q => ?_⟩
      obtain ⟨p, hp, rfl, rfl, hq⟩ := q
      obtain ⟨On, u, hG⟩ := h p cdv A outer s H E hr
      refine hG.pe.run pins s2 _ _ D I (hG.snd (noX H) (upd H p (.lst [.ref a, .int 0, .int c, .int 0])) (noX H) _ _ (some (.scr ns) :: some .tape :: List.replicate N.length none) [.scr ns, .int 0, .int c, .int 0] _ ⟨⟨.of fun b o e => upd_new hp _ _ (noX_some e), noX_none hp, ⟨_, upd_same, ?_⟩, fun _ _ => noX_next⟩, Grow.refl _ _, ?_, ?_, (fun i hi => nomatch hi), (fun i j p hi => nomatch hi)⟩ ?_)
      · exact .cons (.scr (noX_seq hS)) (.cons (.int 0) (.cons (.int c) (.cons (.int 0) .nil)))
      · simp
      · intro i d hi _
        match i, hi with
        | 0, hi => cases hi; exact ⟨_, rfl, .scr (noX_seq hS)⟩
        | 1, hi => cases hi; exact ⟨_, rfl, .tape⟩
        | i + 2, hi =>
          rw [List.getElem?_cons_succ, List.getElem?_cons_succ, List.getElem?_replicate] at hi
          split at hi <;> cases hi
      · obtain ⟨tp', e⟩ := hv ns hlen
        cases q : m (some (.scr ns) :: some .tape :: List.replicate N.length none) [.scr ns, .int 0, .int c, .int 0] with
        | rt d tp2 =>
          rw [q] at e
          cases e
          intro v Hs' H' g w rv
          cases rv
          exact hq _ _ rfl
        | nx env' tp2 => rw [q] at e; cases e
        | bk env' tp' => rw [q] at e; cases e
        | ct env' tp' => rw [q] at e; cases e
        | exn c fs tp' => rw [q] at e; cases e
        | stuck => rw [q] at e; cases e
    · refine ⟨_, rfl, by show 4 ≤ sizeLine; rw [sizeLine_eq]; decide, fun p hp => ⟨p, hp, rfl, ?_, fun v H' ev => ev ▸ kq H'⟩⟩
      show List.set (L2.start (sx :: rx :: N) [.ref a]) 1 (some (.ref p)) = _
      unfold L2.start
      simp [List.replicate_succ]
end
end
end G
set_option maxHeartbeats 1000000
namespace G
open PySem PySem.Spec PyProof.Rows L2
section
variable {K : PySem.W.Frag} {mg : Str → Option Value} {r : Addr} {X : Cx} {E : XK} {O O1 On Ol : List Nat} {e a b c : Expr} {es : List Expr} {pos : Pos} {t ta tb : TE} {tt : TT} {ts : TA} {s1 : Stmt} {ss : List Stmt} {u u1 u2 : TS}
inductive RepK (K : PySem.W.Frag) (mg : Str → Option Value) (r : Addr) (Hs H : Hp) : List Bool → List V → List D → List Addr → Prop
  | nil : RepK K mg r Hs H [] [] [] []
  | st {v : V} {d : D} {ks : List Bool} {vs : List V} {ds : List D} {ps : List Addr} : RepD K mg r Hs v d → RepK K mg r Hs H ks vs ds ps → RepK K mg r Hs H (false :: ks) (v :: vs) (d :: ds) ps
  | fr {p : Addr} {d : D} {ks : List Bool} {vs : List V} {ds : List D} {ps : List Addr} : Hs p = none → p ≠ r → OwnAt K mg r Hs H p d → RepK K mg r Hs H ks vs ds ps → RepK K mg r Hs H (true :: ks) (.ref p :: vs) (d :: ds) (p :: ps)
theorem RepK.len {Hs H : Hp} : ∀ {ks : List Bool} {vs : List V} {ds : List D} {ps : List Addr}, RepK K mg r Hs H ks vs ds ps → vs.length = ks.length ∧ ds.length = ks.length
  | _, _, _, _, .nil => ⟨rfl, rfl⟩
  | _, _, _, _, .st _ q => by simp only [List.length_cons, q.len.1, q.len.2, and_self]
  | _, _, _, _, .fr _ _ _ q => by simp only [List.length_cons, q.len.1, q.len.2, and_self]
/-- the tuple that holds them (or any other object of no one's) is laid -/
theorem RepK.lay {Hs H : Hp} {q : Addr} {o : HO} (hq : H q = none) : ∀ {ks : List Bool} {vs : List V} {ds : List D} {ps : List Addr}, RepK K mg r Hs H ks vs ds ps → RepK K mg r Hs (upd H q o) ks vs ds ps
  | _, _, _, _, .nil => .nil
  | _, _, _, _, .st h k => .st h (RepK.lay hq k)
  | _, _, _, _, .fr h n oa k => .fr h n (oa.grow (Same.refl _) fun u z => by rw [upd_ne (ne_of_none z hq)]; exact z) (RepK.lay hq k)
structure GAK (K : PySem.W.Frag) (mg : Str → Option Value) (r : Addr) (X : Cx) (O : List Nat) (E : XK) (es : List Expr) (t : TA) (ks : List Bool) (m : SE (List D)) : Prop where
  pe : PA X es t
  snd : ∀ Hs0 H0 Hs H σ env tp Q, Rel K mg r O Hs0 H0 Hs H σ env tp → Post K mg r (fun Hs' H' vs ds => ∃ ps, RepK K mg r Hs' H' ks vs ds ps ∧ ps.Nodup ∧ ∀ p ∈ ps, H p = none) E Hs H (m env tp) Q → t σ H Q
theorem gak_nil : GAK K mg r X O E [] tNil [] nilA := ⟨pa_nil, fun Hs0 H0 Hs H σ env tp Q R P => P [] Hs H (Grow.refl _ _) R.wd ⟨[], .nil, List.nodup_nil, fun _ h => nomatch h⟩⟩
theorem free_back {Hs H Hs' H' : Hp} {p : Addr} (g : Grow r Hs H Hs' H') (h : H' p = none) (ne : p ≠ r) : H p = none := g.free p h
theorem RepK.ner {Hs H : Hp} : ∀ {ks : List Bool} {vs : List V} {ds : List D} {ps : List Addr}, RepK K mg r Hs H ks vs ds ps → ∀ p ∈ ps, p ≠ r
  | _, _, _, _, .nil, _, h => nomatch h
  | _, _, _, _, .st _ k, p, h => RepK.ner k p h
  | _, _, _, _, .fr _ n _ k, p, h => by
    rcases List.mem_cons.mp h with rfl | h
    · exact n
    · exact RepK.ner k p h
theorem gak_st {ks : List Bool} {m : SE D} {ms : SE (List D)} (h : GE K mg r X O E e t m) (hs : GAK K mg r X O E es ts ks ms) (hst : starEach (e :: es) X.env = (false, eval e X.env) :: starEach es X.env := by rfl) : GAK K mg r X O E (e :: es) (tCons t ts) (false :: ks) (consA m ms) := by
  refine ⟨pa_cons h.pe hs.pe hst, fun Hs0 H0 Hs H σ env tp Q R P => ?_⟩
  refine h.snd _ _ _ _ _ _ _ _ R ?_
  unfold consA at P
  cases q : m env tp with
  | stuck => rw [q] at P; exact P
  | exn c fs tp1 => rw [q] at P; exact P
  | ok d tp1 =>
    rw [q] at P
    intro v Hs1 H1 g w rv
    refine hs.snd _ _ _ _ _ _ _ _ (R.grow g w) ?_
    simp only [RE.bind_ok] at P
    cases q2 : ms env tp1 with
    | stuck => rw [q2] at P; exact P
    | exn c fs tp2 => rw [q2] at P; exact Post.shift g P
    | ok ds tp2 =>
      rw [q2] at P
      rintro vs Hs2 H2 g2 w2 ⟨ps, hk, nd, fr⟩
      exact P _ Hs2 H2 (g.trans g2) w2 ⟨ps, .st (rv.mono g2.ex) hk, nd, fun p hp => free_back g (fr p hp) (hk.ner p hp)⟩
theorem gak_fr {ks : List Bool} {m : SE D} {ms : SE (List D)} (h : GF K mg r X O E e t m) (hs : GAK K mg r X O E es ts ks ms) (hst : starEach (e :: es) X.env = (false, eval e X.env) :: starEach es X.env := by rfl) : GAK K mg r X O E (e :: es) (tCons t ts) (true :: ks) (consA m ms) := by
  refine ⟨pa_cons h.pe hs.pe hst, fun Hs0 H0 Hs H σ env tp Q R P => ?_⟩
  refine h.snd _ _ _ _ _ _ _ _ R ?_
  unfold consA at P
  cases q : m env tp with
  | stuck => rw [q] at P; exact P
  | exn c fs tp1 => rw [q] at P; exact P
  | ok d tp1 =>
    rw [q] at P
    rintro v Hs1 H1 g w ⟨p, rfl, hb, hp, ne, oa⟩
    refine hs.snd _ _ _ _ _ _ _ _ (R.grow g w) ?_
    simp only [RE.bind_ok] at P
    cases q2 : ms env tp1 with
    | stuck => rw [q2] at P; exact P
    | exn c fs tp2 => rw [q2] at P; exact Post.shift g P
    | ok ds tp2 =>
      rw [q2] at P
      rintro vs Hs2 H2 g2 w2 ⟨ps, hk, nd, fr⟩
      obtain ⟨o, ho⟩ := oa.there
      refine P _ Hs2 H2 (g.trans g2) w2 ⟨p :: ps, .fr (g2.no hp ho ne (oa.ntup o ho)) ne (oa.grow g2.ex fun u z => g2.keep p u z ne hp) hk, List.nodup_cons.mpr ⟨fun m => ?_, nd⟩, fun p' hp' => ?_⟩
      · have := fr p m; rw [ho] at this; cases this
      · rcases List.mem_cons.mp hp' with rfl | hp'
        · exact hb
        · exact free_back g (fr p' hp') (hk.ner p' hp')
/-- who owns behind it -/
def ownAll : List Nat → List Nat → List Bool → List Nat
  | O, i :: is, k :: ks => ownAll (if k = true then i :: O.filter (· != i) else O.filter (· != i)) is ks
  | O, _, _ => O
theorem repK_setAll {Hs0 H0 Hs H : Hp} {tp : List D} : ∀ (is : List Nat) (ks : List Bool) (O : List Nat) (σ : L2.St) (env : DEnv) (vs : List V) (ds : List D) (ps : List Addr), Rel K mg r O Hs0 H0 Hs H σ env tp → RepK K mg r Hs H ks vs ds ps → ps.Nodup → (∀ p ∈ ps, H0 p = none ∧ ∀ j ∈ O, σ[j]? ≠ some (some (.ref p))) → is.length = ks.length → (∀ i ∈ is, i < env.length) →
    Rel K mg r (ownAll O is ks) Hs0 H0 Hs H (setAll σ is vs) (setAll env is ds) tp
  | [], ks, O, σ, env, vs, ds, ps, R, hk, _, _, hl, _ => by
    cases ks with
    | nil => cases hk; exact R
    | cons _ _ => cases hl
  | i :: is, [], O, σ, env, vs, ds, ps, R, hk, _, _, hl, _ => by cases hl
  | i :: is, k :: ks, O, σ, env, vs, ds, ps, R, hk, nd, hp, hl, hi => by
    cases hk with
    | st h1 h2 =>
      refine repK_setAll is ks _ _ _ _ _ ps (R.set i h1) h2 nd (fun p q => ⟨(hp p q).1, fun j hj => ?_⟩) (by simpa using hl) fun j hj => by rw [List.length_set]; exact hi j (List.mem_cons_of_mem _ hj)
      obtain ⟨m, ne⟩ := List.mem_filter.mp hj
      rw [set_gne (by simpa using ne)]
      exact (hp p q).2 j m
    | @fr p d ks vs ds ps h1 n oa h2 =>
      obtain ⟨np, nd'⟩ := List.nodup_cons.mp nd
      have hp0 := hp p List.mem_cons_self
      refine repK_setAll is ks _ _ _ _ _ ps (R.setF i (hi i List.mem_cons_self) hp0.1 h1 n oa hp0.2) h2 nd' (fun p' q => ⟨(hp p' (List.mem_cons_of_mem _ q)).1, fun j hj z => ?_⟩) (by simpa using hl) fun j hj => by rw [List.length_set]; exact hi j (List.mem_cons_of_mem _ hj)
      rcases List.mem_cons.mp hj with rfl | hj
      · rcases get_set z with ⟨_, e, _⟩ | ⟨ne, _⟩
        · cases e; exact np q
        · exact ne rfl
      · obtain ⟨m, ne⟩ := List.mem_filter.mp hj
        rw [set_gne (by simpa using ne)] at z
        exact (hp p' (List.mem_cons_of_mem _ q)).2 j m z
def parS (is : List Nat) (ms : SE (List D)) : SS := fun env tp => (ms env tp).bindS fun ds tp1 => if is.all (fun i => decide (i < env.length)) = true then .nx (setAll env is ds) tp1 else .stuck
theorem par_sound {is : List Nat} {ks : List Bool} {ms : SE (List D)} {k : L2.Ends → L2.St → Hp → List V → Hp → Prop} (hl : is.length = ks.length) (h : ∀ Hs0 H0 Hs H σ env tp Q, Rel K mg r O Hs0 H0 Hs H σ env tp → Post K mg r (fun Hs' H' vs ds => ∃ ps, RepK K mg r Hs' H' ks vs ds ps ∧ ps.Nodup ∧ ∀ p ∈ ps, H p = none) E Hs H (ms env tp) Q → ts σ H Q)
    (hk : ∀ D σ vs Hs H tp ds ps, Wd K mg r Hs H tp → RepK K mg r Hs H ks vs ds ps → (∀ H', (H' = H ∨ ∃ q o, H q = none ∧ H' = upd H q o) → D.nx (setAll σ is vs) H') → k D σ H vs H) :
    ∀ Hs0 H0 Hs H σ env tp D, Rel K mg r O Hs0 H0 Hs H σ env tp → PostS K mg r E (ownAll O is ks) Ol Hs0 H0 Hs (parS is ms env tp) D → ts σ H (fun vs H1 => k D σ H1 vs H1) := by
  intro Hs0 H0 Hs H σ env tp D R P
  refine h _ _ _ _ _ _ _ _ R (PostS.bind R P fun vs Hs1 H1 ds tp1 _ g w R1 rv P1 => ?_)
  obtain ⟨ps, hrk, nd, fr⟩ := rv
  split at P1
  · rename_i hi
    have hi : ∀ i ∈ is, i < env.length := fun i m => of_decide_eq_true (List.all_eq_true.mp hi i m)
    have hfr : ∀ p ∈ ps, H0 p = none ∧ ∀ j ∈ O, σ[j]? ≠ some (some (.ref p)) := fun p hp => R.new_ne (fr p hp) (hrk.ner p hp)
    refine hk D σ vs Hs1 H1 tp1 ds ps w hrk fun H' hH' => ?_
    rcases hH' with rfl | ⟨q, o, hq, rfl⟩
    · exact P1 _ _ _ (Same.refl _) (repK_setAll is ks _ _ _ _ _ ps R1 hrk nd hfr hl hi)
    · obtain ⟨g2, w2⟩ := w.lay (o := o) hq
      exact P1 _ _ _ (Same.refl _) (repK_setAll is ks _ _ _ _ _ ps (R1.grow g2 w2) (hrk.lay hq) nd hfr hl hi)
  · exact P1.elim
/-- a, b = x, y (two local names) -/
theorem gs_par2 (i j : Nat) {ks : List Bool} {x y : Str} {ms : SE (List D)} {px py pt : Pos} {kt k2 pt2} (hN : X.N.Nodup) (ha : GAK K mg r X O E [a, b] ts ks ms) (hks : ks.length = 2 := by rfl) (hc : X.calm = true := by rfl) (hi : X.N[i]? = some x := by rfl) (hj : X.N[j]? = some y := by rfl) (hij : i ≠ j := by decide)
    (hx : X.env.scope.names.lookup x = some .local := by rfl) (hy : X.env.scope.names.lookup y = some .local := by rfl)
    (hw : swappedStores [.Tuple [.Name x px, .Name y py] kt pt] (.Tuple [a, b] k2 pt2) X.env = pure (some [x, y]) := by rfl)
    (hs : swapsWithSole [.Tuple [.Name x px, .Name y py] kt pt] (.Tuple [a, b] k2 pt2) pos.line X.env = pure false := by rfl) :
    GS K mg r X E O (ownAll O [i, j] ks) Ol (.Assign [.Tuple [.Name x px, .Name y py] kt pt] (.Tuple [a, b] k2 pt2) pos) (tPar i j ts) (parS [i, j] ms) := by
  refine ⟨ps_par hc hN hi hj hij hx hy ha.pe hw hs, ?_⟩
  refine par_sound (k := fun D σ _ vs H1 => ∃ v w, vs = [v, w] ∧ D.nx ((σ.set i (some v)).set j (some w)) H1) (by rw [hks]; rfl) ha.snd ?_
  intro D σ vs Hs H tp ds ps _ hrk q
  have hl := hrk.len.1
  rw [hks] at hl
  match vs, hl with
  | [v, w], _ => exact ⟨v, w, rfl, q H (.inl rfl)⟩
/-- the plain way: a tuple is made and unpacked -/
theorem gs_tup {is : List Nat} {n : Nat} {ks : List Bool} {ms : SE (List D)} {tgs : List Expr} {g : TGs} {pt pt2 : Pos} {kt k2} (ha : GAK K mg r X O E es ts ks ms) (hg : GGs K mg r X tgs g is) (hl : is.length = ks.length := by rfl) (hn : is.length = n := by rfl) (hz : n ≤ sizeLine := by decide) (hc : X.calm = true := by rfl) (hK : X.K = K := by rfl) (hn1 : (assignEach tgs X.env).length = n := by rfl) (hst : (assignEach tgs X.env).findIdx? (·.1) = none := by rfl)
    (hs : swapsWithSole [.Tuple tgs kt pt] (.Tuple es k2 pt2) pos.line X.env = pure false := by rfl) (hw : swappedStores [.Tuple tgs kt pt] (.Tuple es k2 pt2) X.env = pure none := by rfl) (h1 : (assignEach [.Tuple tgs kt pt] X.env).map (·.2) = [assign (.Tuple tgs kt pt) X.env] := by rfl) :
    GS K mg r X E O (ownAll O is ks) Ol (.Assign [.Tuple tgs kt pt] (.Tuple es k2 pt2) pos) (tAsg (tTup ts) (gTup K n g)) (parS is ms) := by
  subst hK
  refine ⟨ps_asg (pe_tup ha.pe) (pg_tup hc hg.pe hn1 hst) hs hw h1, ?_⟩
  refine par_sound (k := fun D σ _ vs H1 => vs.length ≤ sizeLine ∧ ∀ p, H1 p = none → gTup X.K n g (.ref p) σ (upd H1 p (.tup vs)) D.nx) hl ha.snd ?_
  intro D σ vs Hs H tp ds ps _ hrk q
  have hv : vs.length = n := by rw [hrk.len.1, ← hl, hn]
  refine ⟨by rw [hv]; exact hz, fun p hp => ⟨p, vs, rfl, .of upd_same, hv, hg.snd vs σ _ _ (by rw [hv, hn]) (q _ (.inr ⟨p, _, hp, rfl⟩))⟩⟩
def methE (p : D → Bool) (f : D → D → Option D) (ma mb : SE D) : SE D := fun env tp => (ma env tp).bind fun d tp1 => if p d = true then (mb env tp1).bind fun e tp2 => RE.of (f d e) tp2 else .stuck
def isStrD : D → Bool
  | .str _ => true
  | _ => false
theorem ty_str {Hs H : Hp} {tp : List D} {v : V} {d : D} (w : Wd K mg r Hs H tp) (h : RepT K mg r Hs H v d) (p : isStrD d = true) : tyV K "str" v H := by
  cases d with
  | str z => rw [repT_str h]; rfl
  | _ => cases p
def MethS (K : PySem.W.Frag) (mg : Str → Option Value) (r : Addr) (R : V → List V → Hp → VK → Prop) (f : D → D → Option D) : Prop := ∀ Hs H tp x y d e z Q, Wd K mg r Hs H tp → RepT K mg r Hs H x d → RepT K mg r Hs H y e → f d e = some z →
  (∀ v Hs' H', Grow r Hs H Hs' H' → Wd K mg r Hs' H' tp → RepD K mg r Hs' v z → Q v H') → R x [y] H Q
theorem ge_m1 {T id : String} {name : Str} {R : V → List V → Hp → VK → Prop} {f : D → D → Option D} {p : D → Bool} {ma mb : SE D} {p1 : Pos} (pa : PlainAttrs T) (slot : Slot T name id) (hty : typeOf (.builtin id) = pure (.type "method_descriptor")) (hm : MtR X id R)
    (hp : ∀ Hs H tp v d, Wd K mg r Hs H tp → RepT K mg r Hs H v d → p d = true → tyV K T v H) (hf : MethS K mg r R f) (ha : GO K mg r X O E a ta ma) (hb : GO K mg r X O E b tb mb) (hK : X.K = K := by rfl)
    (hbase : attributeBase a name X.env (eval a X.env) = eval a X.env := by rfl)
    (hfew : ((backTo pos (starEach [b] X.env)).all (fun x => !x.1) && (backToKw pos (keywordEach [] X.env)).all (fun x => x.1.isSome) && decide ([b].length + ([] : List Keyword).length + (if ([] : List Keyword).isEmpty then 0 else 1) < 30)) = true := by rfl)
    (hline : (p1.endLine == pos.line) = true := by rfl) (hs : starEach [b] X.env = (false, eval b X.env) :: starEach [] X.env := by rfl) (hplain : (backTo pos (starEach [] X.env)).any (·.1) = false := by rfl) :
    GE K mg r X O E (.Call (.Attribute a name p1) [b] [] pos) (tBM K T R ta (tCons tb tNil)) (methE p f ma mb) := by
  subst hK
  refine ⟨pe_bm pa slot hty hm ha.pe (pa_cons hb.pe pa_nil hs) hbase hfew hline hs hplain, fun Hs0 H0 Hs H σ env tp Q Rl P => ?_⟩
  refine ha.snd _ _ _ _ _ _ _ _ Rl (Post.bind P fun v Hs1 H1 d tp1 _ g w rv P1 => ?_)
  split at P1
  · rename_i hpd
    refine ⟨hp _ _ _ _ _ w rv hpd, ?_⟩
    refine hb.snd _ _ _ _ _ _ _ _ (Rl.grow g w) (Post.bind P1 fun y Hs2 H2 e tp2 _ g2 w2 ry P2 => ?_)
    obtain ⟨z, hz, k⟩ := Post.ok_of P2
    exact hf _ _ _ _ _ _ _ _ _ w2 (rv.grow g2) ry hz k
  · exact P1.elim
def joinD (d e : D) : Option D := match d with
  | .str a => (itemsD e).bind fun xs => (unS xs).bind fun ys => if (ys.map (·.length)).sum + ys.length * a.length ≤ 16777216 then some (.str (Txt.join a ys)) else none
  | _ => none
abbrev rJoin (K : PySem.W.Frag) : V → List V → Hp → VK → Prop := fun x xs H Q => ∃ a p, ∃ ys : List Str, x = .str a ∧ xs = [.ref p] ∧ (SqL K H p (ys.map V.str) ∨ SqT K H p (ys.map V.str)) ∧ (ys.map (·.length)).sum + ys.length * a.length ≤ 16777216 ∧ Q (.str (Txt.join a ys)) H
theorem ms_join : MethS K mg r (rJoin K) joinD := by
  intro Hs H tp x y d e z Q w rx ry hz k
  unfold joinD at hz
  split at hz
  · obtain ⟨xs, h1, h2⟩ := Option.bind_eq_some_iff.mp hz
    obtain ⟨ys, h3, h4⟩ := Option.bind_eq_some_iff.mp h2
    split at h4
    · rename_i hg
      cases h4
      rw [unS_ok h3] at h1
      rw [repT_str rx]
      cases e with
      | lst es =>
        cases h1
        obtain ⟨p, vs, rfl, k1, k2⟩ := repT_lst w ry
        rw [RepDs.strs_of k2] at k1
        exact ⟨_, p, ys, rfl, rfl, .inl (.of k1), hg, k _ _ _ (Grow.refl _ _) w (.str _)⟩
      | tup es =>
        cases h1
        obtain ⟨p, vs, rfl, _, k1, k2⟩ := repT_tup w ry
        rw [RepDs.strs_of k2] at k1
        exact ⟨_, p, ys, rfl, rfl, .inr (.of k1), hg, k _ _ _ (Grow.refl _ _) w (.str _)⟩
      | _ => cases h1
    · cases h4
  · cases hz
theorem ge_join {ma mb : SE D} {p1 : Pos} (ha : GO K mg r X O E a ta ma) (hb : GO K mg r X O E b tb mb) (hK : X.K = K := by rfl)
    (hbase : attributeBase a "join" X.env (eval a X.env) = eval a X.env := by rfl)
    (hfew : ((backTo pos (starEach [b] X.env)).all (fun x => !x.1) && (backToKw pos (keywordEach [] X.env)).all (fun x => x.1.isSome) && decide ([b].length + ([] : List Keyword).length + (if ([] : List Keyword).isEmpty then 0 else 1) < 30)) = true := by rfl)
    (hline : (p1.endLine == pos.line) = true := by rfl) (hs : starEach [b] X.env = (false, eval b X.env) :: starEach [] X.env := by rfl) (hplain : (backTo pos (starEach [] X.env)).any (·.1) = false := by rfl) :
    GE K mg r X O E (.Call (.Attribute a "join" p1) [b] [] pos) (tBM K "str" (rJoin K) ta (tCons tb tNil)) (methE isStrD joinD ma mb) := by
  subst hK
  exact ge_m1 PySem.F.plainAttrs_str PySem.F.slot_str_join PySem.F.type_str_join mt_join (fun _ _ _ _ _ => ty_str) ms_join ha hb rfl hbase hfew hline hs hplain
def appPopS (i j : Nat) (m : SE D) : SS := fun env tp => match env[i]?, env[j]? with
  | some (some (.lst ds)), some (some (.lst es)) => (m env tp).bindS fun k tp1 => match k with
    | .int q => if (decide (-(2 ^ 63) ≤ q) && (decide (q < 2 ^ 63) && decide (ds.length < sizeLine))) = true then (match ixN es.length q with
      | some c => (match es[c]? with
        | some y => .nx ((env.set j (some (.lst (es.eraseIdx c)))).set i (some (.lst (ds ++ [y])))) tp1
        | none => .stuck)
      | none => .stuck) else .stuck
    | _ => .stuck
  | _, _ => .stuck
theorem gs_appPop {m : SE D} (i j : Nat) {x y : Str} {p1 p2 p3 p4 p5 p6 : Pos} (hi : i ∈ O) (hj : j ∈ O) (hij : i ≠ j) (h : GE K mg r X O E e t m) (hK : X.K = K := by rfl) (hN : X.N[i]? = some x := by rfl) (hNy : X.N[j]? = some y := by rfl)
    (hv : Vis X.env.scope x := by first | exact Or.inl rfl | exact Or.inr (Or.inl rfl) | exact Or.inr (Or.inr rfl)) (hvy : Vis X.env.scope y := by first | exact Or.inl rfl | exact Or.inr (Or.inl rfl) | exact Or.inr (Or.inr rfl)) (hd : (x == ("__debug__" : Str)) = false := by decide) (hcd : (x == ("__classdict__" : Str)) = false := by decide)
    (hdy : (y == ("__debug__" : Str)) = false := by decide) (hcdy : (y == ("__classdict__" : Str)) = false := by decide)
    (hb1 : attributeBase (.Name x p1) "append" X.env (eval (.Name x p1) X.env) = eval (.Name x p1) X.env := by rfl)
    (hf1 : ((backTo p3 (starEach [Expr.Call (.Attribute (.Name y p4) "pop" p5) [e] [] p6] X.env)).all (fun x => !x.1) && (backToKw p3 (keywordEach [] X.env)).all (fun x => x.1.isSome) && decide ([Expr.Call (.Attribute (.Name y p4) "pop" p5) [e] [] p6].length + ([] : List Keyword).length + (if ([] : List Keyword).isEmpty then 0 else 1) < 30)) = true := by rfl)
    (hl1 : (p2.endLine == p3.line) = true := by rfl) (hs1 : starEach [Expr.Call (.Attribute (.Name y p4) "pop" p5) [e] [] p6] X.env = (false, eval (Expr.Call (.Attribute (.Name y p4) "pop" p5) [e] [] p6) X.env) :: starEach [] X.env := by rfl) (hpl1 : (backTo p3 (starEach [] X.env)).any (·.1) = false := by rfl)
    (hb2 : attributeBase (.Name y p4) "pop" X.env (eval (.Name y p4) X.env) = eval (.Name y p4) X.env := by rfl)
    (hf2 : ((backTo p6 (starEach [e] X.env)).all (fun x => !x.1) && (backToKw p6 (keywordEach [] X.env)).all (fun x => x.1.isSome) && decide ([e].length + ([] : List Keyword).length + (if ([] : List Keyword).isEmpty then 0 else 1) < 30)) = true := by rfl)
    (hl2 : (p5.endLine == p6.line) = true := by rfl) (hs2 : starEach [e] X.env = (false, eval e X.env) :: starEach [] X.env := by rfl) (hpl2 : (backTo p6 (starEach [] X.env)).any (·.1) = false := by rfl)
    (hsw : swapsWith (.Call (.Attribute (.Name x p1) "append" p2) [.Call (.Attribute (.Name y p4) "pop" p5) [e] [] p6] [] p3) none pos.line X.env = pure false := by rfl) :
    GS K mg r X E O O Ol (.Expr (.Call (.Attribute (.Name x p1) "append" p2) [.Call (.Attribute (.Name y p4) "pop" p5) [e] [] p6] [] p3) pos) (tDrop (tBM K "list" rAppend (tVar i) (tCons (tBM K "list" rPopAt (tVar j) (tCons t tNil)) tNil))) (appPopS i j m) := by
  subst hK
  refine ⟨ps_expr (pe_bm PySem.F.plainAttrs_list PySem.F.slot_list_append PySem.F.type_list_append mt_append (pe_var hN hv hd hcd)
    (pa_cons (pe_bm PySem.F.plainAttrs_list PySem.F.slot_list_pop PySem.F.type_list_pop mt_popAt (pe_var hNy hvy hdy hcdy) (pa_cons h.pe pa_nil hs2) hb2 hf2 hl2 hs2 hpl2) pa_nil hs1) hb1 hf1 hl1 hs1 hpl1) hsw, fun Hs0 H0 Hs H σ env tp D R P => ?_⟩
  obtain ⟨d0, p, b1, b2, c, c0, ne, oa⟩ := R.own i hi
  obtain ⟨d0', p', b1', b2', c', c0', ne', oa'⟩ := R.own j hj
  unfold appPopS at P
  rw [b1, b1'] at P
  split at P
  · rename_i ds es q1 q2
    cases q1; cases q2
    obtain ⟨vs0, k1, _⟩ := oa
    obtain ⟨vs0', k1', _⟩ := oa'
    refine ⟨_, b2, .inl ⟨rfl, vs0, .of k1⟩, ?_⟩
    refine ⟨_, b2', .inl ⟨rfl, vs0', .of k1'⟩, ?_⟩
    refine h.snd _ _ _ _ _ _ _ _ R (PostS.bind R P fun v Hs1 H1 d tp1 _ g w R1 rv P1 => ?_)
    cases d with
    | int q =>
      cases rv
      obtain ⟨d1, p1, e1, e2, f, f0, fn, fo⟩ := R1.own i hi
      rw [b2] at e2; cases e2
      rw [b1] at e1; cases e1
      obtain ⟨vs, h1, h2⟩ := fo
      obtain ⟨d1', p1', e1', e2', f', f0', fn', fo'⟩ := R1.own j hj
      rw [b2'] at e2'; cases e2'
      rw [b1'] at e1'; cases e1'
      obtain ⟨us, h1', h2'⟩ := fo'
      have P1 : PostS X.K mg r E O Ol Hs0 H0 Hs1 (if (decide (-(2 ^ 63) ≤ q) && (decide (q < 2 ^ 63) && decide (ds.length < sizeLine))) = true then (match ixN es.length q with
        | some c => (match es[c]? with
          | some y => .nx ((env.set j (some (.lst (es.eraseIdx c)))).set i (some (.lst (ds ++ [y])))) tp1
          | none => .stuck)
        | none => .stuck) else .stuck) D := P1
      split at P1
      · rename_i hc
        have hc := Bool.and_eq_true_iff.mp hc
        have hc2 := Bool.and_eq_true_iff.mp hc.2
        cases qx : ixN es.length q with
        | none => rw [qx] at P1; exact P1.elim
        | some cc =>
          rw [qx] at P1
          simp only at P1
          cases qy : es[cc]? with
          | none => rw [qy] at P1; exact P1.elim
          | some yd =>
            rw [qy] at P1
            obtain ⟨yv, hy1, hy2⟩ := h2'.get' qy
            rw [← h2'.length] at qx
            refine ⟨p', us, q, cc, yv, rfl, rfl, h1', of_decide_eq_true hc.1, of_decide_eq_true hc2.1, (ixN_seq qx).1, hy1, ?_⟩
            have np : p ≠ p' := fun z => hij (R.dis i j p hi hj b2 (z ▸ b2'))
            refine ⟨p, vs, yv, rfl, rfl, by rw [upd_ne np]; exact h1, by rw [h2.length]; exact of_decide_eq_true hc2.2, ?_⟩
            have W1 := R1.write (d := .lst (es.eraseIdx cc)) (o := .lst (us.eraseIdx cc)) hj b2' ⟨_, upd_same, h2'.eraseIdx cc⟩
            exact P1 _ _ _ (Same.refl _) (W1.write hi b2 ⟨_, upd_same, h2.append (.cons hy2 .nil)⟩)
      · exact P1.elim
    | _ => exact P1.elim
  · exact P.elim
end
end G
namespace G
open PySem PySem.Spec PyProof.Rows L2
section
variable {K : PySem.W.Frag} {mg : Str → Option Value} {r : Addr} {X : Cx} {E : XK} {O O1 On Ol : List Nat} {e a b c : Expr} {es : List Expr} {pos p : Pos} {t ta tb tc : TE} {tt : TT} {ts : TA} {ma mb mc : SE D} {ms : SE (List D)}
theorem gt_eq (hu : X.A.units + 64 < cLine) (ha : GO K mg r X O E a ta ma) (hb : GO K mg r X O E b tb mb) (hK : X.K = K := by rfl) : GT K mg r X O E (.Compare a [.Eq] [b] pos) (tTest (tOp (rEqP K) ta tb)) (boolE (binE eqD ma mb)) := by subst hK; exact gt_cmp (op_eqP hu) ops_eq ha hb (nomark _)
theorem gt_ne (hu : X.A.units + 64 < cLine) (ha : GO K mg r X O E a ta ma) (hb : GO K mg r X O E b tb mb) (hK : X.K = K := by rfl) : GT K mg r X O E (.Compare a [.NotEq] [b] pos) (tTest (tOp (rNeP K) ta tb)) (boolE (binE neD ma mb)) := by subst hK; exact gt_cmp (op_neP hu) ops_ne ha hb (nomark _)
theorem gt_notIn (hu : X.A.units + 64 < cLine) (ha : GO K mg r X O E a ta ma) (hb : GO K mg r X O E b tb mb) (hm : behindInMarks .NotIn b = false := by rfl) (hK : X.K = K := by rfl) : GT K mg r X O E (.Compare a [.NotIn] [b] pos) (tTest (tOp (rInP K true) ta tb)) (boolE (binE notInD ma mb)) := by subst hK; exact gt_cmp (op_notInP hu) ops_notIn ha hb hm
theorem gt_lt (ha : GO K mg r X O E a ta ma) (hb : GO K mg r X O E b tb mb) : GT K mg r X O E (.Compare a [.Lt] [b] pos) (tTest (tOp rLtD ta tb)) (boolE (binE ltD ma mb)) := gt_cmp opr_lt ops_lt ha hb (nomark _)
theorem gt_gt (ha : GO K mg r X O E a ta ma) (hb : GO K mg r X O E b tb mb) : GT K mg r X O E (.Compare a [.Gt] [b] pos) (tTest (tOp rGtD ta tb)) (boolE (binE gtD ma mb)) := gt_cmp op_gt ops_gt ha hb (nomark _)
theorem gt_ge (ha : GO K mg r X O E a ta ma) (hb : GO K mg r X O E b tb mb) : GT K mg r X O E (.Compare a [.GtE] [b] pos) (tTest (tOp rGeD ta tb)) (boolE (binE geD ma mb)) := gt_cmp op_ge ops_ge ha hb (nomark _)
theorem gt_is (ha : GO K mg r X O E a ta ma) (hb : GO K mg r X O E b tb mb) : GT K mg r X O E (.Compare a [.Is] [b] pos) (tTest (tOp rIsD ta tb)) (boolE (binE isNoneD ma mb)) := gt_cmp opr_is ops_is ha hb (nomark _)
theorem gt_isNot (ha : GO K mg r X O E a ta ma) (hb : GO K mg r X O E b tb mb) : GT K mg r X O E (.Compare a [.IsNot] [b] pos) (tTest (tOp rIsNotD ta tb)) (boolE (binE isNotNoneD ma mb)) := gt_cmp opr_isNot ops_isNot ha hb (nomark _)
theorem gt_leLe (ha : GO K mg r X O E a ta ma) (hb : GO K mg r X O E b tb mb) (hc : GO K mg r X O E c tc mc) (hm : lastMarks [.LtE, .LtE] [b, c] = false := by with_unfolding_all rfl) : GT K mg r X O E (.Compare a [.LtE, .LtE] [b, c] pos) (tTest (tChain rLeD rLeD ta tb tc)) (boolE (chainE leD leD ma mb mc)) := gt_chain op_le op_le ops_le ops_le ha hb hc hm
theorem ge_leLe (ha : GO K mg r X O E a ta ma) (hb : GO K mg r X O E b tb mb) (hc : GO K mg r X O E c tc mc) (hm : lastMarks [.LtE, .LtE] [b, c] = false := by with_unfolding_all rfl) : GE K mg r X O E (.Compare a [.LtE, .LtE] [b, c] pos) (tChain rLeD rLeD ta tb tc) (chainE leD leD ma mb mc) := ge_chain op_le op_le ops_le ops_le ha hb hc hm
theorem gf_list1 (hm : X.mg "list" = none) (ha : GAO K mg r X O E [e] ts ms) (hg : Gl X "list" := by rfl) (he : starEach [e] X.env = (false, eval e X.env) :: starEach [] X.env := by rfl) (hpl : (backTo pos (starEach [] X.env)).any (·.1) = false := by rfl) (hK : X.K = K := by rfl) : GF K mg r X O E (.Call (.Name "list" p) [e] [] pos) (tCB (rListD1 K) ts) (callB listD ms) := by
  subst hK
  refine ⟨pe_callTy (r := rListD1 X.K) call_list_of hg hm (by decide +kernel) ha.pe (by decide) (by decide) he hpl, fun Hs0 H0 Hs H σ env tp Q Rl P => ?_⟩
  refine ha.snd _ _ _ _ _ _ _ _ Rl ?_
  unfold callB at P
  cases q : ms env tp with
  | stuck => rw [q] at P; exact P
  | exn cc fs tp1 => rw [q] at P; exact P
  | ok ds tp1 =>
    rw [q] at P
    intro xs Hs1 H1 g w rx
    obtain ⟨z, hz, k⟩ := Post.ok_of (show Post X.K mg r (Fresh X.K mg r H) E Hs H (RE.of (listD ds) tp1) Q from P)
    unfold listD at hz
    split at hz
    · cases hz
      obtain ⟨x, rfl, h⟩ := paired1 rx
      obtain ⟨p, vs, rfl, h1, h2⟩ := repT_lst w h
      refine ⟨p, vs, rfl, .inl (.of h1), fun q hq => ?_⟩
      obtain ⟨a, b, c⟩ := fresh_new (o := .lst vs) (d := .lst _) g w hq ⟨vs, upd_same, h2⟩
      exact k _ _ _ a b c
    · cases hz
      obtain ⟨x, rfl, h⟩ := paired1 rx
      obtain ⟨p, vs, rfl, h0, h1, h2⟩ := repT_tup w h
      refine ⟨p, vs, rfl, .inr (.of h1), fun q hq => ?_⟩
      obtain ⟨a, b, c⟩ := fresh_new (o := .lst vs) (d := .lst _) g w hq ⟨vs, upd_same, h2⟩
      exact k _ _ _ a b c
    · cases hz
      obtain ⟨x, rfl, h⟩ := paired1 rx
      obtain ⟨p, rfl, h1⟩ := repT_scr w h
      refine ⟨p, _, rfl, .inl h1, fun q hq => ?_⟩
      obtain ⟨a, b, c⟩ := fresh_new (o := .lst (List.map V.int _)) (d := .lst _) g w hq ⟨_, upd_same, RepDs.ints _⟩
      exact k _ _ _ a b c
    · cases hz
def cRgOk (a b : Int) : Bool := cRg a && (cRg b && decide ((b - a).toNat ≤ 16777216))
theorem cRgOk_ok {a b : Int} (h : cRgOk a b = true) : RgOk a b := by
  have h := Bool.and_eq_true_iff.mp h
  have h2 := Bool.and_eq_true_iff.mp h.2
  have h1 := cRg_ok h.1
  have h3 := cRg_ok h2.1
  have h4 := of_decide_eq_true h2.2
  exact ⟨h1.1, h1.2, h3.1, h3.2, h4⟩
theorem reps_range {Hs : Hp} (a b : Int) : RepDs K mg r Hs (rgV a b) (rangeL a b) := by
  unfold rgV rangeL
  induction (List.range (b - a).toNat) with
  | nil => exact .nil
  | cons x xs ih => exact .cons (.int _) ih
def rg1E (k : List D → D) (ma : SE D) : SE D := fun env tp => (ma env tp).bind fun d tp1 => match d with
  | .int n => if cRgOk 0 n = true then .ok (k (rangeL 0 n)) tp1 else .stuck
  | _ => .stuck
def rg2E (k : List D → D) (ma mb : SE D) : SE D := fun env tp => (ma env tp).bind fun d tp1 => (mb env tp1).bind fun e tp2 => match d, e with
  | .int m, .int n => if cRgOk m n = true then .ok (k (rangeL m n)) tp2 else .stuck
  | _, _ => .stuck
theorem gf_listRg1 {pa pb : Pos} (hm : X.mg "list" = none) (hm2 : X.mg "range" = none) (ha : GO K mg r X O E a ta ma) (hc : X.calm = true := by rfl) (hg : Gl X "list" := by rfl) (hg2 : Gl X "range" := by rfl) (na : starEach [a] X.env = (false, eval a X.env) :: starEach [] X.env := by rfl) (nb : starEach [Expr.Call (.Name "range" pa) [a] [] pb] X.env = (false, eval (Expr.Call (.Name "range" pa) [a] [] pb) X.env) :: starEach [] X.env := by rfl) :
    GF K mg r X O E (.Call (.Name "list" p) [.Call (.Name "range" pa) [a] [] pb] [] pos) (tLstRg (tRg1 ta)) (rg1E .lst ma) := by
  refine ⟨pe_listRg hc hg hm (prg_1 hg2 hm2 ha.pe na) nb, fun Hs0 H0 Hs H σ env tp Q Rl P => ?_⟩
  refine ha.snd _ _ _ _ _ _ _ _ Rl ?_
  unfold rg1E at P
  cases q : ma env tp with
  | stuck => rw [q] at P; exact P
  | exn cc fs tp1 => rw [q] at P; exact P
  | ok d tp1 =>
    rw [q] at P
    intro x Hs1 H1 g w rx
    simp only [RE.bind_ok] at P
    cases d with
    | int n =>
      have P : Post K mg r (Fresh K mg r H) E Hs H (if cRgOk 0 n = true then .ok (.lst (rangeL 0 n)) tp1 else .stuck) Q := P
      split at P
      · rename_i c
        refine ⟨n, repT_int rx, cRgOk_ok c, fun q hq => ?_⟩
        obtain ⟨a, b, c⟩ := fresh_new (o := .lst (rgV 0 n)) (d := .lst _) g w hq ⟨_, upd_same, reps_range 0 n⟩
        exact P _ _ _ a b c
      · exact P.elim
    | _ => exact P.elim
theorem gf_listRg2 {pa pb : Pos} (hm : X.mg "list" = none) (hm2 : X.mg "range" = none) (ha : GO K mg r X O E a ta ma) (hb : GO K mg r X O E b tb mb) (hc : X.calm = true := by rfl) (hg : Gl X "list" := by rfl) (hg2 : Gl X "range" := by rfl) (na : starEach [a, b] X.env = (false, eval a X.env) :: starEach [b] X.env := by rfl) (na2 : starEach [b] X.env = (false, eval b X.env) :: starEach [] X.env := by rfl)
    (hpl : (backTo pb (starEach [b] X.env)).any (·.1) = false := by rfl) (nb : starEach [Expr.Call (.Name "range" pa) [a, b] [] pb] X.env = (false, eval (Expr.Call (.Name "range" pa) [a, b] [] pb) X.env) :: starEach [] X.env := by rfl) :
    GF K mg r X O E (.Call (.Name "list" p) [.Call (.Name "range" pa) [a, b] [] pb] [] pos) (tLstRg (tRg2 ta tb)) (rg2E .lst ma mb) := by
  refine ⟨pe_listRg hc hg hm (prg_2 hg2 hm2 ha.pe hb.pe na na2 hpl) nb, fun Hs0 H0 Hs H σ env tp Q Rl P => ?_⟩
  refine ha.snd _ _ _ _ _ _ _ _ Rl ?_
  unfold rg2E at P
  cases q : ma env tp with
  | stuck => rw [q] at P; exact P
  | exn cc fs tp1 => rw [q] at P; exact P
  | ok d tp1 =>
    rw [q] at P
    intro x Hs1 H1 g w rx
    simp only [RE.bind_ok] at P
    refine hb.snd _ _ _ _ _ _ _ _ (Rl.grow g w) ?_
    cases q2 : mb env tp1 with
    | stuck => rw [q2] at P; exact P
    | exn cc fs tp1 => rw [q2] at P; exact Post.shift g P
    | ok e tp2 =>
      rw [q2] at P
      intro y Hs2 H2 g2 w2 ry
      simp only [RE.bind_ok] at P
      split at P
      · split at P
        · rename_i c
          refine ⟨_, _, repT_int rx, repT_int ry, cRgOk_ok c, fun q hq => ?_⟩
          obtain ⟨a, b, c⟩ := fresh_new (o := .lst (rgV _ _)) (d := .lst _) (g.trans g2) w2 hq ⟨_, upd_same, reps_range _ _⟩
          exact P _ _ _ a b c
        · exact P.elim
      · exact P.elim
theorem tN_len {n : Nat} {d : D} {ds : List D} (h : tN n d = some ds) : ds.length = n := by
  cases d with
  | tup xs =>
    have h : (if xs.length = n then some xs else none) = some ds := h
    split at h
    · cases h; assumption
    · cases h
  | _ => cases h
theorem def_stuck {P : Program} {w : World} {base : Heap} {x qual : Str} {params : Arguments} {body : List Stmt} {scope : Scope} {f : Addr} {fd : FuncData} {ps : List Str} {k : Nat} (F : FunD K x qual params body scope [] [] f fd) (hm : mg x = some (.ref f))
    (hb : ∀ (kV doc pm : Value) (an : Option Addr) (cdv ct : Value) (us : List Value), us.length = ps.length → bindArgs (PySem.W.fnOf x qual params body scope .none kV doc pm an cdv ct) ⟨us, []⟩ = pure (ps.zip us)) :
    DefOk P w K mg base CX0 r x k ps.length (fun _ _ => .stuck) :=
  ⟨f, fd, ps, ⟨fun vs H Q E h => by
      obtain ⟨_, _, _, _, _, _, h⟩ := h
      exact h.elim, fun A outer s H args us vs Q E hr e0 hb r h => by
      obtain ⟨_, _, _, _, _, _, h⟩ := h
      exact h.elim⟩, hm, F.kp, F.bindsN hb⟩
end
end G
set_option maxHeartbeats 1000000
namespace G
open PySem PySem.Spec PyProof.Rows L2
theorem meets_enum1 {v : Value} {o : Obj} {Ho : Heap → Prop} (B : Begins v o Ho) :
    Meets (Builtin.«enumerate.__new__» ⟨[.type "enumerate", v], []⟩) (fun _ R s => Ho s.heap ∧
      R (.ok (.ret (.ref (s.heap.push o).objs.size))) { s with heap := (s.heap.push o).push { cls := .type "enumerate", data := .fields #[.none, .bool false, .ref s.heap.objs.size, rawInt 0, .none, .none] } }) :=
  .of_wp fun prog w A R s h => by
    obtain ⟨hp, g, d, tk, os⟩ := s; obtain ⟨h1, h⟩ := h
    have hsub := sub_enumerate
    have q1 : ∀ {A' : Around} {E : Value → Shared → Prop} {Q : Value → Shared → Prop}, Q (.ref hp.objs.size) ⟨hp.push o, g, d, tk, os⟩ → wpAny (model prog w) A' (pyIter v) Q E ⟨hp, g, d, tk, os⟩ :=
      fun q => B.iter prog w _ _ ⟨hp, g, d, tk, os⟩ _ h1 q
    wp_walk using q1
    refine wpAny_stack_any fun st => wpAny_pure ?_
    split
    · rename_i c _ _ _ _ _
      cases (c == Value.type "enumerate")
      · wp_walk using q1
        exact ⟨_, rfl, h⟩
      · wp_walk using q1
        exact ⟨_, rfl, h⟩
    · wp_walk using q1
      exact ⟨_, rfl, h⟩
section
variable {prog : Program} {w : World} {A : Around} {E : Value → Shared → Prop} {s : Shared}
theorem call_enum1 {v : Value} {o : Obj} {Ho : Heap → Prop} {Q : Value → Shared → Prop} (B : Begins v o Ho) (h1 : Ho s.heap)
    (h : ∀ h', IsEnum h' (s.heap.objs.size + 1) s.heap.objs.size 0 .none → h'.get? s.heap.objs.size = some o → h'.objs.size = s.heap.objs.size + 2 →
      (∀ b o, s.heap.get? b = some o → h'.get? b = some o) → Q (.ref (s.heap.objs.size + 1)) { s with heap := h' }) :
    wpAny (model prog w) A (call (.type "enumerate") [v]) Q E s := by
  refine callType_new F.called_enumerate (by decide) (F.typeCall_enumerate_1 _) (F.newCall_enumerate_1 _) (fun obj => F.args_object_init_2 obj _) F.entry_enumerate_new
    (meets_enum1 B) ⟨h1, ?_⟩
  have hz : (s.heap.push o).objs.size = s.heap.objs.size + 1 := Heap.size_push ..
  show _ ∧ _
  rw [hz]
  have he : IsEnum ((s.heap.push o).push { cls := .type "enumerate", data := .fields #[.none, .bool false, .ref s.heap.objs.size, rawInt 0, .none, .none] }) (s.heap.objs.size + 1) s.heap.objs.size 0 .none := by
    have := Heap.get?_push_size (s.heap.push o) (o := { cls := .type "enumerate", data := .fields #[.none, .bool false, .ref s.heap.objs.size, rawInt 0, .none, .none] }) rfl
    rw [hz] at this; exact this
  refine ⟨⟨_, he, rfl⟩, h _ he (Heap.get?_push_of_some _ (Heap.get?_push_size _ B.free)) (by rw [Heap.size_push, hz]) fun b o x => Heap.get?_push_of_some _ (Heap.get?_push_of_some _ x)⟩
end
/-- the items of what a Draws tells, numbered; V's items by Pv -/
def IteD (n : Nat) (Gd : Hp → Prop) (Pv : Nat → Hp → V → Prop) : It :=
  ⟨fun i H => i < n ∧ Gd H, fun i H v H' => ∃ T x, v = .ref T ∧ H T = none ∧ H' = upd H T (.tup [.int (i : Nat), x]) ∧ Pv i H x, fun i H => i = n ∧ Gd H⟩
theorem turn_enumS {P : Program} {w : World} {K : PySem.W.Frag} {elts : List Expr} {kk : Nat} {tpos : Pos} (e it : Addr) (z : Str) (t : Tok) :
    Turn P w K (.Tuple elts kk tpos) (IteD z.cps.size (fun _ => True) (fun i _ x => ∃ c, z.cps[i]? = some c ∧ x = .str ⟨#[c]⟩)) [e, it] e (fun i h => (∃ old, IsEnum h e it ((i : Nat) : Int) old) ∧ h.IsStrIter it (strIterType z) z t i ∧ e ≠ it) where
  mem := by simp
  obj := fun i h st b hb => by
    obtain ⟨⟨old, he⟩, ⟨o, ho, hc, hd⟩, _⟩ := st
    have e' : b = e ∨ b = it := by simpa using hb
    rcases e' with z | z
    · rw [z]; exact ⟨_, he, fun v q => nomatch q⟩
    · rw [z]; exact ⟨o, ho, fun v q => by rw [hd] at q; cases q⟩
  keep := fun i h h' st k => by
    obtain ⟨⟨old, he⟩, ⟨o, ho, r⟩, hne⟩ := st
    exact ⟨⟨old, k e (by simp) _ he⟩, ⟨o, k it (by simp) o ho, r⟩, hne⟩
  item := by
    intro X hP hw hK hc i pins s σ H E I hf st hg
    subst hP hw hK
    obtain ⟨⟨old, he⟩, hit, hne⟩ := st
    have hel : e < s.heap.objs.size := Heap.lt_size he
    have hil : it < s.heap.objs.size := by obtain ⟨_, q, _⟩ := hit; exact Heap.lt_size q
    refine wpAny_pyNext_enum_itemD (Draws.text (A := X.A.in1) (I.ok.hd hc) it z t) he hit hg.1 hne (by simp [hne]) fun v h' tk hv ho hit' hT hsz hk => ?_
    obtain ⟨c, u, hcx, rfl⟩ := hv
    refine ⟨_, rfl, wpAny_letOwnedTupleGo_enum (s := { s with heap := h', toks := tk + 1 }) ho fun h'' he' sb => ?_⟩
    have hT2 : h''.get? s.heap.objs.size = some { cls := .type "tuple", data := .seq #[.int i tk, .str ⟨#[c]⟩ u] } := (sb.2 _ (Nat.ne_of_gt hel)).trans hT
    have new : ObjOk X.prog X.w (upd H s.heap.objs.size (.tup [.int (i : Nat), .str ⟨#[c]⟩])) h'' s.heap.objs.size (.tup [.int (i : Nat), .str ⟨#[c]⟩]) :=
      ⟨by show 2 ≤ sizeLine; decide, [.int i tk, .str ⟨#[c]⟩ u], .cons ⟨_, rfl⟩ (.cons ⟨_, rfl⟩ .nil), ⟨_, hT2, rfl, _, rfl⟩⟩
    have I1 : Inv X pins σ (upd H s.heap.objs.size (.tup [.int (i : Nat), .str ⟨#[c]⟩])) { s with heap := h'', toks := tk + 1 } :=
      I.turnedNew (ch := [e, it]) (fun b ob hb q => (sb.2 b (fun z => hb (by simp [z]))).trans (hk b ob (fun z => hb (by simp [z])) (fun z => hb (by simp [z])) q)) hf (Nat.le_refl _) new
    refine ⟨.ref s.heap.objs.size, _, I1, rfl, ⟨_, _, rfl, I.hok.fresh (Nat.le_refl _), rfl, c, hcx, rfl⟩, ⟨⟨.str ⟨#[c]⟩ u, ?_⟩, ?_, hne⟩, fun b hb => ?_⟩
    · have e1 : ((i + 1 : Nat) : Int) = (i : Int) + 1 := by omega
      rw [e1]; exact he'
    · obtain ⟨o, q, r⟩ := hit'
      exact ⟨o, (sb.2 it (Ne.symm hne)).trans q, r⟩
    · have hb' : b < s.heap.objs.size := by
        have e' : b = e ∨ b = it := by simpa using hb
        rcases e' with z | z
        · rw [z]; exact hel
        · rw [z]; exact hil
      rw [upd_ne (Nat.ne_of_lt hb')]
      exact (hf b hb).1
  done := by
    intro X hP hw hK hc i pins s σ H E I hf st hg
    subst hP hw hK
    obtain ⟨⟨old, he⟩, hit, hne⟩ := st
    obtain ⟨f0, f1, f2, f3, f4, f5⟩ := hf it (by simp)
    obtain ⟨rfl, _⟩ := hg
    exact wpAny_pyNext_enum_endD (Draws.text (A := X.A.in1) (I.ok.hd hc) it z t) he hit fun h' eb => ⟨rfl, I.turned (t' := s.toks) (fun b o hb q => eb b o hb q) f0 f1 f3 f4 f5⟩
  self := fun A i s Q E st h => let ⟨⟨_, he⟩, _⟩ := st; wpAny_pyIter_enum he h
theorem turn_enumT {P : Program} {w : World} {K : PySem.W.Frag} {elts : List Expr} {kk : Nat} {tpos : Pos} (e it a : Addr) (xs : List V) :
    Turn P w K (.Tuple elts kk tpos) (IteD xs.length (fun H => SqT K H a xs) (fun i _ x => xs[i]? = some x)) [e, it] e (fun i h => (∃ old, IsEnum h e it ((i : Nat) : Int) old) ∧ h.IsTupleIter it a i ∧ e ≠ it) where
  mem := by simp
  obj := fun i h st b hb => by
    obtain ⟨⟨old, he⟩, ⟨o, ho, hc, hd⟩, _⟩ := st
    have e' : b = e ∨ b = it := by simpa using hb
    rcases e' with z | z
    · rw [z]; exact ⟨_, he, fun v q => nomatch q⟩
    · rw [z]; exact ⟨o, ho, fun v q => by rw [hd] at q; cases q⟩
  keep := fun i h h' st k => by
    obtain ⟨⟨old, he⟩, hi, hne⟩ := st
    exact ⟨⟨old, k e (by simp) _ he⟩, hi.at fun o q => k it (by simp) o q, hne⟩
  item := by
    intro X hP hw hK hc i pins s σ H E I hf st hg
    subst hP hw hK
    obtain ⟨⟨old, he⟩, hit, hne⟩ := st
    obtain ⟨hi, hq⟩ := hg
    obtain ⟨its, rv, p, hz⟩ := I.tuple hq
    have hel : e < s.heap.objs.size := Heap.lt_size he
    have hil : it < s.heap.objs.size := by obtain ⟨_, q, _⟩ := hit; exact Heap.lt_size q
    have hea : e ≠ a := by
      rintro rfl
      obtain ⟨o, q1, q2, _⟩ := id p
      rw [show s.heap.get? e = _ from he] at q1
      cases q1
      have q2' : (Value.type "enumerate") = .type "tuple" := q2
      exact absurd q2' (by decide)
    have hia : a ≠ it := by
      rintro rfl
      obtain ⟨o, q1, q2, _⟩ := id p
      obtain ⟨o', q3, q4, _⟩ := id hit
      rw [q1] at q3
      cases q3
      rw [q2] at q4
      exact absurd q4 (by decide)
    have hl : its.toArray.size = xs.length := by rw [List.size_toArray]; exact rv.length.symm
    refine wpAny_pyNext_enum_itemD (Draws.tuple (A := X.A.in1) (I.ok.hd hc) it a hia its.toArray) he ⟨hit, p⟩ (by rw [hl]; exact hi) hne (by simp [hne, hea]) fun v h' tk hv ho hit' hT hsz hk => ?_
    obtain ⟨x, hx⟩ : ∃ x, xs[i]? = some x := ⟨xs[i], List.getElem?_eq_getElem hi⟩
    obtain ⟨u, hu, ru⟩ := rv.get hx
    have ev : v = u := by
      have hv' : its[i]? = some v := by simpa using hv
      rw [hu] at hv'
      exact (Option.some.inj hv').symm
    subst ev
    refine ⟨_, rfl, wpAny_letOwnedTupleGo_enum (s := { s with heap := h', toks := tk + 1 }) ho fun h'' he' sb => ?_⟩
    have hT2 : h''.get? s.heap.objs.size = some { cls := .type "tuple", data := .seq #[.int i tk, v] } := (sb.2 _ (Nat.ne_of_gt hel)).trans hT
    have new : ObjOk X.prog X.w (upd H s.heap.objs.size (.tup [.int (i : Nat), x])) h'' s.heap.objs.size (.tup [.int (i : Nat), x]) :=
      ⟨by show 2 ≤ sizeLine; decide, [.int i tk, v], .cons ⟨_, rfl⟩ (.cons ru .nil), ⟨_, hT2, rfl, _, rfl⟩⟩
    have I1 : Inv X pins σ (upd H s.heap.objs.size (.tup [.int (i : Nat), x])) { s with heap := h'', toks := tk + 1 } :=
      I.turnedNew (ch := [e, it]) (fun b ob hb q => (sb.2 b (fun z => hb (by simp [z]))).trans (hk b ob (fun z => hb (by simp [z])) (fun z => hb (by simp [z])) q)) hf (Nat.le_refl _) new
    refine ⟨.ref s.heap.objs.size, _, I1, rfl, ⟨_, _, rfl, I.hok.fresh (Nat.le_refl _), rfl, hx⟩, ⟨⟨v, ?_⟩, ?_, hne⟩, fun b hb => ?_⟩
    · have e1 : ((i + 1 : Nat) : Int) = (i : Int) + 1 := by omega
      rw [e1]; exact he'
    · exact hit'.1.at fun o q => (sb.2 it (Ne.symm hne)).trans q
    · have hb' : b < s.heap.objs.size := by
        have e' : b = e ∨ b = it := by simpa using hb
        rcases e' with z | z
        · rw [z]; exact hel
        · rw [z]; exact hil
      rw [upd_ne (Nat.ne_of_lt hb')]
      exact (hf b hb).1
  done := by
    intro X hP hw hK hc i pins s σ H E I hf st hg
    subst hP hw hK
    obtain ⟨⟨old, he⟩, hit, hne⟩ := st
    obtain ⟨rfl, hq⟩ := hg
    obtain ⟨its, rv, p, hz⟩ := I.tuple hq
    have hia : a ≠ it := by
      rintro rfl
      obtain ⟨o, q1, q2, _⟩ := id p
      obtain ⟨o', q3, q4, _⟩ := id hit
      rw [q1] at q3
      cases q3
      rw [q2] at q4
      exact absurd q4 (by decide)
    have hl : its.toArray.size = xs.length := by rw [List.size_toArray]; exact rv.length.symm
    obtain ⟨f0, f1, f2, f3, f4, f5⟩ := hf it (by simp)
    exact wpAny_pyNext_enum_endD (Draws.tuple (A := X.A.in1) (I.ok.hd hc) it a hia its.toArray) he ⟨by rw [hl]; exact hit, p⟩ fun h' eb => ⟨rfl, I.turned (t' := s.toks) (fun b o hb q => eb b o hb q) f0 f1 f3 f4 f5⟩
  self := fun A i s Q E st h => let ⟨⟨_, he⟩, _⟩ := st; wpAny_pyIter_enum he h
def iEnumA (K : PySem.W.Frag) (ta : TA) : TI := fun σ H R => ta σ H fun vs H1 => (∃ a xs, vs = [.ref a] ∧ SqT K H1 a xs ∧ R (IteD xs.length (fun H => SqT K H a xs) (fun i _ x => xs[i]? = some x)) H1) ∨ (∃ z, vs = [.str z] ∧ R (IteD z.cps.size (fun _ => True) (fun i _ x => ∃ c, z.cps[i]? = some c ∧ x = .str ⟨#[c]⟩)) H1) ∨ ∃ a xs, vs = [.ref a] ∧ SqL K H1 a xs ∧ R (Ite K a) H1
theorem pi_enumA {X : Cx} {e : Expr} {ta : TA} {p pos tpos : Pos} {elts : List Expr} {kk : Nat} (hg : Gl X "enumerate") (hm : X.mg "enumerate" = none) (ha : PA X [e] ta) (hs : starEach [e] X.env = [(false, eval e X.env)] := by rfl) :
    PI X (.Tuple elts kk tpos) (.Call (.Name "enumerate" p) [e] [] pos) (iEnumA X.K ta) := by
  refine ⟨fun pins s σ H R I h => ?_⟩
  refine Call_ (ld_blt I hg hm boot_enumerate (PyProof.Rows.callWith_type1 (thn (ha.run pos pins s σ H _ I h) fun us s1 ⟨vs, H1, I1, r1, q1⟩ => ?_) hs rfl))
  have fin : ∀ b, b ∈ [s1.heap.objs.size + 1, s1.heap.objs.size] → FpOk X pins H1 b := fun b hb => by
    have e' : b = s1.heap.objs.size + 1 ∨ b = s1.heap.objs.size := by simpa using hb
    have hle : s1.heap.objs.size ≤ b := by
      rcases e' with z | z
      · rw [z]; exact Nat.le_add_right _ _
      · rw [z]; exact Nat.le_refl _
    exact I1.fpOk hle (I1.hok.fresh hle)
  rcases q1 with ⟨a, xs, ex, hq, q⟩ | ⟨z, ex, q⟩ | ⟨a, xs, ex, hq, q⟩
  · subst ex
    cases r1 with
    | cons r rr =>
      cases rr
      cases r
      obtain ⟨its, rv, p', hz⟩ := I1.tuple hq
      refine call_enum1 (begins_tuple a its.toArray) p' fun h' he hit hsz hk => wpAny_pyIter_enum he ?_
      have I2 : Inv X pins σ H1 { s1 with heap := h' } := I1.kept (t' := s1.toks) hk
      exact ⟨s1.heap.objs.size + 1, [s1.heap.objs.size + 1, s1.heap.objs.size], _, _, H1, rfl, I2, turn_enumT (s1.heap.objs.size + 1) s1.heap.objs.size a xs, ⟨⟨.none, he⟩, ⟨_, hit, rfl, rfl⟩, Nat.succ_ne_self _⟩, fin, q⟩
  · subst ex
    cases r1 with
    | cons r rr =>
      cases rr
      obtain ⟨t, rfl⟩ := r
      refine call_enum1 (begins_text z t) trivial fun h' he hit hsz hk => wpAny_pyIter_enum he ?_
      have I2 : Inv X pins σ H1 { s1 with heap := h' } := I1.kept (t' := s1.toks) hk
      exact ⟨s1.heap.objs.size + 1, [s1.heap.objs.size + 1, s1.heap.objs.size], _, _, H1, rfl, I2, turn_enumS (s1.heap.objs.size + 1) s1.heap.objs.size z t, ⟨⟨.none, he⟩, ⟨_, hit, rfl, rfl⟩, Nat.succ_ne_self _⟩, fin, q⟩
  · subst ex
    cases r1 with
    | cons r rr =>
      cases rr
      cases r
      obtain ⟨its, rv, p', hz⟩ := I1.list hq
      refine call_enumerate_list p'.isList fun h' he hit hsz hk => wpAny_pyIter_enum he ?_
      have I2 : Inv X pins σ H1 { s1 with heap := h' } := I1.kept (t' := s1.toks) hk
      exact ⟨s1.heap.objs.size + 1, [s1.heap.objs.size + 1, s1.heap.objs.size], _, _, H1, rfl, I2, turn_enum a (s1.heap.objs.size + 1) s1.heap.objs.size, ⟨⟨.none, he⟩, hit, Nat.succ_ne_self _⟩, fin, q⟩
section
variable {r : Addr} {X : Cx} {K : PySem.W.Frag} {mg : Str → Option Value} {O : List Nat} {E : XK} {e : Expr} {ts : TA}
def numD (xs : List D) : List D := xs.mapIdx fun i x => .tup [.int (i : Int), x]
def enumD : List D → Option (List D)
  | [d] => (seqD d).map numD
  | _ => none
theorem numD_len (xs : List D) : (numD xs).length = xs.length := by unfold numD; simp
theorem numD_get {xs : List D} {i : Nat} {x : D} (h : xs[i]? = some x) : (numD xs)[i]? = some (.tup [.int (i : Int), x]) := by
  unfold numD; rw [List.getElem?_mapIdx, h]; rfl
theorem walks_pair {J : It} {Hs1 : Hp} {ds : List D} {Gd : Hp → Prop} {Y : Nat → Hp → V → Hp → Prop} (wk : Walk J ds.length Gd Y) (hG : ∀ Hs H, Same Hs1 Hs → Same Hs H → Gd H)
    (hY : ∀ i Hs H v H', i < ds.length → Same Hs1 Hs → Same Hs H → Y i H v H' → ∃ T x d, v = .ref T ∧ H T = none ∧ H' = upd H T (.tup [.int (i : Nat), x]) ∧ ds[i]? = some d ∧ RepD K mg r Hs x d) : WalksD K mg r J Hs1 (numD ds) := by
  refine ⟨Gd, Y, by rw [numD_len]; exact wk, hG, fun i Hs H tp v H' hi e w y => ?_⟩
  rw [numD_len] at hi
  obtain ⟨T, x, d, rfl, hT, rfl, hd, hx⟩ := hY i Hs H v H' hi e w.sub y
  obtain ⟨g', w'⟩ := w.alloc (o := .tup [.int (i : Nat), x]) hT
  exact ⟨_, _, g', w', numD_get hd, .tup upd_same (.cons (.int _) (.cons (hx.mono g'.ex) .nil))⟩
theorem enumD_ok {ds items : List D} (h : enumD ds = some items) : ∃ d xs, ds = [d] ∧ seqD d = some xs ∧ items = numD xs := by
  match ds, h with
  | [d], h =>
    obtain ⟨xs, h1, h2⟩ := Option.map_eq_some_iff.mp h
    exact ⟨d, xs, rfl, h1, h2.symm⟩
theorem gi_enum {p tpos : Pos} {pos : Pos} {elts : List Expr} {kk : Nat} {m : SE (List D)} (hm : X.mg "enumerate" = none) (h : GA K mg r X O E [e] ts m) (hg : Gl X "enumerate" := by rfl) (hs : starEach [e] X.env = [(false, eval e X.env)] := by rfl) (hK : X.K = K := by rfl) :
    GI K mg r X O E (.Tuple elts kk tpos) (.Call (.Name "enumerate" p) [e] [] pos) (iEnumA K ts) (rangeI enumD m) := by
  subst hK
  refine ⟨pi_enumA hg hm h.pe hs, fun Hs0 H0 Hs H σ env tp Q R P => ?_⟩
  refine h.snd _ _ _ _ _ _ _ _ R (Post.bind P fun vs Hs1 H1 ds tp1 _ g w rv P1 => ?_)
  obtain ⟨items, hz, k⟩ := Post.ok_of P1
  obtain ⟨d, xs, rfl, h1, rfl⟩ := enumD_ok hz
  cases rv with
  | cons rx rr =>
    cases rr
    cases d with
    | lst ys =>
      cases h1
      cases rx with
      | lst q1 q2 =>
        rename_i a vs
        refine .inr (.inr ⟨a, vs, rfl, .of (w.sub _ _ q1).lst, k _ Hs1 H1 (Grow.refl _ _) w ?_⟩)
        refine walks_pair (Gd := fun H => SqL X.K H a vs) (Y := fun i H v H' => ∃ T x, v = .ref T ∧ H T = none ∧ H' = upd H T (.tup [.int (i : Nat), x]) ∧ vs[i]? = some x) ?_ (fun Hs H e1 e2 => (e1.trans e2).seq (.of q1)) fun i Hs H v H' hi e e2 y => ?_
        · rw [← q2.length]
          exact ⟨fun i H hi q => ⟨vs, vs[i], q, List.getElem?_eq_getElem hi⟩, fun H q => ⟨vs, q, Nat.le_refl _⟩, fun i H x H' hi q y => by
            obtain ⟨T, z, h1, h2, h3, h4⟩ := y
            exact ⟨T, z, h1, h2, h3, h4 vs q⟩⟩
        · obtain ⟨T, x, h1, h2, h3, h4⟩ := y
          obtain ⟨d, h5, h6⟩ := q2.get h4
          exact ⟨T, x, d, h1, h2, h3, h5, h6.mono e⟩
    | tup ys =>
      cases h1
      cases rx with
      | tup q1 q2 =>
        rename_i a vs
        refine .inl ⟨a, vs, rfl, .of (w.sub _ _ q1).tup, k _ Hs1 H1 (Grow.refl _ _) w ?_⟩
        refine walks_pair (Gd := fun H => SqT X.K H a vs) (Y := fun i H v H' => ∃ T x, v = .ref T ∧ H T = none ∧ H' = upd H T (.tup [.int (i : Nat), x]) ∧ vs[i]? = some x) ?_ (fun Hs H e1 e2 => (e1.trans e2).sqt (.of q1)) fun i Hs H v H' hi e e2 y => ?_
        · rw [← q2.length]
          exact ⟨fun i H hi q => ⟨hi, q⟩, fun H q => ⟨rfl, q⟩, fun i H x H' hi q y => y⟩
        · obtain ⟨T, x, h1, h2, h3, h4⟩ := y
          obtain ⟨d, h5, h6⟩ := q2.get h4
          exact ⟨T, x, d, h1, h2, h3, h5, h6.mono e⟩
    | scr ns =>
      cases h1
      cases rx with
      | scr q1 =>
        rename_i a
        refine .inr (.inr ⟨a, ns.map V.int, rfl, Same.seq w.sub q1, k _ Hs1 H1 (Grow.refl _ _) w ?_⟩)
        refine walks_pair (Gd := fun H => SqL X.K H a (ns.map V.int)) (Y := fun i H v H' => ∃ T x, v = .ref T ∧ H T = none ∧ H' = upd H T (.tup [.int (i : Nat), x]) ∧ (ns.map V.int)[i]? = some x) ?_ (fun Hs H e1 e2 => Same.seq e2 (Same.seq e1 q1)) fun i Hs H v H' hi e e2 y => ?_
        · rw [List.length_map]
          exact ⟨fun i H hi q => ⟨ns.map V.int, .int ns[i], q, by rw [List.getElem?_map, List.getElem?_eq_getElem hi]; rfl⟩, fun H q => ⟨ns.map V.int, q, by rw [List.length_map]; exact Nat.le_refl _⟩, fun i H x H' hi q y => by
            obtain ⟨T, z, h1, h2, h3, h4⟩ := y
            exact ⟨T, z, h1, h2, h3, h4 _ q⟩⟩
        · obtain ⟨T, x, h1, h2, h3, h4⟩ := y
          rw [List.getElem?_map] at h4
          obtain ⟨n, h5, rfl⟩ := Option.map_eq_some_iff.mp h4
          exact ⟨T, _, .int n, h1, h2, h3, by rw [List.getElem?_map, h5]; rfl, .int _⟩
    | str s =>
      cases h1
      cases rx
      refine .inr (.inl ⟨s, rfl, k _ Hs1 H1 (Grow.refl _ _) w ?_⟩)
      refine walks_pair (Gd := fun _ => True) (Y := fun i H v H' => ∃ T x, v = .ref T ∧ H T = none ∧ H' = upd H T (.tup [.int (i : Nat), x]) ∧ ∃ c, s.cps[i]? = some c ∧ x = .str ⟨#[c]⟩) ?_ (fun _ _ _ _ => trivial) fun i Hs H v H' hi e e2 y => ?_
      · rw [List.length_map, Array.length_toList]
        exact ⟨fun _ _ hi _ => ⟨hi, trivial⟩, fun _ _ => ⟨rfl, trivial⟩, fun _ _ _ _ _ _ y => y⟩
      · obtain ⟨T, x, rfl, hT, rfl, c, hc, rfl⟩ := y
        exact ⟨T, _, .str ⟨#[c]⟩, rfl, hT, rfl, by rw [List.getElem?_map, Array.getElem?_toList, hc]; rfl, .str _⟩
    | _ => cases h1
end
end G
set_option maxHeartbeats 1000000
namespace SrtT
open PySem PySem.Spec PyProof.Rows SrtO
section
variable {prog : Program} {w : World} {A : Around} {E : Value → Shared → Prop} {s : Shared}
theorem collect_tuple {l : Addr} {vs : List Value} {Q : List Value → Shared → Prop} (hl : s.heap.IsTuple l vs.toArray)
    (h : Q vs { s with heap := (s.heap.push (seqObj "list" #[] 0)).update s.heap.objs.size (Obj.mapSeq (· ++ vs.toArray)) }) (hsz : vs.length ≤ sizeLine) :
    wpAny (model prog w) A (collect (.ref l)) Q E s := by
  obtain ⟨o, ho, hc, n, hd⟩ := id hl
  unfold collect
  refine wpAny_bind (wpAny_runValue (codeAny_builtin entry_proto_collect' ?_))
  show wpAny _ _ (do again (.builtin "list.__iadd__" ⟨[← newList [], .ref l], []⟩)) _ _ s
  refine wpAny_bind (wpAny_newList (wpAny_pure ⟨Code.quiet_builtin _ (by decide +kernel), codeAny_builtin entry_list_iadd' ?_⟩))
  show wpAny _ _ (Builtin.List.listExtendWith (.ref s.heap.objs.size) (.ref l) (.ref s.heap.objs.size)) _ _ { s with heap := s.heap.push (seqObj "list" #[] 0) }
  unfold Builtin.List.listExtendWith
  have ho' : (s.heap.push (seqObj "list" #[] 0)).get? l = some o := Heap.get?_push_of_some _ ho
  refine wpAny_bind (wpAny_typeOf (T := "tuple") ⟨o, ho', hc⟩ ?_)
  have ht : (Value.type "tuple" == Value.type "tuple") = true := by rfl
  rw [if_pos (by rw [ht]; simp)]
  refine wpAny_bind (listItems_at ho' hd ?_)
  refine wpAny_bind (listItems_at (xs := #[]) (n := 0) (Heap.get?_push_size _ rfl) rfl ?_)
  rw [if_neg (by simp)]
  refine wpAny_bind (listUpdate_at (xs := #[]) (n := 0) (Heap.get?_push_size _ rfl) rfl ?_ (Nat.zero_le _) (by show (#[] ++ vs.toArray).size ≤ sizeLine + 1; simp only [Array.size_append, List.size_toArray, List.length_nil]; omega))
  refine wpAny_pure ?_
  show wpAny (model prog w) A (do
      let o ← load s.heap.objs.size
      match o.data with
      | .seq xs _ => pure xs.toList
      | _ => unsupported "internal:collect") Q E { s with heap := (s.heap.push (seqObj "list" #[] 0)).update s.heap.objs.size (Obj.mapSeq (· ++ vs.toArray)) }
  refine wpAny_bind (wpAny_load (get?_update_seq (Heap.get?_push_size _ rfl) _) ?_)
  show wpAny _ _ (pure ((#[] : Array Value) ++ vs.toArray).toList) Q E _
  rw [show ((#[] : Array Value) ++ vs.toArray).toList = vs by simp]
  exact wpAny_pure h
theorem sorted_ordT {l : Addr} {vs : List Value} {ltv : Value → Value → Bool} {Q : Value → Shared → Prop} (O : Swo ltv) (hl : s.heap.IsTuple l vs.toArray) (hz : vs.length ≤ sizeLine)
    (hS : 2 ≤ vs.length → ∀ (h₁ : Heap) (a : Addr), h₁.get? a = some (seqObj "list" vs.toArray 0) → (∀ b o, s.heap.get? b = some o → b ≠ a ∧ h₁.get? b = some o) → SortableO prog w A.in1.in1 { s with heap := h₁ } a vs ltv)
    (h : ∀ out : List Value, Srtd ltv out → Stb ltv out vs → Q (.ref (s.heap.objs.size + 1)) { s with heap := sortedAll s.heap vs out.toArray }) :
    wpAny (model prog w) A (call (.builtin "sorted") [.ref l]) Q E s := by
  refine Calls.call_function_entry kind_sorted plain_sorted entry_sorted (args_sorted1 _) ?_
  unfold Builtin.«sorted»
  refine wpAny_bind (m := checkCount "sorted" 1 1 _) (wpAny_pure ?_)
  refine wpAny_bind (collect_tuple hl ?_ hz)
  refine wpAny_bind (wpAny_newList ?_ hz)
  have hsz : ((s.heap.push (seqObj "list" #[] 0)).update s.heap.objs.size (Obj.mapSeq (· ++ vs.toArray))).objs.size = s.heap.objs.size + 1 := by
    rw [Heap.size_update, size_push']
  have hoL : (((s.heap.push (seqObj "list" #[] 0)).update s.heap.objs.size (Obj.mapSeq (· ++ vs.toArray))).push (seqObj "list" vs.toArray 0)).get? (s.heap.objs.size + 1) = some (seqObj "list" vs.toArray 0) := by
    rw [← hsz]; exact Heap.get?_push_size _ rfl
  have keep : ∀ b o, s.heap.get? b = some o → b ≠ s.heap.objs.size + 1 ∧ (((s.heap.push (seqObj "list" #[] 0)).update s.heap.objs.size (Obj.mapSeq (· ++ vs.toArray))).push (seqObj "list" vs.toArray 0)).get? b = some o := fun b o q => by
    have hlt : b < s.heap.objs.size := Heap.lt_size q
    refine ⟨Nat.ne_of_lt (Nat.lt_succ_of_lt hlt), Heap.get?_push_of_some _ ?_⟩
    rw [Heap.get?_update_ne _ _ _ _ (Nat.ne_of_lt hlt)]
    exact Heap.get?_push_of_some _ q
  show wpAny _ _ _ _ _ { s with heap := ((s.heap.push (seqObj "list" #[] 0)).update s.heap.objs.size (Obj.mapSeq (· ++ vs.toArray))).push (seqObj "list" vs.toArray 0) }
  rw [hsz]
  refine wpAny_bind (wpAny_holding (wpAny_call_entry slot_list_sort ⟨_, hoL, rfl⟩ entry_list_sort (list_sort_ord O hoL hz (fun h2 => hS h2 _ _ hoL keep) fun out hs hb => ⟨_, rfl, ?_⟩) (args_list_sort _)))
  exact wpAny_pure ⟨_, rfl, h out hs hb⟩
end
end SrtT
namespace G
open PySem PySem.Spec PyProof.Rows L2
def rSortedA (K : PySem.W.Frag) : List V → Hp → VK → Prop := fun vs H Q => ∃ (a : Addr) (ns : List Int), vs = [V.ref a] ∧ SqT K H a (ns.map V.int) ∧
  ∀ (ns' : List Int) (p : Addr), ns'.Perm ns → ns'.Pairwise (· ≤ ·) → H p = none → Q (.ref p) (upd H p (.lst (ns'.map V.int)))
theorem cr_sortedA {X : Cx} : CallR X (.builtin "sorted") (rSortedA X.K) := by
  intro pins s σ H vs us Q I r h
  obtain ⟨a, ns, rfl, hs, q⟩ := h
  obtain ⟨its, rv, hl, hz⟩ := I.tuple hs
  rw [Vals.ref1 r]
  have hi := rv.ints
  refine SrtT.sorted_ordT SrtO.swo_int hl (by rw [← rv.length]; exact hz) (fun h2 h₁ a' _ _ => SrtO.ints_sortable hi h2) fun out h1 h2 => ?_
  obtain ⟨k1, k2, k3⟩ := SrtO.ints_out hi h1 h2
  obtain ⟨ep, he'⟩ := PyProof.Rows.sortedAll_at s.heap its out.toArray
  have hlen : ((out.map SrtO.iv).map V.int).length ≤ sizeLine := by
    rw [List.length_map, k2.length_eq]
    rw [List.length_map] at hz
    exact hz
  exact ⟨.ref _, upd H (s.heap.objs.size + 1) (.lst ((out.map SrtO.iv).map V.int)), I.laid (t' := s.toks) (fun _ _ => PyProof.Rows.sortedAll_old) (Nat.le_succ _) ⟨hlen, out, ep, vals_of_ints k1, he'⟩, rfl, q _ _ k2 k3 (I.hok.fresh (Nat.le_succ _))⟩
theorem crr_or {X : Cx} {f : Value} {r1 r2 : List V → Hp → VK → Prop} (h1 : CallR X f r1) (h2 : CallR X f r2) : CallR X f (fun vs H Q => r1 vs H Q ∨ r2 vs H Q) := by
  intro pins s σ H vs us Q I r h
  rcases h with h | h
  · exact h1 pins s σ H vs us Q I r h
  · exact h2 pins s σ H vs us Q I r h
abbrev rSortedB (K : PySem.W.Frag) : List V → Hp → VK → Prop := fun vs H Q => rSortedI K vs H Q ∨ rSortedA K vs H Q
/-- ints in order -/
def insI (x : Int) : List Int → List Int
  | [] => [x]
  | y :: ys => if x ≤ y then x :: y :: ys else y :: insI x ys
def sortI : List Int → List Int
  | [] => []
  | x :: xs => insI x (sortI xs)
theorem insI_perm (x : Int) : ∀ ys, (insI x ys).Perm (x :: ys)
  | [] => .refl _
  | y :: ys => by
    unfold insI
    split
    · exact .refl _
    · exact ((insI_perm x ys).cons y).trans (.swap _ _ _)
theorem sortI_perm : ∀ xs, (sortI xs).Perm xs
  | [] => .refl _
  | x :: xs => (insI_perm x _).trans ((sortI_perm xs).cons x)
theorem insI_sorted (x : Int) : ∀ {ys : List Int}, ys.Pairwise (· ≤ ·) → (insI x ys).Pairwise (· ≤ ·)
  | [], _ => List.pairwise_singleton _ _
  | y :: ys, h => by
    unfold insI
    have h' := List.pairwise_cons.mp h
    split
    · rename_i c
      exact List.pairwise_cons.mpr ⟨fun z hz => (List.mem_cons.mp hz).elim (fun e => e ▸ c) (fun q => Int.le_trans c (h'.1 z q)), h⟩
    · rename_i c
      refine List.pairwise_cons.mpr ⟨fun z hz => ?_, insI_sorted x h'.2⟩
      rcases List.mem_cons.mp ((insI_perm x ys).mem_iff.mp hz) with e | q
      · subst e; omega
      · exact h'.1 z q
theorem sortI_sorted : ∀ xs, (sortI xs).Pairwise (· ≤ ·)
  | [] => .nil
  | x :: xs => insI_sorted x (sortI_sorted xs)
theorem sorted_unique : ∀ {xs ys : List Int}, xs.Perm ys → xs.Pairwise (· ≤ ·) → ys.Pairwise (· ≤ ·) → xs = ys
  | [], ys, p, _, _ => p.nil_eq
  | x :: xs, [], p, _, _ => absurd p.symm.nil_eq (by simp)
  | x :: xs, y :: ys, p, h1, h2 => by
    have h1' := List.pairwise_cons.mp h1
    have h2' := List.pairwise_cons.mp h2
    have e : x = y := by
      have a : x ∈ y :: ys := p.mem_iff.mp List.mem_cons_self
      have b : y ∈ x :: xs := p.mem_iff.mpr List.mem_cons_self
      rcases List.mem_cons.mp a with e | a
      · exact e
      rcases List.mem_cons.mp b with e | b
      · exact e.symm
      have := h1'.1 y b
      have := h2'.1 x a
      omega
    subst e
    rw [sorted_unique (List.Perm.cons_inv p) h1'.2 h2'.2]
section
variable {r : Addr} {X : Cx} {K : PySem.W.Frag} {mg : Str → Option Value} {O : List Nat} {E : XK} {e a : Expr} {ts : TA} {ta : TE} {p pos : Pos} {ms : SE (List D)} {ma : SE D}
def sortD : List D → Option D
  | [.lst xs] => (unI xs).map fun ns => .lst ((sortI ns).map .int)
  | [.scr ns] => some (.lst ((sortI ns).map .int))
  | [.tup xs] => (unI xs).map fun ns => .lst ((sortI ns).map .int)
  | _ => none
theorem gf_sorted (hm : X.mg "sorted" = none) (ha : GAO K mg r X O E [e] ts ms) (hg : Gl X "sorted" := by rfl) (he : starEach [e] X.env = (false, eval e X.env) :: starEach [] X.env := by rfl) (hpl : (backTo pos (starEach [] X.env)).any (·.1) = false := by rfl) (hK : X.K = K := by rfl) : GF K mg r X O E (.Call (.Name "sorted" p) [e] [] pos) (tCB (rSortedB K) ts) (callB sortD ms) := by
  subst hK
  refine ⟨pe_callB (r := rSortedB X.K) (crr_or cr_sortedI cr_sortedA) hg hm boot_sorted ha.pe (by decide) (by decide) he hpl, fun Hs0 H0 Hs H σ env tp Q Rl P => ?_⟩
  refine ha.snd _ _ _ _ _ _ _ _ Rl ?_
  unfold callB at P
  cases q : ms env tp with
  | stuck => rw [q] at P; exact P
  | exn cc fs tp1 => rw [q] at P; exact P
  | ok ds tp1 =>
    rw [q] at P
    intro xs Hs1 H1 g w rx
    obtain ⟨z, hz, k⟩ := Post.ok_of (show Post X.K mg r (Fresh X.K mg r H) E Hs H (RE.of (sortD ds) tp1) Q from P)
    unfold sortD at hz
    split at hz
    · obtain ⟨ns, h1, h2⟩ := Option.map_eq_some_iff.mp hz
      subst h2
      obtain ⟨x, rfl, h⟩ := paired1 rx
      rw [unI_ok h1] at h
      obtain ⟨p, rfl, h3⟩ := lst_typed RepDs.ints_of w h
      refine .inl ⟨p, ns, rfl, .of h3, fun ns' q hp hs hq => ?_⟩
      have e : ns' = sortI ns := sorted_unique (hp.trans (sortI_perm ns).symm) hs (sortI_sorted ns)
      subst e
      obtain ⟨a, b, c⟩ := fresh_new (o := .lst ((sortI ns).map V.int)) (d := .lst ((sortI ns).map D.int)) g w hq ⟨_, upd_same, RepDs.ints _⟩
      exact k _ _ _ a b c
    · cases hz
      rename_i ns
      obtain ⟨x, rfl, h⟩ := paired1 rx
      obtain ⟨p, rfl, h3⟩ := repT_scr w h
      refine .inl ⟨p, ns, rfl, h3, fun ns' q hp hs hq => ?_⟩
      have e : ns' = sortI ns := sorted_unique (hp.trans (sortI_perm ns).symm) hs (sortI_sorted ns)
      subst e
      obtain ⟨a, b, c⟩ := fresh_new (o := .lst ((sortI ns).map V.int)) (d := .lst ((sortI ns).map D.int)) g w hq ⟨_, upd_same, RepDs.ints _⟩
      exact k _ _ _ a b c
    · obtain ⟨ns, h1, h2⟩ := Option.map_eq_some_iff.mp hz
      subst h2
      obtain ⟨x, rfl, h⟩ := paired1 rx
      rw [unI_ok h1] at h
      obtain ⟨p, vs, rfl, h0, h3, h4⟩ := repT_tup w h
      rw [RepDs.ints_of h4] at h3
      refine .inr ⟨p, ns, rfl, .of h3, fun ns' q hp hs hq => ?_⟩
      have e : ns' = sortI ns := sorted_unique (hp.trans (sortI_perm ns).symm) hs (sortI_sorted ns)
      subst e
      obtain ⟨a, b, c⟩ := fresh_new (o := .lst ((sortI ns).map V.int)) (d := .lst ((sortI ns).map D.int)) g w hq ⟨_, upd_same, RepDs.ints _⟩
      exact k _ _ _ a b c
    · cases hz
def revD : D → Option D
  | .lst xs => some (.lst xs.reverse)
  | _ => none
def revE (m : SE D) : SE D := fun env tp => (m env tp).bind fun d tp1 => RE.of (revD d) tp1
theorem RepDs.rev {Hs : Hp} {vs : List V} {ds : List D} (h : RepDs K mg r Hs vs ds) : RepDs K mg r Hs vs.reverse ds.reverse := by
  induction vs generalizing ds with
  | nil => cases h; exact .nil
  | cons v vs ih =>
    cases h with
    | cons h1 h2 =>
      rw [List.reverse_cons, List.reverse_cons]
      exact (ih h2).append (.cons h1 .nil)
theorem gf_rev {k : Nat} {p1 p2 p3 : Pos} (ha : GO K mg r X O E a ta ma) (hK : X.K = K := by rfl) : GF K mg r X O E (.Subscript a (.Slice none none (some (.UnaryOp .USub (.Constant (.int 1) k p1) p2)) p3) pos) (tRevL K ta) (revE ma) := by
  subst hK
  refine ⟨pe_revL ha.pe, fun Hs0 H0 Hs H σ env tp Q Rl P => ?_⟩
  refine ha.snd _ _ _ _ _ _ _ _ Rl ?_
  unfold revE at P
  cases q : ma env tp with
  | stuck => rw [q] at P; exact P
  | exn cc fs tp1 => rw [q] at P; exact P
  | ok d tp1 =>
    rw [q] at P
    intro x Hs1 H1 g w rx
    obtain ⟨z, hz, k⟩ := Post.ok_of (show Post X.K mg r (Fresh X.K mg r H) E Hs H (RE.of (revD d) tp1) Q from P)
    unfold revD at hz
    split at hz
    · cases hz
      obtain ⟨p, vs, rfl, h1, h2⟩ := repT_lst w rx
      refine ⟨p, vs, rfl, .of h1, fun q hq => ?_⟩
      obtain ⟨a, b, c⟩ := fresh_new (o := .lst vs.reverse) (d := .lst _) g w hq ⟨_, upd_same, RepDs.rev h2⟩
      exact k _ _ _ a b c
    · cases hz
end
end G
set_option maxHeartbeats 1000000
namespace G
open PySem PySem.Spec PyProof.Rows L2
section
variable {r : Addr} {X : Cx} {K : PySem.W.Frag} {mg : Str → Option Value} {O : List Nat} {E : XK} {e e2 a b : Expr} {ts : TA} {ta tb : TE} {p pos : Pos} {ms : SE (List D)}
def countD (d e : D) : Option D := match d, e with
  | .str a, .str b => some (.int (Txt.count a b))
  | _, _ => none
abbrev rCount : V → List V → Hp → VK → Prop := fun x xs H Q => ∃ a b, x = .str a ∧ xs = [.str b] ∧ Q (.int (Txt.count a b)) H
theorem ms_count : MethS K mg r rCount countD := by
  intro Hs H tp x y d e z Q w rx ry hz k
  unfold countD at hz
  split at hz
  · cases hz
    exact ⟨_, _, repT_str rx, by rw [repT_str ry], k _ _ _ (Grow.refl _ _) w (.int _)⟩
  · cases hz
theorem ge_count {ma mb : SE D} {p1 : Pos} (ha : GO K mg r X O E a ta ma) (hb : GO K mg r X O E b tb mb) (hK : X.K = K := by rfl)
    (hbase : attributeBase a "count" X.env (eval a X.env) = eval a X.env := by rfl)
    (hfew : ((backTo pos (starEach [b] X.env)).all (fun x => !x.1) && (backToKw pos (keywordEach [] X.env)).all (fun x => x.1.isSome) && decide ([b].length + ([] : List Keyword).length + (if ([] : List Keyword).isEmpty then 0 else 1) < 30)) = true := by rfl)
    (hline : (p1.endLine == pos.line) = true := by rfl) (hs : starEach [b] X.env = (false, eval b X.env) :: starEach [] X.env := by rfl) (hplain : (backTo pos (starEach [] X.env)).any (·.1) = false := by rfl) :
    GE K mg r X O E (.Call (.Attribute a "count" p1) [b] [] pos) (tBM K "str" rCount ta (tCons tb tNil)) (methE isStrD countD ma mb) := by
  subst hK
  exact ge_m1 PySem.F.plainAttrs_str PySem.F.slot_str_count PySem.F.type_str_count mt_count (fun _ _ _ _ _ => ty_str) ms_count ha hb rfl hbase hfew hline hs hplain
def zipL : List D → List D → List D
  | x :: xs, y :: ys => .tup [x, y] :: zipL xs ys
  | _, _ => []
theorem zipL_len : ∀ xs ys : List D, (zipL xs ys).length = min xs.length ys.length
  | [], ys => by simp [zipL]
  | x :: xs, [] => by simp [zipL]
  | x :: xs, y :: ys => by show (zipL xs ys).length + 1 = _; rw [zipL_len xs ys]; simp only [List.length_cons]; omega
theorem zipL_get : ∀ {xs ys : List D} {i : Nat} {x y : D}, xs[i]? = some x → ys[i]? = some y → (zipL xs ys)[i]? = some (.tup [x, y])
  | [], _, i, _, _, h, _ => by simp at h
  | _ :: _, [], i, _, _, _, h => by simp at h
  | a :: xs, b :: ys, 0, x, y, h, h' => by simp at h h'; subst h; subst h'; rfl
  | a :: xs, b :: ys, i + 1, x, y, h, h' => by
    have h : xs[i]? = some x := by simpa using h
    have h' : ys[i]? = some y := by simpa using h'
    show (zipL xs ys)[i]? = _
    exact zipL_get h h'
end
end G
set_option maxHeartbeats 1000000
namespace G
open PySem PySem.Spec PyProof.Rows L2
section
variable {r : Addr} {X : Cx} {K : PySem.W.Frag} {mg : Str → Option Value} {O : List Nat} {E : XK} {tt tt1 : TT}
def compLL (f : D → List D → RE (List D)) : List D → List D → RE (List D)
  | [], tp => .ok [] tp
  | d :: ds, tp => match f d tp with
    | .ok o tp1 => (match compLL f ds tp1 with
      | .ok xs tp2 => .ok (o ++ xs) tp2
      | _ => .stuck)
    | _ => .stuck
def compTurn2 (tgt : D → Option (List D)) (is : List Nat) (c : SE Bool) (mi1 : SE (List D)) (vs1 : List Nat) (tgt1 : D → Option (List D)) (is1 : List Nat) (c1 : SE Bool) (m : SE D) (env : DEnv) (d : D) (tp : List D) : RE (List D) := match tgt d with
  | some ds => (c (setAll env is ds) tp).bind fun b tp1 => if b = true then (mi1 (setAll env is ds) tp1).bind fun items1 tp2 => compL (compTurn1 tgt1 is1 c1 m (wipeE (setAll env is ds) vs1)) items1 tp2 else .ok [] tp1
  | none => .stuck
def comp2E (mi : SE (List D)) (vs : List Nat) (tgt : D → Option (List D)) (is : List Nat) (c : SE Bool) (mi1 : SE (List D)) (vs1 : List Nat) (tgt1 : D → Option (List D)) (is1 : List Nat) (c1 : SE Bool) (m : SE D) : SE D := fun env tp => (mi env tp).bind fun items tp1 =>
  match compLL (compTurn2 tgt is c mi1 vs1 tgt1 is1 c1 m (wipeE env vs)) items tp1 with
    | .ok xs tp2 => if xs.length ≤ sizeLine then .ok (.lst xs) tp2 else .stuck
    | _ => .stuck
theorem compLL_cons {f : D → List D → RE (List D)} {d : D} {ds : List D} {tp tpE : List D} {xs : List D} (h : compLL f (d :: ds) tp = .ok xs tpE) : ∃ o tp1 xs', f d tp = .ok o tp1 ∧ compLL f ds tp1 = .ok xs' tpE ∧ xs = o ++ xs' := by
  unfold compLL at h
  cases q : f d tp with
  | ok o tp1 =>
    rw [q] at h
    simp only at h
    cases q2 : compLL f ds tp1 with
    | ok ys tp2 =>
      rw [q2] at h
      simp only [RE.ok.injEq] at h
      exact ⟨o, tp1, ys, rfl, by rw [q2, h.2], h.1.symm⟩
    | exn c fs t => rw [q2] at h; cases h
    | stuck => rw [q2] at h; cases h
  | exn c fs t => rw [q] at h; cases h
  | stuck => rw [q] at h; cases h
theorem setAll_get {α : Type} : ∀ (is : List Nat) (s : List (Option α)) (ws : List α) {j : Nat}, j ∉ is → (setAll s is ws)[j]? = s[j]?
  | [], s, ws, j, _ => by unfold setAll; cases ws <;> rfl
  | i :: is, s, [], j, _ => rfl
  | i :: is, s, w :: ws, j, h => by
    show (setAll (s.set i (some w)) is ws)[j]? = _
    have ne : i ≠ j := fun q => h (by rw [← q]; exact List.mem_cons_self)
    rw [setAll_get is _ ws fun q => h (List.mem_cons_of_mem _ q), List.getElem?_set_ne ne]
theorem comp2_sound {wi wi1 : TI} {g g1 : TG} {te : TE} {is vs is1 vs1 : List Nat} {tgt tgt1 : D → Option (List D)} {mi mi1 : SE (List D)} {c c1 : SE Bool} {m : SE D}
    (hi : ∀ Hs0 H0 Hs H σ env tp Q, Rel K mg r O Hs0 H0 Hs H σ env tp → Post K mg r (fun Hs _ J items => WalksD K mg r J Hs items) E Hs H (mi env tp) Q → wi σ H Q)
    (hg : ∀ v d ds Hs H tp σ (Q : L2.St → Hp → Prop), Wd K mg r Hs H tp → RepD K mg r Hs v d → tgt d = some ds → (∀ vs, RepDs K mg r Hs vs ds → vs.length = is.length → Q (setAll σ is vs) H) → g v σ H Q)
    (ht : ∀ Hs0 H0 Hs H σ env tp Q, Rel K mg r O Hs0 H0 Hs H σ env tp → PostB K mg r E0 Hs H (c env tp) Q → tt σ H Q)
    (hi1 : ∀ Hs0 H0 Hs H σ env tp Q, Rel K mg r O Hs0 H0 Hs H σ env tp → Post K mg r (fun Hs _ J items => WalksD K mg r J Hs items) E0 Hs H (mi1 env tp) Q → wi1 σ H Q)
    (hg1 : ∀ v d ds Hs H tp σ (Q : L2.St → Hp → Prop), Wd K mg r Hs H tp → RepD K mg r Hs v d → tgt1 d = some ds → (∀ vs, RepDs K mg r Hs vs ds → vs.length = is1.length → Q (setAll σ is1 vs) H) → g1 v σ H Q)
    (ht1 : ∀ Hs0 H0 Hs H σ env tp Q, Rel K mg r O Hs0 H0 Hs H σ env tp → PostB K mg r E0 Hs H (c1 env tp) Q → tt1 σ H Q)
    (he : ∀ Hs0 H0 Hs H σ env tp Q, Rel K mg r O Hs0 H0 Hs H σ env tp → PostE K mg r E0 Hs H (m env tp) Q → te σ H Q)
    (hvs : ∀ i ∈ vs, i ∉ O) (his : ∀ i ∈ is, i ∈ vs) (hv1 : ∀ i ∈ vs1, i ∈ vs) (his1 : ∀ i ∈ is1, i ∈ vs1) :
    ∀ Hs0 H0 Hs H σ env tp Q, Rel K mg r O Hs0 H0 Hs H σ env tp → Post K mg r (Fresh K mg r H) E Hs H (comp2E mi vs tgt is c mi1 vs1 tgt1 is1 c1 m env tp) Q → tLc2 wi g tt wi1 g1 tt1 te vs vs1 σ H Q := by
  intro Hs0 H0 Hs H σ env tp Q R P
  refine hi _ _ _ _ _ _ _ _ R ?_
  unfold comp2E at P
  cases q : mi env tp with
  | stuck => rw [q] at P; exact P.elim
  | exn cc fs tp1 => rw [q] at P; exact P
  | ok items tp1 =>
    rw [q] at P
    intro J Hs1 H1 ga w1 wd Dl hD
    simp only [RE.bind_ok] at P
    cases q2 : compLL (compTurn2 tgt is c mi1 vs1 tgt1 is1 c1 m (wipeE env vs)) items tp1 with
    | stuck => rw [q2] at P; exact P.elim
    | exn cc fs tp2 => rw [q2] at P; exact P.elim
    | ok all tpE =>
      rw [q2] at P
      simp only at P
      by_cases hz : all.length ≤ sizeLine
      case neg => rw [if_neg hz] at P; exact P.elim
      rw [if_pos hz] at P
      have P : ∀ v Hs' H', Grow r Hs H Hs' H' → Wd K mg r Hs' H' tpE → Fresh K mg r H Hs' H' v (.lst all) → Q v H' := P
      obtain ⟨Gd, Y, wk, hG, hY⟩ := wd
      have R1 := R.grow ga w1
      obtain ⟨fD, neD⟩ := w1.fresh hD
      have h0D : H Dl = none := ga.free Dl hD
      have Rw := R1.wiped vs hvs
      obtain ⟨gl, wl⟩ := w1.lay (o := .lst []) hD
      obtain ⟨n1, n2⟩ := R.new_ne h0D neD
      have n3 : ∀ j ∈ O, (wipeE σ vs)[j]? ≠ some (some (.ref Dl)) := fun j hj z => n2 j hj (by rw [← z, wipe_get fun q => hvs j q hj])
      have hisO : ∀ i ∈ is, i ∉ O := fun i hi => hvs i (his i hi)
      have hv1O : ∀ i ∈ vs1, i ∉ O := fun i hi => hvs i (hv1 i hi)
      have his1O : ∀ i ∈ is1, i ∉ O := fun i hi => hv1O i (his1 i hi)
      let Pv : Nat → Hp → Prop := fun i H' => ∃ Hs2 vsL dsL tp xs, Rel K mg r O Hs0 H0 Hs2 H' (wipeE σ vs) (wipeE env vs) tp ∧ Same Hs1 Hs2 ∧ Grow r Hs H Hs2 H' ∧ Hs2 Dl = none ∧ H' Dl = some (.lst vsL) ∧ RepDs K mg r Hs2 vsL dsL ∧
        compLL (compTurn2 tgt is c mi1 vs1 tgt1 is1 c1 m (wipeE env vs)) (items.drop i) tp = .ok xs tpE ∧ dsL ++ xs = all
      have p0 : Pv 0 (upd H1 Dl (.lst [])) := ⟨Hs1, [], [], tp1, all, Rw.grow gl wl, Same.refl _, ga.trans gl, fD, upd_same, .nil, q2, rfl⟩
      refine ⟨fun i n H' => n = items.length - i ∧ i ≤ items.length ∧ Pv i H', ⟨items.length, by simp, Nat.zero_le _, p0⟩, ?_⟩
      rintro i n H2 ⟨rfl, hil, Hs2, vsL, dsL, tp2, xs, R2, e2, g2, f2, hD2, rs2, hc2, ha2⟩
      have gd := hG Hs2 H2 e2 R2.wd.sub
      by_cases hi2 : i < items.length
      case neg =>
        have e : i = items.length := by omega
        subst e
        refine .inl ⟨wk.stops _ gd, ?_⟩
        rw [List.drop_length] at hc2
        unfold compLL at hc2
        simp only [RE.ok.injEq] at hc2
        obtain ⟨hx, htp⟩ := hc2
        subst hx htp
        rw [List.append_nil] at ha2
        subst ha2
        exact P _ Hs2 H2 g2 R2.wd ⟨Dl, rfl, h0D, f2, neD, vsL, hD2, rs2⟩
      refine .inr ⟨wk.goes i H2 hi2 gd, Pv (i + 1), fun H' p' => ⟨items.length - (i + 1), by omega, rfl, hi2, p'⟩, fun x H3 yy => ?_⟩
      obtain ⟨Hs3, d, g3, w3, hd, rd⟩ := hY i Hs2 H2 tp2 x H3 hi2 e2 R2.wd (wk.yields i H2 x H3 hi2 gd yy)
      rw [List.drop_eq_getElem_cons hi2] at hc2
      have hd' : items[i] = d := by rw [List.getElem?_eq_getElem hi2] at hd; exact Option.some.inj hd
      rw [hd'] at hc2
      obtain ⟨o, tpI, xs', hf, hrest, hxs⟩ := compLL_cons hc2
      unfold compTurn2 at hf
      cases qt : tgt d with
      | none => rw [qt] at hf; cases hf
      | some es =>
        rw [qt] at hf
        simp only at hf
        rw [wipe_eq]
        refine hg x d es Hs3 H3 tp2 _ _ w3 rd qt fun ws rs hl => ⟨by rw [wipe_eq, wipe_setAll is _ _ his, wipe_wipe vs fun _ h => h], ?_⟩
        have R3 := rel_setAll is _ _ _ _ (R2.grow g3 w3) hisO rs hl
        have f3 := g3.no f2 hD2 neD
        have hD3 := g3.keep Dl _ hD2 neD f2
        refine ht _ _ _ _ _ _ _ _ R3 ?_
        cases qb : c (setAll (wipeE env vs) is es) tp2 with
        | stuck => rw [qb] at hf; cases hf
        | exn cc fs tp4 => rw [qb] at hf; cases hf
        | ok b tpb =>
          rw [qb] at hf
          simp only [RE.bind_ok] at hf
          intro v Hs4 H4 g4 w4 ev
          subst ev
          have f4 := g4.no f3 hD3 neD
          have hD4 := g4.keep Dl _ hD3 neD f3
          cases v with
          | false =>
            rw [if_neg Bool.false_ne_true] at hf
            simp only [RE.ok.injEq] at hf
            obtain ⟨ho, htp⟩ := hf
            subst ho htp
            refine iteF ⟨Hs4, vsL, dsL, tpb, xs', R2.grow (g3.trans g4) w4, e2.trans (g3.ex.trans g4.ex), g2.trans (g3.trans g4), f4, hD4, rs2.mono (g3.ex.trans g4.ex), hrest, ?_⟩
            rw [← ha2, hxs]; rfl
          | true =>
            rw [if_pos rfl] at hf
            refine iteT (hi1 _ _ _ _ _ _ _ _ (R3.grow g4 w4) ?_)
            cases qi : mi1 (setAll (wipeE env vs) is es) tpb with
            | stuck => rw [qi] at hf; cases hf
            | exn cc fs tp5 => rw [qi] at hf; cases hf
            | ok items1 tpi =>
              rw [qi] at hf
              simp only [RE.bind_ok] at hf
              intro J1 Hs5 H5 g5 w5 wd1
              obtain ⟨Gd1, Y1, wk1, hG1, hY1⟩ := wd1
              have f5 := g5.no f4 hD4 neD
              have hD5 := g5.keep Dl _ hD4 neD f4
              have e5 := g3.ex.trans (g4.ex.trans g5.ex)
              have R5 := R3.grow (g4.trans g5) w5
              have Rb5 := R5.wiped vs1 hv1O
              have n3b : ∀ j ∈ O, (wipeE (setAll (wipeE σ vs) is ws) vs1)[j]? ≠ some (some (.ref Dl)) := fun j hj z => n3 j hj (by
                rw [← z, wipe_get fun q => hv1O j q hj, setAll_get is _ ws fun q => hisO j q hj])
              let Pv1 : Nat → Hp → Prop := fun j H' => ∃ Hs6 vsL' dsL' tp' xs'', Rel K mg r O Hs0 H0 Hs6 H' (wipeE σ vs) (wipeE env vs) tp' ∧ Rel K mg r O Hs0 H0 Hs6 H' (wipeE (setAll (wipeE σ vs) is ws) vs1) (wipeE (setAll (wipeE env vs) is es) vs1) tp' ∧ Same Hs5 Hs6 ∧ Same Hs1 Hs6 ∧ Grow r Hs H Hs6 H' ∧ Hs6 Dl = none ∧ H' Dl = some (.lst vsL') ∧ RepDs K mg r Hs6 vsL' dsL' ∧
                compL (compTurn1 tgt1 is1 c1 m (wipeE (setAll (wipeE env vs) is es) vs1)) (items1.drop j) tp' = .ok xs'' tpI ∧ dsL' ++ xs'' = dsL ++ o
              have p1 : Pv1 0 H5 := ⟨Hs5, vsL, dsL, tpi, o, R2.grow (g3.trans (g4.trans g5)) w5, Rb5, Same.refl _, e2.trans e5, g2.trans (g3.trans (g4.trans g5)), f5, hD5, rs2.mono e5, hf, rfl⟩
              refine ⟨fun j k H' => k = items1.length - j ∧ j ≤ items1.length ∧ Pv1 j H', ⟨items1.length, by simp, Nat.zero_le _, p1⟩, ?_⟩
              rintro j k H6 ⟨rfl, hjl, Hs6, vsL6, dsL6, tp6, xs6, Ra6, Rb6, es6, e6, g6, f6, hD6, rs6, hc6, ha6⟩
              have gd1 := hG1 Hs6 H6 es6 Ra6.wd.sub
              by_cases hj2 : j < items1.length
              case neg =>
                have e : j = items1.length := by omega
                subst e
                refine .inl ⟨wk1.stops _ gd1, ?_⟩
                rw [List.drop_length] at hc6
                unfold compL at hc6
                simp only [RE.ok.injEq] at hc6
                obtain ⟨hx, htp⟩ := hc6
                subst hx htp
                rw [List.append_nil] at ha6
                refine ⟨Hs6, vsL6, dsL6, tp6, xs', Ra6, e6, g6, f6, hD6, rs6, hrest, ?_⟩
                rw [ha6, ← ha2, hxs, List.append_assoc]
              refine .inr ⟨wk1.goes j H6 hj2 gd1, Pv1 (j + 1), fun H' p' => ⟨items1.length - (j + 1), by omega, rfl, hj2, p'⟩, fun x1 H7 yy1 => ?_⟩
              obtain ⟨Hs7, d1, g7, w7, hd1, rd1⟩ := hY1 j Hs6 H6 tp6 x1 H7 hj2 es6 Ra6.wd (wk1.yields j H6 x1 H7 hj2 gd1 yy1)
              rw [List.drop_eq_getElem_cons hj2] at hc6
              have hd1' : items1[j] = d1 := by rw [List.getElem?_eq_getElem hj2] at hd1; exact Option.some.inj hd1
              rw [hd1'] at hc6
              obtain ⟨o1, tp8, xs8, hf1, hrest1, hxs1⟩ := compL_cons hc6
              unfold compTurn1 at hf1
              cases qt1 : tgt1 d1 with
              | none => rw [qt1] at hf1; cases hf1
              | some es1 =>
                rw [qt1] at hf1
                simp only at hf1
                rw [wipe_eq]
                refine hg1 x1 d1 es1 Hs7 H7 tp6 _ _ w7 rd1 qt1 fun ws1 rs1 hl1 => ⟨by rw [wipe_eq, wipe_setAll is1 _ _ his1, wipe_wipe vs1 fun _ h => h], ?_⟩
                have R7 := rel_setAll is1 _ _ _ _ (Rb6.grow g7 w7) his1O rs1 hl1
                have f7 := g7.no f6 hD6 neD
                have hD7 := g7.keep Dl _ hD6 neD f6
                refine ht1 _ _ _ _ _ _ _ _ R7 ?_
                cases qb1 : c1 (setAll (wipeE (setAll (wipeE env vs) is es) vs1) is1 es1) tp6 with
                | stuck => rw [qb1] at hf1; cases hf1
                | exn cc fs tp9 => rw [qb1] at hf1; cases hf1
                | ok b1 tpb1 =>
                  rw [qb1] at hf1
                  simp only [RE.bind_ok] at hf1
                  intro v Hs8 H8 g8 w8 ev
                  subst ev
                  have f8 := g8.no f7 hD7 neD
                  have hD8 := g8.keep Dl _ hD7 neD f7
                  cases v with
                  | false =>
                    rw [if_neg Bool.false_ne_true] at hf1
                    simp only [RE.ok.injEq] at hf1
                    obtain ⟨ho, htp⟩ := hf1
                    subst ho htp
                    refine iteF ⟨Hs8, vsL6, dsL6, tpb1, xs8, Ra6.grow (g7.trans g8) w8, Rb6.grow (g7.trans g8) w8, es6.trans (g7.ex.trans g8.ex), e6.trans (g7.ex.trans g8.ex), g6.trans (g7.trans g8), f8, hD8, rs6.mono (g7.ex.trans g8.ex), hrest1, ?_⟩
                    rw [← ha6, hxs1]; rfl
                  | true =>
                    rw [if_pos rfl] at hf1
                    refine iteT (he _ _ _ _ _ _ _ _ (R7.grow g8 w8) ?_)
                    cases qm : m (setAll (wipeE (setAll (wipeE env vs) is es) vs1) is1 es1) tpb1 with
                    | stuck => rw [qm] at hf1; cases hf1
                    | exn cc fs tp9 => rw [qm] at hf1; cases hf1
                    | ok z tpz =>
                      rw [qm] at hf1
                      simp only [RE.bind_ok, RE.ok.injEq] at hf1
                      obtain ⟨ho, htp⟩ := hf1
                      subst ho htp
                      intro y9 Hs9 H9 g9 w9 ry
                      have f9 := g9.no f8 hD8 neD
                      have hD9 := g9.keep Dl _ hD8 neD f8
                      have e9 := g7.ex.trans (g8.ex.trans g9.ex)
                      have hlen : dsL6.length < all.length := by
                        rw [← ha2, hxs, ← List.append_assoc, ← ha6, hxs1]
                        simp
                      refine ⟨vsL6, hD9, by rw [rs6.length]; omega, Hs9, vsL6 ++ [y9], dsL6 ++ [z], tpz, xs8, ?_, ?_, es6.trans e9, e6.trans e9, ?_, f9, upd_same, (rs6.mono e9).append (.cons ry .nil), hrest1, ?_⟩
                      · exact (Ra6.grow (g7.trans (g8.trans g9)) w9).other f9 n1 neD n3 (fun xs z => by rw [hD9] at z; cases z)
                      · exact (Rb6.grow (g7.trans (g8.trans g9)) w9).other f9 n1 neD n3b (fun xs z => by rw [hD9] at z; cases z)
                      · exact (g6.trans (g7.trans (g8.trans g9))).other h0D
                      · rw [← ha6, hxs1, List.append_assoc]; rfl
/-- a list comprehension of two clauses -/
theorem gf_lc2 {elt tg iter tg1 iter1 : Expr} {ifs ifs1 : List Expr} {scope : Scope} {own : List (Str × Nat)} {pos : Pos} {wi wi1 : TI} {g g1 : TG} {te : TE} {is is1 vs1 : List Nat} {tgt tgt1 : D → Option (List D)} {mi mi1 : SE (List D)} {c c1 : SE Bool} {m : SE D} (hc : X.calm = true) (hN : X.N.Nodup) (hi : GI K mg r X O E tg iter wi mi) (ok : BlkOk X.N X.env.scope scope own)
    (hg : ∀ (s : Shared) (H : Hp) (C : Addr) (cl : List (Str × Addr)) (fp : List Addr), GG K mg r (X.blk s H scope (compEnvC scope cl C X.env) fp) tg g is tgt)
    (ht : ∀ (s : Shared) (H : Hp) (C : Addr) (cl : List (Str × Addr)) (fp : List Addr), GTs K mg r (X.blk s H scope (compEnvC scope cl C X.env) fp) O E0 ifs tt c)
    (hi1 : ∀ (s : Shared) (H : Hp) (C : Addr) (cl : List (Str × Addr)) (fp : List Addr), GI K mg r (X.blk s H scope (compEnvC scope cl C X.env) fp) O E0 tg1 iter1 wi1 mi1)
    (hg1 : ∀ (s : Shared) (H : Hp) (C : Addr) (cl : List (Str × Addr)) (fp : List Addr), GG K mg r (X.blk s H scope (compEnvC scope cl C X.env) fp) tg1 g1 is1 tgt1)
    (ht1 : ∀ (s : Shared) (H : Hp) (C : Addr) (cl : List (Str × Addr)) (fp : List Addr), GTs K mg r (X.blk s H scope (compEnvC scope cl C X.env) fp) O E0 ifs1 tt1 c1)
    (he : ∀ (s : Shared) (H : Hp) (C : Addr) (cl : List (Str × Addr)) (fp : List Addr), GE K mg r (X.blk s H scope (compEnvC scope cl C X.env) fp) O E0 elt te m)
    (hvs : ∀ i ∈ own.map (·.2), i ∉ O) (his : ∀ i ∈ is, i ∈ own.map (·.2)) (hv1 : ∀ i ∈ vs1, i ∈ own.map (·.2)) (his1 : ∀ i ∈ is1, i ∈ vs1) (hs : ∀ x, foldedSetIterable iter X.env x = pure x := by intro _; rfl) (hs1 : ∀ env x, foldedSetIterable iter1 env x = pure x := by intro _ _; rfl) :
    GF K mg r X O E (.ListComp elt [⟨tg, iter, ifs, 0⟩, ⟨tg1, iter1, ifs1, 0⟩] scope pos) (tLc2 wi g tt wi1 g1 tt1 te (own.map (·.2)) vs1) (comp2E mi (own.map (·.2)) tgt is c mi1 vs1 tgt1 is1 c1 m) :=
  ⟨pe_lc2 hc hN hi.pe ok hv1 (fun s H C cl fp => (hg s H C cl fp).pe) (fun s H C cl fp => (ht s H C cl fp).pe) (fun s H C cl fp => (hi1 s H C cl fp).pe) (fun s H C cl fp => (hg1 s H C cl fp).pe) (fun s H C cl fp => (ht1 s H C cl fp).pe) (fun s H C cl fp => (he s H C cl fp).pe) hs hs1,
    comp2_sound hi.snd (hg X.s_0 X.H_0 0 [] []).snd (ht X.s_0 X.H_0 0 [] []).snd (hi1 X.s_0 X.H_0 0 [] []).snd (hg1 X.s_0 X.H_0 0 [] []).snd (ht1 X.s_0 X.H_0 0 [] []).snd (he X.s_0 X.H_0 0 [] []).snd hvs his hv1 his1⟩
/-- name = [.. two clauses] on one line, the name a local -/
theorem lc_stmt2 {i : Nat} {y : Str} {py : Pos} {elt tg iter tg1 iter1 : Expr} {ifs ifs1 : List Expr} {scope : Scope} {own : List (Str × Nat)} {pos spos : Pos} {wi wi1 : TI} {g g1 : TG} {te : TE} {is is1 vs1 : List Nat} {tgt tgt1 : D → Option (List D)} {mi mi1 : SE (List D)} {c c1 : SE Bool} {m : SE D} (hc : X.calm = true) (hN : X.N.Nodup) (hi : GI K mg r X O E tg iter wi mi) (ok : BlkOk X.N X.env.scope scope own)
    (hg : ∀ (s : Shared) (H : Hp) (C : Addr) (cl : List (Str × Addr)) (fp : List Addr), GG K mg r (X.blk s H scope (compEnvC scope cl C X.env) fp) tg g is tgt)
    (ht : ∀ (s : Shared) (H : Hp) (C : Addr) (cl : List (Str × Addr)) (fp : List Addr), GTs K mg r (X.blk s H scope (compEnvC scope cl C X.env) fp) O E0 ifs tt c)
    (hi1 : ∀ (s : Shared) (H : Hp) (C : Addr) (cl : List (Str × Addr)) (fp : List Addr), GI K mg r (X.blk s H scope (compEnvC scope cl C X.env) fp) O E0 tg1 iter1 wi1 mi1)
    (hg1 : ∀ (s : Shared) (H : Hp) (C : Addr) (cl : List (Str × Addr)) (fp : List Addr), GG K mg r (X.blk s H scope (compEnvC scope cl C X.env) fp) tg1 g1 is1 tgt1)
    (ht1 : ∀ (s : Shared) (H : Hp) (C : Addr) (cl : List (Str × Addr)) (fp : List Addr), GTs K mg r (X.blk s H scope (compEnvC scope cl C X.env) fp) O E0 ifs1 tt1 c1)
    (he : ∀ (s : Shared) (H : Hp) (C : Addr) (cl : List (Str × Addr)) (fp : List Addr), GE K mg r (X.blk s H scope (compEnvC scope cl C X.env) fp) O E0 elt te m)
    (hvs : ∀ i ∈ own.map (·.2), i ∉ O) (his : ∀ i ∈ is, i ∈ own.map (·.2)) (hv1 : ∀ i ∈ vs1, i ∈ own.map (·.2)) (his1 : ∀ i ∈ is1, i ∈ vs1) (hy : X.N[i]? = some y := by rfl) (hyl : X.env.scope.names.lookup y = some .local := by rfl)
    (hsw : swapsWith (.ListComp elt [⟨tg, iter, ifs, 0⟩, ⟨tg1, iter1, ifs1, 0⟩] scope pos) (some (.Name y py)) spos.line X.env = pure true := by exact sw_true rfl rfl rfl (by decide +kernel)) (hs : ∀ x, foldedSetIterable iter X.env x = pure x := by intro _; rfl) (hs1 : ∀ env x, foldedSetIterable iter1 env x = pure x := by intro _ _; rfl) :
    PS X (.Assign [.Name y py] (.ListComp elt [⟨tg, iter, ifs, 0⟩, ⟨tg1, iter1, ifs1, 0⟩] scope pos) spos) (tAsg (tLc2 wi g tt wi1 g1 tt1 te (own.map (·.2)) vs1) (gName i)) ∧
    ∀ Hs0 H0 Hs H σ env tp Q, Rel K mg r O Hs0 H0 Hs H σ env tp → Post K mg r (Fresh K mg r H) E Hs H (comp2E mi (own.map (·.2)) tgt is c mi1 vs1 tgt1 is1 c1 m env tp) Q → tLc2 wi g tt wi1 g1 tt1 te (own.map (·.2)) vs1 σ H Q :=
  ⟨ps_setLc2 hc hN hy hyl hsw hi.pe ok hv1 (fun s H C cl fp => (hg s H C cl fp).pe) (fun s H C cl fp => (ht s H C cl fp).pe) (fun s H C cl fp => (hi1 s H C cl fp).pe) (fun s H C cl fp => (hg1 s H C cl fp).pe) (fun s H C cl fp => (ht1 s H C cl fp).pe) (fun s H C cl fp => (he s H C cl fp).pe) hs hs1,
    comp2_sound hi.snd (hg X.s_0 X.H_0 0 [] []).snd (ht X.s_0 X.H_0 0 [] []).snd (hi1 X.s_0 X.H_0 0 [] []).snd (hg1 X.s_0 X.H_0 0 [] []).snd (ht1 X.s_0 X.H_0 0 [] []).snd (he X.s_0 X.H_0 0 [] []).snd hvs his hv1 his1⟩
def augS (i : Nat) (f : D → D → Option D) (m : SE D) : SS := fun env tp => match env[i]? with
  | some (some d) => (m env tp).bindS fun e tp1 => match d, e with
    | .int _, .int _ => (match f d e with
      | some z => .nx (env.set i (some z)) tp1
      | none => .stuck)
    | _, _ => .stuck
  | _ => .stuck
theorem aug_sound {m : SE D} {e : Expr} {t : TE} {Ol : List Nat} {f : D → D → Option D} {F : Int → Int → Int} {op : Operator} {pos pos' : Pos} (i : Nat) {x : Str} (hip : PIp X op (ipI F)) (hf : ∀ a b, f (.int a) (.int b) = some (.int (F a b))) (hO : i ∉ O) (hN : X.N.Nodup) (h : GE K mg r X O E e t m) (hi : X.N[i]? = some x) (hx : Loc X.env.scope x)
    (hfn : X.fn x = true ∨ X.env.scope.names.lookup x = some .local) : GS K mg r X E O O Ol (.AugAssign (.Name x pos') op e pos) (tAug i t (ipI F)) (augS i f m) := by
  refine ⟨ps_aug hN hi hx h.pe hip hfn, fun Hs0 H0 Hs H σ env tp Dn R P => ?_⟩
  unfold augS at P
  cases q : env[i]? with
  | none => rw [q] at P; exact P.elim
  | some od =>
    cases od with
    | none => rw [q] at P; exact P.elim
    | some d =>
      rw [q] at P
      simp only at P
      obtain ⟨v, hv, rv⟩ := R.vars i d q hO
      refine ⟨v, hv, h.snd _ _ _ _ _ _ _ _ R (PostS.bind R P fun u Hs1 H1 d1 tp1 _ g w R1 ru P1 => ?_)⟩
      cases d with
      | int a =>
        cases d1 with
        | int b =>
          simp only [hf] at P1
          cases rv
          cases ru
          exact ⟨a, b, rfl, rfl, P1 _ _ _ (Same.refl _) (by
            have := R1.set i (.int (F a b))
            have eO : O.filter (· != i) = O := List.filter_eq_self.mpr fun j hj => by
              have : j ≠ i := fun z => hO (z ▸ hj)
              simpa using this
            rw [eO] at this
            exact this)⟩
        | _ => exact P1.elim
      | _ => exact P1.elim
theorem gs_augAdd {m : SE D} {e : Expr} {t : TE} {Ol : List Nat} {pos pos' : Pos} (i : Nat) {x : Str} (hN : X.N.Nodup) (h : GE K mg r X O E e t m) (hO : i ∉ O := by decide) (hi : X.N[i]? = some x := by rfl) (hx : Loc X.env.scope x := by first | exact Or.inl rfl | exact Or.inr rfl)
    (hfn : X.fn x = true ∨ X.env.scope.names.lookup x = some .local := by first | exact .inl rfl | exact .inr rfl) : GS K mg r X E O O Ol (.AugAssign (.Name x pos') .Add e pos) (tAug i t (ipI fun i j => i + j)) (augS i addD m) :=
  aug_sound i ip_add (fun _ _ => rfl) hO hN h hi hx hfn
end
end G
set_option maxHeartbeats 1000000
namespace SumT
open PySem PySem.Spec PyProof.Rows
section
variable {prog : Program} {w : World} {A : Around} {E : Value → Shared → Prop} {s : Shared} {l : Addr} {xs : Array (Int × Tok)}
theorem iter_intTuple {Q : Value → Shared → Prop} (hl : s.heap.IsTuple l (intItems xs))
    (h : ∀ s₂ : Shared, s₂ = { s with heap := s.heap.push { cls := .type "tuple_iterator", data := .fields #[.ref l, .int 0 0] } } →
      (s₂.heap.IsTupleIter s.heap.objs.size l 0 ∧ s₂.heap.IsTuple l (intItems xs)) → (∀ b ∈ [s.heap.objs.size, l], b < s₂.heap.objs.size) → l ≠ s.heap.objs.size → Q (.ref s.heap.objs.size) s₂) :
    wpAny (model prog w) A (pyIter (.ref l)) Q E s := by
  have hlt : l < s.heap.objs.size := by obtain ⟨_, e, _⟩ := hl; exact Heap.lt_size e
  refine wpAny_pyIter_tuple hl (h _ rfl ⟨⟨_, Heap.get?_push_size _ rfl, rfl, rfl⟩, hl.push _⟩ (fun b hb => ?_) (Nat.ne_of_lt hlt))
  show b < (s.heap.push _).objs.size
  rw [Heap.size_push]
  rcases List.mem_cons.mp hb with rfl | hb
  · exact Nat.lt_succ_self _
  · rcases List.mem_cons.mp hb with rfl | hb
    · exact Nat.lt_succ_of_lt hlt
    · cases hb
theorem old_keptT {h' : Heap} (hk : ∀ b o, b ∉ [s.heap.objs.size] → (s.heap.push { cls := .type "tuple_iterator", data := .fields #[.ref l, .int 0 0] }).get? b = some o → h'.get? b = some o) :
    ∀ b o, s.heap.get? b = some o → h'.get? b = some o := fun b o e => by
  refine hk b o (fun hm => ?_) (Heap.get?_push_of_some _ e)
  rcases List.mem_cons.mp hm with e1 | hm
  · exact absurd (e1 ▸ Heap.lt_size e) (Nat.lt_irrefl _)
  · cases hm
theorem sum_intTupG {Q : Value → Shared → Prop} (hh : A.handled = none) (hl : s.heap.IsTuple l (intItems xs))
    (h : ∀ h' tk t', (∀ b o, s.heap.get? b = some o → h'.get? b = some o) → Q (.int (preSum (numAt xs) xs.size) t') { s with heap := h', toks := tk }) :
    wpAny (model prog w) A (call (.builtin "sum") [.ref l]) Q E s := by
  refine call_sum_walkG (iter_intTuple hl fun s₂ e st hfp hlI => ?_)
  subst e
  refine ⟨_, _, _, _, _, _, numAt xs, rfl, Walks.tuple (A := A.in1) hh _ l hlI (intItems xs), st, hfp, (fun _ _ => intItems_at), fun h' tk t' hk => ?_⟩
  have := h h' tk t' (old_keptT hk)
  simpa [intItems] using this
theorem sumT_raw {its : List Value} {ns : List Int} {Q : Value → Shared → Prop} (hh : A.handled = none) (hl : s.heap.IsTuple l its.toArray) (hi : IntsAre its ns)
    (h : ∀ h' tk t', (∀ b o, s.heap.get? b = some o → h'.get? b = some o) → Q (.int ns.sum t') { s with heap := h', toks := tk }) : wpAny (model prog w) A (call (.builtin "sum") [.ref l]) Q E s := by
  obtain ⟨xs, e⟩ := hi.allInts.items
  have hn : numsOf (intItems xs).toList = ns := by rw [← e]; exact hi.numsOf
  rw [nums_intItems] at hn
  rw [e] at hl
  refine sum_intTupG hh hl fun h' tk t' hk => ?_
  have := h h' tk t' hk
  rw [preSum_eq, List.take_of_length_le (by simp), hn]; exact this
end
end SumT
namespace G
open PySem PySem.Spec PyProof.Rows L2
def rSumA (K : PySem.W.Frag) : List V → Hp → VK → Prop := fun vs H Q => ∃ (a : Addr) (ns : List Int), vs = [V.ref a] ∧ SqT K H a (ns.map V.int) ∧ Q (.int ns.sum) H
theorem cr_sumA {X : Cx} (hc : X.calm = true) : CallR X (.builtin "sum") (rSumA X.K) := by
  intro pins s σ H vs us Q I r h
  obtain ⟨a, ns, rfl, hs, q⟩ := h
  obtain ⟨its, rv, hl, _⟩ := I.tuple hs
  rw [Vals.ref1 r]
  exact SumT.sumT_raw (I.ok.hd hc) hl rv.ints fun h' tk t' hk => ⟨.int _, H, I.kept hk, ⟨_, rfl⟩, q⟩
def sum2D : List D → Option D
  | [.lst xs] => (unI xs).map fun bs => .int bs.sum
  | [.tup xs] => (unI xs).map fun bs => .int bs.sum
  | _ => none
def sumTD : List D → Option D
  | [.tup xs] => (unI xs).map fun bs => .int bs.sum
  | _ => none
abbrev rSum2 (K : PySem.W.Frag) : List V → Hp → VK → Prop := fun vs H Q => rSum K vs H Q ∨ rSumA K vs H Q
section
variable {K : PySem.W.Frag} {mg : Str → Option Value} {r : Addr} {X : Cx} {O : List Nat} {E : XK} {e : Expr} {pos : Pos} {ts : TA}
theorem cs_sumA : CallS K mg r (rSumA K) sumTD := by
  intro Hs H tp xs ds z Q w rx hz k
  unfold sumTD at hz
  split at hz
  · obtain ⟨bs, h1, h2⟩ := Option.map_eq_some_iff.mp hz
    subst h2
    obtain ⟨x, rfl, h⟩ := paired1 rx
    rw [unI_ok h1] at h
    obtain ⟨p, vs, rfl, _, a, b⟩ := repT_tup w h
    have := RepDs.ints_of b
    subst this
    exact ⟨p, bs, rfl, .of a, k _ _ _ (Grow.refl _ _) w (.int _)⟩
  · cases hz
theorem ge_sum2 {p0 : Pos} {ms : SE (List D)} (hc : X.calm = true) (hm : X.mg "sum" = none) (ha : GAO K mg r X O E [e] ts ms) (hg : Gl X "sum" := by rfl) (he : starEach [e] X.env = (false, eval e X.env) :: starEach [] X.env := by rfl) (hpl : (backTo pos (starEach [] X.env)).any (·.1) = false := by rfl) (hK : X.K = K := by rfl) :
    GE K mg r X O E (.Call (.Name "sum" p0) [e] [] pos) (tCB (rSum2 K) ts) (callB sum2D ms) := by
  subst hK
  exact ge_callB (crr_or (cr_sum hc) (cr_sumA hc)) (CallS.or cs_sum cs_sumA fun d z h => by
    unfold sum2D at h
    split at h
    · exact .inl h
    · exact .inr h
    · cases h) hm ha hg (by decide +kernel) (by decide) (by decide) he hpl
end
end G
set_option maxHeartbeats 1000000
namespace Dc2
open PySem PySem.Spec PyProof.Rows L2
abbrev two (kx vx t0 i0 t1 i1 : Expr) (sc : Scope) (ps : Pos) : Expr := .DictComp kx vx [⟨t0, i0, [], 0⟩, ⟨t1, i1, [], 0⟩] sc ps
theorem outTurn (kx vx t0 i0 t1 i1 : Expr) (sc : Scope) (ps : Pos) (it acc : Value) (en : Env) : compTurn (two kx vx t0 i0 t1 i1 sc ps) 0 it acc en = (do
    standAt i0.pos
    let nx ← pyNext it
    match nx with
    | none => pure (.done .next)
    | some u =>
      letOwnedTupleGo t0 it u
      assign t0 en u
      let a ← eval i1 en
      standAt i1.pos
      let b ← foldedSetIterable i1 en a
      let j ← holding [b] (pyIter b)
      let _ ← runOwn (.compStart (two kx vx t0 i0 t1 i1 sc ps) 1 j acc en) en
      again (.compLoop (two kx vx t0 i0 t1 i1 sc ps) 0 it acc en)) := by rfl
theorem inTurn (kx vx t0 i0 t1 i1 : Expr) (sc : Scope) (ps : Pos) (it : Value) (D : Addr) (en : Env) : compTurn (two kx vx t0 i0 t1 i1 sc ps) 1 it (.ref D) en = (do
    standAt i1.pos
    let nx ← pyNext it
    match nx with
    | none => pure (.done .next)
    | some u =>
      letOwnedTupleGo t1 it u
      assign t1 en u
      (do
        let a ← eval kx en
        let b ← holding [a] (eval vx en)
        standAt { kx.pos with endLine := vx.pos.endLine, endCol := vx.pos.endCol }
        holding [a, b] (dictSet D a b))
      again (.compLoop (two kx vx t0 i0 t1 i1 sc ps) 1 it (.ref D) en)) := by rfl
section
variable {P : Program} {w : World} {A : Around} {R : Result → Shared → Prop} {s : Shared} {kx vx t0 i0 t1 i1 : Expr} {sc : Scope} {ps : Pos} {it acc : Value} {en : Env}
/-- what is wanted if something is raised within -/
abbrev bad (P : Program) (w : World) (A : Around) (en : Env) (R : Result → Shared → Prop) : Value → Shared → Prop := notedBy (model P w) A en fun x z => R (.error x) z
theorem outLoop (hf : ∀ x, foldedSetIterable i1 en x = pure x) (J : Nat → Shared → Prop)
    (step : ∀ n z, J n z → wpAny (model P w) A (pyNext it) (fun nx z1 => match nx with
      | none => R (.ok .next) z1
      | some u => wpAny (model P w) A (letOwnedTupleGo t0 it u) (fun _ z2 => wpAny (model P w) A (assign t0 en u) (fun _ z3 => wpAny (model P w) A (eval i1 en) (fun a z4 => wpAny (model P w) A (pyIter a) (fun j z5 =>
          codeAny (model P w) A (.compStart (two kx vx t0 i0 t1 i1 sc ps) 1 j acc en) (fun e z6 => match e with
            | .ok _ => ∃ k, k < n ∧ J k z6
            | .error _ => False) z5) (bad P w A en R) z4) (bad P w A en R) z3) (bad P w A en R) z2) (bad P w A en R) z1) (bad P w A en R) z)
    (n : Nat) (h : J n s) : codeAny (model P w) A (.compLoop (two kx vx t0 i0 t1 i1 sc ps) 0 it acc en) R s := by
  refine codeAny_loop rfl J (fun n z hJ => ?_) n h
  show wpAny _ A ((compTurn (two kx vx t0 i0 t1 i1 sc ps) 0 it acc en).onRaise fun x => do noteFrame x en; theTreesLotGoes x) _ _ z
  refine wpAny_noted ?_
  rw [outTurn]
  refine wpAny_bind (wpAny_standAt (wpAny_bind (wpAny_mono (step n z hJ) (fun nx z1 q => ?_) fun _ _ y => y)))
  cases nx with
  | none => exact wpAny_pure q
  | some u =>
    refine wpAny_bind (wpAny_mono q (fun _ z2 q2 => ?_) fun _ _ y => y)
    refine wpAny_bind (wpAny_mono q2 (fun _ z3 q3 => ?_) fun _ _ y => y)
    refine wpAny_bind (wpAny_mono q3 (fun a z4 q4 => ?_) fun _ _ y => y)
    refine wpAny_bind (wpAny_standAt (wpAny_bind (wpAny_of_eq (hf a) (wpAny_bind (wpAny_holding (wpAny_mono q4 (fun j z5 q5 => ?_) fun _ _ y => y))))))
    refine wpAny_bind (wpAny_runOwn ?_)
    rw [Around.mark_none]
    refine codeAny_mono q5 fun e z6 q6 => ?_
    cases e with
    | ok _ => first | exact wpAny_pure ⟨rfl, q6⟩ | exact wpAny_bind (wpAny_pure (wpAny_pure ⟨rfl, q6⟩))
    | error _ => exact q6.elim
theorem inLoop {D : Addr} (J : Nat → Shared → Prop)
    (step : ∀ n z, J n z → wpAny (model P w) A (pyNext it) (fun nx z1 => match nx with
      | none => R (.ok .next) z1
      | some u => wpAny (model P w) A (letOwnedTupleGo t1 it u) (fun _ z2 => wpAny (model P w) A (assign t1 en u) (fun _ z3 => wpAny (model P w) A (eval kx en) (fun a z4 => wpAny (model P w) A (eval vx en) (fun b z5 =>
          wpAny (model P w) A (dictSet D a b) (fun _ z6 => ∃ k, k < n ∧ J k z6) (bad P w A en R) z5) (bad P w A en R) z4) (bad P w A en R) z3) (bad P w A en R) z2) (bad P w A en R) z1) (bad P w A en R) z)
    (n : Nat) (h : J n s) : codeAny (model P w) A (.compLoop (two kx vx t0 i0 t1 i1 sc ps) 1 it (.ref D) en) R s := by
  refine codeAny_loop rfl J (fun n z hJ => ?_) n h
  show wpAny _ A ((compTurn (two kx vx t0 i0 t1 i1 sc ps) 1 it (.ref D) en).onRaise fun x => do noteFrame x en; theTreesLotGoes x) _ _ z
  refine wpAny_noted ?_
  rw [inTurn]
  refine wpAny_bind (wpAny_standAt (wpAny_bind (wpAny_mono (step n z hJ) (fun nx z1 q => ?_) fun _ _ y => y)))
  cases nx with
  | none => exact wpAny_pure q
  | some u =>
    refine wpAny_bind (wpAny_mono q (fun _ z2 q2 => ?_) fun _ _ y => y)
    refine wpAny_bind (wpAny_mono q2 (fun _ z3 q3 => ?_) fun _ _ y => y)
    refine wpAny_bind (wpAny_bind (wpAny_mono q3 (fun a z4 q4 => ?_) fun _ _ y => y))
    refine wpAny_bind (wpAny_holding (wpAny_mono q4 (fun b z5 q5 => ?_) fun _ _ y => y))
    exact wpAny_bind (wpAny_standAt (wpAny_holding (wpAny_mono q5 (fun _ z6 q6 => wpAny_pure ⟨rfl, q6⟩) fun _ _ y => y)))
theorem inStart (h0 : codeAny (model P w) A (.compLoop (two kx vx t0 i0 t1 i1 sc ps) 1 it acc en) R s)
    (h : wpAny (model P w) A (pyIter it) (fun j z => codeAny (model P w) A (.compLoop (two kx vx t0 i0 t1 i1 sc ps) 1 j acc en) R z) (bad P w A en R) s) :
    codeAny (model P w) A (.compStart (two kx vx t0 i0 t1 i1 sc ps) 1 it acc en) R s := by
  refine codeAny_of_tree ?_
  show wpAny _ _ ((compStart (two kx vx t0 i0 t1 i1 sc ps) 1 it acc en).onRaise fun x => do noteFrame x en; standAt theWindowsPlace) _ _ s
  refine wpAny_notedAt ?_
  unfold compStart
  show wpAny _ _ (ask >>= _) _ _ s
  refine wpAny_bind (wpAny_askSetting (wpAny_ite ?_))
  split
  · first | exact wpAny_bind (wpAny_pure (wpAny_pure ⟨rfl, h0⟩)) | exact wpAny_pure ⟨rfl, h0⟩
  · first
    | exact wpAny_bind (wpAny_rule (wpAny_bind (wpAny_standAt (wpAny_bind (wpAny_mono h (fun j z q => wpAny_pure ⟨rfl, q⟩) fun _ _ y => y)))))
    | (refine wpAny_bind (wpAny_rule ?_)
       show wpAny _ _ (standAt i1.pos >>= _) _ _ s
       exact wpAny_bind (wpAny_standAt (wpAny_bind (wpAny_mono h (fun j z q => wpAny_pure ⟨rfl, q⟩) fun _ _ y => y))))
end
end Dc2
set_option maxHeartbeats 1000000
namespace Dc2
open PySem PySem.Spec PyProof.Rows L2
def wants (wi : TI) (g : TG) (wj : TI) (k : TG) (tk tv : TE) (vs us : List Nat) : TE := fun σ H Q => wi σ H fun J H1 => ∀ D, H1 D = none → ∃ W : Nat → Nat → Hp → Prop, (∃ m, W 0 m (upd H1 D (.dK []))) ∧ ∀ i m H2, W i m H2 →
  (J.stop i H2 ∧ Q (.ref D) H2) ∨ (J.go i H2 ∧ ∃ G : Hp → Prop, (∀ H3, G H3 → ∃ m', m' < m ∧ W (i + 1) m' H3) ∧ ∀ x H3, J.yld i H2 x H3 → g x (wipe σ vs) H3 fun σ2 H4 => wipe σ2 vs = wipe σ vs ∧
    wj σ2 H4 fun Jn H5 => ∃ U : Nat → Nat → Hp → Prop, (∃ m, U 0 m H5) ∧ ∀ j l H6, U j l H6 →
      (Jn.stop j H6 ∧ G H6) ∨ (Jn.go j H6 ∧ ∃ F : Hp → Prop, (∀ H7, F H7 → ∃ l', l' < l ∧ U (j + 1) l' H7) ∧ ∀ y H7, Jn.yld j H6 y H7 → k y (wipe σ2 us) H7 fun σ3 H8 => wipe σ3 us = wipe σ2 us ∧
        tk σ3 H8 fun a H9 => tv σ3 H9 fun b H10 => ∃ (kvs : List (Key × V)) (q : Key), a = kV q ∧ H10 D = some (.dK kvs) ∧ kvs.length < sizeLine ∧ F (upd H10 D (.dK (putK kvs q b)))))
/-- the blocks' contexts -/
abbrev BX (X : Cx) (sc : Scope) (s : Shared) (H : Hp) (C : Addr) (cl : List (Str × Addr)) (fp : List Addr) : Cx := X.blk s H sc (compEnvC sc cl C X.env) fp
section
variable {X : Cx}
theorem core {pins : List (Addr × Obj)} {s : Shared} {σ : L2.St} {H : Hp} {Q : VK} {kx vx t0 i0 t1 i1 : Expr} {sc : Scope} {own : List (Str × Nat)} {us : List Nat} {ps pp : Pos} {wi wj : TI} {g k : TG} {tk tv : TE} {use : Option (Value → Sem Unit)} {Qf : Value → Shared → Prop}
    (calm : X.calm = true) (nd : X.N.Nodup) (I : L2.Inv X pins σ H s) (p0 : PI X t0 i0 wi) (bo : BlkOk X.N X.env.scope sc own) (hus : ∀ i ∈ us, i ∈ own.map (·.2))
    (pg : ∀ s H C cl fp, PG (BX X sc s H C cl fp) t0 g) (pj : ∀ s H C cl fp, PI (BX X sc s H C cl fp) t1 i1 wj) (pk : ∀ s H C cl fp, PG (BX X sc s H C cl fp) t1 k)
    (pa : ∀ s H C cl fp, PE (BX X sc s H C cl fp) kx tk) (pb : ∀ s H C cl fp, PE (BX X sc s H C cl fp) vx tv)
    (f0 : ∀ x, foldedSetIterable i0 X.env x = pure x) (f1 : ∀ en x, foldedSetIterable i1 en x = pure x) (want : wants wi g wj k tk tv (own.map (·.2)) us σ H Q)
    (back : ∀ D C z m H', Inv X pins σ H' z → Q (.ref D) H' → z.heap.Ns C m → FpOk X pins H' C → compPost (model X.prog X.w) X.A X.xe use Qf (.ref D) C (.ok .next) z) :
    wpAny (model X.prog X.w) X.A (comprehension (two kx vx t0 i0 t1 i1 sc ps) sc X.env pp newDict false (eval i0 X.env) use) Qf X.xe s := by
  have caught : ∀ y ∈ sc.names, y.2 = .free → ∃ c, X.env.cells.lookup y.1 = some c := by
    intro y hy e
    cases bo.free y hy e with
    | inl z => exact I.ok.has _ (.inl z)
    | inr z => exact I.ok.has _ (.inr z)
  refine wpAny_comprehension_free (use := use) rfl f0 (closure_ok caught) bo.kind (fun y hy e => by rw [bo.uniq y hy, e]) ?_
  refine thn (p0.run pins s σ H _ I want) fun _ z1 w1 => thn w1 fun _ z2 ⟨it, fp, tn, J, H2, e2, I2, Tw, st2, fo2, w2⟩ => ?_
  subst e2
  refine wpAny_newObj_type (newEnv_comp ?_)
  generalize eD : z2.heap.objs.size = D
  have fr : H2 D = none := I2.hok.fresh (Nat.le_of_eq eD)
  obtain ⟨W, ⟨m0, W0⟩, turn⟩ := w2 D fr
  generalize e3 : ({ z2 with heap := z2.heap.push { cls := .type "dict", data := .dict #[] } } : Shared) = z3
  have hp3 : z3.heap = z2.heap.push { cls := .type "dict", data := .dict #[] } := by rw [← e3]
  have I3 : L2.Inv X pins σ (upd H2 D (.dK [])) z3 := by
    rw [← e3]
    refine I2.laid (t' := z2.toks) (fun _ _ e => Heap.get?_push_of_some _ e) (Nat.le_of_eq eD) ?_
    rw [← eD]
    exact dk_empty z2.heap I2.big
  have below : ∀ b ∈ fp, b < z2.heap.objs.size := by
    intro b hb
    obtain ⟨_, e, _⟩ := Tw.obj _ _ st2 b hb
    exact Heap.lt_size e
  have fo3 : ∀ b ∈ fp, FpOk X pins (upd H2 D (.dK [])) b ∧ b < z3.heap.objs.size := by
    intro b hb
    have lt := below b hb
    have ne : b ≠ D := by rw [← eD]; exact Nat.ne_of_lt lt
    refine ⟨⟨by rw [upd_ne ne]; exact (fo2 b hb).1, (fo2 b hb).2⟩, ?_⟩
    rw [hp3, Heap.size_push]
    exact Nat.lt_succ_of_lt lt
  have st3 : tn 0 z3.heap := Tw.keep _ _ _ st2 fun b _ _ e => by rw [hp3]; exact Heap.get?_push_of_some _ e
  have I4 := block_start I3 bo nd fo3
  have pg := pg z3 (upd H2 D (.dK [])) z3.heap.objs.size (cellsFrom (z3.heap.objs.size + 1) sc.names (cloFrom X.env.cells sc.names [])) fp
  have pj := pj z3 (upd H2 D (.dK [])) z3.heap.objs.size (cellsFrom (z3.heap.objs.size + 1) sc.names (cloFrom X.env.cells sc.names [])) fp
  have pk := pk z3 (upd H2 D (.dK [])) z3.heap.objs.size (cellsFrom (z3.heap.objs.size + 1) sc.names (cloFrom X.env.cells sc.names [])) fp
  have pa := pa z3 (upd H2 D (.dK [])) z3.heap.objs.size (cellsFrom (z3.heap.objs.size + 1) sc.names (cloFrom X.env.cells sc.names [])) fp
  have pb := pb z3 (upd H2 D (.dK [])) z3.heap.objs.size (cellsFrom (z3.heap.objs.size + 1) sc.names (cloFrom X.env.cells sc.names [])) fp
  show codeAny _ _ (.compStart (two kx vx t0 i0 t1 i1 sc ps) 0 (.ref it) (.ref D) (compEnvC sc (cellsFrom (z3.heap.objs.size + 1) sc.names (cloFrom X.env.cells sc.names [])) z3.heap.objs.size X.env)) (compPost (model X.prog X.w) X.A X.xe use Qf (.ref D) z3.heap.objs.size) { z3 with heap := pushCells (z3.heap.push { cls := .type "dict", data := .dict #[] }) sc.names }
  have none3 : ∀ b ∈ fp, (upd H2 D (.dK [])) b = none := fun b hb => (fo3 b hb).1.1
  unfold BX at pg pj pk pa pb
  generalize eC : compEnvC sc (cellsFrom (z3.heap.objs.size + 1) sc.names (cloFrom X.env.cells sc.names [])) z3.heap.objs.size X.env = ce at I4 pg pj pk pa pb ⊢
  have eL : ce.locals = z3.heap.objs.size := by subst eC; rfl
  generalize eH : upd H2 D (.dK []) = H3 at I3 I4 pg pj pk pa pb W0 none3 fo3
  generalize e4 : ({ z3 with heap := pushCells (z3.heap.push { cls := .type "dict", data := .dict #[] }) sc.names } : Shared) = z4 at I4 ⊢
  have st4 : tn 0 z4.heap := Tw.keep _ _ _ st3 fun b _ _ e => by rw [← e4]; exact pushCells_keeps _ _ _ _ (Heap.get?_push_of_some _ e)
  have own_fp : ∀ {σ' : L2.St} {H' : Hp} {z : Shared}, Inv (X.blk z3 H3 sc ce fp) [] σ' H' z → (∀ b ∈ fp, H' b = none) → ∀ b ∈ fp, FpOk (X.blk z3 H3 sc ce fp) [] H' b := by
    intro σ' H' z I' hn b hb
    refine ⟨hn b hb, (I'.ok.exf b hb).1, I'.ok.exfs b hb, .inl hb, fun x c e => (I'.ok.exf b hb).2 x c e, fun p hp => ?_⟩
    have hp : p ∈ ([] : List (Addr × Obj)) ++ [] := hp
    simp at hp
  have whole : codeAny (model X.prog X.w) X.A (.compLoop (two kx vx t0 i0 t1 i1 sc ps) 0 (.ref it) (.ref D) ce) (compPost (model X.prog X.w) X.A X.xe use Qf (.ref D) z3.heap.objs.size) z4 := by
    refine outLoop (f1 ce) (fun n z => ∃ i H', Inv (X.blk z3 H3 sc ce fp) [] (wipe σ (own.map (·.2))) H' z ∧ tn i z.heap ∧ (∀ b ∈ fp, H' b = none) ∧ W i n H') ?_ m0 ⟨0, H3, I4, st4, none3, W0⟩
    rintro n z5 ⟨i, H5, I5, st5, n5, w5⟩
    cases turn i n H5 w5 with
    | inl e =>
      obtain ⟨stop, q⟩ := e
      refine thnF (Tw.done (X.blk z3 H3 sc ce fp) rfl rfl rfl calm i [] z5 _ H5 (fun _ _ => False) I5 (own_fp I5 n5) st5 stop) fun nx z6 ⟨hr, I6⟩ => ?_
      subst hr
      have I7 : L2.Inv X pins σ H5 z6 := I3.call' (ch := fp) I6.os I6.base I6.hok I6.bare fun b hb => by
        obtain ⟨_, a1, a2, a3, a4, a5⟩ := (fo3 b hb).1
        exact ⟨a3, a1, a4, a5⟩
      have free : H5 z3.heap.objs.size = none := by
        have y : H5 ce.locals = none := I6.free
        rwa [eL] at y
      obtain ⟨m, hn, _⟩ := I6.loc
      have hn : z6.heap.Ns ce.locals m := hn
      rw [eL] at hn
      exact back D z3.heap.objs.size z6 m H5 I7 q hn (I3.fpOk (Nat.le_refl _) free)
    | inr e =>
      obtain ⟨go, G, hG, step⟩ := e
      refine thnF (Tw.item (X.blk z3 H3 sc ce fp) rfl rfl rfl calm i [] z5 _ H5 (fun _ _ => False) I5 (own_fp I5 n5) st5 go) fun nx z6 ⟨u, hr, h6⟩ => ?_
      subst hr
      refine thnF h6 fun _ z7 ⟨x, H7, I7, r7, y7, st7, n7⟩ => ?_
      have I7p := I7.pinned (own_fp I7 n7) (Tw.obj _ _ st7)
      refine thnF (pg.run _ z7 _ H7 x u _ I7p r7 (step x H7 y7)) fun _ z8 ⟨σ8, H8, I8, hw8, q8⟩ => ?_
      have len8 : (wipe σ (own.map (·.2))).length = (wipe σ8 us).length := by rw [← hw8, wipe_length, wipe_length]
      have kept8 : ∀ (j : Nat) v, (wipe σ (own.map (·.2)))[j]? = some (some v) → (wipe σ8 us)[j]? = some (some v) := by
        intro j v e
        rw [← hw8] at e
        obtain ⟨a, b⟩ := wipe_some e
        rw [wipe_out fun y => b (hus j y)]
        exact a
      have fin : ∀ {z : Shared} {H' : Hp}, Inv (X.blk z3 H3 sc ce fp) ([] ++ pinsAt fp z7.heap) (wipe σ8 us) H' z → G H' → ∃ k, k < n ∧ ∃ i H', Inv (X.blk z3 H3 sc ce fp) [] (wipe σ (own.map (·.2))) H' z ∧ tn i z.heap ∧ (∀ b ∈ fp, H' b = none) ∧ W i k H' := by
        intro z H' I' hg
        obtain ⟨m', lt, w'⟩ := hG H' hg
        have pin : ∀ b ∈ fp, ∀ o, z7.heap.get? b = some o → z.heap.get? b = some o ∧ H' b = none := by
          intro b hb o e
          have y := I'.pin (b, o) (List.mem_append_right _ (List.mem_append_right _ (mem_pinsAt hb e)))
          exact ⟨y.1, y.2.1⟩
        refine ⟨m', lt, i + 1, H', (I'.unpinned (pins := [])).weak len8 kept8, Tw.keep _ _ _ st7 fun b hb o e => (pin b hb o e).1, fun b hb => ?_, w'⟩
        obtain ⟨o, e, _⟩ := Tw.obj _ _ st7 b hb
        exact (pin b hb o e).2
      refine thnF (pj.run _ z8 σ8 H8 _ I8 q8) fun _ z9 w9 => thnF w9 fun _ z10 ⟨jt, fq, tm, Jn, H10, e10, I10, Tj, st10, fo10, U, ⟨l0, U0⟩, round⟩ => ?_
      subst e10
      have own_fq : ∀ {H' : Hp}, (∀ b ∈ fq, H' b = none) → ∀ b ∈ fq, FpOk (X.blk z3 H3 sc ce fp) ([] ++ pinsAt fp z7.heap) H' b := fun hn b hb => ⟨hn b hb, (fo10 b hb).2⟩
      have inner : codeAny (model X.prog X.w) X.A (.compLoop (two kx vx t0 i0 t1 i1 sc ps) 1 (.ref jt) (.ref D) ce)
          (fun e z => match e with
            | .ok _ => ∃ k, k < n ∧ ∃ i H', Inv (X.blk z3 H3 sc ce fp) [] (wipe σ (own.map (·.2))) H' z ∧ tn i z.heap ∧ (∀ b ∈ fp, H' b = none) ∧ W i k H'
            | .error _ => False) z10 := by
        refine inLoop (fun l z => ∃ j H', Inv (X.blk z3 H3 sc ce fp) ([] ++ pinsAt fp z7.heap) (wipe σ8 us) H' z ∧ tm j z.heap ∧ (∀ b ∈ fq, H' b = none) ∧ U j l H') ?_ l0 ⟨0, H10, I10.weak (wipe_length _ _) (fun j v e => (wipe_some e).1), st10, fun b hb => (fo10 b hb).1, U0⟩
        rintro l z11 ⟨j, H11, I11, st11, n11, u11⟩
        cases round j l H11 u11 with
        | inl e =>
          obtain ⟨stop, hg⟩ := e
          refine thnF (Tj.done (X.blk z3 H3 sc ce fp) rfl rfl rfl calm j _ z11 (wipe σ8 us) H11 (fun _ _ => False) I11 (own_fq n11) st11 stop) fun nx z12 ⟨hr, I12⟩ => ?_
          subst hr
          exact fin I12 hg
        | inr e =>
          obtain ⟨go, F, hF, step1⟩ := e
          refine thnF (Tj.item (X.blk z3 H3 sc ce fp) rfl rfl rfl calm j _ z11 (wipe σ8 us) H11 (fun _ _ => False) I11 (own_fq n11) st11 go) fun nx z12 ⟨u1, hr, h12⟩ => ?_
          subst hr
          refine thnF h12 fun _ z13 ⟨y1, H13, I13, r13, yy13, st13, n13⟩ => ?_
          have I13p := I13.pinned (own_fq n13) (Tj.obj _ _ st13)
          refine thnF (pk.run _ z13 (wipe σ8 us) H13 y1 u1 _ I13p r13 (step1 y1 H13 yy13)) fun _ z14 ⟨σ14, H14, I14, hw14, q14⟩ => ?_
          refine thnF (pa.run _ z14 σ14 H14 _ I14 q14) fun _ z15 ⟨ya, H15, I15, r15, q15⟩ => ?_
          refine thnF (pb.run _ z15 σ14 H15 _ I15 q15) fun _ z16 ⟨yb, H16, I16, r16, kvs, q, eq_, hD16, hz16, hf⟩ => ?_
          subst eq_
          refine d_dictSet (X := X.blk z3 H3 sc ce fp) I16 hD16 hz16 r15 r16 fun z17 I17 => ?_
          obtain ⟨l', lt, u'⟩ := hF _ hf
          have pin : ∀ b ∈ fq, ∀ o, z13.heap.get? b = some o → z17.heap.get? b = some o ∧ (upd H16 D (.dK (putK kvs q yb))) b = none := by
            intro b hb o e
            have y := I17.pin (b, o) (List.mem_append_right _ (List.mem_append_right _ (mem_pinsAt hb e)))
            exact ⟨y.1, y.2.1⟩
          refine ⟨l', lt, j + 1, _, I17.unpinned.weak (by rw [← hw14, wipe_length]) (fun j v e => by rw [← hw14] at e; exact (wipe_some e).1), Tj.keep _ _ _ st13 fun b hb o e => (pin b hb o e).1, fun b hb => ?_, u'⟩
          obtain ⟨o, e, _⟩ := Tj.obj _ _ st13 b hb
          exact (pin b hb o e).2
      exact inStart inner (Tj.self X.A 0 _ _ _ st10 inner)
  exact codeAny_compStart_dict whole (Tw.self X.A 0 _ _ _ st4 whole)
/-- as a value -/
theorem pe_dcTwo {kx vx t0 i0 t1 i1 : Expr} {sc : Scope} {own : List (Str × Nat)} {us : List Nat} {ps : Pos} {wi wj : TI} {g k : TG} {tk tv : TE}
    (calm : X.calm = true) (nd : X.N.Nodup) (p0 : PI X t0 i0 wi) (bo : BlkOk X.N X.env.scope sc own) (hus : ∀ i ∈ us, i ∈ own.map (·.2))
    (pg : ∀ s H C cl fp, PG (BX X sc s H C cl fp) t0 g) (pj : ∀ s H C cl fp, PI (BX X sc s H C cl fp) t1 i1 wj) (pk : ∀ s H C cl fp, PG (BX X sc s H C cl fp) t1 k)
    (pa : ∀ s H C cl fp, PE (BX X sc s H C cl fp) kx tk) (pb : ∀ s H C cl fp, PE (BX X sc s H C cl fp) vx tv)
    (f0 : ∀ x, foldedSetIterable i0 X.env x = pure x := by intro _; rfl) (f1 : ∀ en x, foldedSetIterable i1 en x = pure x := by intro _ _; rfl) :
    PE X (two kx vx t0 i0 t1 i1 sc ps) (wants wi g wj k tk tv (own.map (·.2)) us) := by
  refine ⟨fun pins s σ H Q I h => ?_⟩
  unfold two
  rw [arm_eval_DictComp]
  refine core calm nd I p0 bo hus pg pj pk pa pb f0 f1 h fun D C z m H' I' q hn fo => ⟨m, hn, fun h'' sb => ?_⟩
  obtain ⟨a0, a1, a2, a3, a4, a5⟩ := fo
  exact ⟨.ref D, H', I'.turned (t' := z.toks) (fun b o hb e => (sb.2 b hb).trans e) a0 a1 a3 a4 a5, rfl, q⟩
end
end Dc2
set_option maxHeartbeats 1000000
namespace G
open PySem PySem.Spec PyProof.Rows L2
def keyOf : D → Option Key
  | .int i => some (.inl i)
  | .str s => some (.inr s)
  | _ => none
def keysL : List D → Option (List Key)
  | [] => some []
  | d :: ds => (keyOf d).bind fun q => (keysL ds).map (q :: ·)
def keysOf : D → Option (List Key)
  | .tup ds => keysL ds
  | _ => none
def findP {κ : Type} [DecidableEq κ] (kf : D → Option κ) : List (D × D) → κ → Option D
  | [], _ => none
  | (a, b) :: r, q => if kf a = some q then some b else findP kf r q
def putP {κ : Type} [DecidableEq κ] (kf : D → Option κ) (kd : κ → D) (ds : List (D × D)) (q : κ) (v : D) : List (D × D) :=
  if (findP kf ds q).isSome = true then ds.map (fun p => if kf p.1 = some q then (p.1, v) else p) else ds ++ [(kd q, v)]
theorem keyOf_D (q : Key) : keyOf (keyD q) = some q := by cases q <;> rfl
theorem keysL_D (qs : List Key) : keysL (qs.map keyD) = some qs := by
  induction qs with
  | nil => rfl
  | cons q qs ih =>
    rw [List.map_cons]
    unfold keysL
    rw [keyOf_D, ih]; rfl
theorem keysOf_T (qs : List Key) : keysOf (keyT qs) = some qs := keysL_D qs
section
variable {K : PySem.W.Frag} {mg : Str → Option Value} {r : Addr} {Hs Hs' H H' : Hp} {tp : List D}
theorem repT_key {v : V} {d : D} {q : Key} (h : RepT K mg r Hs H v d) (e : keyOf d = some q) : v = kV q := by
  cases d with
  | int i => cases e; rw [repT_int h]; rfl
  | str s => cases e; rw [repT_str h]; rfl
  | _ => cases e
theorem reps_keys : ∀ {ds : List D} {vs : List V} {qs : List Key}, RepDs K mg r Hs vs ds → keysL ds = some qs → vs = qs.map kV
  | [], _, _, .nil, e => by cases e; rfl
  | d :: ds, _, qs, .cons h hs, e => by
    unfold keysL at e
    obtain ⟨q, h1, e⟩ := Option.bind_eq_some_iff.mp e
    obtain ⟨qs', h2, e⟩ := Option.map_eq_some_iff.mp e
    subst e
    rw [repT_key (H := Hs) h.top h1, reps_keys hs h2]; rfl
theorem repT_keys {v : V} {d : D} {qs : List Key} (w : Wd K mg r Hs H tp) (h : RepT K mg r Hs H v d) (e : keysOf d = some qs) : ∃ b, v = .ref b ∧ H b = some (.tup (qs.map kV)) := by
  cases d with
  | tup ds =>
    obtain ⟨p, vs, rfl, _, a, b⟩ := repT_tup w h
    exact ⟨p, rfl, by rw [a, reps_keys b e]⟩
  | _ => cases e
theorem repT_dic {v : V} {ds : List (D × D)} (w : Wd K mg r Hs H tp) (h : RepT K mg r Hs H v (.dic ds)) : ∃ p kvs, v = .ref p ∧ Rd H p (.dK kvs) ∧ RepP K mg r Hs (kvs.map fun q => (keyD q.1, q.2)) ds := by
  rcases h with h | ⟨p, e, _, kvs, a, b⟩
  · cases h with
    | dicK a b => exact ⟨_, _, rfl, w.sub.rd a, b⟩
  · exact ⟨p, kvs, e, .of a, b⟩
theorem repT_dct {v : V} {ds : List (D × D)} (w : Wd K mg r Hs H tp) (h : RepT K mg r Hs H v (.dct ds)) : ∃ p kvs, v = .ref p ∧ Rd H p (.dT kvs) ∧ RepP K mg r Hs (kvs.map fun q => (keyT q.1, q.2)) ds := by
  rcases h with h | ⟨p, e, _, kvs, a, b⟩
  · cases h with
    | dicT a b => exact ⟨_, _, rfl, w.sub.rd a, b⟩
  · exact ⟨p, kvs, e, .of a, b⟩
section
variable {κ : Type} [DecidableEq κ] {kf : D → Option κ} {kd : κ → D}
theorem find_rep (hk : ∀ q, kf (kd q) = some q) (q : κ) : ∀ {kvs : List (κ × V)} {ds : List (D × D)}, RepP K mg r Hs (kvs.map fun p => (kd p.1, p.2)) ds →
    (∀ d, findP kf ds q = some d → ∃ v, valV kvs q = some v ∧ RepD K mg r Hs v d) ∧ (findP kf ds q = none → valV kvs q = none)
  | [], _, .nil => ⟨fun d e => (by cases e), fun _ => rfl⟩
  | p :: kvs, _, .cons (d := d0) (ds := ds) h hs => by
    obtain ⟨a, b⟩ := find_rep hk q (kvs := kvs) (ds := ds) hs
    by_cases e : p.1 = q
    · have ek : kf (kd p.1) = some q := by rw [hk, e]
      unfold findP
      rw [if_pos ek]
      refine ⟨fun d ed => ?_, fun ed => by cases ed⟩
      cases ed
      exact ⟨p.2, valV_pos e, h⟩
    · have ek : ¬ kf (kd p.1) = some q := by rw [hk]; intro z; exact e (Option.some.inj z)
      unfold findP
      rw [if_neg ek]
      refine ⟨fun d ed => ?_, fun ed => by rw [valV_neg e]; exact b ed⟩
      obtain ⟨v, h1, h2⟩ := a d ed
      exact ⟨v, by rw [valV_neg e]; exact h1, h2⟩
theorem repP_map (hk : ∀ q, kf (kd q) = some q) {q : κ} {z : V} {v : D} (hz : RepD K mg r Hs z v) : ∀ {kvs : List (κ × V)} {ds : List (D × D)}, RepP K mg r Hs (kvs.map fun p => (kd p.1, p.2)) ds →
    RepP K mg r Hs ((kvs.map fun kv => if kv.1 = q then (kv.1, z) else kv).map fun p => (kd p.1, p.2)) (ds.map fun p => if kf p.1 = some q then (p.1, v) else p)
  | [], _, .nil => .nil
  | p :: kvs, _, .cons (d := d0) (ds := ds) h hs => by
    have ih := repP_map (q := q) hk hz (kvs := kvs) (ds := ds) hs
    rw [List.map_cons, List.map_cons, List.map_cons]
    by_cases e : p.1 = q
    · rw [if_pos e, if_pos (by show kf (kd p.1) = some q; rw [hk, e])]
      exact .cons hz ih
    · rw [if_neg e, if_neg (by show ¬ kf (kd p.1) = some q; rw [hk]; intro y; exact e (Option.some.inj y))]
      exact .cons h ih
theorem repP_app {a b : List (D × V)} {ds es : List (D × D)} : RepP K mg r Hs a ds → RepP K mg r Hs b es → RepP K mg r Hs (a ++ b) (ds ++ es)
  | .nil, q => q
  | .cons h p, q => .cons h (repP_app p q)
theorem put_rep (hk : ∀ q, kf (kd q) = some q) {q : κ} {z : V} {v : D} {kvs : List (κ × V)} {ds : List (D × D)} (hz : RepD K mg r Hs z v) (h : RepP K mg r Hs (kvs.map fun p => (kd p.1, p.2)) ds) :
    RepP K mg r Hs ((putK kvs q z).map fun p => (kd p.1, p.2)) (putP kf kd ds q v) := by
  obtain ⟨a, b⟩ := find_rep hk q h
  unfold putK putP
  rw [valV_any]
  cases e : findP kf ds q with
  | some d =>
    obtain ⟨v0, h1, _⟩ := a d e
    rw [h1]
    exact repP_map hk hz h
  | none =>
    rw [b e]
    rw [if_neg (by simp), if_neg (by simp), List.map_append]
    exact repP_app h (.cons hz .nil)
theorem repP_len : ∀ {a : List (D × V)} {ds : List (D × D)}, RepP K mg r Hs a ds → a.length = ds.length
  | _, _, .nil => rfl
  | _, _, .cons _ q => by simp only [List.length_cons, repP_len q]
end
def dgetD (d k : D) : Option (Option D) := match d with
  | .dic ds => (keyOf k).map fun q => findP keyOf ds q
  | .dct ds => (keysOf k).map fun q => findP keysOf ds q
  | _ => none
theorem dget_ok {x y : V} {d k : D} {o : Option D} (w : Wd K mg r Hs H tp) (hx : RepT K mg r Hs H x d) (hy : RepT K mg r Hs H y k) (e : dgetD d k = some o) :
    ∃ a, x = .ref a ∧ IsD H a ∧ ∃ ov, DGet H a y ov ∧ ov.isSome = o.isSome ∧ ∀ z, o = some z → ∃ v, ov = some v ∧ RepD K mg r Hs v z := by
  unfold dgetD at e
  cases d with
  | dic ds =>
    obtain ⟨q, h1, h2⟩ := Option.map_eq_some_iff.mp e
    obtain ⟨p, kvs, rfl, a, b⟩ := repT_dic w hx
    obtain ⟨f1, f2⟩ := find_rep (K := K) (mg := mg) (r := r) keyOf_D q b
    refine ⟨p, rfl, .inl ⟨kvs, a⟩, valV kvs q, ?_, ?_, fun z hz => ?_⟩
    · rw [repT_key hy h1]; exact .inl ⟨kvs, q, a, rfl, rfl⟩
    · cases c : findP keyOf ds q with
      | none => rw [f2 c, ← h2, c]; rfl
      | some z => obtain ⟨v, e1, _⟩ := f1 z c; rw [e1, ← h2, c]; rfl
    · obtain ⟨v, e1, e2⟩ := f1 z (h2.trans hz)
      exact ⟨v, e1, e2⟩
  | dct ds =>
    obtain ⟨q, h1, h2⟩ := Option.map_eq_some_iff.mp e
    obtain ⟨p, kvs, rfl, a, b⟩ := repT_dct w hx
    obtain ⟨f1, f2⟩ := find_rep (K := K) (mg := mg) (r := r) keysOf_T q b
    obtain ⟨c, rfl, hc⟩ := repT_keys w hy h1
    refine ⟨p, rfl, .inr ⟨kvs, a⟩, valV kvs q, .inr ⟨kvs, q, c, a, rfl, hc, rfl⟩, ?_, fun z hz => ?_⟩
    · cases c : findP keysOf ds q with
      | none => rw [f2 c, ← h2, c]; rfl
      | some z => obtain ⟨v, e1, _⟩ := f1 z c; rw [e1, ← h2, c]; rfl
    · obtain ⟨v, e1, e2⟩ := f1 z (h2.trans hz)
      exact ⟨v, e1, e2⟩
  | _ => cases e
end
section
variable {r : Addr} {X : Cx} {K : PySem.W.Frag} {mg : Str → Option Value} {O : List Nat} {E : XK} {a b c : Expr} {ta tb tc : TE} {pos : Pos}
/-- k in d, k not in d: the key, then the dict -/
def inKD (neg : Bool) (k d : D) : Option D := (dgetD d k).map fun o => .bl (if neg then !o.isSome else o.isSome)
theorem ge_inK {ma mb : SE D} (hu : X.A.units + 64 < cLine) (ha : GO K mg r X O E a ta ma) (hb : GO K mg r X O E b tb mb) (hm : behindInMarks .In b = false := by rfl) : GE K mg r X O E (.Compare a [.In] [b] pos) (tDIn ta tb) (binE (inKD false) ma mb) := by
  refine ⟨pe_cmp (pc_din (by omega) ha.pe hb.pe) hm, fun Hs0 H0 Hs H σ env tp Q Rl P => ?_⟩
  refine ha.snd _ _ _ _ _ _ _ _ Rl (Post.bind P fun v Hs1 H1 d tp1 _ g w rv P1 => ?_)
  refine hb.snd _ _ _ _ _ _ _ _ (Rl.grow g w) (Post.bind P1 fun u Hs2 H2 e tp2 _ g2 w2 ru P2 => ?_)
  obtain ⟨z, hz, k⟩ := Post.ok_of P2
  obtain ⟨o, h1, h2⟩ := Option.map_eq_some_iff.mp hz
  obtain ⟨p, rfl, _, ov, dg, e1, _⟩ := dget_ok w2 ru (rv.grow g2) h1
  refine ⟨p, ov, rfl, dg, k _ Hs2 H2 (Grow.refl _ _) w2 ?_⟩
  rw [e1, ← h2]; exact .bl _
theorem ge_notInK {ma mb : SE D} (hu : X.A.units + 64 < cLine) (ha : GO K mg r X O E a ta ma) (hb : GO K mg r X O E b tb mb) (hm : behindInMarks .NotIn b = false := by rfl) : GE K mg r X O E (.Compare a [.NotIn] [b] pos) (tDNotIn ta tb) (binE (inKD true) ma mb) := by
  refine ⟨pe_cmp (pc_dnotin (by omega) ha.pe hb.pe) hm, fun Hs0 H0 Hs H σ env tp Q Rl P => ?_⟩
  refine ha.snd _ _ _ _ _ _ _ _ Rl (Post.bind P fun v Hs1 H1 d tp1 _ g w rv P1 => ?_)
  refine hb.snd _ _ _ _ _ _ _ _ (Rl.grow g w) (Post.bind P1 fun u Hs2 H2 e tp2 _ g2 w2 ru P2 => ?_)
  obtain ⟨z, hz, k⟩ := Post.ok_of P2
  obtain ⟨o, h1, h2⟩ := Option.map_eq_some_iff.mp hz
  obtain ⟨p, rfl, _, ov, dg, e1, _⟩ := dget_ok w2 ru (rv.grow g2) h1
  refine ⟨p, ov, rfl, dg, k _ Hs2 H2 (Grow.refl _ _) w2 ?_⟩
  rw [e1, ← h2]; exact .bl _
theorem gt_inK {ma mb : SE D} (hu : X.A.units + 64 < cLine) (ha : GO K mg r X O E a ta ma) (hb : GO K mg r X O E b tb mb) (hm : behindInMarks .In b = false := by rfl) : GT K mg r X O E (.Compare a [.In] [b] pos) (tB (tDIn ta tb)) (boolE (binE (inKD false) ma mb)) :=
  ⟨pt_cmp (pc_din (by omega) ha.pe hb.pe) hm, boolE_sound (ge_inK (pos := pos) hu ha hb hm).snd⟩
theorem gt_notInK {ma mb : SE D} (hu : X.A.units + 64 < cLine) (ha : GO K mg r X O E a ta ma) (hb : GO K mg r X O E b tb mb) (hm : behindInMarks .NotIn b = false := by rfl) : GT K mg r X O E (.Compare a [.NotIn] [b] pos) (tB (tDNotIn ta tb)) (boolE (binE (inKD true) ma mb)) :=
  ⟨pt_cmp (pc_dnotin (by omega) ha.pe hb.pe) hm, boolE_sound (ge_notInK (pos := pos) hu ha hb hm).snd⟩
/-- d[k] -/
def ixKD (d k : D) : Option D := (dgetD d k).bind id
theorem ge_ixK {ma mb : SE D} (hu : X.A.units + 64 < cLine) (ha : GO K mg r X O E a ta ma) (hb : GO K mg r X O E b tb mb) (hs : NoSl b := by exact fun _ _ => rfl) : GE K mg r X O E (.Subscript a b pos) (tDGet ta tb) (binE ixKD ma mb) := by
  refine ⟨pe_dget (by omega) ha.pe hb.pe hs, fun Hs0 H0 Hs H σ env tp Q Rl P => ?_⟩
  refine ha.snd _ _ _ _ _ _ _ _ Rl (Post.bind P fun v Hs1 H1 d tp1 _ g w rv P1 => ?_)
  refine hb.snd _ _ _ _ _ _ _ _ (Rl.grow g w) (Post.bind P1 fun u Hs2 H2 e tp2 _ g2 w2 ru P2 => ?_)
  obtain ⟨z, hz, k⟩ := Post.ok_of P2
  obtain ⟨o, h1, h2⟩ := Option.bind_eq_some_iff.mp hz
  have h2 : o = some z := h2
  obtain ⟨p, rfl, _, ov, dg, _, e1⟩ := dget_ok w2 (rv.grow g2) ru h1
  obtain ⟨v1, rfl, rv1⟩ := e1 z h2
  exact ⟨p, v1, rfl, dg, k _ Hs2 H2 (Grow.refl _ _) w2 rv1⟩
theorem gf_dnew : GF K mg r X O E (.Dict [] [] pos) tDNewK (cE (.dic [])) := by
  refine ⟨pe_dnewK, fun Hs0 H0 Hs H σ env tp Q R P p hp => ?_⟩
  obtain ⟨g, w, f⟩ := fresh_new (K := K) (mg := mg) (o := .dK []) (d := .dic []) (Grow.refl Hs H) R.wd hp ⟨[], upd_same, .nil⟩
  exact P _ _ _ g w f
def putD (d k v : D) : Option D := match d with
  | .dic ds => if ds.length < sizeLine then (keyOf k).map fun q => .dic (putP keyOf keyD ds q v) else none
  | .dct ds => if ds.length < sizeLine then (keysOf k).map fun q => .dct (putP keysOf keyT ds q v) else none
  | _ => none
def dsetS (i : Nat) (mk mv : SE D) : SS := fun env tp => match env[i]? with
  | some (some d) => (mv env tp).bindS fun v tp1 => (mk env tp1).bindS fun k tp2 => (match putD d k v with
    | some d' => .nx (env.set i (some d')) tp2
    | none => .stuck)
  | _ => .stuck
theorem gs_dset {mk mv : SE D} {Ol : List Nat} (i : Nat) {x : Str} {p1 p2 : Pos} {k val : Expr} {tk tv : TE} (hu : X.A.units + 64 < cLine) (hO : i ∈ O) (hk : GE K mg r X O E k tk mk) (hv : GE K mg r X O E val tv mv) (hN : X.N[i]? = some x := by rfl)
    (hvis : Vis X.env.scope x := by first | exact Or.inl rfl | exact Or.inr (Or.inl rfl) | exact Or.inr (Or.inr rfl)) (hd : (x == ("__debug__" : Str)) = false := by decide) (hcd : (x == ("__classdict__" : Str)) = false := by decide)
    (hs : swapsWith val (some (.Subscript (.Name x p1) k p2)) pos.line X.env = pure false := by rfl) : GS K mg r X E O O Ol (.Assign [.Subscript (.Name x p1) k p2] val pos) (sDPut (tVar i) tk tv) (dsetS i mk mv) := by
  refine ⟨ps_dput (by omega) (pe_var hN hvis hd hcd) hk.pe hv.pe hs, fun Hs0 H0 Hs H σ env tp Dn R P => ?_⟩
  obtain ⟨d0, p, b1, b2, c, c0, ne, oa⟩ := R.own i hO
  unfold dsetS at P
  rw [b1] at P
  simp only at P
  refine hv.snd _ _ _ _ _ _ _ _ R (PostS.bind R P fun v Hs1 H1 dv tp1 _ g w R1 rv P1 => ?_)
  refine ⟨_, b2, ?_⟩
  refine hk.snd _ _ _ _ _ _ _ _ R1 (PostS.bind R1 P1 fun u Hs2 H2 dk tp2 _ g2 w2 R2 ru P2 => ?_)
  obtain ⟨d1, p1, e1, e2, f, f0, fn, fo⟩ := R2.own i hO
  rw [b2] at e2; cases e2
  rw [b1] at e1; cases e1
  cases e : putD d0 dk dv with
  | none => rw [e] at P2; exact P2.elim
  | some d' =>
    rw [e] at P2
    have rv2 := rv.mono g2.ex
    cases d0 with
    | dic ds =>
      obtain ⟨kvs, h1, h2⟩ := fo
      unfold putD at e
      simp only at e
      split at e
      · rename_i hz
        obtain ⟨q, hq, hd'⟩ := Option.map_eq_some_iff.mp e
        subst hd'
        have ek := repT_key (H := H2) ru.top hq
        subst ek
        have hl : kvs.length < sizeLine := by have := repP_len h2; rw [List.length_map] at this; omega
        exact ⟨p, _, rfl, .k h1 hl, P2 _ _ _ (Same.refl _) (R2.write hO b2 ⟨_, upd_same, put_rep keyOf_D rv2 h2⟩)⟩
      · cases e
    | dct ds =>
      obtain ⟨kvs, h1, h2⟩ := fo
      unfold putD at e
      simp only at e
      split at e
      · rename_i hz
        obtain ⟨q, hq, hd'⟩ := Option.map_eq_some_iff.mp e
        subst hd'
        obtain ⟨b, eb, hb⟩ := repT_keys w2 ru.top hq
        subst eb
        have hl : kvs.length < sizeLine := by have := repP_len h2; rw [List.length_map] at this; omega
        exact ⟨p, _, rfl, .inr ⟨kvs, q, b, h1, rfl, hb, hl, rfl⟩, P2 _ _ _ (Same.refl _) (R2.write hO b2 ⟨_, upd_same, put_rep keysOf_T rv2 h2⟩)⟩
      · cases e
    | _ => cases e
def putR (acc : List (D × D)) (k v : D) (tp : List D) : RE (List (D × D)) := if acc.length < sizeLine then (match keyOf k with
  | some q => .ok (putP keyOf keyD acc q v) tp
  | none => .stuck) else .stuck
def foldR (f : List (D × D) → D → List D → RE (List (D × D))) : List D → List (D × D) → List D → RE (List (D × D))
  | [], acc, tp => .ok acc tp
  | d :: ds, acc, tp => match f acc d tp with
    | .ok acc' tp' => foldR f ds acc' tp'
    | _ => .stuck
def pairT (mk mv : SE D) (env : DEnv) (acc : List (D × D)) (tp : List D) : RE (List (D × D)) := match mk env tp with
  | .ok k tp1 => (match mv env tp1 with
    | .ok v tp2 => putR acc k v tp2
    | _ => .stuck)
  | _ => .stuck
def dcTurn (tgt : D → Option (List D)) (is : List Nat) (mk mv : SE D) (env : DEnv) (acc : List (D × D)) (d : D) (tp : List D) : RE (List (D × D)) := match tgt d with
  | some ds => pairT mk mv (setAll env is ds) acc tp
  | none => .stuck
def dcE (mi : SE (List D)) (vs : List Nat) (tgt : D → Option (List D)) (is : List Nat) (mk mv : SE D) : SE D := fun env tp => (mi env tp).bind fun items tp1 => match foldR (dcTurn tgt is mk mv (wipeE env vs)) items [] tp1 with
  | .ok acc tp2 => .ok (.dic acc) tp2
  | _ => .stuck
def dcTurn2 (tgt : D → Option (List D)) (is : List Nat) (mi1 : SE (List D)) (vs1 : List Nat) (tgt1 : D → Option (List D)) (is1 : List Nat) (mk mv : SE D) (env : DEnv) (acc : List (D × D)) (d : D) (tp : List D) : RE (List (D × D)) := match tgt d with
  | some ds => (match mi1 (setAll env is ds) tp with
    | .ok items1 tp1 => foldR (dcTurn tgt1 is1 mk mv (wipeE (setAll env is ds) vs1)) items1 acc tp1
    | _ => .stuck)
  | none => .stuck
def dc2E (mi : SE (List D)) (vs : List Nat) (tgt : D → Option (List D)) (is : List Nat) (mi1 : SE (List D)) (vs1 : List Nat) (tgt1 : D → Option (List D)) (is1 : List Nat) (mk mv : SE D) : SE D := fun env tp => (mi env tp).bind fun items tp1 => match foldR (dcTurn2 tgt is mi1 vs1 tgt1 is1 mk mv (wipeE env vs)) items [] tp1 with
  | .ok acc tp2 => .ok (.dic acc) tp2
  | _ => .stuck
theorem foldR_cons {f : List (D × D) → D → List D → RE (List (D × D))} {d : D} {ds : List D} {acc z : List (D × D)} {tp tpE : List D} (h : foldR f (d :: ds) acc tp = .ok z tpE) : ∃ acc' tp', f acc d tp = .ok acc' tp' ∧ foldR f ds acc' tp' = .ok z tpE := by
  unfold foldR at h
  cases q : f acc d tp with
  | ok acc' tp' => rw [q] at h; exact ⟨acc', tp', rfl, h⟩
  | exn c fs t => rw [q] at h; cases h
  | stuck => rw [q] at h; cases h
theorem pairT_ok {mk mv : SE D} {env : DEnv} {acc z : List (D × D)} {tp tpE : List D} (h : pairT mk mv env acc tp = .ok z tpE) : ∃ k tp1 v q, mk env tp = .ok k tp1 ∧ mv env tp1 = .ok v tpE ∧ keyOf k = some q ∧ acc.length < sizeLine ∧ z = putP keyOf keyD acc q v := by
  unfold pairT at h
  cases q1 : mk env tp with
  | ok k tp1 =>
    rw [q1] at h
    simp only at h
    cases q2 : mv env tp1 with
    | ok v tp2 =>
      rw [q2] at h
      simp only at h
      unfold putR at h
      split at h
      · rename_i hl
        cases q3 : keyOf k with
        | some q =>
          rw [q3] at h
          simp only [RE.ok.injEq] at h
          obtain ⟨e1, e2⟩ := h
          subst e2
          exact ⟨k, tp1, v, q, rfl, q2, q3, hl, e1.symm⟩
        | none => rw [q3] at h; cases h
      · cases h
    | exn c fs t => rw [q2] at h; cases h
    | stuck => rw [q2] at h; cases h
  | exn c fs t => rw [q1] at h; cases h
  | stuck => rw [q1] at h; cases h
/-- what a turn's pair does to the world -/
theorem pair_sound {tk tv : TE} {mk mv : SE D} {Hs0 H0 Hs H : Hp} {σ : L2.St} {env : DEnv} {acc z : List (D × D)} {tp tpE : List D} {Dl : Addr} {kvs : List (Key × V)} {F : Hp → Prop}
    (hk : ∀ Hs0 H0 Hs H σ env tp Q, Rel K mg r O Hs0 H0 Hs H σ env tp → PostE K mg r E0 Hs H (mk env tp) Q → tk σ H Q)
    (hv : ∀ Hs0 H0 Hs H σ env tp Q, Rel K mg r O Hs0 H0 Hs H σ env tp → PostE K mg r E0 Hs H (mv env tp) Q → tv σ H Q)
    (R : Rel K mg r O Hs0 H0 Hs H σ env tp) (neD : Dl ≠ r) (fD : Hs Dl = none) (hD : H Dl = some (.dK kvs)) (rs : RepP K mg r Hs (kvs.map fun q => (keyD q.1, q.2)) acc) (h : pairT mk mv env acc tp = .ok z tpE)
    (next : ∀ Hs1 H1 q zv, Grow r Hs H Hs1 H1 → Wd K mg r Hs1 H1 tpE → Hs1 Dl = none → RepP K mg r Hs1 ((putK kvs q zv).map fun q => (keyD q.1, q.2)) z → F (upd H1 Dl (.dK (putK kvs q zv)))) :
    tk σ H fun y H9 => tv σ H9 fun b H10 => ∃ (kvs : List (Key × V)) (q : Key), y = kV q ∧ H10 Dl = some (.dK kvs) ∧ kvs.length < sizeLine ∧ F (upd H10 Dl (.dK (putK kvs q b))) := by
  obtain ⟨k, tp1, v, q, e1, e2, e3, hl, rfl⟩ := pairT_ok h
  refine hk _ _ _ _ _ _ _ _ R ?_
  rw [e1]
  intro y Hs1 H1 g1 w1 ry
  refine hv _ _ _ _ _ _ _ _ (R.grow g1 w1) ?_
  rw [e2]
  intro b Hs2 H2 g2 w2 rb
  have g := g1.trans g2
  refine ⟨kvs, q, repT_key (H := H1) ry.top e3, g.keep Dl _ hD neD fD, ?_, ?_⟩
  · have e := repP_len rs
    rw [List.length_map] at e
    omega
  · exact next Hs2 H2 q b g w2 (g.no fD hD neD) (put_rep keyOf_D rb (RepP.mono g.ex rs))
end
end G
set_option maxHeartbeats 1000000
namespace G
open PySem PySem.Spec PyProof.Rows L2
section
variable {r : Addr} {X : Cx} {K : PySem.W.Frag} {mg : Str → Option Value} {O : List Nat} {E : XK} {tt : TT}
theorem dc_sound {wi : TI} {g : TG} {tk tv : TE} {is vs : List Nat} {tgt : D → Option (List D)} {mi : SE (List D)} {mk mv : SE D}
    (hi : ∀ Hs0 H0 Hs H σ env tp Q, Rel K mg r O Hs0 H0 Hs H σ env tp → Post K mg r (fun Hs _ J items => WalksD K mg r J Hs items) E Hs H (mi env tp) Q → wi σ H Q)
    (hg : ∀ v d ds Hs H tp σ (Q : L2.St → Hp → Prop), Wd K mg r Hs H tp → RepD K mg r Hs v d → tgt d = some ds → (∀ vs, RepDs K mg r Hs vs ds → vs.length = is.length → Q (setAll σ is vs) H) → g v σ H Q)
    (ht : ∀ Hs0 H0 Hs H σ env tp Q, Rel K mg r O Hs0 H0 Hs H σ env tp → PostB K mg r E0 Hs H (yesT env tp) Q → tt σ H Q)
    (hk : ∀ Hs0 H0 Hs H σ env tp Q, Rel K mg r O Hs0 H0 Hs H σ env tp → PostE K mg r E0 Hs H (mk env tp) Q → tk σ H Q)
    (hv : ∀ Hs0 H0 Hs H σ env tp Q, Rel K mg r O Hs0 H0 Hs H σ env tp → PostE K mg r E0 Hs H (mv env tp) Q → tv σ H Q)
    (hvs : ∀ i ∈ vs, i ∉ O) (his : ∀ i ∈ is, i ∈ vs) :
    ∀ Hs0 H0 Hs H σ env tp Q, Rel K mg r O Hs0 H0 Hs H σ env tp → Post K mg r (Fresh K mg r H) E Hs H (dcE mi vs tgt is mk mv env tp) Q → tDc wi g tt tk tv vs σ H Q := by
  intro Hs0 H0 Hs H σ env tp Q R P
  refine hi _ _ _ _ _ _ _ _ R ?_
  unfold dcE at P
  cases q : mi env tp with
  | stuck => rw [q] at P; exact P.elim
  | exn cc fs tp1 => rw [q] at P; exact P
  | ok items tp1 =>
    rw [q] at P
    intro J Hs1 H1 ga w1 wd Dl hD
    simp only [RE.bind_ok] at P
    cases q2 : foldR (dcTurn tgt is mk mv (wipeE env vs)) items [] tp1 with
    | stuck => rw [q2] at P; exact P.elim
    | exn cc fs tp2 => rw [q2] at P; exact P.elim
    | ok all tpE =>
      rw [q2] at P
      have P : ∀ v Hs' H', Grow r Hs H Hs' H' → Wd K mg r Hs' H' tpE → Fresh K mg r H Hs' H' v (.dic all) → Q v H' := P
      obtain ⟨Gd, Y, wk, hG, hY⟩ := wd
      have R1 := R.grow ga w1
      obtain ⟨fD, neD⟩ := w1.fresh hD
      have h0D : H Dl = none := ga.free Dl hD
      have Rw := R1.wiped vs hvs
      obtain ⟨gl, wl⟩ := w1.lay (o := .dK []) hD
      obtain ⟨n1, n2⟩ := R.new_ne h0D neD
      have n3 : ∀ j ∈ O, (wipeE σ vs)[j]? ≠ some (some (.ref Dl)) := fun j hj z => n2 j hj (by rw [← z, wipe_get fun q => hvs j q hj])
      have hisO : ∀ i ∈ is, i ∉ O := fun i hi => hvs i (his i hi)
      let Pv : Nat → Hp → Prop := fun i H' => ∃ Hs2 kvs acc tp, Rel K mg r O Hs0 H0 Hs2 H' (wipeE σ vs) (wipeE env vs) tp ∧ Same Hs1 Hs2 ∧ Grow r Hs H Hs2 H' ∧ Hs2 Dl = none ∧ H' Dl = some (.dK kvs) ∧ RepP K mg r Hs2 (kvs.map fun q => (keyD q.1, q.2)) acc ∧
        foldR (dcTurn tgt is mk mv (wipeE env vs)) (items.drop i) acc tp = .ok all tpE
      have p0 : Pv 0 (upd H1 Dl (.dK [])) := ⟨Hs1, [], [], tp1, Rw.grow gl wl, Same.refl _, ga.trans gl, fD, upd_same, .nil, q2⟩
      refine ⟨fun i n H' => n = items.length - i ∧ i ≤ items.length ∧ Pv i H', ⟨items.length, by simp, Nat.zero_le _, p0⟩, ?_⟩
      rintro i n H2 ⟨rfl, hil, Hs2, kvs, acc, tp2, R2, e2, g2, f2, hD2, rs2, hc2⟩
      have gd := hG Hs2 H2 e2 R2.wd.sub
      by_cases hi2 : i < items.length
      case neg =>
        have e : i = items.length := by omega
        subst e
        refine .inl ⟨wk.stops _ gd, ?_⟩
        rw [List.drop_length] at hc2
        unfold foldR at hc2
        simp only [RE.ok.injEq] at hc2
        obtain ⟨hx, htp⟩ := hc2
        subst hx htp
        exact P _ Hs2 H2 g2 R2.wd ⟨Dl, rfl, h0D, f2, neD, kvs, hD2, rs2⟩
      refine .inr ⟨wk.goes i H2 hi2 gd, Pv (i + 1), fun H' p' => ⟨items.length - (i + 1), by omega, rfl, hi2, p'⟩, fun x H3 yy => ?_⟩
      obtain ⟨Hs3, d, g3, w3, hd, rd⟩ := hY i Hs2 H2 tp2 x H3 hi2 e2 R2.wd (wk.yields i H2 x H3 hi2 gd yy)
      rw [List.drop_eq_getElem_cons hi2] at hc2
      have hd' : items[i] = d := by rw [List.getElem?_eq_getElem hi2] at hd; exact Option.some.inj hd
      rw [hd'] at hc2
      obtain ⟨acc', tpI, hf, hrest⟩ := foldR_cons hc2
      unfold dcTurn at hf
      cases qt : tgt d with
      | none => rw [qt] at hf; cases hf
      | some es =>
        rw [qt] at hf
        simp only at hf
        rw [wipe_eq]
        refine hg x d es Hs3 H3 tp2 _ _ w3 rd qt fun ws rs hl => ⟨by rw [wipe_eq, wipe_setAll is _ _ his, wipe_wipe vs fun _ h => h], ?_⟩
        have R3 := rel_setAll is _ _ _ _ (R2.grow g3 w3) hisO rs hl
        have f3 := g3.no f2 hD2 neD
        have hD3 := g3.keep Dl _ hD2 neD f2
        refine ht _ _ _ _ _ _ _ _ R3 fun v Hs4 H4 g4 w4 ev => ?_
        subst ev
        have f4 := g4.no f3 hD3 neD
        have hD4 := g4.keep Dl _ hD3 neD f3
        refine iteT (pair_sound (F := Pv (i + 1)) hk hv (R3.grow g4 w4) neD f4 hD4 (RepP.mono (g3.ex.trans g4.ex) rs2) hf fun Hs5 H5 q zv g5 w5 f5 rp => ?_)
        have e5 := g3.ex.trans (g4.ex.trans g5.ex)
        exact ⟨Hs5, _, acc', tpI, (R2.grow (g3.trans (g4.trans g5)) w5).other f5 n1 neD n3 (fun xs z => by rw [g5.keep Dl _ hD4 neD f4] at z; cases z), e2.trans e5, (g2.trans (g3.trans (g4.trans g5))).other h0D, f5, upd_same, rp, hrest⟩
theorem gf_dc {kx vx tg iter : Expr} {scope : Scope} {own : List (Str × Nat)} {pos : Pos} {wi : TI} {g : TG} {tk tv : TE} {is : List Nat} {tgt : D → Option (List D)} {mi : SE (List D)} {mk mv : SE D} (hc : X.calm = true) (hN : X.N.Nodup) (hi : GI K mg r X O E tg iter wi mi) (ok : BlkOk X.N X.env.scope scope own)
    (hg : ∀ s H C cl fp, GG K mg r (Dc2.BX X scope s H C cl fp) tg g is tgt) (ht : ∀ s H C cl fp, GTs K mg r (Dc2.BX X scope s H C cl fp) O E0 [] tt yesT)
    (hk : ∀ s H C cl fp, GE K mg r (Dc2.BX X scope s H C cl fp) O E0 kx tk mk) (hv : ∀ s H C cl fp, GE K mg r (Dc2.BX X scope s H C cl fp) O E0 vx tv mv)
    (hvs : ∀ i ∈ own.map (·.2), i ∉ O) (his : ∀ i ∈ is, i ∈ own.map (·.2)) (hs : ∀ x, foldedSetIterable iter X.env x = pure x := by intro _; rfl) :
    GF K mg r X O E (.DictComp kx vx [⟨tg, iter, [], 0⟩] scope pos) (tDc wi g tt tk tv (own.map (·.2))) (dcE mi (own.map (·.2)) tgt is mk mv) :=
  ⟨pe_dc hc hN hi.pe ok (fun s H C cl fp => (hg s H C cl fp).pe) (fun s H C cl fp => (ht s H C cl fp).pe) (fun s H C cl fp => (hk s H C cl fp).pe) (fun s H C cl fp => (hv s H C cl fp).pe) hs,
    dc_sound hi.snd (hg X.s_0 X.H_0 0 [] []).snd (ht X.s_0 X.H_0 0 [] []).snd (hk X.s_0 X.H_0 0 [] []).snd (hv X.s_0 X.H_0 0 [] []).snd hvs his⟩
theorem dc2_sound {wi wi1 : TI} {g g1 : TG} {tk tv : TE} {is vs is1 vs1 : List Nat} {tgt tgt1 : D → Option (List D)} {mi mi1 : SE (List D)} {mk mv : SE D}
    (hi : ∀ Hs0 H0 Hs H σ env tp Q, Rel K mg r O Hs0 H0 Hs H σ env tp → Post K mg r (fun Hs _ J items => WalksD K mg r J Hs items) E Hs H (mi env tp) Q → wi σ H Q)
    (hg : ∀ v d ds Hs H tp σ (Q : L2.St → Hp → Prop), Wd K mg r Hs H tp → RepD K mg r Hs v d → tgt d = some ds → (∀ vs, RepDs K mg r Hs vs ds → vs.length = is.length → Q (setAll σ is vs) H) → g v σ H Q)
    (hi1 : ∀ Hs0 H0 Hs H σ env tp Q, Rel K mg r O Hs0 H0 Hs H σ env tp → Post K mg r (fun Hs _ J items => WalksD K mg r J Hs items) E0 Hs H (mi1 env tp) Q → wi1 σ H Q)
    (hg1 : ∀ v d ds Hs H tp σ (Q : L2.St → Hp → Prop), Wd K mg r Hs H tp → RepD K mg r Hs v d → tgt1 d = some ds → (∀ vs, RepDs K mg r Hs vs ds → vs.length = is1.length → Q (setAll σ is1 vs) H) → g1 v σ H Q)
    (hk : ∀ Hs0 H0 Hs H σ env tp Q, Rel K mg r O Hs0 H0 Hs H σ env tp → PostE K mg r E0 Hs H (mk env tp) Q → tk σ H Q)
    (hv : ∀ Hs0 H0 Hs H σ env tp Q, Rel K mg r O Hs0 H0 Hs H σ env tp → PostE K mg r E0 Hs H (mv env tp) Q → tv σ H Q)
    (hvs : ∀ i ∈ vs, i ∉ O) (his : ∀ i ∈ is, i ∈ vs) (hv1 : ∀ i ∈ vs1, i ∈ vs) (his1 : ∀ i ∈ is1, i ∈ vs1) :
    ∀ Hs0 H0 Hs H σ env tp Q, Rel K mg r O Hs0 H0 Hs H σ env tp → Post K mg r (Fresh K mg r H) E Hs H (dc2E mi vs tgt is mi1 vs1 tgt1 is1 mk mv env tp) Q → Dc2.wants wi g wi1 g1 tk tv vs vs1 σ H Q := by
  intro Hs0 H0 Hs H σ env tp Q R P
  refine hi _ _ _ _ _ _ _ _ R ?_
  unfold dc2E at P
  cases q : mi env tp with
  | stuck => rw [q] at P; exact P.elim
  | exn cc fs tp1 => rw [q] at P; exact P
  | ok items tp1 =>
    rw [q] at P
    intro J Hs1 H1 ga w1 wd Dl hD
    simp only [RE.bind_ok] at P
    cases q2 : foldR (dcTurn2 tgt is mi1 vs1 tgt1 is1 mk mv (wipeE env vs)) items [] tp1 with
    | stuck => rw [q2] at P; exact P.elim
    | exn cc fs tp2 => rw [q2] at P; exact P.elim
    | ok all tpE =>
      rw [q2] at P
      have P : ∀ v Hs' H', Grow r Hs H Hs' H' → Wd K mg r Hs' H' tpE → Fresh K mg r H Hs' H' v (.dic all) → Q v H' := P
      obtain ⟨Gd, Y, wk, hG, hY⟩ := wd
      have R1 := R.grow ga w1
      obtain ⟨fD, neD⟩ := w1.fresh hD
      have h0D : H Dl = none := ga.free Dl hD
      have Rw := R1.wiped vs hvs
      obtain ⟨gl, wl⟩ := w1.lay (o := .dK []) hD
      obtain ⟨n1, n2⟩ := R.new_ne h0D neD
      have n3 : ∀ j ∈ O, (wipeE σ vs)[j]? ≠ some (some (.ref Dl)) := fun j hj z => n2 j hj (by rw [← z, wipe_get fun q => hvs j q hj])
      have hisO : ∀ i ∈ is, i ∉ O := fun i hi => hvs i (his i hi)
      have hv1O : ∀ i ∈ vs1, i ∉ O := fun i hi => hvs i (hv1 i hi)
      have his1O : ∀ i ∈ is1, i ∉ O := fun i hi => hv1O i (his1 i hi)
      let Pv : Nat → Hp → Prop := fun i H' => ∃ Hs2 kvs acc tp, Rel K mg r O Hs0 H0 Hs2 H' (wipeE σ vs) (wipeE env vs) tp ∧ Same Hs1 Hs2 ∧ Grow r Hs H Hs2 H' ∧ Hs2 Dl = none ∧ H' Dl = some (.dK kvs) ∧ RepP K mg r Hs2 (kvs.map fun q => (keyD q.1, q.2)) acc ∧
        foldR (dcTurn2 tgt is mi1 vs1 tgt1 is1 mk mv (wipeE env vs)) (items.drop i) acc tp = .ok all tpE
      have p0 : Pv 0 (upd H1 Dl (.dK [])) := ⟨Hs1, [], [], tp1, Rw.grow gl wl, Same.refl _, ga.trans gl, fD, upd_same, .nil, q2⟩
      refine ⟨fun i n H' => n = items.length - i ∧ i ≤ items.length ∧ Pv i H', ⟨items.length, by simp, Nat.zero_le _, p0⟩, ?_⟩
      rintro i n H2 ⟨rfl, hil, Hs2, kvs, acc, tp2, R2, e2, g2, f2, hD2, rs2, hc2⟩
      have gd := hG Hs2 H2 e2 R2.wd.sub
      by_cases hi2 : i < items.length
      case neg =>
        have e : i = items.length := by omega
        subst e
        refine .inl ⟨wk.stops _ gd, ?_⟩
        rw [List.drop_length] at hc2
        unfold foldR at hc2
        simp only [RE.ok.injEq] at hc2
        obtain ⟨hx, htp⟩ := hc2
        subst hx htp
        exact P _ Hs2 H2 g2 R2.wd ⟨Dl, rfl, h0D, f2, neD, kvs, hD2, rs2⟩
      refine .inr ⟨wk.goes i H2 hi2 gd, Pv (i + 1), fun H' p' => ⟨items.length - (i + 1), by omega, rfl, hi2, p'⟩, fun x H3 yy => ?_⟩
      obtain ⟨Hs3, d, g3, w3, hd, rd⟩ := hY i Hs2 H2 tp2 x H3 hi2 e2 R2.wd (wk.yields i H2 x H3 hi2 gd yy)
      rw [List.drop_eq_getElem_cons hi2] at hc2
      have hd' : items[i] = d := by rw [List.getElem?_eq_getElem hi2] at hd; exact Option.some.inj hd
      rw [hd'] at hc2
      obtain ⟨accT, tpI, hf, hrest⟩ := foldR_cons hc2
      unfold dcTurn2 at hf
      cases qt : tgt d with
      | none => rw [qt] at hf; cases hf
      | some es =>
        rw [qt] at hf
        simp only at hf
        rw [wipe_eq]
        refine hg x d es Hs3 H3 tp2 _ _ w3 rd qt fun ws rs hl => ⟨by rw [wipe_eq, wipe_setAll is _ _ his, wipe_wipe vs fun _ h => h], ?_⟩
        have R3 := rel_setAll is _ _ _ _ (R2.grow g3 w3) hisO rs hl
        have f3 := g3.no f2 hD2 neD
        have hD3 := g3.keep Dl _ hD2 neD f2
        refine hi1 _ _ _ _ _ _ _ _ R3 ?_
        cases qi : mi1 (setAll (wipeE env vs) is es) tp2 with
        | stuck => rw [qi] at hf; cases hf
        | exn cc fs tp5 => rw [qi] at hf; cases hf
        | ok items1 tpi =>
          rw [qi] at hf
          simp only at hf
          intro J1 Hs5 H5 g5 w5 wd1
          obtain ⟨Gd1, Y1, wk1, hG1, hY1⟩ := wd1
          have f5 := g5.no f3 hD3 neD
          have hD5 := g5.keep Dl _ hD3 neD f3
          have e5 := g3.ex.trans g5.ex
          have R5 := R3.grow g5 w5
          have Rb5 := R5.wiped vs1 hv1O
          have n3b : ∀ j ∈ O, (wipeE (setAll (wipeE σ vs) is ws) vs1)[j]? ≠ some (some (.ref Dl)) := fun j hj z => n3 j hj (by
            rw [← z, wipe_get fun q => hv1O j q hj, setAll_get is _ ws fun q => hisO j q hj])
          let Pv1 : Nat → Hp → Prop := fun j H' => ∃ Hs6 kvs' acc' tp', Rel K mg r O Hs0 H0 Hs6 H' (wipeE σ vs) (wipeE env vs) tp' ∧ Rel K mg r O Hs0 H0 Hs6 H' (wipeE (setAll (wipeE σ vs) is ws) vs1) (wipeE (setAll (wipeE env vs) is es) vs1) tp' ∧ Same Hs5 Hs6 ∧ Same Hs1 Hs6 ∧ Grow r Hs H Hs6 H' ∧ Hs6 Dl = none ∧ H' Dl = some (.dK kvs') ∧ RepP K mg r Hs6 (kvs'.map fun q => (keyD q.1, q.2)) acc' ∧
            foldR (dcTurn tgt1 is1 mk mv (wipeE (setAll (wipeE env vs) is es) vs1)) (items1.drop j) acc' tp' = .ok accT tpI
          have p1 : Pv1 0 H5 := ⟨Hs5, kvs, acc, tpi, R2.grow (g3.trans g5) w5, Rb5, Same.refl _, e2.trans e5, g2.trans (g3.trans g5), f5, hD5, RepP.mono e5 rs2, hf⟩
          refine ⟨fun j k H' => k = items1.length - j ∧ j ≤ items1.length ∧ Pv1 j H', ⟨items1.length, by simp, Nat.zero_le _, p1⟩, ?_⟩
          rintro j k H6 ⟨rfl, hjl, Hs6, kvs6, acc6, tp6, Ra6, Rb6, es6, e6, g6, f6, hD6, rs6, hc6⟩
          have gd1 := hG1 Hs6 H6 es6 Ra6.wd.sub
          by_cases hj2 : j < items1.length
          case neg =>
            have e : j = items1.length := by omega
            subst e
            refine .inl ⟨wk1.stops _ gd1, ?_⟩
            rw [List.drop_length] at hc6
            unfold foldR at hc6
            simp only [RE.ok.injEq] at hc6
            obtain ⟨hx, htp⟩ := hc6
            subst hx htp
            exact ⟨Hs6, kvs6, acc6, tp6, Ra6, e6, g6, f6, hD6, rs6, hrest⟩
          refine .inr ⟨wk1.goes j H6 hj2 gd1, Pv1 (j + 1), fun H' p' => ⟨items1.length - (j + 1), by omega, rfl, hj2, p'⟩, fun x1 H7 yy1 => ?_⟩
          obtain ⟨Hs7, d1, g7, w7, hd1, rd1⟩ := hY1 j Hs6 H6 tp6 x1 H7 hj2 es6 Ra6.wd (wk1.yields j H6 x1 H7 hj2 gd1 yy1)
          rw [List.drop_eq_getElem_cons hj2] at hc6
          have hd1' : items1[j] = d1 := by rw [List.getElem?_eq_getElem hj2] at hd1; exact Option.some.inj hd1
          rw [hd1'] at hc6
          obtain ⟨acc8, tp8, hf1, hrest1⟩ := foldR_cons hc6
          unfold dcTurn at hf1
          cases qt1 : tgt1 d1 with
          | none => rw [qt1] at hf1; cases hf1
          | some es1 =>
            rw [qt1] at hf1
            simp only at hf1
            rw [wipe_eq]
            refine hg1 x1 d1 es1 Hs7 H7 tp6 _ _ w7 rd1 qt1 fun ws1 rs1 hl1 => ⟨by rw [wipe_eq, wipe_setAll is1 _ _ his1, wipe_wipe vs1 fun _ h => h], ?_⟩
            have R7 := rel_setAll is1 _ _ _ _ (Rb6.grow g7 w7) his1O rs1 hl1
            have f7 := g7.no f6 hD6 neD
            have hD7 := g7.keep Dl _ hD6 neD f6
            refine pair_sound (F := Pv1 (j + 1)) hk hv R7 neD f7 hD7 (RepP.mono g7.ex rs6) hf1 fun Hs9 H9 q zv g9 w9 f9 rp => ?_
            have e9 := g7.ex.trans g9.ex
            exact ⟨Hs9, _, acc8, tp8, (Ra6.grow (g7.trans g9) w9).other f9 n1 neD n3 (fun xs z => by rw [g9.keep Dl _ hD7 neD f7] at z; cases z), (Rb6.grow (g7.trans g9) w9).other f9 n1 neD n3b (fun xs z => by rw [g9.keep Dl _ hD7 neD f7] at z; cases z), es6.trans e9, e6.trans e9, (g6.trans (g7.trans g9)).other h0D, f9, upd_same, rp, hrest1⟩
theorem gf_dc2 {kx vx tg iter tg1 iter1 : Expr} {scope : Scope} {own : List (Str × Nat)} {pos : Pos} {wi wi1 : TI} {g g1 : TG} {tk tv : TE} {is is1 vs1 : List Nat} {tgt tgt1 : D → Option (List D)} {mi mi1 : SE (List D)} {mk mv : SE D} (hc : X.calm = true) (hN : X.N.Nodup) (hi : GI K mg r X O E tg iter wi mi) (ok : BlkOk X.N X.env.scope scope own)
    (hg : ∀ s H C cl fp, GG K mg r (Dc2.BX X scope s H C cl fp) tg g is tgt) (hi1 : ∀ s H C cl fp, GI K mg r (Dc2.BX X scope s H C cl fp) O E0 tg1 iter1 wi1 mi1) (hg1 : ∀ s H C cl fp, GG K mg r (Dc2.BX X scope s H C cl fp) tg1 g1 is1 tgt1)
    (hk : ∀ s H C cl fp, GE K mg r (Dc2.BX X scope s H C cl fp) O E0 kx tk mk) (hv : ∀ s H C cl fp, GE K mg r (Dc2.BX X scope s H C cl fp) O E0 vx tv mv)
    (hvs : ∀ i ∈ own.map (·.2), i ∉ O) (his : ∀ i ∈ is, i ∈ own.map (·.2)) (hv1 : ∀ i ∈ vs1, i ∈ own.map (·.2)) (his1 : ∀ i ∈ is1, i ∈ vs1) (hs : ∀ x, foldedSetIterable iter X.env x = pure x := by intro _; rfl) (hs1 : ∀ env x, foldedSetIterable iter1 env x = pure x := by intro _ _; rfl) :
    GF K mg r X O E (.DictComp kx vx [⟨tg, iter, [], 0⟩, ⟨tg1, iter1, [], 0⟩] scope pos) (Dc2.wants wi g wi1 g1 tk tv (own.map (·.2)) vs1) (dc2E mi (own.map (·.2)) tgt is mi1 vs1 tgt1 is1 mk mv) :=
  ⟨Dc2.pe_dcTwo hc hN hi.pe ok hv1 (fun s H C cl fp => (hg s H C cl fp).pe) (fun s H C cl fp => (hi1 s H C cl fp).pe) (fun s H C cl fp => (hg1 s H C cl fp).pe) (fun s H C cl fp => (hk s H C cl fp).pe) (fun s H C cl fp => (hv s H C cl fp).pe) hs hs1,
    dc2_sound hi.snd (hg X.s_0 X.H_0 0 [] []).snd (hi1 X.s_0 X.H_0 0 [] []).snd (hg1 X.s_0 X.H_0 0 [] []).snd (hk X.s_0 X.H_0 0 [] []).snd (hv X.s_0 X.H_0 0 [] []).snd hvs his hv1 his1⟩
end
end G
set_option maxHeartbeats 1000000
namespace G
open PySem PySem.Spec PyProof.Rows L2
def NK (ks : List Int) : NestedKey := .tup (ks.map NestedKey.num)
theorem NK_inj {a b : List Int} (h : NK a = NK b) : a = b := by
  have h := NestedKey.tup.inj h
  exact (List.map_inj_right fun x y e => NestedKey.num.inj e).mp h
theorem NK_depths : ∀ ks : List Int, NestedKey.depthAll (ks.map NestedKey.num) = 0
  | [] => rfl
  | k :: ks => by rw [List.map_cons, NestedKey.depthAll, NK_depths ks]; rfl
theorem NK_depth (ks : List Int) : (NK ks).depth ≤ 8 := by
  unfold NK
  rw [NestedKey.depth, NK_depths]; omega
theorem NK_hashes (w : World) : ∀ ks : List Int, NestedKey.hashes w (ks.map NestedKey.num) = ks.map hashInt
  | [] => rfl
  | k :: ks => by rw [List.map_cons, NestedKey.hashes, NK_hashes w ks]; rfl
theorem NK_hash (w : World) (ks : List Int) : (NK ks).hash w = hI ks := by
  unfold NK hI
  rw [NestedKey.hash, NK_hashes]
abbrev nkX (xs : List (List Int × Addr × Value)) : List (NestedKey × Addr × Value) := xs.map fun x => (NK x.1, x.2)
theorem nk_entries {P : Program} {w : World} (xs : List (List Int × Addr × Value)) : (nkX xs).map (entryOfKey (nestedKind P w)) = xs.map fun x => (⟨hI x.1, .ref x.2.1, x.2.2⟩ : DictEntry) := by
  rw [List.map_map]
  refine List.map_congr_left fun x _ => ?_
  show (⟨(NK x.1).hash w, .ref x.2.1, x.2.2⟩ : DictEntry) = _
  rw [NK_hash]
theorem nk_nodup {xs : List (List Int × Addr × Value)} (h : (xs.map (·.1)).Nodup) : ((nkX xs).map (·.1)).Nodup := by
  rw [List.map_map]
  have : ((xs.map (·.1)).map NK).Nodup := List.pairwise_map.mpr (h.imp fun h e => h (NK_inj e))
  rwa [List.map_map] at this
/-- the object at b is a key -/
def KeyIs (H : Hp) (b : Addr) (ks : List Int) : Prop := ∃ vs, H b = some (.tup vs) ∧ vs.map vInt = ks.map some
theorem nested_all {h : Heap} : ∀ {vs : List V} {ks : List Int} {us : List Value}, Vals vs us → vs.map vInt = ks.map some → NestedAll h (ks.map NestedKey.num) us
  | [], [], _, .nil, _ => .nil
  | v :: vs, k :: ks, _, .cons r rs, e => by
    obtain ⟨e1, e2⟩ := List.cons.inj e
    refine .cons ?_ (nested_all rs e2)
    cases v with
    | int i =>
      obtain ⟨t, rfl⟩ := r
      cases Option.some.inj e1
      exact .int _ _
    | bl b =>
      cases (show _ = Value.bool b from r)
      exact .bool (Option.some.inj e1).symm
    | _ => cases e1
theorem key_is {P : Program} {w : World} {H : Hp} {h : Heap} {b : Addr} {ks : List Int} (ok : HOk P w H h) (k : KeyIs H b ks) : (nestedKind P w).is h (NK ks) b := by
  obtain ⟨vs, e, ev⟩ := k
  obtain ⟨_, its, r, o, h1, h2, n, h3⟩ := (show ObjOk P w H h b (.tup vs) from ok b _ e)
  exact ⟨NestedIs.tup h1 h2 h3 (by simpa using nested_all r ev), NK_depth ks⟩
theorem memo_no_mark {P : Program} {w : World} {H : Hp} {h : Heap} {a : Addr} {n : Int} (ok : HOk P w H h) (m : At H a (markM n)) : MemoAt n H a := by
  rcases m with m | ⟨m, _⟩ | ⟨k, e, m⟩
  · obtain ⟨_, z, _⟩ := (show ObjOk P w H h a (markM n) from ok a _ m)
    rw [List.length_replicate] at z
    omega
  · cases m
  · rw [markM_inj e]; exact m
theorem memo_dict {P : Program} {w : World} {H : Hp} {h : Heap} {a : Addr} {n : Int} {xs : List (List Int × Addr × Value)} (ok : HOk P w H h) (e : H a = some (.ext (memoP a xs))) (hx : ∀ x ∈ xs, EntOk n H x) : h.DictOfH (nestedKind P w) a (nkX xs) ∧ (xs.map (·.1)).Nodup := by
  obtain ⟨⟨o, es, ep, h1, h2, h3, h4, h5⟩, _⟩ := (show ObjOk P w H h a (.ext (memoP a xs)) from ok a _ e)
  refine ⟨⟨o, es, ep, h1, h2, h3, by rw [nk_entries]; exact h4, fun y hy => ?_, nk_nodup h5⟩, h5⟩
  obtain ⟨x, hx', rfl⟩ := List.mem_map.mp hy
  obtain ⟨⟨vs, e1, e2⟩, _⟩ := hx x hx'
  exact key_is ok ⟨vs, e1, e2⟩
/-- the dict of known answers holds the key -/
def MemoHas (n : Int) (H : Hp) (a : Addr) (ks : List Int) : Prop := ∃ xs, H a = some (.ext (memoP a xs)) ∧ (a == sysModules) = false ∧ (∀ x ∈ xs, EntOk n H x) ∧ ∃ x ∈ xs, x.1 = ks
theorem atKey_nk {xs : List (List Int × Addr × Value)} {ks : List Int} : (atKey (nkX xs) (NK ks)).isSome = true ↔ ∃ x ∈ xs, x.1 = ks := by
  unfold atKey
  rw [Option.isSome_map, List.find?_isSome]
  constructor
  · rintro ⟨y, hy, e⟩
    obtain ⟨x, hx, rfl⟩ := List.mem_map.mp hy
    exact ⟨x, hx, NK_inj (of_decide_eq_true e)⟩
  · rintro ⟨x, hx, e⟩
    exact ⟨_, List.mem_map_of_mem hx, decide_eq_true (by show NK x.1 = NK ks; rw [e])⟩
theorem atKey_mem {xs : List (List Int × Addr × Value)} {ks : List Int} {p : Addr × Value} (h : atKey (nkX xs) (NK ks) = some p) : (ks, p) ∈ xs := by
  unfold atKey at h
  obtain ⟨y, hy, e⟩ := Option.map_eq_some_iff.mp h
  have h1 := List.mem_of_find?_eq_some hy
  have h2 : y.1 = NK ks := of_decide_eq_true (List.find?_some (p := fun x : NestedKey × Addr × Value => decide (x.1 = NK ks)) hy)
  obtain ⟨x, hx, rfl⟩ := List.mem_map.mp h1
  have : x.1 = ks := NK_inj h2
  rw [← this, ← e]; exact hx
/-- keys that tell are few -/
theorem nodup_len {α : Type} [DecidableEq α] {a b : List α} (nd : a.Nodup) (h : ∀ x ∈ a, x ∈ b) : a.length ≤ b.length := by
  induction a generalizing b with
  | nil => exact Nat.zero_le _
  | cons x a ih =>
    obtain ⟨n1, n2⟩ := List.nodup_cons.mp nd
    have hx := h x List.mem_cons_self
    have := ih (b := b.erase x) n2 fun y hy => (List.mem_erase_of_ne (fun e => n1 (by rw [← e]; exact hy))).mpr (h y (List.mem_cons_of_mem _ hy))
    rw [List.length_erase_of_mem hx] at this
    have : 0 < b.length := List.length_pos_of_mem hx
    rw [List.length_cons]; omega
def keysAll : List (List Int) := (List.range 31).flatMap fun (r : Nat) => (List.range 31).flatMap fun (c : Nat) => (List.range 2).map fun (b : Nat) => [(r : Int), (c : Int), (b : Int)]
theorem keysAll_len : keysAll.length = 1922 := by decide +kernel
theorem tells_key {n : Int} {ks : List Int} {d : Int} (h : tellsF n ks = some d) : ks ∈ keysAll := by
  unfold tellsF at h
  split at h
  · rename_i r c b
    split at h
    · rename_i z
      refine List.mem_flatMap.mpr ⟨r.toNat, List.mem_range.mpr (by omega), List.mem_flatMap.mpr ⟨c.toNat, List.mem_range.mpr (by omega), List.mem_map.mpr ⟨b.toNat, List.mem_range.mpr (by omega), ?_⟩⟩⟩
      rw [show ((r.toNat : Nat) : Int) = r by omega, show ((c.toNat : Nat) : Int) = c by omega, show ((b.toNat : Nat) : Int) = b by omega]
    · cases h
  · cases h
theorem memo_few {n : Int} {H : Hp} {xs : List (List Int × Addr × Value)} (nd : (xs.map (·.1)).Nodup) (hx : ∀ x ∈ xs, EntOk n H x) : xs.length ≤ 1922 := by
  rw [← keysAll_len, ← List.length_map (f := (·.1)) (as := xs)]
  refine nodup_len nd fun k hk => ?_
  obtain ⟨x, h, rfl⟩ := List.mem_map.mp hk
  obtain ⟨_, d, t, e, _⟩ := hx x h
  exact tells_key e
section
variable {X : Cx} {pins : List (Addr × Obj)} {σ : L2.St} {H : Hp} {s : Shared} {a b : Addr} {n : Int} {ks : List Int} {A : Around} {E : Value → Shared → Prop}
theorem m_room (hu : A.units + 64 < cLine) : (nestedKind X.prog X.w).room A.in1 := by
  show A.units + 1 + 8 < cLine; omega
theorem m_notIn {Q : Value → Shared → Prop} (hu : A.units + 64 < cLine) (I : Inv X pins σ H s) (m : At H a (markM n)) (k : KeyIs H b ks)
    (h : ∀ s', Inv X pins σ H s' → Q (.bool true) s') (h2 : MemoHas n H a ks → ∀ s', Inv X pins σ H s' → Q (.bool false) s') : wpAny (model X.prog X.w) A (compareOp .NotIn (.ref b) (.ref a)) Q E s := by
  obtain ⟨xs, e, hd, hx⟩ := memo_no_mark I.hok m
  obtain ⟨dd, _⟩ := memo_dict (P := X.prog) (w := X.w) I.hok e hx
  refine wpAny_notIn_heap (m_room hu) (key_is I.hok k) hd dd ?_
  cases z : (atKey (nkX xs) (NK ks)).isSome with
  | false => exact h _ (I.tok _)
  | true => exact h2 ⟨xs, e, hd, hx, atKey_nk.mp z⟩ _ (I.tok _)
theorem m_get {Q : Value → Shared → Prop} (hu : A.units + 64 < cLine) (I : Inv X pins σ H s) (m : MemoHas n H a ks) (k : KeyIs H b ks)
    (h : ∀ d t s', tellsF n ks = some d → Inv X pins σ H s' → Q (.int d t) s') : wpAny (model X.prog X.w) A (getItem (.ref a) (.ref b)) Q E s := by
  obtain ⟨xs, e, hd, hx, hm⟩ := m
  obtain ⟨dd, _⟩ := memo_dict (P := X.prog) (w := X.w) I.hok e hx
  obtain ⟨p, hp⟩ := Option.isSome_iff_exists.mp (atKey_nk.mpr hm)
  refine wpAny_getItem_heap (m_room hu) (key_is I.hok k) dd hp ?_
  obtain ⟨_, d, t, td, ev⟩ := hx _ (atKey_mem hp)
  have ev : p.2 = .int d t := ev
  rw [ev]
  exact h d t _ td (I.tok _)
theorem m_set {d : Int} {t : Tok} {Q : Unit → Shared → Prop} (hu : A.units + 64 < cLine) (I : Inv X pins σ H s) (m : At H a (markM n)) (k : KeyIs H b ks) (ht : tellsF n ks = some d)
    (h : ∀ H' s', MemoHas n H' a ks → (∀ c, c ≠ a → H' c = H c) → Inv X pins σ H' s' → Q () s') : wpAny (model X.prog X.w) A (setItem (.ref a) (.ref b) (.int d t)) Q E s := by
  obtain ⟨xs, e, hd, hx⟩ := memo_no_mark I.hok m
  obtain ⟨dd, nd⟩ := memo_dict (P := X.prog) (w := X.w) I.hok e hx
  have few := memo_few nd hx
  have hz : (nkX xs).length ≤ sizeLine := by rw [List.length_map]; exact Nat.le_trans few (by decide)
  let ys : List (List Int × Addr × Value) := if (∃ x ∈ xs, x.1 = ks) then xs.map (fun x => if x.1 = ks then (x.1, x.2.1, .int d t) else x) else xs ++ [(ks, b, .int d t)]
  have hys : storedH (nkX xs) (NK ks) b (.int d t) = nkX ys := by
    unfold storedH
    show _ = nkX (if _ then _ else _)
    by_cases z : ∃ x ∈ xs, x.1 = ks
    · rw [if_pos (atKey_nk.mpr z), if_pos z, List.map_map]
      show _ = List.map (fun x : List Int × Addr × Value => (NK x.1, x.2)) (List.map _ xs)
      rw [List.map_map]
      refine List.map_congr_left fun x _ => ?_
      show putAt (NK ks) (.int d t) (NK x.1, x.2) = _
      unfold putAt
      by_cases y : x.1 = ks
      · rw [if_pos (by show NK x.1 = NK ks; rw [y])]
        show _ = (NK (if x.1 = ks then (x.1, x.2.1, Value.int d t) else x).1, (if x.1 = ks then (x.1, x.2.1, Value.int d t) else x).2)
        rw [if_pos y]
      · rw [if_neg fun w => y (NK_inj w)]
        show _ = (NK (if x.1 = ks then (x.1, x.2.1, Value.int d t) else x).1, (if x.1 = ks then (x.1, x.2.1, Value.int d t) else x).2)
        rw [if_neg y]
    · rw [if_neg fun w => z (atKey_nk.mp w), if_neg z]
      show _ = List.map (fun x : List Int × Addr × Value => (NK x.1, x.2)) (xs ++ _)
      rw [List.map_append]; rfl
  have entY : ∀ y ∈ ys, EntOk n H y := fun y hy => by
    have hy : y ∈ (if (∃ x ∈ xs, x.1 = ks) then xs.map (fun x => if x.1 = ks then (x.1, x.2.1, .int d t) else x) else xs ++ [(ks, b, .int d t)]) := hy
    split at hy
    · obtain ⟨x, hx', rfl⟩ := List.mem_map.mp hy
      split
      · rename_i w
        exact ⟨(hx x hx').1, d, t, by rw [w]; exact ht, rfl⟩
      · exact hx x hx'
    · rcases List.mem_append.mp hy with z | z
      · exact hx y z
      · rw [List.mem_singleton.mp z]; exact ⟨k, d, t, ht, rfl⟩
  have has : ∃ y ∈ ys, y.1 = ks := by
    show ∃ y ∈ (if (∃ x ∈ xs, x.1 = ks) then xs.map (fun x => if x.1 = ks then (x.1, x.2.1, .int d t) else x) else xs ++ [(ks, b, .int d t)]), y.1 = ks
    by_cases z : ∃ x ∈ xs, x.1 = ks
    · rw [if_pos z]
      obtain ⟨x, hx', e⟩ := z
      exact ⟨_, List.mem_map_of_mem hx', by show (if _ then _ else _ : List Int × Addr × Value).1 = ks; rw [if_pos e]; exact e⟩
    · rw [if_neg z]; exact ⟨_, List.mem_append_right _ List.mem_cons_self, rfl⟩
  refine wpAny_setItem_heap (hsz := hz) (m_room hu) (key_is I.hok k) dd fun h' dd' hs => ?_
  rw [hys] at dd'
  obtain ⟨q, es, ep, hq, h2, h3, h4, h5, h6⟩ := dd'
  have keep : ∀ c xs, H c = some (.tup xs) → upd H a (.ext (memoP a ys)) c = some (.tup xs) := fun c xs ec => by
    rw [upd_ne (ne_of ec e (fun z => nomatch z))]; exact ec
  refine h (upd H a (.ext (memoP a ys))) _ ⟨ys, upd_same, hd, fun y hy => ?_, has⟩ (fun c hc => upd_ne hc) (d_write I (by rw [e]; exact True.intro) hs ⟨q, hq⟩ ⟨⟨q, es, ep, hq, h2, h3, by rw [← nk_entries (P := X.prog) (w := X.w)]; exact h4, ?_⟩, ⟨q, hq⟩, ?_⟩)
  · obtain ⟨⟨vs, e1, e2⟩, e3⟩ := entY y hy
    exact ⟨⟨vs, keep _ _ e1, e2⟩, e3⟩
  · rw [List.map_map] at h6
    have h6 : (ys.map fun x => NK x.1).Nodup := h6
    exact List.pairwise_map.mpr ((List.pairwise_map.mp h6).imp fun h e => h (by rw [e]))
  · rintro h1 h2 ⟨o, es, ep, g1, g⟩ kk
    exact ⟨o, es, ep, kk _ g1, g⟩
end
def tMNotIn (ty td : TE) : TE := fun σ H Q => ty σ H fun y H1 => td σ H1 fun x H2 => ∃ a b n ks, x = .ref a ∧ y = .ref b ∧ At H2 a (markM n) ∧ KeyIs H2 b ks ∧ Q (.bl true) H2 ∧ (MemoHas n H2 a ks → Q (.bl false) H2)
def tMGet (td ty : TE) : TE := fun σ H Q => td σ H fun x H1 => ty σ H1 fun y H2 => ∃ a b n ks, x = .ref a ∧ y = .ref b ∧ MemoHas n H2 a ks ∧ KeyIs H2 b ks ∧ ∀ d, tellsF n ks = some d → Q (.int d) H2
def sMPut (td ty tv : TE) : TS := fun D σ H => tv σ H fun v H1 => td σ H1 fun x H2 => ty σ H2 fun y H3 => ∃ a b n ks d, x = .ref a ∧ y = .ref b ∧ v = .int d ∧ At H3 a (markM n) ∧ KeyIs H3 b ks ∧ tellsF n ks = some d ∧ ∀ H4, MemoHas n H4 a ks → (∀ c, c ≠ a → H4 c = H3 c) → D.nx σ H4
def tDNewM : TE := fun _ H Q => ∀ p, H p = none → (p == sysModules) = false → Q (.ref p) (upd H p (.ext (memoP p [])))
section
variable {X : Cx} {o i value : Expr} {pos pos' : Pos} {td ty tv : TE}
theorem pc_mnotin (hu : X.A.units + 64 < cLine) (hi : PE X i ty) (ho : PE X o td) : PC X .NotIn i o (tMNotIn ty td) := by
  refine ⟨fun pins s σ H Q I h => ?_⟩
  refine thn (hi.run pins s σ H _ I h) fun iv s1 ⟨y, H1, I1, ry, q1⟩ => thn (ho.run pins s1 σ H1 _ I1 q1) fun u s2 ⟨x, H2, I2, rx, a, b, n, ks, ex, ey, m, k, q2, q3⟩ => ?_
  subst ex ey
  obtain rfl : u = Value.ref a := rx
  obtain rfl : iv = Value.ref b := ry
  exact m_notIn hu I2 m k (fun s3 I3 => ⟨.bl true, H2, I3, rfl, q2⟩) fun hm s3 I3 => ⟨.bl false, H2, I3, rfl, q3 hm⟩
theorem pe_mget (hu : X.A.units + 64 < cLine) (ho : PE X o td) (hi : PE X i ty) (hs : NoSl i) : PE X (.Subscript o i pos) (tMGet td ty) := by
  refine ⟨fun pins s σ H Q I h => ?_⟩
  refine subD_of PySem.F.slot_dict_getitem.lookup hs (thn (ho.run pins s σ H _ I h) fun u s1 ⟨x, H1, I1, rx, q1⟩ => thn (hi.run pins s1 σ H1 _ I1 q1) fun iv s2 ⟨y, H2, I2, ry, a, b, n, ks, ex, ey, m, k, q2⟩ => ?_)
  subst ex ey
  obtain rfl : u = Value.ref a := rx
  obtain rfl : iv = Value.ref b := ry
  refine ⟨?_, m_get hu I2 m k fun d t s3 td I3 => ⟨.int d, H2, I3, ⟨t, rfl⟩, q2 d td⟩⟩
  obtain ⟨xs, e, hd, hx, _⟩ := m
  exact (memo_dict (P := X.prog) (w := X.w) I2.hok e hx).1.typeIs
theorem ps_mput (hu : X.A.units + 64 < cLine) (ho : PE X o td) (hi : PE X i ty) (hv : PE X value tv) (hs : swapsWith value (some (.Subscript o i pos')) pos.line X.env = pure false) :
    PS X (.Assign [.Subscript o i pos'] value pos) (sMPut td ty tv) := by
  refine ⟨fun pins s σ H D I h => ?_⟩
  refine wpAny_Assign_Subscript (thn (hv.run pins s σ H _ I h) fun r s1 ⟨v, H1, I1, rv, q1⟩ => thn (ho.run pins s1 σ H1 _ I1 q1) fun u s2 ⟨x, H2, I2, rx, q2⟩ => thn (hi.run pins s2 σ H2 _ I2 q2) fun iv s3 ⟨y, H3, I3, ry, a, b, n, ks, d, ex, ey, ev, m, k, ht, q3⟩ => ?_) hs
  subst ex ey ev
  obtain rfl : u = Value.ref a := rx
  obtain rfl : iv = Value.ref b := ry
  obtain ⟨t, rfl⟩ := rv
  exact m_set hu I3 m k ht fun H4 s4 mh off I4 => ⟨σ, H4, I4, q3 H4 mh off⟩
theorem pe_dnewM : PE X (.Dict [] [] pos) tDNewM := ⟨fun pins s σ H Q I h =>
  wpAny_Dict_empty ⟨.ref s.heap.objs.size, _, I.laid (a := s.heap.objs.size) (o := .ext (memoP s.heap.objs.size [])) (t' := s.toks) (fun _ _ q => Heap.get?_push_of_some _ q) (Nat.le_refl _)
    ⟨⟨_, #[], 0, Heap.get?_push_size _ rfl, ⟨rfl, rfl, rfl⟩, rfl, rfl, List.nodup_nil⟩, ⟨_, Heap.get?_push_size _ rfl⟩, fun h1 h2 ⟨o, es, ep, g1, g⟩ kk => ⟨o, es, ep, kk _ g1, g⟩⟩,
    rfl, h _ (I.hok.fresh (Nat.le_refl _)) (beq_eq_false_iff_ne.mpr (Ne.symm (Nat.ne_of_lt I.big)))⟩⟩
end
end G
set_option maxHeartbeats 1000000
namespace G
open PySem PySem.Spec PyProof.Rows L2
def dInts : List D → Option (List Int)
  | [] => some []
  | .int i :: ds => (dInts ds).map (i :: ·)
  | .bl b :: ds => (dInts ds).map ((if b = true then 1 else 0) :: ·)
  | _ => none
section
variable {K : PySem.W.Frag} {mg : Str → Option Value} {r : Addr} {X : Cx} {E : XK} {O On On' Ol : List Nat}
theorem rep_ints {Hs : Hp} : ∀ {vs : List V} {ds : List D} {ks : List Int}, RepDs K mg r Hs vs ds → dInts ds = some ks → vs.map vInt = ks.map some
  | [], _, ks, .nil, e => by cases e; rfl
  | v :: vs, _, ks, .cons (ds := ds) h hs, e => by
    cases h with
    | int i =>
      obtain ⟨l, hl, rfl⟩ := Option.map_eq_some_iff.mp (show (dInts ds).map (i :: ·) = some ks from e)
      rw [List.map_cons, List.map_cons, rep_ints hs hl]; rfl
    | bl b =>
      obtain ⟨l, hl, rfl⟩ := Option.map_eq_some_iff.mp (show (dInts ds).map ((if b = true then 1 else 0) :: ·) = some ks from e)
      rw [List.map_cons, List.map_cons, rep_ints hs hl]; rfl
    | _ => cases e
/-- {}, a dict of known answers -/
theorem ge_memo (n : Int) {pos : Pos} : GE K mg r X O E (.Dict [] [] pos) tDNewM (cE (.memo n)) := by
  refine ⟨pe_dnewM, fun Hs0 H0 Hs H σ env tp Q R P p hp hsys => ?_⟩
  have w := R.wd
  obtain ⟨hs, ne⟩ := w.fresh hp
  refine P _ (upd Hs p (markM n)) (upd H p (.ext (memoP p []))) ⟨fun b u e _ _ => upd_new hp b u e, fun b e => upd_free e, same_new hs, fun b u n e => ?_, fun b xs e => upd_new hp b _ e⟩ ⟨fun b u e => ?_, ?_, ?_, fun b φ e => ?_⟩ (.memo (.inl upd_same))
  · by_cases q : b = p
    · subst q; exact .inr (.inl hp)
    · rw [upd_ne q] at e; exact .inl ⟨_, e⟩
  · by_cases q : b = p
    · subst q; rw [upd_same] at e
      exact .inr (.inr ⟨n, (Option.some.inj e).symm, [], upd_same, hsys, fun x hx => nomatch hx⟩)
    · rw [upd_ne q] at e; exact (w.sub b u e).upd q fun xs z => by rw [hp] at z; cases z
  · rw [upd_ne ne.symm]; exact w.tn
  · obtain ⟨vs, q, z⟩ := w.tH
    exact ⟨vs, by rw [upd_ne ne.symm]; exact q, z.mono (same_new hs)⟩
  · by_cases q : b = p
    · subst q; rw [upd_same] at e; cases e
    · rw [upd_ne q] at e; exact w.nx b φ e
theorem memo_mark {Hs H : Hp} {tp : List D} {a : Addr} {n : Int} (w : Wd K mg r Hs H tp) (m : At Hs a (markM n)) : Hs a = some (markM n) := by
  rcases m with m | ⟨m, _⟩ | ⟨_, _, xs, m, _⟩
  · exact m
  · cases m
  · exact (w.nx _ _ m).elim
theorem At.nottup {H : Hp} {a : Addr} {n : Int} (m : At H a (markM n)) (xs : List V) : H a ≠ some (.tup xs) := fun e => by
  rcases m with m | ⟨m, _⟩ | ⟨_, _, ys, m, _⟩
  · rw [e] at m; cases m
  · cases m
  · rw [e] at m; cases m
/-- the dict of known answers is written -/
theorem memo_put {Hs0 H0 Hs H H4 : Hp} {tp : List D} {a : Addr} {n : Int} {ks : List Int} (g : Grow r Hs0 H0 Hs H) (w : Wd K mg r Hs H tp) (m : Hs a = some (markM n)) (h : MemoHas n H4 a ks) (off : ∀ c, c ≠ a → H4 c = H c) : Grow r Hs0 H0 Hs H4 ∧ Wd K mg r Hs H4 tp := by
  have nt := At.nottup (w.sub _ _ m)
  have ne := w.ne m
  obtain ⟨xs, e4, hd, hx, _⟩ := h
  have kt : ∀ b ys, H b = some (.tup ys) → H4 b = some (.tup ys) := fun b ys e => by
    rw [off b fun z => nt ys (by rw [← z]; exact e)]; exact e
  refine ⟨⟨fun b o e n1 hs => ?_, fun b e => ?_, g.ex, g.new, fun b ys e => kt b ys (g.tup b ys e)⟩, ⟨fun b o e => ?_, w.tn, ?_, w.nx⟩⟩
  · by_cases z : b = a
    · exfalso
      rcases g.new a _ (by rw [← z]; exact n1) m with ⟨u, q⟩ | q | ⟨ys, q⟩
      · rw [← z, hs] at q; cases q
      · rw [← z, e] at q; cases q
      · exact nt ys (g.tup a ys q)
    · rw [off b z]; exact g.keep b o e n1 hs
  · by_cases z : b = a
    · rw [z, e4] at e; cases e
    · rw [off b z] at e; exact g.free b e
  · by_cases z : b = a
    · subst z
      rw [m] at e
      exact .inr (.inr ⟨n, (Option.some.inj e).symm, xs, e4, hd, hx⟩)
    · exact (w.sub b o e).keep (fun u q => by rw [off b z]; exact q) kt
  · obtain ⟨vs, q, z⟩ := w.tH
    exact ⟨vs, by rw [off r ne.symm]; exact q, z⟩
open Classical in
noncomputable def memoS (kn ky fn : Nat) (mB : SS) : SS := fun env tp => match env[kn]?, env[ky]? with
  | some (some (.memo n)), some (some (.tup ds)) => (match mB env tp with
    | .nx env' tp' => (match env'[fn]? with
      | some (some (.int d)) => if env'[kn]? = env[kn]? ∧ env'[ky]? = env[ky]? ∧ tp' = tp ∧ ∃ ks, dInts ds = some ks ∧ tellsF n ks = some d then .rt (.int d) tp else .stuck
      | _ => .stuck)
    | _ => .stuck)
  | _, _ => .stuck
theorem gss_memo {kn ky fn : Nat} {c e : Expr} {sts BODY : List Stmt} {u : TS} {mB : SS} {p1 p2 : Pos} (kn1 : kn ∉ O := by decide) (ky1 : ky ∉ O := by decide) (kn2 : kn ∉ On := by decide) (ky2 : ky ∉ On := by decide) (fn2 : fn ∉ On := by decide)
    (hc : PT X c (tB (tMNotIn (tVar ky) (tVar kn)))) (hb : PSs X sts (tSeq u (sMPut (tVar kn) (tVar ky) (tVar fn)))) (hB : GSs K mg r X E O On Ol BODY u mB) (hg : PE X e (tMGet (tVar kn) (tVar ky))) :
    GSs K mg r X E O On' Ol [.If c sts [] p1, .Return (some e) p2] (tSeq (tIfS (tB (tMNotIn (tVar ky) (tVar kn))) (tSeq u (sMPut (tVar kn) (tVar ky) (tVar fn))) tNext) (tRet (tMGet (tVar kn) (tVar ky)))) (memoS kn ky fn mB) := by
  refine ⟨pss_cons (ps_if hc hb pss_nil) (pss_one (ps_ret hg)), fun Hs0 H0 Hs H σ env tp D R P => ?_⟩
  unfold memoS at P
  split at P
  case h_2 => exact P.elim
  case h_1 n ds ekn eky =>
    split at P
    case h_2 => exact P.elim
    case h_1 env' tp' eB =>
      split at P
      case h_2 => exact P.elim
      case h_1 d efn =>
        split at P
        case isFalse => exact P.elim
        case isTrue hh =>
          obtain ⟨h1, h2, h3, ks, h4, h5⟩ := hh
          subst h3
          obtain ⟨v1, s1, r1⟩ := R.vars kn _ ekn kn1
          obtain ⟨v2, s2, r2⟩ := R.vars ky _ eky ky1
          cases r1 with
          | memo m1 =>
            rename_i a
            cases r2 with
            | tup t1 t2 =>
              rename_i b vs
              have hm := memo_mark R.wd m1
              have hk : KeyIs H b ks := ⟨vs, (R.wd.sub _ _ t1).tup, rep_ints t2 h4⟩
              refine ⟨_, s2, _, s1, a, b, n, ks, rfl, rfl, R.wd.sub _ _ hm, hk, ⟨true, rfl, iteT ?_⟩, fun hhas => ⟨false, rfl, iteF ?_⟩⟩
              · refine hB.snd _ _ _ _ _ _ _ _ R ?_
                rw [eB]
                intro σ' Hs' H' e' R'
                obtain ⟨v3, s3, r3⟩ := R'.vars fn _ efn fn2
                obtain ⟨v4, s4, r4⟩ := R'.vars kn _ (h1.trans ekn) kn2
                obtain ⟨v5, s5, r5⟩ := R'.vars ky _ (h2.trans eky) ky2
                cases r3
                cases r4 with
                | memo m4 =>
                  rename_i a'
                  cases r5 with
                  | tup t5 t6 =>
                    rename_i b' vs'
                    have hm' := memo_mark R'.wd m4
                    have hk' : KeyIs H' b' ks := ⟨vs', (R'.wd.sub _ _ t5).tup, rep_ints t6 h4⟩
                    refine ⟨_, s3, _, s4, _, s5, a', b', n, ks, d, rfl, rfl, rfl, R'.wd.sub _ _ hm', hk', h5, fun H4 mh off => ?_⟩
                    obtain ⟨g4, w4⟩ := memo_put R'.gr R'.wd hm' mh off
                    refine ⟨_, s4, _, s5, a', b', n, ks, rfl, rfl, mh, ?_, fun d' hd' => ?_⟩
                    · obtain ⟨vs2, q1, q2⟩ := hk'
                      exact ⟨vs2, by rw [off b' fun z => At.nottup (R'.wd.sub _ _ hm') vs2 (by rw [← z]; exact q1)]; exact q1, q2⟩
                    · rw [h5] at hd'
                      cases hd'
                      exact P _ Hs' H4 g4 w4 (.int _)
              · refine ⟨_, s1, _, s2, a, b, n, ks, rfl, rfl, hhas, hk, fun d' hd' => ?_⟩
                rw [h5] at hd'
                cases hd'
                exact P _ Hs H R.gr R.wd (.int _)
theorem gss_memo2 {kn ky fn : Nat} {c e : Expr} {s1 s2 sp : Stmt} {u1 u2 : TS} {m1 m2 : SS} {O1 : List Nat} {p1 p2 : Pos} (kn1 : kn ∉ O := by decide) (ky1 : ky ∉ O := by decide) (kn2 : kn ∉ On := by decide) (ky2 : ky ∉ On := by decide) (fn2 : fn ∉ On := by decide)
    (hc : PT X c (tB (tMNotIn (tVar ky) (tVar kn)))) (h1 : GS K mg r X E O O1 Ol s1 u1 m1) (h2 : GS K mg r X E O1 On Ol s2 u2 m2) (hp : PS X sp (sMPut (tVar kn) (tVar ky) (tVar fn))) (hg : PE X e (tMGet (tVar kn) (tVar ky))) :
    GSs K mg r X E O On' Ol [.If c [s1, s2, sp] [] p1, .Return (some e) p2] (tSeq (tIfS (tB (tMNotIn (tVar ky) (tVar kn))) (tSeq (tSeq u1 (u2)) (sMPut (tVar kn) (tVar ky) (tVar fn))) tNext) (tRet (tMGet (tVar kn) (tVar ky)))) (memoS kn ky fn (seqS m1 (m2))) :=
  gss_memo kn1 ky1 kn2 ky2 fn2 hc (show PSs X [s1, s2, sp] (tSeq u1 (tSeq u2 (sMPut (tVar kn) (tVar ky) (tVar fn)))) from pss_cons h1.pe (pss_cons h2.pe (pss_one hp))) (gss_cons h1 (gss_one h2)) hg
end
end G
set_option maxHeartbeats 1000000
namespace G
open PySem PySem.Spec PyProof.Rows L2
end G
set_option maxHeartbeats 1000000
namespace G
open PySem PySem.Spec PyProof.Rows L2
end G
set_option maxHeartbeats 1000000
namespace G
open PySem PySem.Spec PyProof.Rows L2
end G
set_option maxHeartbeats 1000000
namespace G
open PySem PySem.Spec PyProof.Rows L2
end G
set_option maxHeartbeats 1000000
namespace G
open PySem PySem.Spec PyProof.Rows L2
section
variable {r : Addr} {X : Cx} {K : PySem.W.Frag} {mg : Str → Option Value} {O Ol : List Nat} {E : XK} {k val : Expr} {tk tv : TE} {pos : Pos}
theorem RepDs.setN {Hs : Hp} {v : V} {d : D} (h : RepD K mg r Hs v d) : ∀ {vs : List V} {ds : List D} (j : Nat), RepDs K mg r Hs vs ds → RepDs K mg r Hs (vs.set j v) (ds.set j d)
  | [], _, j, .nil => by rw [List.set_nil, List.set_nil]; exact .nil
  | _ :: _, _, 0, .cons _ t => .cons h t
  | _ :: _, _, j + 1, .cons a t => .cons a (RepDs.setN h j t)
def lsetS (i : Nat) (mk mv : SE D) : SS := fun env tp => (mv env tp).bindS fun v tp1 => match env[i]? with
  | some (some (.lst xs)) => (mk env tp1).bindS fun k tp2 => (match k with
    | .int n => (match ixN xs.length n with
      | some j => .nx (env.set i (some (.lst (xs.set j v)))) tp2
      | none => .stuck)
    | _ => .stuck)
  | _ => .stuck
theorem gs_lset {mk mv : SE D} (i : Nat) {x : Str} {p1 p2 : Pos} (hO : i ∈ O) (hk : GE K mg r X O E k tk mk) (hv : GE K mg r X O E val tv mv) (hN : X.N[i]? = some x := by rfl)
    (hvis : Vis X.env.scope x := by first | exact Or.inl rfl | exact Or.inr (Or.inl rfl) | exact Or.inr (Or.inr rfl)) (hd : (x == ("__debug__" : Str)) = false := by decide) (hcd : (x == ("__classdict__" : Str)) = false := by decide)
    (hg : ∀ v, assign (.Subscript (.Name x p1) k p2) X.env v = (do
      let ov ← holding [v] (eval (.Name x p1) X.env)
      let iv ← holding [v, ov] (eval k X.env)
      standAt p2
      holding [v, ov, iv] (setItem ov iv v)
      release [v, ov, iv] []) := by intro _; rfl)
    (hs : swapsWithSole [.Subscript (.Name x p1) k p2] val pos.line X.env = pure false := by rfl) (hw : swappedStores [.Subscript (.Name x p1) k p2] val X.env = pure none := by rfl)
    (h1 : (assignEach [.Subscript (.Name x p1) k p2] X.env).map (·.2) = [assign (.Subscript (.Name x p1) k p2) X.env] := by rfl) :
    GS K mg r X E O O Ol (.Assign [.Subscript (.Name x p1) k p2] val pos) (tAsg tv (gSub (tVar i) tk rSetL)) (lsetS i mk mv) := by
  refine ⟨ps_asg hv.pe (pg_sub (pe_var hN hvis hd hcd) hk.pe set_list hg) hs hw h1, fun Hs0 H0 Hs H σ env tp Dn R P => ?_⟩
  refine hv.snd _ _ _ _ _ _ _ _ R (PostS.bind R P fun v Hs1 H1 d tp1 _ g w R1 rv P1 => ?_)
  obtain ⟨d0, p, b1, b2, c, c0, ne, oa⟩ := R1.own i hO
  rw [b1] at P1
  refine ⟨_, b2, ?_⟩
  cases d0 with
  | lst xs =>
    refine hk.snd _ _ _ _ _ _ _ _ R1 (PostS.bind R1 P1 fun u Hs2 H2 dk tp2 _ g2 w2 R2 ru P2 => ?_)
    cases dk with
    | int n =>
      simp only at P2
      split at P2
      · rename_i j q
        obtain ⟨d1, p1, e1, e2, f, f0, fn, fo⟩ := R2.own i hO
        rw [b2] at e2; cases e2
        rw [b1] at e1; cases e1
        obtain ⟨vs, h1, h2⟩ := fo
        refine ⟨p, vs, _, j, rfl, repT_int (H := H2) ru.top, h1, by rw [h2.length]; exact q, ?_⟩
        exact P2 _ _ _ (Same.refl _) (R2.write hO b2 ⟨_, upd_same, RepDs.setN (rv.mono g2.ex) j h2⟩)
      · exact P2.elim
    | _ => exact P2.elim
  | _ => exact P1.elim
end
end G
set_option maxHeartbeats 1000000
namespace G
open PySem PySem.Spec PyProof.Rows L2
section
variable {r : Addr} {X : Cx} {K : PySem.W.Frag} {mg : Str → Option Value} {O : List Nat} {E : XK} {a b : Expr} {ta tb : TE} {pos : Pos}
def lrepD : D → D → Option D
  | .lst xs, .int n => if cRep xs.length n then some (.lst (List.replicate n.toNat xs).flatten) else none
  | _, _ => none
theorem gf_lrep {ma mb : SE D} (ha : GE K mg r X O E a ta ma) (hb : GE K mg r X O E b tb mb) : GF K mg r X O E (.BinOp a .Mult b pos) (tOp rRep ta tb) (binE lrepD ma mb) := by
  refine ⟨pe_op op_rep ha.pe hb.pe, fun Hs0 H0 Hs H σ env tp Q R P => ?_⟩
  refine ha.snd _ _ _ _ _ _ _ _ R (Post.bind P fun v Hs1 H1 d tp1 _ g w rv P1 => ?_)
  refine hb.snd _ _ _ _ _ _ _ _ (R.grow g w) (Post.bind P1 fun u Hs2 H2 e tp2 _ g2 w2 ru P2 => ?_)
  obtain ⟨z, hz, k⟩ := Post.ok_of P2
  unfold lrepD at hz
  split at hz
  · split at hz
    · rename_i xs n e1 e2 c
      cases hz
      have c := cRep_ok c
      obtain ⟨p, vs, rfl, h1, h2⟩ := repT_lst w2 (.inl (rv.mono g2.ex))
      have eu := repT_int (H := H2) ru.top
      subst eu
      refine ⟨p, n, vs, rfl, rfl, h1, by omega, by omega, ?_, fun q hq => ?_⟩
      · rw [h2.length, sizeLine_eq]
        have : ((xs.length * n.toNat : Nat) : Int) ≤ 16777216 := by
          rw [Int.natCast_mul, Int.toNat_of_nonneg c.1]; exact c.2.1
        omega
      · obtain ⟨x1, x2, x3⟩ := fresh_new (o := .lst (List.replicate n.toNat vs).flatten) (d := .lst (List.replicate n.toNat xs).flatten) (g.trans g2) w2 hq ⟨_, upd_same, h2.rep _⟩
        exact k _ _ _ (w2.lay hq).1 x2 x3
    · cases hz
  · cases hz
end
end G
set_option maxHeartbeats 1000000
namespace G
open PySem PySem.Spec PyProof.Rows L2
end G
set_option maxHeartbeats 1000000
namespace G
open PySem PySem.Spec PyProof.Rows L2
end G
set_option maxHeartbeats 1000000
namespace RvT
open PySem PySem.Spec PyProof.Rows L2 HT
end RvT
namespace G
open PySem PySem.Spec PyProof.Rows L2 RvT
end G
set_option maxHeartbeats 1000000
namespace G
open PySem PySem.Spec PyProof.Rows L2
section
variable {r : Addr} {X : Cx} {K : PySem.W.Frag} {mg : Str → Option Value} {O : List Nat} {E : XK} {e : Expr} {te : TE} {apos cpos tpos : Pos} {elts : List Expr} {kk : Nat}
theorem RepP.len {Hs : Hp} : ∀ {a : List (D × V)} {ds : List (D × D)}, RepP K mg r Hs a ds → a.length = ds.length
  | _, _, .nil => rfl
  | _, _, .cons _ q => by simp only [List.length_cons, RepP.len q]
end
end G
set_option maxHeartbeats 1000000
namespace SrtI
open PySem PySem.Spec PyProof.Rows PyProof.Rows.G PySem.W
section
variable {prog : Program} {w : World} {A : Around} {E : Value → Shared → Prop} {s : Shared} {r d : Addr} {es : Array DictEntry} {ep : Nat}
/-- the pair that stands at a -/
def PrAt (h : Heap) (a : Addr) (p : Int × Int) : Prop := ∃ t u, h.get? a = some { cls := .type "tuple", data := .seq #[.int p.1 t, .int p.2 u] }
theorem PrAt.keep {h h' : Heap} {a : Addr} {p : Int × Int} (x : PrAt h a p) (k : ∀ o, h.get? a = some o → h'.get? a = some o) : PrAt h' a p := by
  obtain ⟨t, u, e⟩ := x
  exact ⟨t, u, k _ e⟩
end
end SrtI
namespace G
open PySem PySem.Spec PyProof.Rows L2 SrtI
end G
set_option maxHeartbeats 1000000
namespace G
open PySem PySem.Spec PyProof.Rows L2 SrtI
end G
set_option maxHeartbeats 1000000
namespace MxI
open PySem PySem.Spec PyProof.Rows PySem.W SrtI G
theorem al (a b : Int × Int) : alike (.tuple [.int a.1, .int a.2]) (.tuple [.int b.1, .int b.2]) = true := by simp [alike, alikeAll]
theorem dd (a : Int × Int) : (PyData.tuple [.int a.1, .int a.2]).depth ≤ 3 := by simp [PyData.depth, PyData.depthAll]
theorem PrAt.reads {h : Heap} {a : Addr} {p : Int × Int} (x : PrAt h a p) : Reads h (.ref a) (.tuple [.int p.1, .int p.2]) [] := by
  obtain ⟨t, u, e⟩ := x
  exact .tuple e rfl rfl (.cons (as := []) (bs := []) (.int _ _) (.cons (as := []) (bs := []) (.int _ _) .nil))
end MxI
namespace G
open PySem PySem.Spec PyProof.Rows L2 SrtI MxI
end G
set_option maxHeartbeats 1000000
namespace G
open PySem PySem.Spec PyProof.Rows L2
def tupPd : PyData → Bool
  | .tuple (_ :: _) => true
  | _ => false
def othPd : PyData → Bool
  | .none => false
  | .tuple _ => false
  | _ => true
def sortOk (ds : List D) : Bool := ds.all D.okq && (ds.all fun d => ds.all fun e => PySem.W.alike d.pd e.pd) && (ds.all (fun d => tupPd d.pd) || ds.all fun d => othPd d.pd)
def sortDat (ds : List D) : List D := ds.mergeSort (PySem.W.dataLe false D.pd)
def sortDD : List D → Option D
  | [.lst ds] => if sortOk ds then some (.lst (sortDat ds)) else none
  | _ => none
theorem tupPd_ok {d : PyData} (h : tupPd d = true) : ∃ x r, d = .tuple (x :: r) := by
  cases d with
  | tuple xs => cases xs with
    | nil => cases h
    | cons x r => exact ⟨x, r, rfl⟩
  | _ => cases h
theorem othPd_ok {d : PyData} (h : othPd d = true) : d ≠ .none ∧ ∀ xs, d ≠ .tuple xs := by
  refine ⟨fun e => ?_, fun xs e => ?_⟩ <;> rw [e] at h <;> cases h
def rSortDat (K : PySem.W.Frag) : List V → Hp → VK → Prop := fun vs H Q => ∃ (a : Addr) (bs : List (V × D)), vs = [V.ref a] ∧ SqL K H a (bs.map (·.1)) ∧ (∀ b ∈ bs, Dp K H b.1 b.2.pd) ∧ sortOk (bs.map (·.2)) = true ∧
  ∀ p, H p = none → Q (.ref p) (upd H p (.lst ((bs.mergeSort (PySem.W.dataLe false fun b => b.2.pd)).map (·.1))))
theorem each_vals : ∀ {bs : List (V × D)} {us : List Value}, Vals (bs.map (·.1)) us → PySem.W.EachIs (fun v b => RelV b.1 v) us bs
  | [], _, .nil => .nil
  | b :: bs, _ :: us, .cons r t => .cons r (each_vals t)
theorem vals_each : ∀ {bs : List (V × D)} {us : List Value}, PySem.W.EachIs (fun v (b : V × D) => RelV b.1 v) us bs → Vals (bs.map (·.1)) us
  | [], _, .nil => .nil
  | b :: bs, _ :: us, .cons r t => .cons r (vals_each t)
theorem each_and {R S : Value → V × D → Prop} : ∀ {bs : List (V × D)} {us : List Value}, PySem.W.EachIs R us bs → (∀ b ∈ bs, ∀ u, R u b → S u b) → PySem.W.EachIs S us bs
  | [], _, .nil, _ => .nil
  | b :: bs, _ :: us, .cons r t, h => .cons (h b List.mem_cons_self _ r) (each_and t fun c hc => h c (List.mem_cons_of_mem _ hc))
section
variable {X : Cx}
theorem cr_sortDat (hu : X.A.units + 64 < cLine) : CallR X (.builtin "sorted") (rSortDat X.K) := by
  intro pins s σ H vs us Q I r h
  obtain ⟨a, bs, rfl, hs, hd, ok, q⟩ := h
  obtain ⟨its, rv, hl, hz⟩ := I.list hs
  obtain ⟨u, rfl, ru⟩ := vals1 r
  obtain rfl : u = Value.ref a := ru
  unfold sortOk at ok
  simp only [Bool.and_eq_true, Bool.or_eq_true, List.all_eq_true] at ok
  obtain ⟨⟨ok1, ok2⟩, ok3⟩ := ok
  have mem2 : ∀ b ∈ bs, b.2 ∈ bs.map (·.2) := fun b hb => List.mem_map.mpr ⟨b, hb, rfl⟩
  have e := each_vals rv
  have er : PySem.W.EachIs (fun v (b : V × D) => ∃ as, Reads s.heap v b.2.pd as) its bs := each_and e fun b hb u ru => Dp.reads I b.2.pd b.1 u (hd b hb) ru
  have hlen : bs.length ≤ sizeLine := by rw [List.length_map] at hz; exact hz
  refine PySem.W.sorted_data (enc := fun b : V × D => b.2.pd) hl.isList e er ?_ ?_ hlen (fun b hb => ?_) fun out ho eo => ?_
  · intro d hd d' hd'
    obtain ⟨b, hb, rfl⟩ := List.mem_map.mp hd
    obtain ⟨b', hb', rfl⟩ := List.mem_map.mp hd'
    exact ok2 _ (mem2 b hb) _ (mem2 b' hb')
  · rcases ok3 with h | h
    · refine .inl fun d hd => ?_
      obtain ⟨b, hb, rfl⟩ := List.mem_map.mp hd
      exact tupPd_ok (h _ (mem2 b hb))
    · refine .inr fun d hd => ?_
      obtain ⟨b, hb, rfl⟩ := List.mem_map.mp hd
      exact othPd_ok (h _ (mem2 b hb))
  · have := (okq_ok (ok1 _ (mem2 b hb))).2
    show X.A.units + 2 + b.2.pd.depth < cLine
    omega
  · obtain ⟨ep, hob⟩ := PyProof.Rows.sortedAll_at s.heap its (List.toArray out)
    refine ⟨.ref (s.heap.objs.size + 1), upd H (s.heap.objs.size + 1) (.lst ((bs.mergeSort (PySem.W.dataLe false fun b => b.2.pd)).map (·.1))), I.laid (t' := s.toks) (fun b o e => PyProof.Rows.sortedAll_old e) (Nat.le_succ _) ⟨?_, out, ep, vals_each eo, hob⟩, rfl, q _ (I.hok.fresh (Nat.le_succ _))⟩
    rw [List.length_map, List.length_mergeSort]; exact hlen
end
theorem reps_zip {K : PySem.W.Frag} {mg : Str → Option Value} {r : Addr} {Hs : Hp} : ∀ {vs : List V} {ds : List D}, RepDs K mg r Hs vs ds → (vs.zip ds).map (·.1) = vs ∧ (vs.zip ds).map (·.2) = ds ∧ ∀ b ∈ vs.zip ds, RepD K mg r Hs b.1 b.2
  | _, _, .nil => ⟨rfl, rfl, fun b hb => by cases hb⟩
  | v :: vs, d :: ds, .cons h q => by
    obtain ⟨a, b, c⟩ := reps_zip q
    refine ⟨by rw [List.zip_cons_cons, List.map_cons, a], by rw [List.zip_cons_cons, List.map_cons, b], fun x hx => ?_⟩
    rw [List.zip_cons_cons] at hx
    rcases List.mem_cons.mp hx with e | e
    · rw [e]; exact h
    · exact c x e
theorem reps_unzip {K : PySem.W.Frag} {mg : Str → Option Value} {r : Addr} {Hs : Hp} : ∀ {bs : List (V × D)}, (∀ b ∈ bs, RepD K mg r Hs b.1 b.2) → RepDs K mg r Hs (bs.map (·.1)) (bs.map (·.2))
  | [], _ => .nil
  | b :: bs, h => .cons (h b List.mem_cons_self) (reps_unzip fun c hc => h c (List.mem_cons_of_mem _ hc))
section
variable {r : Addr} {X : Cx} {K : PySem.W.Frag} {mg : Str → Option Value} {O : List Nat} {E : XK} {e a : Expr} {ts : TA} {ta : TE} {p pos : Pos} {ms : SE (List D)}
theorem gf_sortDat (hu : X.A.units + 64 < cLine) (hm : X.mg "sorted" = none) (ha : GAO K mg r X O E [e] ts ms) (hg : Gl X "sorted" := by rfl) (he : starEach [e] X.env = (false, eval e X.env) :: starEach [] X.env := by rfl) (hpl : (backTo pos (starEach [] X.env)).any (·.1) = false := by rfl) (hK : X.K = K := by rfl) : GF K mg r X O E (.Call (.Name "sorted" p) [e] [] pos) (tCB (rSortDat K) ts) (callB sortDD ms) := by
  subst hK
  refine ⟨pe_callB (r := rSortDat X.K) (cr_sortDat hu) hg hm boot_sorted ha.pe (by decide) (by decide) he hpl, fun Hs0 H0 Hs H σ env tp Q Rl P => ?_⟩
  refine ha.snd _ _ _ _ _ _ _ _ Rl ?_
  unfold callB at P
  cases q : ms env tp with
  | stuck => rw [q] at P; exact P
  | exn cc fs tp1 => rw [q] at P; exact P
  | ok ds tp1 =>
    rw [q] at P
    intro xs Hs1 H1 g w rx
    obtain ⟨z, hz, k⟩ := Post.ok_of (show Post X.K mg r (Fresh X.K mg r H) E Hs H (RE.of (sortDD ds) tp1) Q from P)
    unfold sortDD at hz
    split at hz
    · rename_i ds0
      split at hz
      · rename_i ok
        cases hz
        obtain ⟨x, rfl, h⟩ := paired1 rx
        obtain ⟨p, vs, rfl, h6, h7⟩ := repT_lst w h
        obtain ⟨z1, z2, z3⟩ := reps_zip h7
        have ok' := ok
        unfold sortOk at ok'
        simp only [Bool.and_eq_true, List.all_eq_true] at ok'
        refine ⟨p, vs.zip ds0, rfl, ?_, fun b hb => ?_, ?_, fun q hq => ?_⟩
        · rw [z1]; exact .of h6
        · have hm2 : b.2 ∈ ds0 := by rw [← z2]; exact List.mem_map.mpr ⟨b, hb, rfl⟩
          exact RepD.dp w.sub (z3 b hb) (okq_ok (ok'.1.1 _ hm2)).1
        · rw [z2]; exact ok
        · have er : ((vs.zip ds0).mergeSort (PySem.W.dataLe false fun b => b.2.pd)).map (·.2) = sortDat ds0 := by
            unfold sortDat
            conv => rhs; rw [← z2]
            exact List.map_mergeSort (r := PySem.W.dataLe false fun b : V × D => b.2.pd) (s := PySem.W.dataLe false D.pd) (f := fun b : V × D => b.2) fun a _ b _ => rfl
          have hr := reps_unzip (K := X.K) (mg := mg) (r := r) (Hs := Hs1) (bs := (vs.zip ds0).mergeSort (PySem.W.dataLe false fun b => b.2.pd)) fun b hb => z3 b ((List.mergeSort_perm _ _).mem_iff.mp hb)
          rw [er] at hr
          obtain ⟨a, b, c⟩ := fresh_new (o := .lst (((vs.zip ds0).mergeSort (PySem.W.dataLe false fun b => b.2.pd)).map (·.1))) (d := .lst (sortDat ds0)) g w hq ⟨_, upd_same, hr⟩
          exact k _ _ _ a b c
      · cases hz
    · cases hz
end
end G
set_option maxHeartbeats 1000000
namespace RvT
open PySem PySem.Spec PyProof.Rows L2 HT
end RvT
namespace G
open PySem PySem.Spec PyProof.Rows L2 RvT
end G
set_option maxHeartbeats 1000000
namespace G
open PySem PySem.Spec PyProof.Rows L2
end G
set_option maxHeartbeats 1000000
namespace ZpM
open PySem PySem.Spec PyProof.Rows L2
abbrev hpA (g : Heap) (a : Addr) : Heap := g.push { cls := .type "list_iterator", data := .fields #[.ref a, .int 0 0] }
abbrev hpB (g : Heap) (a b : Addr) : Heap := (hpA g a).push { cls := .type "tuple_iterator", data := .fields #[.ref b, .int 0 0] }
abbrev hpC (g : Heap) (a b : Addr) : Heap := (hpB g a b).push { cls := .type "tuple", data := .seq #[.ref g.objs.size, .ref (hpA g a).objs.size] }
abbrev hpD (g : Heap) (a b : Addr) : Heap := (hpC g a b).push { cls := .type "tuple", data := .seq #[.none, .none] }
abbrev hpE (g : Heap) (a b : Addr) : Heap := (hpD g a b).push { cls := .type "zip", data := .fields #[.none, .bool false, .bool false, .ref (hpB g a b).objs.size, .ref (hpC g a b).objs.size] }
theorem meets_zm (a b : Addr) (us ws : Array Value) : Meets (Builtin.«zip.__new__» ⟨[.type "zip", .ref a, .ref b], []⟩) (fun _ R s => s.heap.IsList a us ∧ s.heap.IsTuple b ws ∧ R (.ok (.ret (.ref (hpD s.heap a b).objs.size))) { s with heap := hpE s.heap a b }) :=
  .of_wp fun prog w A R s k => by
    obtain ⟨g0, gs, ds, t0, o0⟩ := s
    obtain ⟨k1, k2, k3⟩ := k
    have hsub := sub_zip
    have m1 : Heap.IsList (Shared.heap ⟨g0, gs, ds, t0, o0⟩) a us := k1
    have m2 : Heap.IsTuple (Shared.heap ⟨hpA g0 a, gs, ds, t0, o0⟩) b ws := Heap.IsTuple.push k2 _
    wp_walk using wpAny_pyIter_list m1, wpAny_pyIter_tuple m2
    exact ⟨_, rfl, k3⟩
section
variable {prog : Program} {w : World} {A : Around} {E : Value → Shared → Prop} {s : Shared}
theorem call_zm {a b : Addr} {us ws : Array Value} {Q : Value → Shared → Prop} (k1 : s.heap.IsList a us) (k2 : s.heap.IsTuple b ws)
    (k : ∀ g', IsZip g' (s.heap.objs.size + 4) (s.heap.objs.size + 2) (s.heap.objs.size + 3) .none → IsTupOf2 g' (s.heap.objs.size + 2) (.ref s.heap.objs.size) (.ref (s.heap.objs.size + 1)) → IsTupOf2 g' (s.heap.objs.size + 3) .none .none →
      g'.IsListIter s.heap.objs.size a 0 → g'.IsTupleIter (s.heap.objs.size + 1) b 0 → (∀ c u, s.heap.get? c = some u → g'.get? c = some u) → Q (.ref (s.heap.objs.size + 4)) { s with heap := g' }) :
    wpAny (model prog w) A (call (.type "zip") [.ref a, .ref b]) Q E s := by
  refine callType_new F.called_zip (by decide) (F.typeCall_zip_2 _ _) (F.newCall_zip_2 _ _) (fun obj => F.args_object_init_3 obj _ _) F.entry_zip_new (meets_zm a b us ws) ⟨k1, k2, ?_⟩
  have n1 : (hpA s.heap a).objs.size = s.heap.objs.size + 1 := Heap.size_push ..
  have n2 : (hpB s.heap a b).objs.size = s.heap.objs.size + 2 := by rw [Heap.size_push, n1]
  have n3 : (hpC s.heap a b).objs.size = s.heap.objs.size + 3 := by rw [Heap.size_push, n2]
  have n4 : (hpD s.heap a b).objs.size = s.heap.objs.size + 4 := by rw [Heap.size_push, n3]
  have at0 : (hpE s.heap a b).get? s.heap.objs.size = some _ := Heap.get?_push_of_some _ (Heap.get?_push_of_some _ (Heap.get?_push_of_some _ (Heap.get?_push_of_some _ (Heap.get?_push_size _ rfl))))
  have at1 : (hpE s.heap a b).get? (hpA s.heap a).objs.size = some _ := Heap.get?_push_of_some _ (Heap.get?_push_of_some _ (Heap.get?_push_of_some _ (Heap.get?_push_size _ rfl)))
  have at2 : (hpE s.heap a b).get? (hpB s.heap a b).objs.size = some _ := Heap.get?_push_of_some _ (Heap.get?_push_of_some _ (Heap.get?_push_size _ rfl))
  have at3 : (hpE s.heap a b).get? (hpC s.heap a b).objs.size = some _ := Heap.get?_push_of_some _ (Heap.get?_push_size _ rfl)
  have at4 : (hpE s.heap a b).get? (hpD s.heap a b).objs.size = some _ := Heap.get?_push_size _ rfl
  show _ ∧ _
  rw [n1] at at1
  rw [n1, n2] at at2
  rw [n3] at at3
  rw [n2, n3, n4] at at4
  rw [n4]
  exact ⟨⟨_, at4, rfl⟩, k _ at4 at2 at3 ⟨_, at0, rfl, rfl⟩ ⟨_, at1, rfl, rfl⟩ fun c u e => Heap.get?_push_of_some _ (Heap.get?_push_of_some _ (Heap.get?_push_of_some _ (Heap.get?_push_of_some _ (Heap.get?_push_of_some _ e))))⟩
end
/-- the turns: as many as the shorter one has -/
def ItM (K : PySem.W.Frag) (a b : Addr) (xs ys : List V) : It :=
  ⟨fun i H => i < xs.length ∧ i < ys.length ∧ SqL K H a xs ∧ SqT K H b ys, fun i H v H' => ∃ T x y, v = .ref T ∧ H T = none ∧ H' = upd H T (.tup [x, y]) ∧ xs[i]? = some x ∧ ys[i]? = some y,
    fun i H => i ≤ xs.length ∧ i ≤ ys.length ∧ (i = xs.length ∨ i = ys.length) ∧ SqL K H a xs ∧ SqT K H b ys⟩
theorem five {z TI TO p1 p2 c : Addr} (h : c ∈ [z, TI, TO, p1, p2]) : c = z ∨ c = TI ∨ c = TO ∨ c = p1 ∨ c = p2 := by simpa using h
theorem sep_of {z TI TO p1 p2 a b : Addr} (D : ZipApart z TI TO p1 p2 a b) : ZipSep2 z TI TO p1 p2 [p1, a] [p2, b] where
  TIz := D.TIz
  TOz := D.TOz
  TITO := D.TITO
  TIi1 := D.TIi1
  mem1 := by simp
  zf1 := by simp [D.i1z.symm, D.l1z.symm]
  Tf1 := by simp [D.TOi1, D.l1TO.symm]
  TIi2 := D.TIi2
  mem2 := by simp
  zf2 := by simp [D.i2z.symm, D.l2z.symm]
  Tf2 := by simp [D.TOi2, D.l2TO.symm]
  sep1_2 := by simp [D.i12, D.l2i1.symm]
  sep2_1 := by simp [D.i12.symm, D.l1i2.symm]
theorem turn_zm {P : Program} {w : World} {K : PySem.W.Frag} {elts : List Expr} {kk : Nat} {tpos : Pos} {a b z TI TO p1 p2 : Addr} {xs ys : List V} (D : ZipApart z TI TO p1 p2 a b) :
    Turn P w K (.Tuple elts kk tpos) (ItM K a b xs ys) [z, TI, TO, p1, p2] z (fun i g => IsZip g z TI TO .none ∧ IsTupOf2 g TI (.ref p1) (.ref p2) ∧ (∃ x y, IsTupOf2 g TO x y) ∧ g.IsListIter p1 a i ∧ g.IsTupleIter p2 b i) where
  mem := by simp
  obj := fun i g t c hc => by
    obtain ⟨e0, e1, ⟨x, y, e2⟩, ⟨o1, e3, _, d3⟩, ⟨o2, e4, _, d4⟩⟩ := t
    rcases five hc with q | q | q | q | q <;> subst q
    · exact ⟨_, e0, fun v q => nomatch q⟩
    · exact ⟨_, e1, fun v q => nomatch q⟩
    · exact ⟨_, e2, fun v q => nomatch q⟩
    · exact ⟨o1, e3, fun v q => by rw [d3] at q; cases q⟩
    · exact ⟨o2, e4, fun v q => by rw [d4] at q; cases q⟩
  keep := fun i g g' t k => by
    obtain ⟨e0, e1, ⟨x, y, e2⟩, e3, e4⟩ := t
    exact ⟨k z (by simp) _ e0, k TI (by simp) _ e1, ⟨x, y, k TO (by simp) _ e2⟩, e3.at fun o q => k p1 (by simp) o q, e4.at fun o q => k p2 (by simp) o q⟩
  item := by
    intro X hP hw hK hc i pins s σ H E I hf t hg
    subst hP hw hK
    obtain ⟨e0, e1, ⟨x0, y0, e2⟩, e3, e4⟩ := t
    obtain ⟨lx, ly, qx, qy⟩ := hg
    obtain ⟨its, rv, p, _⟩ := I.list qx
    obtain ⟨jts, rw2, p2', _⟩ := I.tuple qy
    have nx := rv.length
    have ny := rw2.length
    have zlt : z < s.heap.objs.size := Heap.lt_size e0
    refine wpAny_pyNext_zipD2_item (sep_of D) (Draws.list (A := X.A.in1) (I.ok.hd hc) p1 a D.l1i1 its.toArray) (Draws.tuple (A := X.A.in1) (I.ok.hd hc) p2 b D.l2i2 jts.toArray) e0 e1 e2 ⟨e3, p.isList⟩ ⟨e4, p2'⟩ (by simp; omega) (by simp; omega) fun u1 u2 g1 tk v1 v2 z1 o1 d1 d2 hT hsz hk => ?_
    obtain ⟨x, hx⟩ : ∃ x, xs[i]? = some x := ⟨xs[i], List.getElem?_eq_getElem lx⟩
    obtain ⟨y, hy⟩ : ∃ y, ys[i]? = some y := ⟨ys[i], List.getElem?_eq_getElem ly⟩
    obtain ⟨u, hu, ru⟩ := rv.get hx
    obtain ⟨u', hu', ru'⟩ := rw2.get hy
    have f1 : u1 = u := by
      have : its[i]? = some u1 := by simpa using v1
      rw [hu] at this
      exact (Option.some.inj this).symm
    have f2 : u2 = u' := by
      have : jts[i]? = some u2 := by simpa using v2
      rw [hu'] at this
      exact (Option.some.inj this).symm
    subst f1 f2
    refine ⟨_, rfl, wpAny_letOwnedTupleGo_zip (s := { s with heap := g1, toks := tk }) z1 fun g2 z2 sb => ?_⟩
    have hT2 : g2.get? s.heap.objs.size = some { cls := .type "tuple", data := .seq #[u1, u2] } := (sb.2 _ (Nat.ne_of_gt zlt)).trans hT
    have new : ObjOk X.prog X.w (upd H s.heap.objs.size (.tup [x, y])) g2 s.heap.objs.size (.tup [x, y]) := ⟨by show 2 ≤ sizeLine; decide, [u1, u2], .cons ru (.cons ru' .nil), ⟨_, hT2, rfl, _, rfl⟩⟩
    have I1 : Inv X pins σ (upd H s.heap.objs.size (.tup [x, y])) { s with heap := g2, toks := tk } :=
      I.turnedNew (ch := [z, TI, TO, p1, p2]) (fun c o hb q => (sb.2 c (fun y => hb (by simp [y]))).trans (hk c o (fun y => hb (by simp [y])) (fun y => hb (by simp [y])) (fun y => hb (by simp [y])) (fun y => hb (by simp [y])) q)) hf (Nat.le_refl _) new
    refine ⟨.ref s.heap.objs.size, _, I1, rfl, ⟨_, x, y, rfl, I.hok.fresh (Nat.le_refl _), rfl, hx, hy⟩, ⟨z2, ?_, ⟨u1, u2, ?_⟩, ?_, ?_⟩, fun c hcm => ?_⟩
    · exact (sb.2 _ D.TIz).trans (hk _ _ D.TIz D.TITO D.TIi1 D.TIi2 e1)
    · exact (sb.2 _ D.TOz).trans o1
    · exact d1.1.at fun o q => (sb.2 _ D.i1z).trans q
    · exact d2.1.at fun o q => (sb.2 _ D.i2z).trans q
    · have hlt : c < s.heap.objs.size := by
        obtain ⟨_, e3', _⟩ := e3
        obtain ⟨_, e4', _⟩ := e4
        rcases five hcm with q | q | q | q | q <;> subst q
        · exact zlt
        · exact Heap.lt_size e1
        · exact Heap.lt_size e2
        · exact Heap.lt_size e3'
        · exact Heap.lt_size e4'
      rw [upd_ne (show c ≠ s.heap.objs.size from Nat.ne_of_lt hlt)]
      exact (hf c hcm).1
  done := by
    intro X hP hw hK hc i pins s σ H E I hf t hg
    subst hP hw hK
    obtain ⟨e0, e1, ⟨x0, y0, e2⟩, e3, e4⟩ := t
    obtain ⟨lx, ly, hend, qx, qy⟩ := hg
    obtain ⟨its, rv, p, _⟩ := I.list qx
    obtain ⟨jts, rw2, p2', _⟩ := I.tuple qy
    have nx := rv.length
    have ny := rw2.length
    refine wpAny_pyNext_zipD2_end (sep_of D) (Draws.list (A := X.A.in1) (I.ok.hd hc) p1 a D.l1i1 its.toArray) (Draws.tuple (A := X.A.in1) (I.ok.hd hc) p2 b D.l2i2 jts.toArray) e0 e1 e2 ⟨e3, p.isList⟩ ⟨e4, p2'⟩ (by simp; omega) (by simp; omega) (by simp; omega) fun g1 tk hk => ⟨rfl, ?_⟩
    exact I.turnedL (ch := [z, TI, TO, p1, p2]) (fun c o hb q => hk c o (fun y => hb (by simp [y])) (fun y => hb (by simp [y])) (fun y => hb (by simp [y])) (fun y => hb (by simp [y])) q) hf
  self := fun A i s Q E t k => wpAny_pyIter_zip t.1 k
end ZpM
namespace G
open PySem PySem.Spec PyProof.Rows L2 ZpM
end G
set_option maxHeartbeats 1000000
namespace G
open PySem PySem.Spec PyProof.Rows L2
end G
set_option maxHeartbeats 1000000
namespace G
open PySem PySem.Spec PyProof.Rows L2
section
variable {r : Addr} {X : Cx} {K : PySem.W.Frag} {mg : Str → Option Value} {O Ol : List Nat} {E : XK} {pos : Pos}
variable {Hs0 H0 Hs H : Hp} {σ : L2.St} {env : DEnv} {tp : List D} {p : Addr} {o : HO}
theorem Rel.laid (R : Rel K mg r O Hs0 H0 Hs H σ env tp) (h : H p = none) (u : HO) : Rel K mg r O Hs0 H0 Hs (upd H p u) σ env tp :=
  R.grow (R.wd.lay (o := u) h).1 (R.wd.lay (o := u) h).2
variable {tg e : Expr} {mi : SE (List D)} {wi : TI} {g : TG}
end
end G
set_option maxHeartbeats 1000000
namespace G
open PySem PySem.Spec PyProof.Rows L2
end G
set_option maxHeartbeats 1000000
namespace G
open PySem PySem.Spec PyProof.Rows L2
section
variable {r : Addr} {X : Cx} {K : PySem.W.Frag} {mg : Str → Option Value} {O : List Nat} {E : XK} {e : Expr}
def rMaxTu (K : PySem.W.Frag) : List V → Hp → VK → Prop := fun xs H Q => ∃ (a : Addr) (ns : List Int), xs = [.ref a] ∧ SqT K H a (ns.map V.int) ∧ 0 < ns.length ∧ ∀ m, m ∈ ns → (∀ y, y ∈ ns → y ≤ m) → Q (.int m) H
theorem cr_maxTu (hc : X.calm = true) : CallR X (.builtin "max") (rMaxTu X.K) := by
  intro pins s σ H xs us Q I rx h
  obtain ⟨a, ns, rfl, hs, hne, q⟩ := h
  rw [Vals.ref1 rx]
  obtain ⟨its, rv, hl, hz⟩ := I.tuple hs
  have hi := rv.ints
  have hn : its.toArray.size = ns.length := by
    have := rv.length
    rw [List.length_map] at this
    rw [List.size_toArray]; exact this.symm
  obtain ⟨ob, ho, hl2⟩ := id hl
  have hd : a < s.heap.objs.size := Heap.lt_size ho
  refine call_max_walk (wpAny_pyIter_tuple hl ?_)
  refine ⟨s.heap.objs.size, [s.heap.objs.size, a], [s.heap.objs.size], its.toArray.size, fun i v => ∃ t, v = .int (ns.getD i 0) t, _, fun i j => decide (ns.getD i 0 > ns.getD j 0), rfl,
    (Walks.tuple (show X.A.in1.handled = none from I.ok.hd hc) _ a (Nat.ne_of_lt hd) its.toArray).mono_item fun i v hi2 h1 => PyProof.Rows.IntsAre.int_at hi i v (by simpa using h1), ⟨⟨_, Heap.get?_push_size _ rfl, rfl, rfl⟩, hl.push _⟩, fun b hb => ?_, by omega, CmpOf.ints_gt (fun i => ns.getD i 0) (fun i v z => z), fun v h' tk hv' hk => ?_⟩
  · show b < (s.heap.push _).objs.size
    rw [Heap.size_push]
    rcases List.mem_cons.mp hb with z | z
    · rw [z]
      exact Nat.lt_succ_self _
    · rw [List.mem_singleton.mp z]
      exact Nat.lt_succ_of_lt hd
  · obtain ⟨t, rfl⟩ := hv'
    obtain ⟨m1', m2'⟩ := argBest_gt (fun i => ns.getD i 0) (its.toArray.size - 1)
    have m1 : argBest (fun i j => decide (ns.getD i 0 > ns.getD j 0)) (its.toArray.size - 1) ≤ its.toArray.size - 1 := m1'
    have m2 : ∀ j, j ≤ its.toArray.size - 1 → ns.getD j 0 ≤ ns.getD (argBest (fun i j => decide (ns.getD i 0 > ns.getD j 0)) (its.toArray.size - 1)) 0 := m2'
    have hk2 : ∀ b o, s.heap.get? b = some o → h'.get? b = some o := fun b o e => hk b o (fun z => by rw [List.mem_singleton.mp z] at e; exact absurd (Heap.lt_size e) (Nat.lt_irrefl _)) (Heap.get?_push_of_some _ e)
    refine ⟨.int _, H, I.kept (t' := tk) hk2, ⟨t, rfl⟩, q _ (PySem.getD_mem (by omega)) fun y hy => ?_⟩
    obtain ⟨j, hj, e⟩ := List.mem_iff_getElem.mp hy
    have z := m2 j (by omega)
    have e3 : ns.getD j 0 = y := by rw [List.getD_eq_getElem?_getD, List.getElem?_eq_getElem hj, ← e] <;> rfl
    rw [e3] at z
    exact z
def maxTD : List D → Option D
  | [.tup xs] => (unI xs).bind fun ns => ns.max?.map .int
  | _ => none
theorem cs_maxTu : CallS K mg r (rMaxTu K) maxTD := by
  intro Hs H tp xs ds z Q w rx hz k
  unfold maxTD at hz
  split at hz
  · obtain ⟨ns, h1, h2⟩ := Option.bind_eq_some_iff.mp hz
    obtain ⟨m, h3, rfl⟩ := Option.map_eq_some_iff.mp h2
    obtain ⟨m1, m2⟩ := List.max?_eq_some_iff.mp h3
    obtain ⟨x, rfl, h⟩ := paired1 rx
    rw [unI_ok h1] at h
    obtain ⟨p, vs, rfl, h0, h3, h4⟩ := repT_tup w h
    rw [RepDs.ints_of h4] at h3
    refine ⟨p, ns, rfl, .of h3, List.length_pos_of_mem m1, fun m' a b => ?_⟩
    have : m' = m := Int.le_antisymm (m2 m' a) (b m m1)
    rw [this]
    exact k _ _ _ (Grow.refl _ _) w (.int _)
  · cases hz
theorem ge_maxTu {ts : TA} {p pos : Pos} {ms : SE (List D)} (hc : X.calm = true) (hm : X.mg "max" = none) (ha : GAO K mg r X O E [e] ts ms) (hg : Gl X "max" := by rfl) (he : starEach [e] X.env = (false, eval e X.env) :: starEach [] X.env := by rfl) (hpl : (backTo pos (starEach [] X.env)).any (·.1) = false := by rfl) (hK : X.K = K := by rfl) : GE K mg r X O E (.Call (.Name "max" p) [e] [] pos) (tCB (rMaxTu K) ts) (callB maxTD ms) := by
  subst hK; exact ge_callB (R := rMaxTu X.K) (cr_maxTu hc) cs_maxTu hm ha hg (by decide +kernel) (by decide) (by decide) he hpl
end
end G
set_option maxHeartbeats 1000000
namespace ZpL
open PySem PySem.Spec PyProof.Rows L2
abbrev hpA (g : Heap) (a : Addr) : Heap := g.push { cls := .type "list_iterator", data := .fields #[.ref a, .int 0 0] }
abbrev hpB (g : Heap) (a b : Addr) : Heap := (hpA g a).push { cls := .type "list_iterator", data := .fields #[.ref b, .int 0 0] }
abbrev hpC (g : Heap) (a b : Addr) : Heap := (hpB g a b).push { cls := .type "tuple", data := .seq #[.ref g.objs.size, .ref (hpA g a).objs.size] }
abbrev hpD (g : Heap) (a b : Addr) : Heap := (hpC g a b).push { cls := .type "tuple", data := .seq #[.none, .none] }
abbrev hpE (g : Heap) (a b : Addr) : Heap := (hpD g a b).push { cls := .type "zip", data := .fields #[.none, .bool false, .bool false, .ref (hpB g a b).objs.size, .ref (hpC g a b).objs.size] }
theorem meets_zm (a b : Addr) (us ws : Array Value) : Meets (Builtin.«zip.__new__» ⟨[.type "zip", .ref a, .ref b], []⟩) (fun _ R s => s.heap.IsList a us ∧ s.heap.IsList b ws ∧ R (.ok (.ret (.ref (hpD s.heap a b).objs.size))) { s with heap := hpE s.heap a b }) :=
  .of_wp fun prog w A R s k => by
    obtain ⟨g0, gs, ds, t0, o0⟩ := s
    obtain ⟨k1, k2, k3⟩ := k
    have hsub := sub_zip
    have m1 : Heap.IsList (Shared.heap ⟨g0, gs, ds, t0, o0⟩) a us := k1
    have m2 : Heap.IsList (Shared.heap ⟨hpA g0 a, gs, ds, t0, o0⟩) b ws := Heap.IsList.push k2 _
    wp_walk using wpAny_pyIter_list m1, wpAny_pyIter_list m2
    exact ⟨_, rfl, k3⟩
section
variable {prog : Program} {w : World} {A : Around} {E : Value → Shared → Prop} {s : Shared}
theorem call_zm {a b : Addr} {us ws : Array Value} {Q : Value → Shared → Prop} (k1 : s.heap.IsList a us) (k2 : s.heap.IsList b ws)
    (k : ∀ g', IsZip g' (s.heap.objs.size + 4) (s.heap.objs.size + 2) (s.heap.objs.size + 3) .none → IsTupOf2 g' (s.heap.objs.size + 2) (.ref s.heap.objs.size) (.ref (s.heap.objs.size + 1)) → IsTupOf2 g' (s.heap.objs.size + 3) .none .none →
      g'.IsListIter s.heap.objs.size a 0 → g'.IsListIter (s.heap.objs.size + 1) b 0 → (∀ c u, s.heap.get? c = some u → g'.get? c = some u) → Q (.ref (s.heap.objs.size + 4)) { s with heap := g' }) :
    wpAny (model prog w) A (call (.type "zip") [.ref a, .ref b]) Q E s := by
  refine callType_new F.called_zip (by decide) (F.typeCall_zip_2 _ _) (F.newCall_zip_2 _ _) (fun obj => F.args_object_init_3 obj _ _) F.entry_zip_new (meets_zm a b us ws) ⟨k1, k2, ?_⟩
  have n1 : (hpA s.heap a).objs.size = s.heap.objs.size + 1 := Heap.size_push ..
  have n2 : (hpB s.heap a b).objs.size = s.heap.objs.size + 2 := by rw [Heap.size_push, n1]
  have n3 : (hpC s.heap a b).objs.size = s.heap.objs.size + 3 := by rw [Heap.size_push, n2]
  have n4 : (hpD s.heap a b).objs.size = s.heap.objs.size + 4 := by rw [Heap.size_push, n3]
  have at0 : (hpE s.heap a b).get? s.heap.objs.size = some _ := Heap.get?_push_of_some _ (Heap.get?_push_of_some _ (Heap.get?_push_of_some _ (Heap.get?_push_of_some _ (Heap.get?_push_size _ rfl))))
  have at1 : (hpE s.heap a b).get? (hpA s.heap a).objs.size = some _ := Heap.get?_push_of_some _ (Heap.get?_push_of_some _ (Heap.get?_push_of_some _ (Heap.get?_push_size _ rfl)))
  have at2 : (hpE s.heap a b).get? (hpB s.heap a b).objs.size = some _ := Heap.get?_push_of_some _ (Heap.get?_push_of_some _ (Heap.get?_push_size _ rfl))
  have at3 : (hpE s.heap a b).get? (hpC s.heap a b).objs.size = some _ := Heap.get?_push_of_some _ (Heap.get?_push_size _ rfl)
  have at4 : (hpE s.heap a b).get? (hpD s.heap a b).objs.size = some _ := Heap.get?_push_size _ rfl
  show _ ∧ _
  rw [n1] at at1
  rw [n1, n2] at at2
  rw [n3] at at3
  rw [n2, n3, n4] at at4
  rw [n4]
  exact ⟨⟨_, at4, rfl⟩, k _ at4 at2 at3 ⟨_, at0, rfl, rfl⟩ ⟨_, at1, rfl, rfl⟩ fun c u e => Heap.get?_push_of_some _ (Heap.get?_push_of_some _ (Heap.get?_push_of_some _ (Heap.get?_push_of_some _ (Heap.get?_push_of_some _ e))))⟩
end
/-- the turns: as many as the shorter one has -/
def ItLL (K : PySem.W.Frag) (a b : Addr) (xs ys : List V) : It :=
  ⟨fun i H => i < xs.length ∧ i < ys.length ∧ SqL K H a xs ∧ SqL K H b ys, fun i H v H' => ∃ T x y, v = .ref T ∧ H T = none ∧ H' = upd H T (.tup [x, y]) ∧ xs[i]? = some x ∧ ys[i]? = some y,
    fun i H => i ≤ xs.length ∧ i ≤ ys.length ∧ (i = xs.length ∨ i = ys.length) ∧ SqL K H a xs ∧ SqL K H b ys⟩
theorem five {z TI TO p1 p2 c : Addr} (h : c ∈ [z, TI, TO, p1, p2]) : c = z ∨ c = TI ∨ c = TO ∨ c = p1 ∨ c = p2 := by simpa using h
theorem sep_of {z TI TO p1 p2 a b : Addr} (D : ZipApart z TI TO p1 p2 a b) : ZipSep2 z TI TO p1 p2 [p1, a] [p2, b] where
  TIz := D.TIz
  TOz := D.TOz
  TITO := D.TITO
  TIi1 := D.TIi1
  mem1 := by simp
  zf1 := by simp [D.i1z.symm, D.l1z.symm]
  Tf1 := by simp [D.TOi1, D.l1TO.symm]
  TIi2 := D.TIi2
  mem2 := by simp
  zf2 := by simp [D.i2z.symm, D.l2z.symm]
  Tf2 := by simp [D.TOi2, D.l2TO.symm]
  sep1_2 := by simp [D.i12, D.l2i1.symm]
  sep2_1 := by simp [D.i12.symm, D.l1i2.symm]
theorem turn_zm {P : Program} {w : World} {K : PySem.W.Frag} {elts : List Expr} {kk : Nat} {tpos : Pos} {a b z TI TO p1 p2 : Addr} {xs ys : List V} (D : ZipApart z TI TO p1 p2 a b) :
    Turn P w K (.Tuple elts kk tpos) (ItLL K a b xs ys) [z, TI, TO, p1, p2] z (fun i g => IsZip g z TI TO .none ∧ IsTupOf2 g TI (.ref p1) (.ref p2) ∧ (∃ x y, IsTupOf2 g TO x y) ∧ g.IsListIter p1 a i ∧ g.IsListIter p2 b i) where
  mem := by simp
  obj := fun i g t c hc => by
    obtain ⟨e0, e1, ⟨x, y, e2⟩, ⟨o1, e3, _, d3⟩, ⟨o2, e4, _, d4⟩⟩ := t
    rcases five hc with q | q | q | q | q <;> subst q
    · exact ⟨_, e0, fun v q => nomatch q⟩
    · exact ⟨_, e1, fun v q => nomatch q⟩
    · exact ⟨_, e2, fun v q => nomatch q⟩
    · exact ⟨o1, e3, fun v q => by rw [d3] at q; cases q⟩
    · exact ⟨o2, e4, fun v q => by rw [d4] at q; cases q⟩
  keep := fun i g g' t k => by
    obtain ⟨e0, e1, ⟨x, y, e2⟩, e3, e4⟩ := t
    exact ⟨k z (by simp) _ e0, k TI (by simp) _ e1, ⟨x, y, k TO (by simp) _ e2⟩, e3.at fun o q => k p1 (by simp) o q, e4.at fun o q => k p2 (by simp) o q⟩
  item := by
    intro X hP hw hK hc i pins s σ H E I hf t hg
    subst hP hw hK
    obtain ⟨e0, e1, ⟨x0, y0, e2⟩, e3, e4⟩ := t
    obtain ⟨lx, ly, qx, qy⟩ := hg
    obtain ⟨its, rv, p, _⟩ := I.list qx
    obtain ⟨jts, rw2, p2', _⟩ := I.list qy
    have nx := rv.length
    have ny := rw2.length
    have zlt : z < s.heap.objs.size := Heap.lt_size e0
    refine wpAny_pyNext_zipD2_item (sep_of D) (Draws.list (A := X.A.in1) (I.ok.hd hc) p1 a D.l1i1 its.toArray) (Draws.list (A := X.A.in1) (I.ok.hd hc) p2 b D.l2i2 jts.toArray) e0 e1 e2 ⟨e3, p.isList⟩ ⟨e4, p2'.isList⟩ (by simp; omega) (by simp; omega) fun u1 u2 g1 tk v1 v2 z1 o1 d1 d2 hT hsz hk => ?_
    obtain ⟨x, hx⟩ : ∃ x, xs[i]? = some x := ⟨xs[i], List.getElem?_eq_getElem lx⟩
    obtain ⟨y, hy⟩ : ∃ y, ys[i]? = some y := ⟨ys[i], List.getElem?_eq_getElem ly⟩
    obtain ⟨u, hu, ru⟩ := rv.get hx
    obtain ⟨u', hu', ru'⟩ := rw2.get hy
    have f1 : u1 = u := by
      have : its[i]? = some u1 := by simpa using v1
      rw [hu] at this
      exact (Option.some.inj this).symm
    have f2 : u2 = u' := by
      have : jts[i]? = some u2 := by simpa using v2
      rw [hu'] at this
      exact (Option.some.inj this).symm
    subst f1 f2
    refine ⟨_, rfl, wpAny_letOwnedTupleGo_zip (s := { s with heap := g1, toks := tk }) z1 fun g2 z2 sb => ?_⟩
    have hT2 : g2.get? s.heap.objs.size = some { cls := .type "tuple", data := .seq #[u1, u2] } := (sb.2 _ (Nat.ne_of_gt zlt)).trans hT
    have new : ObjOk X.prog X.w (upd H s.heap.objs.size (.tup [x, y])) g2 s.heap.objs.size (.tup [x, y]) := ⟨by show 2 ≤ sizeLine; decide, [u1, u2], .cons ru (.cons ru' .nil), ⟨_, hT2, rfl, _, rfl⟩⟩
    have I1 : Inv X pins σ (upd H s.heap.objs.size (.tup [x, y])) { s with heap := g2, toks := tk } :=
      I.turnedNew (ch := [z, TI, TO, p1, p2]) (fun c o hb q => (sb.2 c (fun y => hb (by simp [y]))).trans (hk c o (fun y => hb (by simp [y])) (fun y => hb (by simp [y])) (fun y => hb (by simp [y])) (fun y => hb (by simp [y])) q)) hf (Nat.le_refl _) new
    refine ⟨.ref s.heap.objs.size, _, I1, rfl, ⟨_, x, y, rfl, I.hok.fresh (Nat.le_refl _), rfl, hx, hy⟩, ⟨z2, ?_, ⟨u1, u2, ?_⟩, ?_, ?_⟩, fun c hcm => ?_⟩
    · exact (sb.2 _ D.TIz).trans (hk _ _ D.TIz D.TITO D.TIi1 D.TIi2 e1)
    · exact (sb.2 _ D.TOz).trans o1
    · exact d1.1.at fun o q => (sb.2 _ D.i1z).trans q
    · exact d2.1.at fun o q => (sb.2 _ D.i2z).trans q
    · have hlt : c < s.heap.objs.size := by
        obtain ⟨_, e3', _⟩ := e3
        obtain ⟨_, e4', _⟩ := e4
        rcases five hcm with q | q | q | q | q <;> subst q
        · exact zlt
        · exact Heap.lt_size e1
        · exact Heap.lt_size e2
        · exact Heap.lt_size e3'
        · exact Heap.lt_size e4'
      rw [upd_ne (show c ≠ s.heap.objs.size from Nat.ne_of_lt hlt)]
      exact (hf c hcm).1
  done := by
    intro X hP hw hK hc i pins s σ H E I hf t hg
    subst hP hw hK
    obtain ⟨e0, e1, ⟨x0, y0, e2⟩, e3, e4⟩ := t
    obtain ⟨lx, ly, hend, qx, qy⟩ := hg
    obtain ⟨its, rv, p, _⟩ := I.list qx
    obtain ⟨jts, rw2, p2', _⟩ := I.list qy
    have nx := rv.length
    have ny := rw2.length
    refine wpAny_pyNext_zipD2_end (sep_of D) (Draws.list (A := X.A.in1) (I.ok.hd hc) p1 a D.l1i1 its.toArray) (Draws.list (A := X.A.in1) (I.ok.hd hc) p2 b D.l2i2 jts.toArray) e0 e1 e2 ⟨e3, p.isList⟩ ⟨e4, p2'.isList⟩ (by simp; omega) (by simp; omega) (by simp; omega) fun g1 tk hk => ⟨rfl, ?_⟩
    exact I.turnedL (ch := [z, TI, TO, p1, p2]) (fun c o hb q => hk c o (fun y => hb (by simp [y])) (fun y => hb (by simp [y])) (fun y => hb (by simp [y])) (fun y => hb (by simp [y])) q) hf
  self := fun A i s Q E t k => wpAny_pyIter_zip t.1 k
def iZipLL (K : PySem.W.Frag) (ta : TA) : TI := fun σ H R => ta σ H fun vs H1 => ∃ a b xs ys, vs = [.ref a, .ref b] ∧ SqL K H1 a xs ∧ SqL K H1 b ys ∧ R (ItLL K a b xs ys) H1
theorem pi_zipLL {X : Cx} {e e2 : Expr} {ta : TA} {p pos tpos : Pos} {elts : List Expr} {kk : Nat} (gz : Gl X "zip") (mz : X.mg "zip" = none) (ha : PA X [e, e2] ta) (hs : starEach [e, e2] X.env = (false, eval e X.env) :: starEach [e2] X.env := by rfl) (hpl : (backTo pos (starEach [e2] X.env)).any (·.1) = false := by rfl) :
    PI X (.Tuple elts kk tpos) (.Call (.Name "zip" p) [e, e2] [] pos) (iZipLL X.K ta) := by
  refine ⟨fun pins s σ H R I k => ?_⟩
  refine Call_ (ld_blt I gz mz PyProof.Rows.boot_zip (PyProof.Rows.callWith_type1 (thn (ha.run pos pins s σ H _ I k) fun ws s1 ⟨vs, H1, I1, r1, q1⟩ => ?_) hs hpl))
  obtain ⟨a, b, xs, ys, ex, qx, qy, q⟩ := q1
  subst ex
  cases r1 with
  | cons r0 rr =>
    cases rr with
    | cons r0' rr =>
      cases rr
      cases r0
      cases r0'
      obtain ⟨its, rv, p1, _⟩ := I1.list qx
      obtain ⟨jts, rw2, p2, _⟩ := I1.list qy
      have far : ∀ c, c ∈ [s1.heap.objs.size + 4, s1.heap.objs.size + 2, s1.heap.objs.size + 3, s1.heap.objs.size, s1.heap.objs.size + 1] → FpOk X pins H1 c := fun c hcm => by
        have hle : s1.heap.objs.size ≤ c := by
          rcases five hcm with z | z | z | z | z
          · rw [z]; exact Nat.le_add_right _ _
          · rw [z]; exact Nat.le_add_right _ _
          · rw [z]; exact Nat.le_add_right _ _
          · rw [z]; exact Nat.le_refl _
          · rw [z]; exact Nat.le_add_right _ _
        exact I1.fpOk hle (I1.hok.fresh hle)
      refine call_zm p1.isList p2.isList fun g' hz hTI hTO h1 h2 hk => wpAny_pyIter_zip hz ?_
      have I2 : Inv X pins σ H1 { s1 with heap := g' } := I1.kept (t' := s1.toks) hk
      exact ⟨s1.heap.objs.size + 4, [s1.heap.objs.size + 4, s1.heap.objs.size + 2, s1.heap.objs.size + 3, s1.heap.objs.size, s1.heap.objs.size + 1], _, _, H1, rfl, I2, turn_zm (PySem.W.ktu_apart s1.heap.objs.size a b p1.lt p2.lt), ⟨hz, hTI, ⟨_, _, hTO⟩, h1, h2⟩, far, q⟩
end ZpL
namespace G
open PySem PySem.Spec PyProof.Rows L2 ZpL
def zipLLD : List D → Option (List D)
  | [.lst xs, .lst ys] => some (zipL xs ys)
  | _ => none
section
variable {K : PySem.W.Frag} {mg : Str → Option Value} {r : Addr} {X : Cx} {E : XK} {O : List Nat} {e e2 a b c : Expr} {pos : Pos} {t ta tb tc : TE} {ts : TA} {ma mb mc : SE D}
theorem gi_zipLL {p tpos : Pos} {pos : Pos} {elts : List Expr} {kk : Nat} {m : SE (List D)} (hm : X.mg "zip" = none) (h : GA K mg r X O E [e, e2] ts m) (hg : Gl X "zip" := by rfl) (hs : starEach [e, e2] X.env = (false, eval e X.env) :: starEach [e2] X.env := by rfl) (hpl : (backTo pos (starEach [e2] X.env)).any (·.1) = false := by rfl) (hK : X.K = K := by rfl) :
    GI K mg r X O E (.Tuple elts kk tpos) (.Call (.Name "zip" p) [e, e2] [] pos) (iZipLL K ts) (rangeI zipLLD m) := by
  subst hK
  refine ⟨pi_zipLL hg hm h.pe hs hpl, fun Hs0 H0 Hs H σ env tp Q R P => ?_⟩
  refine h.snd _ _ _ _ _ _ _ _ R (Post.bind P fun vs Hs1 H1 ds tp1 _ g w rv P1 => ?_)
  obtain ⟨items, hz, k⟩ := Post.ok_of P1
  match ds, hz, rv with
  | [.lst xs, .lst ys], hz, .cons (.lst q1 q2) (.cons (.lst q3 q4) .nil) =>
    cases hz
    rename_i a b vs us _
    refine ⟨a, b, vs, us, rfl, .of (w.sub _ _ q1).lst, .of (w.sub _ _ q3).lst, k _ Hs1 H1 (Grow.refl _ _) w ?_⟩
    refine ⟨fun H => SqL X.K H a vs ∧ SqL X.K H b us, fun i H v H' => ∃ T x y, v = .ref T ∧ H T = none ∧ H' = upd H T (.tup [x, y]) ∧ vs[i]? = some x ∧ us[i]? = some y, ?_, fun Hs H e1 e2 => ⟨.of (((e1.trans e2) _ _ q1).lst), .of (((e1.trans e2) _ _ q3).lst)⟩, fun i Hs H tp v H' hi e w y => ?_⟩
    · rw [zipL_len, ← q2.length, ← q4.length]
      refine ⟨fun i H hi q => ?_, fun H q => ?_, fun i H x H' hi q y => y⟩
      · exact ⟨by omega, by omega, q.1, q.2⟩
      · exact ⟨by omega, by omega, by omega, q.1, q.2⟩
    · obtain ⟨T, x, z, rfl, hT, rfl, h4, h5⟩ := y
      obtain ⟨d, h6, h7⟩ := q2.get h4
      obtain ⟨d', h8, h9⟩ := q4.get h5
      obtain ⟨g', w'⟩ := w.alloc (o := .tup [x, z]) hT
      exact ⟨_, _, g', w', zipL_get h6 h8, .tup upd_same (.cons ((h7.mono e).mono g'.ex) (.cons ((h9.mono e).mono g'.ex) .nil))⟩
end
end G
set_option maxHeartbeats 1000000
namespace ZpT
open PySem PySem.Spec PyProof.Rows L2
abbrev hpA (g : Heap) (a : Addr) : Heap := g.push { cls := .type "tuple_iterator", data := .fields #[.ref a, .int 0 0] }
abbrev hpB (g : Heap) (a b : Addr) : Heap := (hpA g a).push { cls := .type "list_iterator", data := .fields #[.ref b, .int 0 0] }
abbrev hpC (g : Heap) (a b : Addr) : Heap := (hpB g a b).push { cls := .type "tuple", data := .seq #[.ref g.objs.size, .ref (hpA g a).objs.size] }
abbrev hpD (g : Heap) (a b : Addr) : Heap := (hpC g a b).push { cls := .type "tuple", data := .seq #[.none, .none] }
abbrev hpE (g : Heap) (a b : Addr) : Heap := (hpD g a b).push { cls := .type "zip", data := .fields #[.none, .bool false, .bool false, .ref (hpB g a b).objs.size, .ref (hpC g a b).objs.size] }
theorem meets_zm (a b : Addr) (us ws : Array Value) : Meets (Builtin.«zip.__new__» ⟨[.type "zip", .ref a, .ref b], []⟩) (fun _ R s => s.heap.IsTuple a us ∧ s.heap.IsList b ws ∧ R (.ok (.ret (.ref (hpD s.heap a b).objs.size))) { s with heap := hpE s.heap a b }) :=
  .of_wp fun prog w A R s k => by
    obtain ⟨g0, gs, ds, t0, o0⟩ := s
    obtain ⟨k1, k2, k3⟩ := k
    have hsub := sub_zip
    have m1 : Heap.IsTuple (Shared.heap ⟨g0, gs, ds, t0, o0⟩) a us := k1
    have m2 : Heap.IsList (Shared.heap ⟨hpA g0 a, gs, ds, t0, o0⟩) b ws := Heap.IsList.push k2 _
    wp_walk using wpAny_pyIter_tuple m1, wpAny_pyIter_list m2
    exact ⟨_, rfl, k3⟩
section
variable {prog : Program} {w : World} {A : Around} {E : Value → Shared → Prop} {s : Shared}
theorem call_zm {a b : Addr} {us ws : Array Value} {Q : Value → Shared → Prop} (k1 : s.heap.IsTuple a us) (k2 : s.heap.IsList b ws)
    (k : ∀ g', IsZip g' (s.heap.objs.size + 4) (s.heap.objs.size + 2) (s.heap.objs.size + 3) .none → IsTupOf2 g' (s.heap.objs.size + 2) (.ref s.heap.objs.size) (.ref (s.heap.objs.size + 1)) → IsTupOf2 g' (s.heap.objs.size + 3) .none .none →
      g'.IsTupleIter s.heap.objs.size a 0 → g'.IsListIter (s.heap.objs.size + 1) b 0 → (∀ c u, s.heap.get? c = some u → g'.get? c = some u) → Q (.ref (s.heap.objs.size + 4)) { s with heap := g' }) :
    wpAny (model prog w) A (call (.type "zip") [.ref a, .ref b]) Q E s := by
  refine callType_new F.called_zip (by decide) (F.typeCall_zip_2 _ _) (F.newCall_zip_2 _ _) (fun obj => F.args_object_init_3 obj _ _) F.entry_zip_new (meets_zm a b us ws) ⟨k1, k2, ?_⟩
  have n1 : (hpA s.heap a).objs.size = s.heap.objs.size + 1 := Heap.size_push ..
  have n2 : (hpB s.heap a b).objs.size = s.heap.objs.size + 2 := by rw [Heap.size_push, n1]
  have n3 : (hpC s.heap a b).objs.size = s.heap.objs.size + 3 := by rw [Heap.size_push, n2]
  have n4 : (hpD s.heap a b).objs.size = s.heap.objs.size + 4 := by rw [Heap.size_push, n3]
  have at0 : (hpE s.heap a b).get? s.heap.objs.size = some _ := Heap.get?_push_of_some _ (Heap.get?_push_of_some _ (Heap.get?_push_of_some _ (Heap.get?_push_of_some _ (Heap.get?_push_size _ rfl))))
  have at1 : (hpE s.heap a b).get? (hpA s.heap a).objs.size = some _ := Heap.get?_push_of_some _ (Heap.get?_push_of_some _ (Heap.get?_push_of_some _ (Heap.get?_push_size _ rfl)))
  have at2 : (hpE s.heap a b).get? (hpB s.heap a b).objs.size = some _ := Heap.get?_push_of_some _ (Heap.get?_push_of_some _ (Heap.get?_push_size _ rfl))
  have at3 : (hpE s.heap a b).get? (hpC s.heap a b).objs.size = some _ := Heap.get?_push_of_some _ (Heap.get?_push_size _ rfl)
  have at4 : (hpE s.heap a b).get? (hpD s.heap a b).objs.size = some _ := Heap.get?_push_size _ rfl
  show _ ∧ _
  rw [n1] at at1
  rw [n1, n2] at at2
  rw [n3] at at3
  rw [n2, n3, n4] at at4
  rw [n4]
  exact ⟨⟨_, at4, rfl⟩, k _ at4 at2 at3 ⟨_, at0, rfl, rfl⟩ ⟨_, at1, rfl, rfl⟩ fun c u e => Heap.get?_push_of_some _ (Heap.get?_push_of_some _ (Heap.get?_push_of_some _ (Heap.get?_push_of_some _ (Heap.get?_push_of_some _ e))))⟩
end
/-- the turns: as many as the shorter one has -/
def ItTL (K : PySem.W.Frag) (a b : Addr) (xs ys : List V) : It :=
  ⟨fun i H => i < xs.length ∧ i < ys.length ∧ SqT K H a xs ∧ SqL K H b ys, fun i H v H' => ∃ T x y, v = .ref T ∧ H T = none ∧ H' = upd H T (.tup [x, y]) ∧ xs[i]? = some x ∧ ys[i]? = some y,
    fun i H => i ≤ xs.length ∧ i ≤ ys.length ∧ (i = xs.length ∨ i = ys.length) ∧ SqT K H a xs ∧ SqL K H b ys⟩
theorem five {z TI TO p1 p2 c : Addr} (h : c ∈ [z, TI, TO, p1, p2]) : c = z ∨ c = TI ∨ c = TO ∨ c = p1 ∨ c = p2 := by simpa using h
theorem sep_of {z TI TO p1 p2 a b : Addr} (D : ZipApart z TI TO p1 p2 a b) : ZipSep2 z TI TO p1 p2 [p1, a] [p2, b] where
  TIz := D.TIz
  TOz := D.TOz
  TITO := D.TITO
  TIi1 := D.TIi1
  mem1 := by simp
  zf1 := by simp [D.i1z.symm, D.l1z.symm]
  Tf1 := by simp [D.TOi1, D.l1TO.symm]
  TIi2 := D.TIi2
  mem2 := by simp
  zf2 := by simp [D.i2z.symm, D.l2z.symm]
  Tf2 := by simp [D.TOi2, D.l2TO.symm]
  sep1_2 := by simp [D.i12, D.l2i1.symm]
  sep2_1 := by simp [D.i12.symm, D.l1i2.symm]
theorem turn_zm {P : Program} {w : World} {K : PySem.W.Frag} {elts : List Expr} {kk : Nat} {tpos : Pos} {a b z TI TO p1 p2 : Addr} {xs ys : List V} (D : ZipApart z TI TO p1 p2 a b) :
    Turn P w K (.Tuple elts kk tpos) (ItTL K a b xs ys) [z, TI, TO, p1, p2] z (fun i g => IsZip g z TI TO .none ∧ IsTupOf2 g TI (.ref p1) (.ref p2) ∧ (∃ x y, IsTupOf2 g TO x y) ∧ g.IsTupleIter p1 a i ∧ g.IsListIter p2 b i) where
  mem := by simp
  obj := fun i g t c hc => by
    obtain ⟨e0, e1, ⟨x, y, e2⟩, ⟨o1, e3, _, d3⟩, ⟨o2, e4, _, d4⟩⟩ := t
    rcases five hc with q | q | q | q | q <;> subst q
    · exact ⟨_, e0, fun v q => nomatch q⟩
    · exact ⟨_, e1, fun v q => nomatch q⟩
    · exact ⟨_, e2, fun v q => nomatch q⟩
    · exact ⟨o1, e3, fun v q => by rw [d3] at q; cases q⟩
    · exact ⟨o2, e4, fun v q => by rw [d4] at q; cases q⟩
  keep := fun i g g' t k => by
    obtain ⟨e0, e1, ⟨x, y, e2⟩, e3, e4⟩ := t
    exact ⟨k z (by simp) _ e0, k TI (by simp) _ e1, ⟨x, y, k TO (by simp) _ e2⟩, e3.at fun o q => k p1 (by simp) o q, e4.at fun o q => k p2 (by simp) o q⟩
  item := by
    intro X hP hw hK hc i pins s σ H E I hf t hg
    subst hP hw hK
    obtain ⟨e0, e1, ⟨x0, y0, e2⟩, e3, e4⟩ := t
    obtain ⟨lx, ly, qx, qy⟩ := hg
    obtain ⟨its, rv, p, _⟩ := I.tuple qx
    obtain ⟨jts, rw2, p2', _⟩ := I.list qy
    have nx := rv.length
    have ny := rw2.length
    have zlt : z < s.heap.objs.size := Heap.lt_size e0
    refine wpAny_pyNext_zipD2_item (sep_of D) (Draws.tuple (A := X.A.in1) (I.ok.hd hc) p1 a D.l1i1 its.toArray) (Draws.list (A := X.A.in1) (I.ok.hd hc) p2 b D.l2i2 jts.toArray) e0 e1 e2 ⟨e3, p⟩ ⟨e4, p2'.isList⟩ (by simp; omega) (by simp; omega) fun u1 u2 g1 tk v1 v2 z1 o1 d1 d2 hT hsz hk => ?_
    obtain ⟨x, hx⟩ : ∃ x, xs[i]? = some x := ⟨xs[i], List.getElem?_eq_getElem lx⟩
    obtain ⟨y, hy⟩ : ∃ y, ys[i]? = some y := ⟨ys[i], List.getElem?_eq_getElem ly⟩
    obtain ⟨u, hu, ru⟩ := rv.get hx
    obtain ⟨u', hu', ru'⟩ := rw2.get hy
    have f1 : u1 = u := by
      have : its[i]? = some u1 := by simpa using v1
      rw [hu] at this
      exact (Option.some.inj this).symm
    have f2 : u2 = u' := by
      have : jts[i]? = some u2 := by simpa using v2
      rw [hu'] at this
      exact (Option.some.inj this).symm
    subst f1 f2
    refine ⟨_, rfl, wpAny_letOwnedTupleGo_zip (s := { s with heap := g1, toks := tk }) z1 fun g2 z2 sb => ?_⟩
    have hT2 : g2.get? s.heap.objs.size = some { cls := .type "tuple", data := .seq #[u1, u2] } := (sb.2 _ (Nat.ne_of_gt zlt)).trans hT
    have new : ObjOk X.prog X.w (upd H s.heap.objs.size (.tup [x, y])) g2 s.heap.objs.size (.tup [x, y]) := ⟨by show 2 ≤ sizeLine; decide, [u1, u2], .cons ru (.cons ru' .nil), ⟨_, hT2, rfl, _, rfl⟩⟩
    have I1 : Inv X pins σ (upd H s.heap.objs.size (.tup [x, y])) { s with heap := g2, toks := tk } :=
      I.turnedNew (ch := [z, TI, TO, p1, p2]) (fun c o hb q => (sb.2 c (fun y => hb (by simp [y]))).trans (hk c o (fun y => hb (by simp [y])) (fun y => hb (by simp [y])) (fun y => hb (by simp [y])) (fun y => hb (by simp [y])) q)) hf (Nat.le_refl _) new
    refine ⟨.ref s.heap.objs.size, _, I1, rfl, ⟨_, x, y, rfl, I.hok.fresh (Nat.le_refl _), rfl, hx, hy⟩, ⟨z2, ?_, ⟨u1, u2, ?_⟩, ?_, ?_⟩, fun c hcm => ?_⟩
    · exact (sb.2 _ D.TIz).trans (hk _ _ D.TIz D.TITO D.TIi1 D.TIi2 e1)
    · exact (sb.2 _ D.TOz).trans o1
    · exact d1.1.at fun o q => (sb.2 _ D.i1z).trans q
    · exact d2.1.at fun o q => (sb.2 _ D.i2z).trans q
    · have hlt : c < s.heap.objs.size := by
        obtain ⟨_, e3', _⟩ := e3
        obtain ⟨_, e4', _⟩ := e4
        rcases five hcm with q | q | q | q | q <;> subst q
        · exact zlt
        · exact Heap.lt_size e1
        · exact Heap.lt_size e2
        · exact Heap.lt_size e3'
        · exact Heap.lt_size e4'
      rw [upd_ne (show c ≠ s.heap.objs.size from Nat.ne_of_lt hlt)]
      exact (hf c hcm).1
  done := by
    intro X hP hw hK hc i pins s σ H E I hf t hg
    subst hP hw hK
    obtain ⟨e0, e1, ⟨x0, y0, e2⟩, e3, e4⟩ := t
    obtain ⟨lx, ly, hend, qx, qy⟩ := hg
    obtain ⟨its, rv, p, _⟩ := I.tuple qx
    obtain ⟨jts, rw2, p2', _⟩ := I.list qy
    have nx := rv.length
    have ny := rw2.length
    refine wpAny_pyNext_zipD2_end (sep_of D) (Draws.tuple (A := X.A.in1) (I.ok.hd hc) p1 a D.l1i1 its.toArray) (Draws.list (A := X.A.in1) (I.ok.hd hc) p2 b D.l2i2 jts.toArray) e0 e1 e2 ⟨e3, p⟩ ⟨e4, p2'.isList⟩ (by simp; omega) (by simp; omega) (by simp; omega) fun g1 tk hk => ⟨rfl, ?_⟩
    exact I.turnedL (ch := [z, TI, TO, p1, p2]) (fun c o hb q => hk c o (fun y => hb (by simp [y])) (fun y => hb (by simp [y])) (fun y => hb (by simp [y])) (fun y => hb (by simp [y])) q) hf
  self := fun A i s Q E t k => wpAny_pyIter_zip t.1 k
def iZipTL (K : PySem.W.Frag) (ta : TA) : TI := fun σ H R => ta σ H fun vs H1 => ∃ a b xs ys, vs = [.ref a, .ref b] ∧ SqT K H1 a xs ∧ SqL K H1 b ys ∧ R (ItTL K a b xs ys) H1
theorem pi_zipTL {X : Cx} {e e2 : Expr} {ta : TA} {p pos tpos : Pos} {elts : List Expr} {kk : Nat} (gz : Gl X "zip") (mz : X.mg "zip" = none) (ha : PA X [e, e2] ta) (hs : starEach [e, e2] X.env = (false, eval e X.env) :: starEach [e2] X.env := by rfl) (hpl : (backTo pos (starEach [e2] X.env)).any (·.1) = false := by rfl) :
    PI X (.Tuple elts kk tpos) (.Call (.Name "zip" p) [e, e2] [] pos) (iZipTL X.K ta) := by
  refine ⟨fun pins s σ H R I k => ?_⟩
  refine Call_ (ld_blt I gz mz PyProof.Rows.boot_zip (PyProof.Rows.callWith_type1 (thn (ha.run pos pins s σ H _ I k) fun ws s1 ⟨vs, H1, I1, r1, q1⟩ => ?_) hs hpl))
  obtain ⟨a, b, xs, ys, ex, qx, qy, q⟩ := q1
  subst ex
  cases r1 with
  | cons r0 rr =>
    cases rr with
    | cons r0' rr =>
      cases rr
      cases r0
      cases r0'
      obtain ⟨its, rv, p1, _⟩ := I1.tuple qx
      obtain ⟨jts, rw2, p2, _⟩ := I1.list qy
      have far : ∀ c, c ∈ [s1.heap.objs.size + 4, s1.heap.objs.size + 2, s1.heap.objs.size + 3, s1.heap.objs.size, s1.heap.objs.size + 1] → FpOk X pins H1 c := fun c hcm => by
        have hle : s1.heap.objs.size ≤ c := by
          rcases five hcm with z | z | z | z | z
          · rw [z]; exact Nat.le_add_right _ _
          · rw [z]; exact Nat.le_add_right _ _
          · rw [z]; exact Nat.le_add_right _ _
          · rw [z]; exact Nat.le_refl _
          · rw [z]; exact Nat.le_add_right _ _
        exact I1.fpOk hle (I1.hok.fresh hle)
      obtain ⟨o1, ho1, _⟩ := id p1
      refine call_zm (show s1.heap.IsTuple a its.toArray from p1) p2.isList fun g' hz hTI hTO h1 h2 hk => wpAny_pyIter_zip hz ?_
      have I2 : Inv X pins σ H1 { s1 with heap := g' } := I1.kept (t' := s1.toks) hk
      exact ⟨s1.heap.objs.size + 4, [s1.heap.objs.size + 4, s1.heap.objs.size + 2, s1.heap.objs.size + 3, s1.heap.objs.size, s1.heap.objs.size + 1], _, _, H1, rfl, I2, turn_zm (PySem.W.ktu_apart s1.heap.objs.size a b (Heap.lt_size ho1) p2.lt), ⟨hz, hTI, ⟨_, _, hTO⟩, h1, h2⟩, far, q⟩
end ZpT
namespace G
open PySem PySem.Spec PyProof.Rows L2 ZpT
def zipTLD : List D → Option (List D)
  | [.tup xs, .lst ys] => some (zipL xs ys)
  | _ => none
section
variable {K : PySem.W.Frag} {mg : Str → Option Value} {r : Addr} {X : Cx} {E : XK} {O : List Nat} {e e2 a b c : Expr} {pos : Pos} {t ta tb tc : TE} {ts : TA} {ma mb mc : SE D}
theorem gi_zipTL {p tpos : Pos} {pos : Pos} {elts : List Expr} {kk : Nat} {m : SE (List D)} (hm : X.mg "zip" = none) (h : GA K mg r X O E [e, e2] ts m) (hg : Gl X "zip" := by rfl) (hs : starEach [e, e2] X.env = (false, eval e X.env) :: starEach [e2] X.env := by rfl) (hpl : (backTo pos (starEach [e2] X.env)).any (·.1) = false := by rfl) (hK : X.K = K := by rfl) :
    GI K mg r X O E (.Tuple elts kk tpos) (.Call (.Name "zip" p) [e, e2] [] pos) (iZipTL K ts) (rangeI zipTLD m) := by
  subst hK
  refine ⟨pi_zipTL hg hm h.pe hs hpl, fun Hs0 H0 Hs H σ env tp Q R P => ?_⟩
  refine h.snd _ _ _ _ _ _ _ _ R (Post.bind P fun vs Hs1 H1 ds tp1 _ g w rv P1 => ?_)
  obtain ⟨items, hz, k⟩ := Post.ok_of P1
  match ds, hz, rv with
  | [.tup xs, .lst ys], hz, .cons (.tup q1 q2) (.cons (.lst q3 q4) .nil) =>
    cases hz
    rename_i a b vs us _
    refine ⟨a, b, vs, us, rfl, .of (w.sub _ _ q1).tup, .of (w.sub _ _ q3).lst, k _ Hs1 H1 (Grow.refl _ _) w ?_⟩
    refine ⟨fun H => SqT X.K H a vs ∧ SqL X.K H b us, fun i H v H' => ∃ T x y, v = .ref T ∧ H T = none ∧ H' = upd H T (.tup [x, y]) ∧ vs[i]? = some x ∧ us[i]? = some y, ?_, fun Hs H e1 e2 => ⟨.of (((e1.trans e2) _ _ q1).tup), .of (((e1.trans e2) _ _ q3).lst)⟩, fun i Hs H tp v H' hi e w y => ?_⟩
    · rw [zipL_len, ← q2.length, ← q4.length]
      refine ⟨fun i H hi q => ?_, fun H q => ?_, fun i H x H' hi q y => y⟩
      · exact ⟨by omega, by omega, q.1, q.2⟩
      · exact ⟨by omega, by omega, by omega, q.1, q.2⟩
    · obtain ⟨T, x, z, rfl, hT, rfl, h4, h5⟩ := y
      obtain ⟨d, h6, h7⟩ := q2.get h4
      obtain ⟨d', h8, h9⟩ := q4.get h5
      obtain ⟨g', w'⟩ := w.alloc (o := .tup [x, z]) hT
      exact ⟨_, _, g', w', zipL_get h6 h8, .tup upd_same (.cons ((h7.mono e).mono g'.ex) (.cons ((h9.mono e).mono g'.ex) .nil))⟩
end
end G
set_option maxHeartbeats 1000000
namespace G
open PySem PySem.Spec PyProof.Rows L2
section
variable (K : PySem.W.Frag) (mg : Str → Option Value) (r : Addr) (X : Cx) (O : List Nat) (E : XK)
def PostP (Hs0 H0 Hs : Hp) (σ : L2.St) (res : RE (D × DEnv)) (Q : V → Hp → Prop) : Prop := match res with
  | .ok x tp' => ∀ v Hs' H', Same Hs Hs' → Rel K mg r O Hs0 H0 Hs' H' σ x.2 tp' → RepD K mg r Hs' v x.1 → Q v H'
  | .exn c fs tp' => ∀ cv dx Hs' H', Grow r Hs0 H0 Hs' H' → Wd K mg r Hs' H' tp' → mg c = some cv → ExD K mg r Hs' fs dx → E cv dx H'
  | .stuck => False
end
section
variable {K : PySem.W.Frag} {mg : Str → Option Value} {r : Addr} {X : Cx} {E : XK} {O On Ol : List Nat} {e a b : Expr} {es : List Expr} {ss : List Stmt} {pos : Pos} {t ta tb : TE} {ts : TA} {u : TS}
theorem PostP.of {Hs0 H0 Hs H : Hp} {σ : L2.St} {env : DEnv} {tp : List D} {res : RE D} {k : D → List D → RE (D × DEnv)} {Q : V → Hp → Prop} {Q1 : V → Hp → Prop} (R : Rel K mg r O Hs0 H0 Hs H σ env tp) (h : PostP K mg r O E Hs0 H0 Hs σ (res.bind k) Q)
    (step : ∀ v Hs1 H1 d tp1, Grow r Hs H Hs1 H1 → Wd K mg r Hs1 H1 tp1 → RepD K mg r Hs1 v d → PostP K mg r O E Hs0 H0 Hs1 σ (k d tp1) Q → Q1 v H1) : PostE K mg r E Hs H res Q1 := by
  cases res with
  | ok d tp1 =>
    intro v Hs1 H1 g w q
    refine step v Hs1 H1 d tp1 g w q ?_
    have h : PostP K mg r O E Hs0 H0 Hs σ (k d tp1) Q := h
    cases z : k d tp1 with
    | ok x tp2 => rw [z] at h; exact fun v' Hs' H' e R' rv => h v' Hs' H' (g.ex.trans e) R' rv
    | exn c fs tp2 => rw [z] at h; exact h
    | stuck => rw [z] at h; exact h
  | exn c fs tp1 => exact fun cv dx Hs1 H1 g w m x => h cv dx Hs1 H1 (R.gr.trans g) w m x
  | stuck => exact h
end
end G
set_option maxHeartbeats 1000000
namespace G
open PySem PySem.Spec PyProof.Rows L2
section
variable {r : Addr} {X : Cx} {K : PySem.W.Frag} {mg : Str → Option Value} {O Ol : List Nat} {E : XK} {k val : Expr} {tk tv : TE} {pos : Pos}
theorem RepDs.gotS {Hs : Hp} : ∀ {vs : List V} {ds : List D} {j : Nat} {d : D}, RepDs K mg r Hs vs ds → ds[j]? = some d → ∃ v, vs[j]? = some v ∧ RepD K mg r Hs v d
  | _, _, _, _, .nil, h => by cases h
  | v :: vs, d :: ds, 0, _, .cons a _, h => by cases h; exact ⟨v, rfl, a⟩
  | v :: vs, d :: ds, j + 1, _, .cons _ b, h => RepDs.gotS (j := j) b h
def rGetS (K : PySem.W.Frag) : V → V → Hp → VK → Prop := fun o i H Q => ∃ (p : Addr) (xs : List V) (k : Int) (v : V), o = .ref p ∧ i = .int k ∧ 0 ≤ k ∧ SqL K H p xs ∧ xs[k.toNat]? = some v ∧ Q v H
theorem get_listS : PGet X (rGetS X.K) := by
  intro pins s σ H o i ov iv Q I ro ri h
  obtain ⟨p, xs, k, v, rfl, rfl, h0, hq, he, q⟩ := h
  cases ro
  obtain ⟨t, rfl⟩ := ri
  obtain ⟨its, r, pl, hz⟩ := I.list hq
  obtain ⟨w, ew, rw'⟩ := r.get he
  have hl := r.length
  have hn := line63
  have hj := (List.getElem?_eq_some_iff.mp ew).1
  exact wpAny_getItem_list pl.isList h0 (by omega) (by simpa using ew) ⟨v, H, I, rw', q⟩
def laugSubS (i : Nat) (mk mv : SE D) : SS := fun env tp => match env[i]? with
  | some (some (.lst xs)) => (mk env tp).bindS fun k tp1 => (match k with
    | .int n => if 0 ≤ n then (match xs[n.toNat]? with
      | some (.int a) => (mv env tp1).bindS fun v tp2 => (match v with
        | .int b => .nx (env.set i (some (.lst (xs.set n.toNat (.int (a - b)))))) tp2
        | _ => .stuck)
      | _ => .stuck) else .stuck
    | _ => .stuck)
  | _ => .stuck
theorem gs_laugSub {mk mv : SE D} (i : Nat) {x : Str} {p1 p2 : Pos} (hO : i ∈ O) (hk : GE K mg r X O E k tk mk) (hv : GE K mg r X O E val tv mv) (hN : X.N[i]? = some x := by rfl)
    (hvis : Vis X.env.scope x := by first | exact Or.inl rfl | exact Or.inr (Or.inl rfl) | exact Or.inr (Or.inr rfl)) (hd : (x == ("__debug__" : Str)) = false := by decide) (hcd : (x == ("__classdict__" : Str)) = false := by decide)
    (ha : ∀ ov iv new, augStore k ov iv new = (do holding [new, ov, iv] (setItem ov iv new); release [new, ov, iv] []; pure .next) := by intros; rfl) (hK : X.K = K := by rfl) :
    GS K mg r X E O O Ol (.AugAssign (.Subscript (.Name x p1) k p2) .Sub val pos) (tAugS (tVar i) tk tv (rGetS K) (ipI fun i j => i - j) rSetL) (laugSubS i mk mv) := by
  subst hK
  refine ⟨ps_augS (pe_var hN hvis hd hcd) hk.pe get_listS hv.pe ip_sub set_list ha, fun Hs0 H0 Hs H σ env tp Dn R P => ?_⟩
  obtain ⟨d0, p, b1, b2, c, c0, ne, oa⟩ := R.own i hO
  unfold laugSubS at P
  rw [b1] at P
  refine ⟨_, b2, ?_⟩
  cases d0 with
  | lst ds =>
    simp only at P
    refine hk.snd _ _ _ _ _ _ _ _ R (PostS.bind R P fun u Hs1 H1 dk tp1 _ g w R1 ru P1 => ?_)
    cases dk with
    | int n =>
      simp only at P1
      by_cases hn : 0 ≤ n
      · rw [if_pos hn] at P1
        cases q : ds[n.toNat]? with
        | none => rw [q] at P1; exact P1.elim
        | some dv =>
          rw [q] at P1
          cases dv with
          | int a =>
            simp only at P1
            obtain ⟨d1, p1', e1, e2, f, f0, fn, fo⟩ := R1.own i hO
            rw [b2] at e2; cases e2
            rw [b1] at e1; cases e1
            obtain ⟨vs, h1, h2⟩ := fo
            obtain ⟨va, g1, g2⟩ := h2.gotS q
            cases g2
            have eu : u = V.int n := repT_int (H := H1) ru.top
            refine ⟨p, vs, n, .int a, rfl, eu, hn, .inl (.of h1), g1, ?_⟩
            refine hv.snd _ _ _ _ _ _ _ _ R1 (PostS.bind R1 P1 fun v2 Hs2 H2 d2 tp2 _ g2 w2 R2 rv2 P2 => ?_)
            cases d2 with
            | int b =>
              simp only at P2
              have ev : v2 = V.int b := repT_int (H := H2) rv2.top
              obtain ⟨d1, p1', e1, e2, f, f0, fn, fo⟩ := R2.own i hO
              rw [b2] at e2; cases e2
              rw [b1] at e1; cases e1
              obtain ⟨vs', h1', h2'⟩ := fo
              have hj := (List.getElem?_eq_some_iff.mp q).1
              have ix : ixN vs'.length n = some n.toNat := by
                unfold ixN
                rw [if_pos hn, if_pos (by rw [h2'.length]; omega)]
              refine ⟨a, b, rfl, ev, p, vs', n, n.toNat, rfl, eu, h1', ix, ?_⟩
              exact P2 _ _ _ (Same.refl _) (R2.write hO b2 ⟨_, upd_same, RepDs.setN (.int _) n.toNat h2'⟩)
            | _ => exact P2.elim
          | _ => exact P1.elim
      · rw [if_neg hn] at P1; exact P1.elim
    | _ => exact P1.elim
  | _ => exact P.elim
end
end G
set_option maxHeartbeats 3200000
namespace G
open PySem PySem.Spec PyProof.Rows L2
section
variable {P : Program} {w : World} {A : Around} {E : Value → Shared → Prop} {s : Shared}
theorem set_listI {l : Addr} {items : Array Value} (ns : List Int) {Q : Value → Shared → Prop} (hh : A.handled = none) (hl : s.heap.IsList l items) (hit : IntsAre items.toList ns) (hb : ns.length + 1 < scanBound)
    (h : ∀ (h' : Heap) (tk c : Nat), SetR w h' s.heap.objs.size (fun j => decide (j ∈ ns)) c → c ≤ ns.length → (∀ b o, s.heap.get? b = some o → h'.get? b = some o) → Q (.ref s.heap.objs.size) { s with heap := h', toks := tk }) :
    wpAny (model P w) A (call (.type "set") [.ref l]) Q E s := by
  have hisz : items.size = ns.length := by
    have q := IntsAre.length hit
    rw [Array.length_toList] at q
    exact q
  obtain ⟨c, tl, hmro⟩ := F.called_set.mro
  have hmade := F.called_set.made
  have hsub := F.called_set.sub
  refine wpAny_call (codeAny_of_tree ?_)
  show wpAny _ _ (callAny (.type "set") _) _ _ _
  refine wpAny_pure ⟨Code.quiet_builtin _ (by decide +kernel), codeAny_builtin F.entry_type_call ?_⟩
  rw [Around.under_plain (weight_type_call_type "set" [.ref l] []) rfl]
  have h1 := F.called_set.notType
  have h2 := F.called_set.canCreate
  have hct := F.typeCall_set_1 (.ref l)
  repeat (any_goals (first | assumption | wp_step))

  refine codeAny_mono (code_set_led1 (.ref l) (E := E) (Q₁ := fun obj s₁ => obj = .ref s.heap.objs.size ∧ s₁ = { s with heap := s.heap.push { cls := .type "set", dict := none, data := .set #[] 0 (.fresh 0 0 (!w.params.followText "set-order")) } }) ⟨rfl, rfl⟩) fun r s₁ hr => ?_
  cases r with
  | error e => exact hr
  | ok fl =>
    cases fl with
    | ret obj =>
      obtain ⟨rfl, rfl⟩ := hr
      have hS : (s.heap.push { cls := .type "set", dict := none, data := .set #[] 0 (.fresh 0 0 (!w.params.followText "set-order")) }).get? s.heap.objs.size = some { cls := .type "set", dict := none, data := .set #[] 0 (.fresh 0 0 (!w.params.followText "set-order")) } := Heap.get?_push_size _ rfl
      have hT : Shared.TypeIs { s with heap := s.heap.push { cls := .type "set", dict := none, data := .set #[] 0 (.fresh 0 0 (!w.params.followText "set-order")) } } (.ref s.heap.objs.size) "set" := ⟨_, hS, rfl⟩
      have hli := F.called_set.init.lookup
      have hbi := F.called_set.init.bind (.ref s.heap.objs.size)
      repeat (any_goals (first | assumption | wp_step))

      refine codeAny_mono (codeAny_call_builtin (R := wants (fun r s₂ => r = .none ∧ ∃ h' tk c, s₂ = { s with heap := h', toks := tk } ∧ SetR w h' s.heap.objs.size (fun j => decide (j ∈ ns)) c ∧ c ≤ ns.length ∧
          (∀ b o, s.heap.get? b = some o → h'.get? b = some o)) E) F.called_set.init.plain F.entry_set_init (check_set_init_1 hT ?_)) fun r₂ s₂ hr₂ => ?_
      · obtain ⟨ol, hol, hcl, nl, hdl⟩ := hl
        obtain ⟨ocls, odict, odata, oslots⟩ := ol
        simp only at hcl hdl
        subst hcl; subst hdl
        have hol' : (s.heap.push { cls := .type "set", dict := none, data := .set #[] 0 (.fresh 0 0 (!w.params.followText "set-order")) }).get? l = some { cls := .type "list", dict := odict, data := .seq items nl, slots := oslots } := Heap.get?_push_of_some _ hol
        have hsls := F.sub_list_set
        have hslf := F.sub_list_frozenset
        have hne : (Value.type "list" == Value.type "dict") = false := by decide
        have hl1 : (s.heap.push { cls := .type "set", dict := none, data := .set #[] 0 (.fresh 0 0 (!w.params.followText "set-order")) }).IsList l items := ⟨_, hol', rfl, nl, rfl⟩
        unfold Builtin.«set.__init__» noKeywords Builtin.Frozenset.updateFrom
        generalize hPI : pyIter = PI
        wp_walk
        subst hPI

        refine wpAny_pyIter_list hl1 ?_
        refine wpAny_bind (wpAny_runValue ?_)
        have hlS : l < s.heap.objs.size := Heap.lt_size hol
        have hh3 : A.in1.in1.in1.handled = none := by simp [hh]
        have hz1 : (s.heap.push { cls := .type "set", dict := none, data := .set #[] 0 (.fresh 0 0 (!w.params.followText "set-order")) }).objs.size = s.heap.objs.size + 1 := Heap.size_push ..
        have hneI : l ≠ (s.heap.push { cls := .type "set", dict := none, data := .set #[] 0 (.fresh 0 0 (!w.params.followText "set-order")) }).objs.size := by
          rw [Heap.size_push]; exact Nat.ne_of_lt (Nat.lt_succ_of_lt hlS)
        have hSf : s.heap.objs.size ∉ [(s.heap.push { cls := .type "set", dict := none, data := .set #[] 0 (.fresh 0 0 (!w.params.followText "set-order")) }).objs.size, l] := by
          rw [Heap.size_push]; simp only [List.mem_cons, List.mem_singleton, List.not_mem_nil, or_false, not_or]
          exact ⟨Nat.ne_of_lt (Nat.lt_succ_self _), Nat.ne_of_gt hlS⟩
        have hval : ∀ (i : Nat) (v : Value), items[i]? = some v → ∃ k t, ns[i]? = some k ∧ v = .int k t := fun i v hv => by
          have hi : i < ns.length := by rw [← hisz]; exact (Array.getElem?_eq_some_iff.mp hv).1
          obtain ⟨t, e⟩ := PyProof.Rows.IntsAre.int_at hit i v (by rw [Array.getElem?_toList]; exact hv)
          refine ⟨ns[i], t, List.getElem?_eq_getElem hi, ?_⟩
          rw [e, List.getD_eq_getElem?_getD, List.getElem?_eq_getElem hi] <;> rfl
        refine set_update_ints ((Walks.list hh3 _ l hneI items).toS) s.heap.objs.size
          hSf ns hisz hb hval (items.size - 0) 0 _ (by omega) (Nat.zero_le _)
          ⟨⟨_, Heap.get?_push_size _ rfl, rfl, rfl⟩, (hl1.push _)⟩ ?hS0 ?hR
        case hS0 =>
          have hget : ((s.heap.push { cls := .type "set", dict := none, data := .set #[] 0 (.fresh 0 0 (!w.params.followText "set-order")) }).push { cls := .type "list_iterator", data := .fields #[.ref l, .int 0 0] }).get? s.heap.objs.size
              = some { cls := .type "set", dict := none, data := .set #[] 0 (.fresh 0 0 (!w.params.followText "set-order")) } := Heap.get?_push_of_some _ hS
          exact ⟨0, Nat.le_refl 0, setR_new_at hget⟩
        case hR =>
          intro s' c' hm hc' hS'
          obtain ⟨h', g2, d', tk', os'⟩ := s'
          have eg : g2 = s.gens := hm.gens
          have ed : d' = s.drawn := hm.drawn
          have eo : os' = s.os := hm.os
          subst eg; subst ed; subst eo
          show wpAny _ _ _ _ _ _
          refine wpAny_pure ?_
          show wpAny _ _ (ret Value.none) _ _ _
          rw [hisz] at hc'
          refine wpAny_pure ⟨rfl, h', tk', c', rfl, hS', hc', fun b o e => ?_⟩
          have hb0 : b < s.heap.objs.size := Heap.lt_size e
          have hb1 : b ≠ s.heap.objs.size := Nat.ne_of_lt hb0
          have hb2 : b ≠ (s.heap.push { cls := .type "set", dict := none, data := .set #[] 0 (.fresh 0 0 (!w.params.followText "set-order")) }).objs.size := by
            rw [Heap.size_push]; exact Nat.ne_of_lt (Nat.lt_succ_of_lt hb0)
          exact hm.heap b o (by simp only [List.mem_cons, List.mem_singleton, List.not_mem_nil, or_false, not_or]; exact ⟨hb1, hb2⟩) (Heap.get?_push_of_some _ (Heap.get?_push_of_some _ e))

      · cases r₂ with
        | error e => exact hr₂
        | ok fl₂ =>
          cases fl₂ with
          | ret r =>
            obtain ⟨rfl, h', tk, c', rfl, hS', hc', hk'⟩ := hr₂
            repeat (any_goals (first | assumption | wp_step))
            exact h _ _ _ hS' hc' hk'
          | _ => exact hr₂.elim
    | _ => exact hr.elim
end
end G
set_option maxHeartbeats 1000000
namespace G
open PySem PySem.Spec PyProof.Rows L2
theorem setR_few {w : World} {h : Heap} {a : Addr} {S : Int → Bool} {n : Nat} (R : SetR w h a S n) {b : Nat} (hS : ∀ k, S k = true → 0 ≤ k ∧ k < b) : n ≤ b := by
  obtain ⟨o, es, ep, t, ho, hex, hd, g, nd, hm, hb, hf, hn, hr, hl⟩ := R
  have e : (es.toList.map L2.keyOf).length = n := by rw [List.length_map, Array.length_toList]; exact hn
  rw [← e]
  have sub : ∀ k ∈ es.toList.map L2.keyOf, k ∈ (List.range b).map fun i : Nat => (i : Int) := fun k hk => by
    obtain ⟨h1, h2⟩ := hS k ((hm k).mpr hk)
    exact List.mem_map.mpr ⟨k.toNat, List.mem_range.mpr (by omega), by omega⟩
  have := List.Nodup.length_le_of_subset nd sub
  have e2 : ((List.range b).map fun i : Nat => (i : Int)).length = b := by rw [List.length_map, List.length_range]
  rw [e2] at this
  exact this
end G
set_option maxHeartbeats 1000000
namespace G
open PySem PySem.Spec PyProof.Rows L2
/-- the small ints of a list, ascending, each once -/
def setI (ns : List Int) : List Int := ((List.range 60).filter fun i : Nat => decide ((i : Int) ∈ ns)).map fun i : Nat => (i : Int)
theorem setI_asc (ns : List Int) : (setI ns).Pairwise (· < ·) := by
  unfold setI
  rw [List.pairwise_map]
  exact (List.pairwise_lt_range.sublist List.filter_sublist).imp fun {a b} h => by omega
theorem mem_setI {ns : List Int} (h : ∀ n ∈ ns, 0 ≤ n ∧ n < 60) {k : Int} : k ∈ setI ns ↔ k ∈ ns := by
  unfold setI
  rw [List.mem_map]
  constructor
  · rintro ⟨i, hi, rfl⟩
    exact of_decide_eq_true (List.mem_filter.mp hi).2
  · intro hk
    obtain ⟨h1, h2⟩ := h k hk
    refine ⟨k.toNat, List.mem_filter.mpr ⟨List.mem_range.mpr (by omega), decide_eq_true ?_⟩, by omega⟩
    rw [show ((k.toNat : Nat) : Int) = k by omega]; exact hk
end G
set_option maxHeartbeats 1000000
namespace G
open PySem PySem.Spec PyProof.Rows L2
theorem setR_num {ns : List Int} {w : World} {h : Heap} {a : Addr} {n : Nat} (R : SetR w h a (fun j => decide (j ∈ ns)) n) (hb : ∀ n ∈ ns, 0 ≤ n ∧ n < 60) : n = (setI ns).length := by
  obtain ⟨o, es, ep, t, ho, hex, hd, g, nd, hm, hb', hf, hn, hr, hl⟩ := R
  have e : (es.toList.map L2.keyOf).length = n := by rw [List.length_map, Array.length_toList]; exact hn
  rw [← e]
  have nd2 : (setI ns).Nodup := (setI_asc ns).imp fun {a b} h e => by omega
  exact ((List.perm_ext_iff_of_nodup nd nd2).mpr fun k => ((hm k).symm.trans ⟨fun z => of_decide_eq_true z, fun z => decide_eq_true z⟩).trans (mem_setI hb).symm).length_eq
def lenSetD : List D → Option D
  | [.lst xs] => (unI xs).bind fun ns => if ns.length ≤ 4000 ∧ (ns.all fun n => decide (0 ≤ n ∧ n < 60)) = true then some (.int ((setI ns).length : Nat)) else none
  | _ => none
section
variable {X : Cx} {ts : TA} {e : Expr} {p p2 pos pos2 : Pos}
def tLenSetN (K : PySem.W.Frag) (te : TA) : TE := fun σ H Q => te σ H fun vs H1 => ∃ (a : Addr) (ns : List Int), vs = [V.ref a] ∧ SqL K H1 a (ns.map V.int) ∧ ns.length ≤ 4000 ∧ (∀ n ∈ ns, 0 ≤ n ∧ n < 60) ∧ Q (.int ((setI ns).length : Nat)) H1
theorem pe_lenSetN (hc : X.calm = true) (hg : Gl X "len") (hm : X.mg "len" = none) (hg2 : Gl X "set") (hm2 : X.mg "set" = none) (ha : PA X [e] ts)
    (hst : starEach [e] X.env = (false, eval e X.env) :: starEach [] X.env := by rfl)
    (hse : starEach [Expr.Call (.Name "set" p2) [e] [] pos2] X.env = [(false, eval (Expr.Call (.Name "set" p2) [e] [] pos2) X.env)] := by rfl) :
    PE X (.Call (.Name "len" p) [.Call (.Name "set" p2) [e] [] pos2] [] pos) (tLenSetN X.K ts) := by
  refine ⟨fun pins s σ H Q I h => ?_⟩
  refine wpAny_Call_Name_kw (ld_blt I hg hm (u := .builtin "len") (by first | rfl | decide +kernel) ?_ (by first | decide +kernel | decide) (by first | decide +kernel | decide))
  rw [hse]
  refine PySem.callWith_builtin1 ?_
  refine wpAny_Call_Name_kw (ld_blt I hg2 hm2 (u := .type "set") (by first | rfl | decide +kernel) ?_ (by first | decide +kernel | decide) (by first | decide +kernel | decide))
  refine PyProof.Rows.callWith_type1 (thn (ha.run pos2 pins s σ H _ I h) fun us s1 ⟨vs, H1, I1, r1, a, ns, ev, hs, h4, hb, q⟩ => ?_) hst rfl
  subst ev
  rw [Vals.ref1 r1]
  obtain ⟨its, rv, hl, hz⟩ := I1.list hs
  have hi := rv.ints
  refine set_listI ns (I.ok.hd hc) hl.isList (by simpa using hi) (by unfold scanBound; omega) fun h' tk c R hcn k => ?_
  have en := setR_num R hb
  have hS : ∀ k, (fun j => decide (j ∈ ns)) k = true → 0 ≤ k ∧ k < (60 : Nat) := fun k hk => by
    have := hb k (of_decide_eq_true hk)
    omega
  have c60 := setR_few R hS
  obtain ⟨o, es, ep, t, ho, hex, hd, g, nd, hm', hb', hf, hn, hr, hl'⟩ := R
  have I2 : Inv X pins σ H1 { s1 with heap := h', toks := tk } := I1.kept fun b o e => k b o e
  exact call_len_set ho hex hd hf (by rw [hn] <;> omega) ⟨.int ((setI ns).length : Nat), H1, I2.tok _, ⟨_, by rw [← en, hn]⟩, q⟩
end
section
variable {r : Addr} {X : Cx} {K : PySem.W.Frag} {mg : Str → Option Value} {O : List Nat} {E : XK} {e : Expr} {ts : TA} {p p2 pos pos2 : Pos} {ms : SE (List D)}
theorem ge_lenSetN (hc : X.calm = true) (hm : X.mg "len" = none) (hm2 : X.mg "set" = none) (ha : GAO K mg r X O E [e] ts ms) (hg : Gl X "len" := by rfl) (hg2 : Gl X "set" := by rfl)
    (hst : starEach [e] X.env = (false, eval e X.env) :: starEach [] X.env := by rfl)
    (hse : starEach [Expr.Call (.Name "set" p2) [e] [] pos2] X.env = [(false, eval (Expr.Call (.Name "set" p2) [e] [] pos2) X.env)] := by rfl) (hK : X.K = K := by rfl) :
    GE K mg r X O E (.Call (.Name "len" p) [.Call (.Name "set" p2) [e] [] pos2] [] pos) (tLenSetN K ts) (callB lenSetD ms) := by
  subst hK
  refine ⟨pe_lenSetN hc hg hm hg2 hm2 ha.pe hst hse, fun Hs0 H0 Hs H σ env tp Q Rl P => ?_⟩
  refine ha.snd _ _ _ _ _ _ _ _ Rl (Post.bind P fun v Hs1 H1 d tp1 _ g w rx P1 => ?_)
  obtain ⟨z, hz, k⟩ := Post.ok_of P1
  unfold lenSetD at hz
  split at hz
  · obtain ⟨ns, h1, h2⟩ := Option.bind_eq_some_iff.mp hz
    split at h2
    · rename_i c
      cases h2
      obtain ⟨x, rfl, h⟩ := paired1 rx
      rw [unI_ok h1] at h
      obtain ⟨a, rfl, h3⟩ := lst_typed RepDs.ints_of w h
      exact ⟨a, ns, rfl, .of h3, c.1, fun n hn => of_decide_eq_true (List.all_eq_true.mp c.2 n hn), k _ _ _ (Grow.refl _ _) w (.int _)⟩
    · cases h2
  · cases hz
end
end G
set_option maxHeartbeats 1000000
namespace G
open PySem PySem.Spec PyProof.Rows L2
def putS (i : Nat) (mk : SE D) (v : D) (κ : SS) : SS := fun env tp => match env[i]? with
  | some (some (.lst xs)) => (mk env tp).bindS fun k tp2 => (match k with
    | .int n => (match ixN xs.length n with
      | some j => κ (env.set i (some (.lst (xs.set j v)))) tp2
      | none => .stuck)
    | _ => .stuck)
  | _ => .stuck
def lset2S (i : Nat) (mk1 mk2 : SE D) (ms : SE (List D)) : SS := fun env tp => (ms env tp).bindS fun ds tp1 => match ds with
  | [.int a, .int b] => putS i mk1 (.int a) (putS i mk2 (.int b) fun env tp => .nx env tp) env tp1
  | _ => .stuck
section
variable {r : Addr} {X : Cx} {K : PySem.W.Frag} {mg : Str → Option Value} {O Ol : List Nat} {E : XK} {k k1 k2 e1 e2 : Expr} {tk tk1 tk2 : TE} {ts : TA} {pos : Pos}
theorem put_sound {mk : SE D} {κ : SS} {i : Nat} {v : V} {d : D} (hO : i ∈ O) (hk : GE K mg r X O E k tk mk) {Hs0 H0 Hs H : Hp} {σ : L2.St} {env : DEnv} {tp : List D} {Dn : Ends} {G : L2.St → Hp → Prop}
    (R : Rel K mg r O Hs0 H0 Hs H σ env tp) (rv : RepD K mg r Hs v d) (P : PostS K mg r E O Ol Hs0 H0 Hs (putS i mk d κ env tp) Dn)
    (q : ∀ Hs' H' env' tp', Rel K mg r O Hs0 H0 Hs' H' σ env' tp' → PostS K mg r E O Ol Hs0 H0 Hs' (κ env' tp') Dn → G σ H') : gSub (tVar i) tk rSetL v σ H G := by
  unfold putS at P
  obtain ⟨d0, p, b1, b2, c, c0, ne, oa⟩ := R.own i hO
  rw [b1] at P
  refine ⟨_, b2, ?_⟩
  cases d0 with
  | lst xs =>
    refine hk.snd _ _ _ _ _ _ _ _ R (PostS.bind R P fun u Hs2 H2 dk tp2 _ g2 w2 R2 ru P2 => ?_)
    cases dk with
    | int n =>
      simp only at P2
      split at P2
      · rename_i j qj
        obtain ⟨d1, p1, f1, f2, f, f0, fn, fo⟩ := R2.own i hO
        rw [b2] at f2; cases f2
        rw [b1] at f1; cases f1
        obtain ⟨vs, h1, h2⟩ := fo
        refine ⟨p, vs, _, j, rfl, repT_int (H := H2) ru.top, h1, by rw [h2.length]; exact qj, ?_⟩
        exact q _ _ _ _ (R2.write (d := .lst (xs.set j d)) hO b2 ⟨_, upd_same, RepDs.setN (rv.mono g2.ex) j h2⟩) P2
      · exact P2.elim
    | _ => exact P2.elim
  | _ => exact P.elim
theorem gs_lset2 {mk1 mk2 : SE D} {ms : SE (List D)} (i : Nat) {x : Str} {p1 p2 p3 p4 pt pt2 : Pos} {kt kk} (hO : i ∈ O) (h1 : GE K mg r X O E k1 tk1 mk1) (h2 : GE K mg r X O E k2 tk2 mk2) (ha : GAO K mg r X O E [e1, e2] ts ms) (hN : X.N[i]? = some x := by rfl)
    (hvis : Vis X.env.scope x := by first | exact Or.inl rfl | exact Or.inr (Or.inl rfl) | exact Or.inr (Or.inr rfl)) (hd : (x == ("__debug__" : Str)) = false := by decide) (hcd : (x == ("__classdict__" : Str)) = false := by decide) (hc : X.calm = true := by rfl) (hK : X.K = K := by rfl)
    (hg1 : ∀ v, assign (.Subscript (.Name x p1) k1 p2) X.env v = (do
      let ov ← holding [v] (eval (.Name x p1) X.env)
      let iv ← holding [v, ov] (eval k1 X.env)
      standAt p2
      holding [v, ov, iv] (setItem ov iv v)
      release [v, ov, iv] []) := by intro _; rfl)
    (hg2 : ∀ v, assign (.Subscript (.Name x p3) k2 p4) X.env v = (do
      let ov ← holding [v] (eval (.Name x p3) X.env)
      let iv ← holding [v, ov] (eval k2 X.env)
      standAt p4
      holding [v, ov, iv] (setItem ov iv v)
      release [v, ov, iv] []) := by intro _; rfl)
    (a1 : (assignEach [.Subscript (.Name x p1) k1 p2, .Subscript (.Name x p3) k2 p4] X.env).map (·.2) = assign (.Subscript (.Name x p1) k1 p2) X.env :: (assignEach [.Subscript (.Name x p3) k2 p4] X.env).map (·.2) := by rfl)
    (a2 : (assignEach [.Subscript (.Name x p3) k2 p4] X.env).map (·.2) = assign (.Subscript (.Name x p3) k2 p4) X.env :: (assignEach [] X.env).map (·.2) := by rfl)
    (hn1 : (assignEach [.Subscript (.Name x p1) k1 p2, .Subscript (.Name x p3) k2 p4] X.env).length = 2 := by rfl) (hst : (assignEach [.Subscript (.Name x p1) k1 p2, .Subscript (.Name x p3) k2 p4] X.env).findIdx? (·.1) = none := by rfl)
    (hs : swapsWithSole [.Tuple [.Subscript (.Name x p1) k1 p2, .Subscript (.Name x p3) k2 p4] kt pt] (.Tuple [e1, e2] kk pt2) pos.line X.env = pure false := by rfl) (hw : swappedStores [.Tuple [.Subscript (.Name x p1) k1 p2, .Subscript (.Name x p3) k2 p4] kt pt] (.Tuple [e1, e2] kk pt2) X.env = pure none := by rfl)
    (hh : (assignEach [.Tuple [.Subscript (.Name x p1) k1 p2, .Subscript (.Name x p3) k2 p4] kt pt] X.env).map (·.2) = [assign (.Tuple [.Subscript (.Name x p1) k1 p2, .Subscript (.Name x p3) k2 p4] kt pt) X.env] := by rfl) :
    GS K mg r X E O O Ol (.Assign [.Tuple [.Subscript (.Name x p1) k1 p2, .Subscript (.Name x p3) k2 p4] kt pt] (.Tuple [e1, e2] kk pt2) pos) (tAsg (tTup ts) (gTup K 2 (gCons (gSub (tVar i) tk1 rSetL) (gCons (gSub (tVar i) tk2 rSetL) gNil)))) (lset2S i mk1 mk2 ms) := by
  subst hK
  refine ⟨ps_asg (pe_tup ha.pe) (pg_tup hc (pgs_cons (pg_sub (pe_var hN hvis hd hcd) h1.pe set_list hg1) (pgs_cons (pg_sub (pe_var hN hvis hd hcd) h2.pe set_list hg2) pgs_nil a2) a1) hn1 hst) hs hw hh, fun Hs0 H0 Hs H σ env tp Dn R P => ?_⟩
  refine ha.snd _ _ _ _ _ _ _ _ R (PostS.bind R P fun vs Hs1 H1 ds tp1 _ g w R1 rx P1 => ?_)
  split at P1
  · rename_i a b he
    obtain ⟨x1, x2, rfl, y1, y2⟩ := paired2 rx
    have z1 := repT_int y1
    have z2 := repT_int y2
    subst z1 z2
    refine ⟨by show 2 ≤ sizeLine; rw [sizeLine_eq]; omega, fun p hp => ⟨p, _, rfl, .of upd_same, rfl, ?_⟩⟩
    obtain ⟨g2, w2⟩ := w.lay (o := .tup [.int a, .int b]) hp
    refine ⟨_, _, rfl, put_sound hO h1 (R1.grow g2 w2) (.int a) P1 fun Hs2 H2 env2 tp2 R2 P2 => ?_⟩
    refine ⟨_, _, rfl, put_sound hO h2 R2 (.int b) P2 fun Hs3 H3 env3 tp3 R3 P3 => ?_⟩
    exact ⟨rfl, P3 _ _ _ (Same.refl _) R3⟩
  · exact P1.elim
end
end G
set_option maxHeartbeats 1000000
namespace G
open PySem L2
/-- a loop by its invariant -/
theorem forL_inv {i : Nat} {body : SS} (I : Nat → DEnv → List D → Prop) : ∀ {items : List D} {env : DEnv} {tp : List D} (k : Nat), I k env tp → (∀ j d env tp, items[j]? = some d → I (k + j) env tp → ∃ env' tp', body (env.set i (some d)) tp = .nx env' tp' ∧ I (k + j + 1) env' tp') →
    ∃ env' tp', forL t1 [i] body items env tp = .nx env' tp' ∧ I (k + items.length) env' tp'
  | [], env, tp, k, h0, _ => ⟨env, tp, rfl, h0⟩
  | d :: ds, env, tp, k, h0, h => by
    obtain ⟨e1, tp1, q1, i1⟩ := h 0 d env tp rfl h0
    obtain ⟨e2, tp2, q2, i2⟩ := forL_inv I (items := ds) (k + 1) i1 fun j d' env tp hj hi => by
      have e : k + 1 + j = k + (j + 1) := by omega
      rw [e] at hi ⊢
      exact h (j + 1) d' env tp (by simpa using hj) hi
    refine ⟨e2, tp2, ?_, by rw [List.length_cons]; have e : k + (ds.length + 1) = k + 1 + ds.length := by omega
                            rw [e]; exact i2⟩
    unfold forL t1
    simp only [setAll]
    rw [q1]
    exact q2
abbrev Row := List Bool
abbrev Pic := List Row
def sg (b : Bool) : Nat := if b then 35 else 46
def rowS (r : Row) : Str := ⟨(r.map sg).toArray⟩
structure PicOk (h w : Nat) (p : Pic) : Prop where
  len : p.length = h
  row : ∀ r ∈ p, r.length = w
  h1 : 1 ≤ h
  h30 : h ≤ 30
  w1 : 1 ≤ w
  w30 : w ≤ 30
theorem rowS_len (r : Row) : (rowS r).length = r.length := by
  show ((r.map sg).toArray).size = _
  rw [List.size_toArray, List.length_map]
theorem rowS_app (a b : Row) : rowS a ++ rowS b = rowS (a ++ b) := by
  show (⟨(a.map sg).toArray ++ (b.map sg).toArray⟩ : Str) = _
  unfold rowS
  rw [List.map_append, List.append_toArray]
theorem rowS_inj {a b : Row} (h : rowS a = rowS b) : a = b := by
  have h1 : (a.map sg).toArray = (b.map sg).toArray := congrArg Str.cps h
  have h2 : a.map sg = b.map sg := by
    have := congrArg Array.toList h1
    simpa using this
  have hs : ∀ x y, sg x = sg y → x = y := by decide
  exact List.map_inj_right (fun x y => hs x y) |>.mp h2
theorem str_black : ("#" : Str) = rowS [true] := by decide +kernel
theorem str_white : ("." : Str) = rowS [false] := by decide +kernel
theorem row_toList (r : Row) : (rowS r).cps.toList = r.map sg := by
  show ((r.map sg).toArray).toList = _
  simp
theorem atI_nat' {α : Type} (xs : List α) (j : Nat) : atI xs (j : Int) = xs[j]? := by
  unfold atI ixN
  rw [if_pos (by omega)]
  by_cases h : (j : Int) < xs.length
  · rw [if_pos h]; rfl
  · rw [if_neg h, List.getElem?_eq_none (by omega)]; rfl
theorem atI_int {α : Type} (xs : List α) {i : Int} (h : 0 ≤ i) : atI xs i = xs[i.toNat]? := by
  obtain ⟨j, rfl⟩ := Int.eq_ofNat_of_zero_le h
  rw [atI_nat', Int.toNat_natCast]
theorem glue_nil : ∀ ys : List Row, Str.join (rowS []) (ys.map rowS) = rowS ys.flatten
  | [] => rfl
  | [y] => by
    show rowS y = _
    simp
  | y :: z :: ys => by
    have ih := glue_nil (z :: ys)
    show (rowS y ++ rowS []) ++ Str.join (rowS []) ((z :: ys).map rowS) = _
    rw [ih, rowS_app, rowS_app]
    simp
theorem join_rows (ys : List Row) : Txt.join (rowS []) (ys.map rowS) = rowS ys.flatten := by
  rw [TL.join_eq, glue_nil]
theorem small_line {n : Nat} (h : n ≤ 1000000) : n ≤ sizeLine := by rw [sizeLine_eq]; omega
structure Tape (tp : List D) : Prop where
  ex : ∃ (ns : List Int) (pos seed rest : Int), tp = [.scr ns, .int pos, .int seed, .int rest] ∧ 0 ≤ pos ∧ 0 ≤ seed ∧ seed < 2147483647 ∧ ns.length ≤ 63
theorem tape0 (ns : List Int) (c : Int) (h : ns.length ≤ 63) (h0 : 0 ≤ c) (h1 : c < 2147483647) : Tape [.scr ns, .int 0, .int c, .int 0] := ⟨⟨ns, 0, c, 0, rfl, by omega, h0, h1, h⟩⟩
end G
set_option maxHeartbeats 1000000
namespace T
open PySem L2 G
abbrev eN (n : Nat) : D := .int (n : Int)
abbrev eZ (i : Int) : D := .int i
abbrev eB (b : Bool) : D := .bl b
abbrev eR (r : Row) : D := .str (rowS r)
abbrev eG (b : Bool) : D := .str (rowS [b])
abbrev eU (_ : Unit) : D := .non
abbrev eL {α : Type} (e : α → D) (xs : List α) : D := .lst (xs.map e)
abbrev eT {α : Type} (e : α → D) (xs : List α) : D := .tup (xs.map e)
abbrev eP {α β : Type} (a : α → D) (b : β → D) (x : α × β) : D := .tup [a x.1, b x.2]
abbrev eP3 {α β γ : Type} (a : α → D) (b : β → D) (c : γ → D) (x : α × β × γ) : D := .tup [a x.1, b x.2.1, c x.2.2]
abbrev eO {α : Type} (e : α → D) : Option α → D
  | none => .non
  | some x => e x
structure EqE {α : Type} [DecidableEq α] (k : Nat) (e : α → D) : Prop where
  pl : ∀ x, (e x).pd.plain = true
  dp : ∀ x, (e x).pd.depth ≤ k
  eq : ∀ x y, PyData.eqv (e x).pd (e y).pd = decide (x = y)
theorem rowS_dec (a b : Row) : (rowS a == rowS b) = decide (a = b) := by
  by_cases h : a = b
  · subst h; simp
  · rw [decide_eq_false h]
    exact beq_eq_false_iff_ne.mpr fun e => h (rowS_inj e)
theorem qN : EqE 1 eN := ⟨fun _ => rfl, fun _ => by simp [D.pd, PyData.depth], fun x y => by
  show ((x : Int) == (y : Int)) = _
  by_cases h : x = y
  · subst h; simp
  · rw [decide_eq_false h]; exact beq_eq_false_iff_ne.mpr fun e => h (by omega)⟩
theorem qB : EqE 1 eB := ⟨fun _ => rfl, fun _ => by simp [D.pd, PyData.depth], fun x y => by cases x <;> cases y <;> rfl⟩
theorem qR : EqE 1 eR := ⟨fun _ => rfl, fun _ => by simp [D.pd, PyData.depth], fun x y => rowS_dec x y⟩
theorem qG : EqE 1 eG := ⟨fun _ => rfl, fun _ => by simp [D.pd, PyData.depth], fun x y => by
  refine (rowS_dec [x] [y]).trans ?_
  cases x <;> cases y <;> rfl⟩
section
variable {α β γ δ : Type} [DecidableEq α] [DecidableEq β] [DecidableEq γ] [DecidableEq δ] {k k1 k2 k3 k4 : Nat} {e : α → D} {e1 : β → D} {e2 : γ → D} {e3 : δ → D}
theorem plainAll_map (h : EqE k e) (xs : List α) : PyData.plainAll (pdAll (xs.map e)) = true := by
  induction xs with
  | nil => rfl
  | cons x xs ih =>
    show PyData.plainAll ((e x).pd :: pdAll (xs.map e)) = true
    simp only [PyData.plainAll, h.pl x, ih, Bool.and_self]
theorem depthAll_map (h : EqE k e) (xs : List α) : PyData.depthAll (pdAll (xs.map e)) ≤ k := by
  induction xs with
  | nil => exact Nat.zero_le _
  | cons x xs ih =>
    show PyData.depthAll ((e x).pd :: pdAll (xs.map e)) ≤ k
    simp only [PyData.depthAll]
    have := h.dp x
    omega
theorem eqvAll_mapE (h : EqE k e) : ∀ xs ys : List α, PyData.eqvAll (pdAll (xs.map e)) (pdAll (ys.map e)) = decide (xs = ys)
  | [], [] => rfl
  | [], y :: ys => by show false = _; simp
  | x :: xs, [] => by show false = _; simp
  | x :: xs, y :: ys => by
    show (PyData.eqv (e x).pd (e y).pd && PyData.eqvAll (pdAll (xs.map e)) (pdAll (ys.map e))) = _
    rw [h.eq, eqvAll_mapE h xs ys]
    by_cases h1 : x = y <;> by_cases h2 : xs = ys <;> simp [h1, h2]
theorem qL (h : EqE k e) : EqE (k + 1) (eL e) := ⟨fun xs => by
    show (PyData.list (pdAll (xs.map e))).plain = true
    simp only [PyData.plain]; exact plainAll_map h xs, fun xs => by
    show (PyData.list (pdAll (xs.map e))).depth ≤ k + 1
    simp only [PyData.depth]
    have := depthAll_map h xs
    omega, fun xs ys => eqvAll_mapE h xs ys⟩
theorem qT (h : EqE k e) : EqE (k + 1) (eT e) := ⟨fun xs => by
    show (PyData.tuple (pdAll (xs.map e))).plain = true
    simp only [PyData.plain]; exact plainAll_map h xs, fun xs => by
    show (PyData.tuple (pdAll (xs.map e))).depth ≤ k + 1
    simp only [PyData.depth]
    have := depthAll_map h xs
    omega, fun xs ys => eqvAll_mapE h xs ys⟩
theorem qP (h : EqE k e) (h1 : EqE k1 e1) : EqE (max k k1 + 1) (eP e e1) := ⟨fun x => by
    show PyData.plainAll [(e x.1).pd, (e1 x.2).pd] = true
    simp only [PyData.plainAll, h.pl, h1.pl, Bool.and_self], fun x => by
    show (PyData.tuple [(e x.1).pd, (e1 x.2).pd]).depth ≤ _
    simp only [PyData.depth, PyData.depthAll]
    have := h.dp x.1; have := h1.dp x.2
    omega, fun x y => by
    show (PyData.eqv (e x.1).pd (e y.1).pd && (PyData.eqv (e1 x.2).pd (e1 y.2).pd && true)) = _
    rw [h.eq, h1.eq]
    obtain ⟨a, b⟩ := x; obtain ⟨c, d⟩ := y
    by_cases p : a = c <;> by_cases q : b = d <;> simp [p, q]⟩
/-- e never gives none -/
def NotNon (e : α → D) : Prop := ∀ x, PyData.eqv (e x).pd .none = false ∧ PyData.eqv .none (e x).pd = false
theorem nnT {α : Type} [DecidableEq α] {e : α → D} : NotNon (eT e) := fun _ => ⟨rfl, rfl⟩
theorem qO (h : EqE (k + 1) e) (n : NotNon e) : EqE (k + 1) (eO e) := ⟨fun x => by
    cases x with
    | none => rfl
    | some x => exact h.pl x, fun x => by
    cases x with
    | none => show PyData.depth .none ≤ k + 1; simp [PyData.depth]
    | some x => exact h.dp x, fun x y => by
    cases x with
    | none => cases y with
      | none => rfl
      | some y => refine (n y).2.trans ?_; simp
    | some x => cases y with
      | none => refine (n x).1.trans ?_; simp
      | some y => refine (h.eq x y).trans ?_; simp⟩
theorem okq_of (h : EqE k e) (hk : k ≤ 60) (x : α) : (e x).okq = true := by
  unfold D.okq
  have a := h.dp x
  rw [h.pl x, decide_eq_true (by omega : (e x).pd.depth ≤ 60)]; rfl
theorem eqD_E (h : EqE k e) (hk : k ≤ 60) (x y : α) : eqD (e x) (e y) = some (.bl (decide (x = y))) := by
  unfold eqD
  rw [okq_of h hk x, okq_of h hk y, h.eq]; rfl
theorem neD_E (h : EqE k e) (hk : k ≤ 60) (x y : α) : neD (e x) (e y) = some (.bl (decide (x ≠ y))) := by
  unfold neD
  rw [okq_of h hk x, okq_of h hk y, h.eq]
  by_cases q : x = y <;> simp [q]
theorem memD_E (h : EqE k e) (x : α) (xs : List α) : memD (e x) (xs.map e) = decide (x ∈ xs) := by
  unfold memD
  rw [List.any_map]
  by_cases q : x ∈ xs
  · rw [decide_eq_true q]
    exact List.any_eq_true.mpr ⟨x, q, by show PyData.eqv (e x).pd (e x).pd = true; rw [h.eq]; simp⟩
  · rw [decide_eq_false q]
    refine List.any_eq_false.mpr fun y hy => ?_
    show ¬ PyData.eqv (e y).pd (e x).pd = true
    rw [h.eq]
    intro z
    exact q (of_decide_eq_true z ▸ hy)
theorem inD_T (h : EqE k e) (hk : k ≤ 59) (x : α) (xs : List α) : inD (e x) (eT e xs) = some (.bl (decide (x ∈ xs))) := by
  show (if (e x).okq && (eT e xs).okq then some (D.bl (memD (e x) (xs.map e))) else none) = _
  rw [okq_of h (by omega) x, okq_of (qT h) (by omega) xs, memD_E h]; rfl
theorem notInD_L (h : EqE k e) (hk : k ≤ 59) (x : α) (xs : List α) : notInD (e x) (eL e xs) = some (.bl (decide (x ∉ xs))) := by
  show (if (e x).okq && (eL e xs).okq then some (D.bl (!memD (e x) (xs.map e))) else none) = _
  rw [okq_of h (by omega) x, okq_of (qL h) (by omega) xs, memD_E h]
  by_cases q : x ∈ xs <;> simp [q]
end
section
variable {α β γ δ : Type} {e : α → D} {e1 : β → D} {e2 : γ → D} {env : DEnv} {tp t1' t2' t3' t4' : List D} {m ma mb mc : SE D} {ms : SE (List D)} {c c2 : SE Bool} {P Q : Prop} [Decidable P] [Decidable Q]
theorem ev_v {i : Nat} {d : D} (h : env[i]? = some (some d)) : vE i env tp = .ok d tp := by unfold vE; rw [h]
theorem ev_cN (n : Nat) {i : Int} (h : i = (n : Int) := by rfl) : cE (.int i) env tp = .ok (eN n) tp := by rw [h]; rfl
theorem ev_c {d d' : D} (h : d = d') : cE d env tp = .ok d' tp := by rw [h]; rfl
theorem ev_bin {f : D → D → Option D} {a b z : D} (ha : ma env tp = .ok a t1') (hb : mb env t1' = .ok b t2') (h : f a b = some z) : binE f ma mb env tp = .ok z t2' := by
  unfold binE; rw [ha]; simp only [RE.bind_ok]; rw [hb]; simp only [RE.bind_ok]; rw [h]; rfl
theorem ev_un {f : D → Option D} {a z : D} (ha : ma env tp = .ok a t1') (h : f a = some z) : unE f ma env tp = .ok z t1' := by
  unfold unE; rw [ha]; simp only [RE.bind_ok]; rw [h]; rfl
theorem ev_callB {f : List D → Option D} {ds : List D} {z : D} (ha : ms env tp = .ok ds t1') (h : f ds = some z) : callB f ms env tp = .ok z t1' := by
  unfold callB; rw [ha]; simp only [RE.bind_ok]; rw [h]; rfl
theorem ev_meth {p : D → Bool} {f : D → D → Option D} {a b z : D} (ha : ma env tp = .ok a t1') (hp : p a = true) (hb : mb env t1' = .ok b t2') (h : f a b = some z) : methE p f ma mb env tp = .ok z t2' := by
  unfold methE; rw [ha]; simp only [RE.bind_ok]; rw [if_pos hp, hb]; simp only [RE.bind_ok]; rw [h]; rfl
theorem ev_nil : nilA env tp = .ok [] tp := rfl
theorem ev_cons {d : D} {ds : List D} (h : m env tp = .ok d t1') (hs : ms env t1' = .ok ds t2') : consA m ms env tp = .ok (d :: ds) t2' := by
  unfold consA; rw [h]; simp only [RE.bind_ok]; rw [hs]; rfl
theorem ev_call {n : Nat} {f : List D → List D → RE D} {ds : List D} {d : D} (hs : ms env tp = .ok ds t1') (hn : ds.length = n) (h : f ds t1' = .ok d t2') : callE n f ms env tp = .ok d t2' := by
  unfold callE; rw [hs]; simp only [RE.bind_ok]; rw [if_pos hn, h]
theorem ev_tup {ds : List D} (hs : ms env tp = .ok ds t1') (hn : decide (ds.length ≤ 1000000) = true) : tupE ms env tp = .ok (.tup ds) t1' := by
  unfold tupE; rw [hs]; simp only [RE.bind_ok]; rw [if_pos (small_line (of_decide_eq_true hn))]
theorem ev_lst {ds : List D} (hs : ms env tp = .ok ds t1') (hn : decide (ds.length ≤ 1000000) = true) : lstE ms env tp = .ok (.lst ds) t1' := by
  unfold lstE; rw [hs]; simp only [RE.bind_ok]; rw [if_pos (small_line (of_decide_eq_true hn))]
theorem ev_bool {b : Bool} (h : m env tp = .ok (.bl b) t1') : boolE m env tp = .ok b t1' := by
  unfold boolE; rw [h]; rfl
theorem ev_dec (b : Bool) (h : m env tp = .ok (.bl b) t1') : boolE m env tp = .ok (decide (b = true)) t1' := by
  rw [ev_bool h]; cases b <;> rfl
theorem ev_notT (h : c env tp = .ok (decide P) t1') : notT c env tp = .ok (decide (¬P)) t1' := by
  unfold notT; rw [h]; simp only [RE.bind_ok]; by_cases q : P <;> simp [q]
theorem ev_andT (h : c env tp = .ok (decide P) tp) (h2 : P → c2 env tp = .ok (decide Q) tp) : andT c c2 env tp = .ok (decide (P ∧ Q)) tp := by
  unfold andT; rw [h]; simp only [RE.bind_ok]
  by_cases q : P
  · rw [decide_eq_true q, if_pos rfl, h2 q]; simp [q]
  · rw [decide_eq_false q, if_neg (by decide)]; simp [q]
theorem ev_orT (h : c env tp = .ok (decide P) tp) (h2 : ¬P → c2 env tp = .ok (decide Q) tp) : orT c c2 env tp = .ok (decide (P ∨ Q)) tp := by
  unfold orT; rw [h]; simp only [RE.bind_ok]
  by_cases q : P
  · rw [decide_eq_true q, if_pos rfl]; simp [q]
  · rw [decide_eq_false q, if_neg (by decide), h2 q]; simp [q]
theorem ev_notE (h : m env tp = .ok (eB (decide P)) t1') : notE m env tp = .ok (eB (decide (¬P))) t1' := by
  unfold notE; rw [h]; simp only [RE.bind_ok]; by_cases q : P <;> simp [q, isB]
theorem ev_andE (h : ma env tp = .ok (eB (decide P)) tp) (h2 : P → mb env tp = .ok (eB (decide Q)) tp) : andE ma mb env tp = .ok (eB (decide (P ∧ Q))) tp := by
  unfold andE; rw [h]; simp only [RE.bind_ok]
  by_cases q : P
  · rw [decide_eq_true q]; rw [h2 q]; simp [q]
  · rw [decide_eq_false q]; simp [q]
theorem ev_ifE {x y : α} (h : c env tp = .ok (decide P) t1') (hp : P → ma env t1' = .ok (e x) t1') (hn : ¬P → mb env t1' = .ok (e y) t1') : ifE c ma mb env tp = .ok (e (if P then x else y)) t1' := by
  unfold ifE; rw [h]; simp only [RE.bind_ok]
  by_cases q : P
  · rw [decide_eq_true q, if_pos rfl, hp q, if_pos q]
  · rw [decide_eq_false q, if_neg (by decide), hn q, if_neg q]
theorem ev_decB (b : Bool) (h : m env tp = .ok (eB b) t1') : m env tp = .ok (eB (decide (b = true))) t1' := by
  rw [h]; cases b <;> rfl
theorem ev_add {x y : Nat} (ha : ma env tp = .ok (eN x) t1') (hb : mb env t1' = .ok (eN y) t2') : binE addD ma mb env tp = .ok (eN (x + y)) t2' :=
  (ev_bin ha hb rfl).trans (by simp)
theorem ev_sub {x y : Nat} (h : y ≤ x) (ha : ma env tp = .ok (eN x) t1') (hb : mb env t1' = .ok (eN y) t2') : binE subD ma mb env tp = .ok (eN (x - y)) t2' :=
  (ev_bin ha hb rfl).trans (by show RE.ok (D.int ((x : Int) - (y : Int))) t2' = RE.ok (D.int ((x - y : Nat) : Int)) t2'; rw [Int.ofNat_sub h])
theorem ev_mul {x y : Nat} (h : cMul x y = true) (ha : ma env tp = .ok (eN x) t1') (hb : mb env t1' = .ok (eN y) t2') : binE mulD ma mb env tp = .ok (eN (x * y)) t2' :=
  (ev_bin ha hb (by unfold mulD; simp only; rw [if_pos h])).trans (by simp)
theorem ev_fdiv {x y : Nat} (h : cDiv y = true) (ha : ma env tp = .ok (eN x) t1') (hb : mb env t1' = .ok (eN y) t2') : binE fdivD ma mb env tp = .ok (eN (x / y)) t2' :=
  (ev_bin ha hb (by unfold fdivD; simp only; rw [if_pos h])).trans (by simp)
theorem ev_lt {x y : Nat} (ha : ma env tp = .ok (eN x) t1') (hb : mb env t1' = .ok (eN y) t2') : binE ltD ma mb env tp = .ok (eB (decide (x < y))) t2' :=
  (ev_bin ha hb rfl).trans (by simp)
theorem ev_gt {x y : Nat} (ha : ma env tp = .ok (eN x) t1') (hb : mb env t1' = .ok (eN y) t2') : binE gtD ma mb env tp = .ok (eB (decide (x > y))) t2' :=
  (ev_bin ha hb rfl).trans (by simp)
theorem ev_ge {x y : Nat} (ha : ma env tp = .ok (eN x) t1') (hb : mb env t1' = .ok (eN y) t2') : binE geD ma mb env tp = .ok (eB (decide (x ≥ y))) t2' :=
  (ev_bin ha hb rfl).trans (by simp)
theorem ev_negZ {x : Int} (ha : ma env tp = .ok (eZ x) t1') : unE negD ma env tp = .ok (eZ (-x)) t1' := ev_un ha rfl
theorem ev_chLeLe {x y z : Nat} (ha : ma env tp = .ok (eN x) tp) (hb : mb env tp = .ok (eN y) tp) (hc : mc env tp = .ok (eN z) tp) : chainE leD leD ma mb mc env tp = .ok (eB (decide (x ≤ y ∧ y ≤ z))) tp := by
  unfold chainE; rw [ha]; simp only [RE.bind_ok]; rw [hb]; simp only [RE.bind_ok]
  by_cases q : x ≤ y
  · rw [show leD (eN x) (eN y) = some (.bl true) from by show some (D.bl (decide ((x : Int) ≤ y))) = _; rw [decide_eq_true (by omega)]]
    simp only; rw [hc]; simp only [RE.bind_ok]
    show RE.of (some (D.bl (decide ((y : Int) ≤ z)))) tp = _
    simp [q]
  · rw [show leD (eN x) (eN y) = some (.bl false) from by show some (D.bl (decide ((x : Int) ≤ y))) = _; rw [decide_eq_false (by omega)]]
    simp [q]
section
variable [DecidableEq α] {k : Nat}
theorem ev_eq {x y : α} (h : EqE k e) (hk : Nat.ble k 60 = true) (ha : ma env tp = .ok (e x) t1') (hb : mb env t1' = .ok (e y) t2') : binE eqD ma mb env tp = .ok (eB (decide (x = y))) t2' := ev_bin ha hb (eqD_E h (Nat.le_of_ble_eq_true hk) x y)
theorem ev_ne {x y : α} (h : EqE k e) (hk : Nat.ble k 60 = true) (ha : ma env tp = .ok (e x) t1') (hb : mb env t1' = .ok (e y) t2') : binE neD ma mb env tp = .ok (eB (decide (x ≠ y))) t2' := ev_bin ha hb (neD_E h (Nat.le_of_ble_eq_true hk) x y)
theorem ev_inT {x : α} {xs : List α} (h : EqE k e) (hk : Nat.ble k 59 = true) (ha : ma env tp = .ok (e x) t1') (hb : mb env t1' = .ok (eT e xs) t2') : binE inD ma mb env tp = .ok (eB (decide (x ∈ xs))) t2' := ev_bin ha hb (inD_T h (Nat.le_of_ble_eq_true hk) x xs)
theorem ev_ninL {x : α} {xs : List α} (h : EqE k e) (hk : Nat.ble k 59 = true) (ha : ma env tp = .ok (e x) t1') (hb : mb env t1' = .ok (eL e xs) t2') : binE notInD ma mb env tp = .ok (eB (decide (x ∉ xs))) t2' := ev_bin ha hb (notInD_L h (Nat.le_of_ble_eq_true hk) x xs)
end
theorem isNon_O {e : α → D} (n : ∀ x, isNoneD (e x) .non = some (.bl false)) (x : Option α) : isNoneD (eO e x) .non = some (.bl (decide (x = none))) := by
  cases x with
  | none => rfl
  | some x => refine (n x).trans ?_; simp
theorem isNotNon_O {e : α → D} (n : ∀ x, isNotNoneD (e x) .non = some (.bl true)) (x : Option α) : isNotNoneD (eO e x) .non = some (.bl (decide (x ≠ none))) := by
  cases x with
  | none => rfl
  | some x => refine (n x).trans ?_; simp
theorem ev_isNon {x : Option α} (n : ∀ x, isNoneD (e x) .non = some (.bl false)) (ha : ma env tp = .ok (eO e x) t1') (hb : mb env t1' = .ok .non t2') : binE isNoneD ma mb env tp = .ok (eB (decide (x = none))) t2' := ev_bin ha hb (isNon_O n x)
theorem ev_isNotNon {x : Option α} (n : ∀ x, isNotNoneD (e x) .non = some (.bl true)) (ha : ma env tp = .ok (eO e x) t1') (hb : mb env t1' = .ok .non t2') : binE isNotNoneD ma mb env tp = .ok (eB (decide (x ≠ none))) t2' := ev_bin ha hb (isNotNon_O n x)
theorem ev_isNotB {x y : Bool} (ha : ma env tp = .ok (eB x) t1') (hb : mb env t1' = .ok (eB y) t2') : binE isNotNoneD ma mb env tp = .ok (eB (decide (x ≠ y))) t2' := ev_bin ha hb (by cases x <;> cases y <;> rfl)
theorem ev_get {x : Option α} [Inhabited α] (h : x ≠ none) (ha : m env tp = .ok (eO e x) t1') : m env tp = .ok (e (x.getD default)) t1' := by
  cases x with
  | none => exact (h rfl).elim
  | some x => exact ha
theorem get!_map [Inhabited α] {xs : List α} {i : Nat} (h : i < xs.length) : atI (xs.map e) (i : Int) = some (e xs[i]!) := by
  rw [atI_nat', List.getElem?_map, List.getElem?_eq_getElem h, getElem!_pos xs i h]; rfl
theorem ev_ixL [Inhabited α] {xs : List α} {i : Nat} (h : i < xs.length) (ha : ma env tp = .ok (eL e xs) t1') (hb : mb env t1' = .ok (eN i) t2') : binE ixD ma mb env tp = .ok (e xs[i]!) t2' := ev_bin ha hb (get!_map h)
theorem ev_ixT [Inhabited α] {xs : List α} {i : Nat} (h : i < xs.length) (ha : ma env tp = .ok (eT e xs) t1') (hb : mb env t1' = .ok (eN i) t2') : binE ixD ma mb env tp = .ok (e xs[i]!) t2' := ev_bin ha hb (get!_map h)
theorem get!_row {r : Row} {i : Nat} (hl : r.length ≤ 1000000) (h : i < r.length) : ixD (eR r) (eN i) = some (eG r[i]!) := by
  show (if (rowS r).length ≤ sizeLine then (atI (rowS r).cps.toList (i : Int)).map (fun c => D.str ⟨#[c]⟩) else none) = _
  rw [rowS_len, if_pos (small_line hl), row_toList, atI_nat', List.getElem?_map, List.getElem?_eq_getElem h, getElem!_pos r i h]; rfl
theorem ev_ixR {r : Row} {i : Nat} (h : r.length ≤ 1000000 ∧ i < r.length) (ha : ma env tp = .ok (eR r) t1') (hb : mb env t1' = .ok (eN i) t2') : binE ixD ma mb env tp = .ok (eG r[i]!) t2' := ev_bin ha hb (get!_row h.1 h.2)
theorem ev_snd {x : α × β} (ha : ma env tp = .ok (eP e e1 x) t1') (hb : mb env t1' = .ok (.int 1) t2') : binE ixD ma mb env tp = .ok (e1 x.2) t2' := ev_bin ha hb rfl
theorem ev_lenL {xs : List α} (h : m env tp = .ok (eL e xs) t1') : callB lenD (consA m nilA) env tp = .ok (eN xs.length) t1' :=
  ev_callB (ev_cons h ev_nil) (by show some (D.int ((xs.map e).length : Int)) = _; rw [List.length_map])
theorem ev_lenT {xs : List α} (h : m env tp = .ok (eT e xs) t1') : callB lenD (consA m nilA) env tp = .ok (eN xs.length) t1' :=
  ev_callB (ev_cons h ev_nil) (by show some (D.int ((xs.map e).length : Int)) = _; rw [List.length_map])
theorem ev_lenR {r : Row} (hl : r.length ≤ 1000000) (h : m env tp = .ok (eR r) t1') : callB lenD (consA m nilA) env tp = .ok (eN r.length) t1' :=
  ev_callB (ev_cons h ev_nil) (by show (if (rowS r).length ≤ sizeLine then some (D.int ((rowS r).length : Int)) else none) = _; rw [rowS_len, if_pos (small_line hl)])
theorem ev_tupleL {xs : List α} (h : m env tp = .ok (eL e xs) t1') : callB tupleD (consA m nilA) env tp = .ok (eT e xs) t1' := ev_callB (ev_cons h ev_nil) rfl
theorem cut_toL {α : Type} (xs : List α) (k : Nat) : cutD xs none (some (k : Int)) = xs.take k := by
  unfold cutD
  rw [HT.sIx_none, HT.sIx_nat, List.drop_zero, Nat.sub_zero]
  by_cases h : k ≤ xs.length
  · rw [Nat.min_eq_left h]
  · rw [Nat.min_eq_right (by omega), List.take_of_length_le (by omega), List.take_of_length_le (by omega)]
theorem cut_fromL {α : Type} (xs : List α) (k : Nat) : cutD xs (some (k : Int)) none = xs.drop k := by
  unfold cutD
  rw [HT.sIx_none, HT.sIx_nat]
  by_cases h : k ≤ xs.length
  · rw [Nat.min_eq_left h, List.take_of_length_le (by rw [List.length_drop]; omega)]
  · rw [Nat.min_eq_right (by omega), List.drop_of_length_le (by omega), List.drop_of_length_le (by omega)]; simp
theorem ev_optN : optI none env tp = .ok none tp := rfl
theorem ev_optS {i : Int} (h : m env tp = .ok (.int i) t1') : optI (some m) env tp = .ok (some i) t1' := by
  unfold optI; simp only; rw [h]; rfl
theorem ev_sl {a z : D} {ml mh : SE (Option Int)} {lo hi : Option Int} (ha : m env tp = .ok a t1') (hl : ml env t1' = .ok lo t2') (hh : mh env t2' = .ok hi t3') (h : sliceD a lo hi = some z) : sliceE m ml mh env tp = .ok z t3' := by
  unfold sliceE; rw [ha]; simp only [RE.bind_ok]; rw [hl]; simp only [RE.bind_ok]; rw [hh]; simp only [RE.bind_ok]; rw [h]; rfl
theorem ev_toL {xs : List α} {k : Nat} (ha : m env tp = .ok (eL e xs) t1') (hh : mb env t1' = .ok (eN k) t2') : sliceE m (optI none) (optI (some mb)) env tp = .ok (eL e (xs.take k)) t2' :=
  ev_sl ha ev_optN (ev_optS hh) (by show some (D.lst (cutD (xs.map e) none (some (k : Int)))) = _; rw [cut_toL, ← List.map_take])
theorem ev_fromL {xs : List α} {k : Nat} (ha : m env tp = .ok (eL e xs) t1') (hh : mb env t1' = .ok (eN k) t2') : sliceE m (optI (some mb)) (optI none) env tp = .ok (eL e (xs.drop k)) t2' :=
  ev_sl ha (ev_optS hh) ev_optN (by show some (D.lst (cutD (xs.map e) (some (k : Int)) none)) = _; rw [cut_fromL, ← List.map_drop])
theorem ev_revL {xs : List α} (ha : m env tp = .ok (eL e xs) t1') : revE m env tp = .ok (eL e xs.reverse) t1' := by
  unfold revE; rw [ha]; simp only [RE.bind_ok]
  show RE.of (some (D.lst (xs.map e).reverse)) t1' = _
  rw [← List.map_reverse]; rfl
end
end T
set_option maxHeartbeats 1000000
namespace T
open PySem L2 G
theorem kb_int_int : kitB "int" "int" = some true := by decide +kernel
theorem kb_int_bool : kitB "int" "bool" = some false := by decide +kernel
theorem kb_str_str : kitB "str" "str" = some true := by decide +kernel
theorem kb_tuple_tuple : kitB "tuple" "tuple" = some true := by decide +kernel
theorem sub_row (r : Row) (b : Bool) (i : Nat) : Builtin.Str.subAt (rowS r) (rowS [b]) i = decide (r[i]? = some b) := by
  rw [StrLaws.subAt_eq, row_toList, row_toList, rowS_len]
  show (List.take 1 (List.drop i (r.map sg)) == [sg b]) = _
  cases h : r[i]? with
  | none =>
    rw [List.drop_of_length_le (by rw [List.length_map]; exact List.getElem?_eq_none_iff.mp h)]
    cases b <;> rfl
  | some c =>
    have hi : i < r.length := (List.getElem?_eq_some_iff.mp h).1
    have e : r[i] = c := (List.getElem?_eq_some_iff.mp h).2
    rw [List.drop_eq_getElem_cons (by rw [List.length_map]; exact hi), List.getElem_map, e]
    show ([sg c] == [sg b]) = _
    cases b <;> cases c <;> decide
theorem occ_row (r : Row) (b : Bool) (limit : Nat) : ∀ (n a : Nat) (st : Array Nat × Nat), st.2 ≤ a → st.1.size ≤ a → r.length < limit → a + n = r.length + 1 → (forIn (List.range' a n) st (StrLaws.occBody (rowS r) (rowS [b]) (rowS r).length limit)).run.fst.size = st.1.size + (r.drop a).count b
  | 0, a, st, h1, h2, h3, h4 => by
    rw [List.drop_of_length_le (by omega)]
    rfl
  | n + 1, a, st, h1, h2, h3, h4 => by
    rw [List.range'_succ, List.forIn_cons]
    by_cases c : ((st.1.size < limit ∧ st.2 ≤ a) ∧ a + 1 ≤ r.length) ∧ decide (r[a]? = some b) = true
    · have hb : StrLaws.occBody (rowS r) (rowS [b]) (rowS r).length limit a st = pure (ForInStep.yield (st.1.push a, a + 1)) := by
        unfold StrLaws.occBody
        rw [sub_row, rowS_len, rowS_len]
        exact if_pos c
      rw [hb]
      have hi : a < r.length := c.1.2
      have e : r[a]? = some b := of_decide_eq_true c.2
      have e' : r[a] = b := (List.getElem?_eq_some_iff.mp e).2
      have ih := occ_row r b limit n (a + 1) (st.1.push a, a + 1) (Nat.le_refl _) (by simp; omega) h3 (by omega)
      refine Eq.trans ?_ (ih.trans ?_)
      · rfl
      · rw [List.drop_eq_getElem_cons hi, e', List.count_cons_self]
        simp; omega
    · have hb : StrLaws.occBody (rowS r) (rowS [b]) (rowS r).length limit a st = pure (ForInStep.yield (st.1, st.2)) := by
        unfold StrLaws.occBody
        rw [sub_row, rowS_len, rowS_len]
        exact if_neg c
      rw [hb]
      have ih := occ_row r b limit n (a + 1) st (by omega) (by omega) h3 (by omega)
      refine Eq.trans ?_ (ih.trans ?_)
      · rfl
      · by_cases hi : a < r.length
        · have ne : r[a] ≠ b := fun e => c ⟨⟨⟨by omega, h1⟩, hi⟩, decide_eq_true (by rw [List.getElem?_eq_getElem hi, e])⟩
          rw [List.drop_eq_getElem_cons hi, List.count_cons_of_ne ne]
        · rw [List.drop_of_length_le (by omega), List.drop_of_length_le (by omega)]
theorem count_row (r : Row) (b : Bool) : Txt.count (rowS r) (rowS [b]) = (r.count b : Int) := by
  show ((Builtin.Str.occurrences (rowS r) (rowS [b]) 0 (rowS r).length ((rowS r).length + 1)).length : Int) = _
  rw [StrLaws.occ_eq, Array.length_toList]
  have := occ_row r b ((rowS r).length + 1) ((rowS r).length + 1 - 0) 0 (#[], 0) (Nat.le_refl _) (Nat.le_refl _) (by rw [rowS_len]; omega) (by rw [rowS_len]; omega)
  rw [this]
  simp
section
variable {α β γ δ : Type} {e : α → D} {e1 : β → D} {e2 : γ → D} {env : DEnv} {tp t1' t2' t3' t4' : List D} {m ma mb mc : SE D} {mi mi1 : SE (List D)} {ms : SE (List D)} {c c1 : SE Bool}
theorem ev_isi {d : D} {a n : String} {b : Bool} (ha : ma env tp = .ok d t1') (ht : tyN d = some a) (hk : kitB a n = some b) : callB isiD (consA ma (consA (cE (.ty n)) nilA)) env tp = .ok (eB b) t1' := by
  refine ev_callB (ds := [d, .ty n]) (ev_cons ha (ev_cons (m := cE (.ty n)) rfl ev_nil)) ?_
  show (tyN d).bind (fun t => (kitB t n).map D.bl) = some (.bl b)
  rw [ht]
  show (kitB a n).map D.bl = some (.bl b)
  rw [hk]; rfl
theorem it_L {xs : List α} (h : m env tp = .ok (eL e xs) t1') : seqI m env tp = .ok (xs.map e) t1' := by unfold seqI; rw [h]; rfl
theorem it_T {xs : List α} (h : m env tp = .ok (eT e xs) t1') : seqI m env tp = .ok (xs.map e) t1' := by unfold seqI; rw [h]; rfl
theorem row_items (r : Row) : seqD (eR r) = some (r.map eG) := by
  show some ((rowS r).cps.toList.map fun c => D.str ⟨#[c]⟩) = _
  rw [row_toList, List.map_map]; rfl
theorem it_R {r : Row} (h : m env tp = .ok (eR r) t1') : seqI m env tp = .ok (r.map eG) t1' := by
  unfold seqI; rw [h]; simp only [RE.bind_ok]; rw [row_items]; rfl
theorem rangeL_N (n : Nat) : rangeL 0 (n : Int) = (List.range n).map eN := by
  unfold rangeL
  rw [Int.sub_zero, Int.toNat_natCast]
  exact List.map_congr_left fun a _ => by rw [Int.zero_add]
theorem rangeL_N2 (a n : Nat) : rangeL (a : Int) (n : Int) = (List.range' a (n - a)).map eN := by
  unfold rangeL
  have : ((n : Int) - (a : Int)).toNat = n - a := by omega
  rw [this, List.range'_eq_map_range, List.map_map]
  exact List.map_congr_left fun b _ => by simp
theorem cRg_nat {n : Nat} (h : n ≤ 1073741824) : cRg (n : Int) = true := by
  unfold cRg
  have h1 : -(2 ^ 62) ≤ (n : Int) := by omega
  have h2 : (n : Int) < 2 ^ 62 := by omega
  rw [decide_eq_true h1, decide_eq_true h2]; rfl
theorem range1D_i {i : Int} (h : cRg i = true) : range1D [.int i] = some (rangeL 0 i) := by
  show (if cRg i then some (rangeL 0 i) else none) = _
  rw [if_pos h]
theorem range2D_i {i j : Int} (h : cRg i = true) (h2 : cRg j = true) : range2D [.int i, .int j] = some (rangeL i j) := by
  show (if (cRg i && cRg j) = true then some (rangeL i j) else none) = _
  rw [h, h2]; rfl
theorem range1D_N {n : Nat} (hn : n ≤ 1073741824) : range1D [eN n] = some ((List.range n).map eN) := by
  rw [← rangeL_N]; exact range1D_i (cRg_nat hn)
theorem range2D_N {a n : Nat} (ha : a ≤ 1073741824) (hn : n ≤ 1073741824) : range2D [eN a, eN n] = some ((List.range' a (n - a)).map eN) := by
  rw [← rangeL_N2]; exact range2D_i (cRg_nat ha) (cRg_nat hn)
theorem ev_rangeI {f : List D → Option (List D)} {ds its : List D} (h : ms env tp = .ok ds t1') (hf : f ds = some its) : rangeI f ms env tp = .ok its t1' := by
  unfold rangeI; rw [h]; simp only [RE.bind_ok]; rw [hf]; rfl
theorem it_range {n : Nat} (hn : n ≤ 1073741824) (h : m env tp = .ok (eN n) t1') : rangeI range1D (consA m nilA) env tp = .ok ((List.range n).map eN) t1' :=
  ev_rangeI (ev_cons h ev_nil) (range1D_N hn)
theorem it_range2 {a n : Nat} (hn : a ≤ 1073741824 ∧ n ≤ 1073741824) (ha : ma env tp = .ok (eN a) t1') (h : m env t1' = .ok (eN n) t2') : rangeI range2D (consA ma (consA m nilA)) env tp = .ok ((List.range' a (n - a)).map eN) t2' :=
  ev_rangeI (ev_cons ha (ev_cons h ev_nil)) (range2D_N hn.1 hn.2)
/-- the pairs of places and things -/
def enumP {α : Type} (xs : List α) : List (Nat × α) := xs.mapIdx fun i x => (i, x)
theorem numD_map (xs : List α) : numD (xs.map e) = (enumP xs).map (eP eN e) := by
  unfold numD enumP
  refine List.ext_getElem? fun i => ?_
  rw [List.getElem?_mapIdx, List.getElem?_map, List.getElem?_map, List.getElem?_mapIdx]
  cases xs[i]? <;> rfl
theorem it_enum {xs : List α} (h : seqD d = some (xs.map e)) (hm : m env tp = .ok d t1') : rangeI enumD (consA m nilA) env tp = .ok ((enumP xs).map (eP eN e)) t1' := by
  unfold rangeI; rw [ev_cons hm ev_nil]; simp only [RE.bind_ok]
  show RE.of ((seqD d).map numD) t1' = _
  rw [h]
  show RE.of (some (numD (xs.map e))) t1' = _
  rw [numD_map]; rfl
theorem it_enumL {xs : List α} (hm : m env tp = .ok (eL e xs) t1') : rangeI enumD (consA m nilA) env tp = .ok ((enumP xs).map (eP eN e)) t1' := it_enum rfl hm
theorem it_enumT {xs : List α} (hm : m env tp = .ok (eT e xs) t1') : rangeI enumD (consA m nilA) env tp = .ok ((enumP xs).map (eP eN e)) t1' := it_enum rfl hm
theorem it_enumR {xs : Row} (hm : m env tp = .ok (eR xs) t1') : rangeI enumD (consA m nilA) env tp = .ok ((enumP xs).map (eP eN eG)) t1' := it_enum (row_items xs) hm
theorem zipL_map : ∀ (xs : List α) (ys : List β), zipL (xs.map e) (ys.map e1) = (xs.zip ys).map (eP e e1)
  | [], _ => by cases ‹List β› <;> rfl
  | _ :: _, [] => rfl
  | x :: xs, y :: ys => by
    show D.tup [e x, e1 y] :: zipL (xs.map e) (ys.map e1) = _
    rw [zipL_map xs ys]; rfl
theorem compL_mapP {f : D → List D → RE (Option D)} {g : α → β} {P : α → Prop} [DecidablePred P] : ∀ {xs : List α}, (∀ x ∈ xs, f (e x) tp = .ok (if P x then some (e1 (g x)) else none) tp) → compL f (xs.map e) tp = .ok (((xs.filter fun x => decide (P x)).map g).map e1) tp
  | [], _ => rfl
  | x :: xs, h => by
    rw [List.map_cons]
    unfold compL
    rw [h x List.mem_cons_self]
    simp only
    rw [compL_mapP fun y hy => h y (List.mem_cons_of_mem _ hy)]
    by_cases q : P x <;> simp [q]
theorem ev_comp {vs is : List Nat} {tgt : D → Option (List D)} {xs : List α} {ds : α → List D} {g : α → β} {P : α → Prop} [DecidablePred P] (hi : mi env tp = .ok (xs.map e) t1') (hl : xs.length ≤ 1000000) (ht : ∀ x, tgt (e x) = some (ds x))
    (hc : ∀ x ∈ xs, c (setAll (wipeE env vs) is (ds x)) t1' = .ok (decide (P x)) t1') (hm : ∀ x ∈ xs, P x → m (setAll (wipeE env vs) is (ds x)) t1' = .ok (e1 (g x)) t1') :
    compE mi vs tgt is c m env tp = .ok (eL e1 ((xs.filter fun x => decide (P x)).map g)) t1' := by
  unfold compE
  rw [hi]
  simp only [RE.bind_ok]
  rw [if_pos (small_line (by rw [List.length_map]; exact hl)), compL_mapP (e := e) (e1 := e1) (g := g) (P := P)]
  intro x hx
  unfold compTurn1
  rw [ht]
  simp only
  rw [hc x hx]
  simp only [RE.bind_ok]
  by_cases q : P x
  · rw [if_pos (decide_eq_true q), hm x hx q, if_pos q]; rfl
  · rw [if_neg (by simp [q]), if_neg q]
theorem filter_tt {α : Type} (xs : List α) : (xs.filter fun _ => decide True) = xs := List.filter_eq_self.mpr fun _ _ => rfl
theorem ev_compY {vs is : List Nat} {tgt : D → Option (List D)} {xs : List α} {ds : α → List D} {g : α → β} (hi : mi env tp = .ok (xs.map e) t1') (hl : xs.length ≤ 1000000) (ht : ∀ x, tgt (e x) = some (ds x))
    (hm : ∀ x ∈ xs, m (setAll (wipeE env vs) is (ds x)) t1' = .ok (e1 (g x)) t1') :
    compE mi vs tgt is yesT m env tp = .ok (eL e1 (xs.map g)) t1' := by
  have := ev_comp (c := yesT) (P := fun _ => True) (g := g) (e1 := e1) (vs := vs) hi hl ht (fun x hx => rfl) (fun x hx _ => hm x hx)
  rw [this, filter_tt]
theorem compLL_map {f : D → List D → RE (List D)} {g : α → List β} : ∀ {xs : List α}, (∀ x ∈ xs, f (e x) tp = .ok ((g x).map e1) tp) → compLL f (xs.map e) tp = .ok ((xs.flatMap g).map e1) tp
  | [], _ => rfl
  | x :: xs, h => by
    rw [List.map_cons]
    unfold compLL
    rw [h x List.mem_cons_self]
    simp only
    rw [compLL_map fun y hy => h y (List.mem_cons_of_mem _ hy)]
    simp
/-- two clauses; no test at the first -/
theorem ev_comp2 {vs is vs1 is1 : List Nat} {tgt tgt1 : D → Option (List D)} {xs : List α} {ds : α → List D} {ys : α → List β} {ds1 : β → List D} {g : α → β → γ} {P : α → β → Prop} [∀ x, DecidablePred (P x)] (hi : mi env tp = .ok (xs.map e) t1') (ht : ∀ x, tgt (e x) = some (ds x))
    (hi1 : ∀ x ∈ xs, mi1 (setAll (wipeE env vs) is (ds x)) t1' = .ok ((ys x).map e1) t1') (ht1 : ∀ y, tgt1 (e1 y) = some (ds1 y))
    (hc : ∀ x ∈ xs, ∀ y ∈ ys x, c1 (setAll (wipeE (setAll (wipeE env vs) is (ds x)) vs1) is1 (ds1 y)) t1' = .ok (decide (P x y)) t1')
    (hm : ∀ x ∈ xs, ∀ y ∈ ys x, P x y → m (setAll (wipeE (setAll (wipeE env vs) is (ds x)) vs1) is1 (ds1 y)) t1' = .ok (e2 (g x y)) t1')
    (hl : (xs.flatMap fun x => ((ys x).filter fun y => decide (P x y)).map (g x)).length ≤ 1000000) :
    comp2E mi vs tgt is yesT mi1 vs1 tgt1 is1 c1 m env tp = .ok (eL e2 (xs.flatMap fun x => ((ys x).filter fun y => decide (P x y)).map (g x))) t1' := by
  unfold comp2E
  rw [hi]
  simp only [RE.bind_ok]
  rw [compLL_map (e := e) (e1 := e2) (g := fun x => ((ys x).filter fun y => decide (P x y)).map (g x))]
  · simp only
    rw [if_pos (small_line (by rw [List.length_map]; exact hl))]
  · intro x hx
    unfold compTurn2
    rw [ht]
    simp only
    unfold yesT
    simp only [RE.bind_ok, if_true]
    rw [hi1 x hx]
    simp only [RE.bind_ok]
    rw [compL_mapP (e := e1) (e1 := e2) (g := g x) (P := P x)]
    intro y hy
    unfold compTurn1
    rw [ht1]
    simp only
    rw [hc x hx y hy]
    simp only [RE.bind_ok]
    by_cases q : P x y
    · rw [if_pos (decide_eq_true q), hm x hx y hy q, if_pos q]; rfl
    · rw [if_neg (by simp [q]), if_neg q]
theorem ev_comp2Y {vs is vs1 is1 : List Nat} {tgt tgt1 : D → Option (List D)} {xs : List α} {ds : α → List D} {ys : α → List β} {ds1 : β → List D} {g : α → β → γ} (hi : mi env tp = .ok (xs.map e) t1') (ht : ∀ x, tgt (e x) = some (ds x))
    (hi1 : ∀ x ∈ xs, mi1 (setAll (wipeE env vs) is (ds x)) t1' = .ok ((ys x).map e1) t1') (ht1 : ∀ y, tgt1 (e1 y) = some (ds1 y))
    (hm : ∀ x ∈ xs, ∀ y ∈ ys x, m (setAll (wipeE (setAll (wipeE env vs) is (ds x)) vs1) is1 (ds1 y)) t1' = .ok (e2 (g x y)) t1')
    (hl : (xs.flatMap fun x => (ys x).map (g x)).length ≤ 1000000) :
    comp2E mi vs tgt is yesT mi1 vs1 tgt1 is1 yesT m env tp = .ok (eL e2 (xs.flatMap fun x => (ys x).map (g x))) t1' := by
  have := ev_comp2 (c1 := yesT) (P := fun _ _ => True) (g := g) (e2 := e2) (vs := vs) (vs1 := vs1) hi ht hi1 ht1 (fun x hx y hy => rfl) (fun x hx y hy _ => hm x hx y hy) (by simp only [filter_tt]; exact hl)
  rw [this]
  simp only [filter_tt]
theorem unB_map (bs : List Bool) : unB (bs.map eB) = some bs := by
  induction bs with
  | nil => rfl
  | cons b bs ih => show (unB (bs.map eB)).map (b :: ·) = _; rw [ih]; rfl
theorem unI_mapN (ns : List Nat) : unI (ns.map eN) = some (ns.map fun n : Nat => (n : Int)) := by
  induction ns with
  | nil => rfl
  | cons b bs ih => show (unI (bs.map eN)).map ((b : Int) :: ·) = _; rw [ih]; rfl
theorem unS_mapR (ns : List Row) : unS (ns.map eR) = some (ns.map rowS) := by
  induction ns with
  | nil => rfl
  | cons b bs ih => show (unS (bs.map eR)).map (rowS b :: ·) = _; rw [ih]; rfl
theorem ev_allY {xs : List α} {R : α → Prop} [DecidablePred R] {dq : Decidable (∀ x ∈ xs, R x)} (h : m env tp = .ok (eL eB (xs.map fun x => decide (R x))) t1') : callB allD (consA m nilA) env tp = .ok (eB (@decide _ dq)) t1' :=
  ev_callB (ev_cons h ev_nil) (by
    show (unB ((xs.map fun x => decide (R x)).map eB)).map (fun bs => D.bl (bs.all id)) = _
    rw [unB_map]
    show some (D.bl ((xs.map fun x => decide (R x)).all id)) = _
    congr 2
    rw [List.all_map]
    by_cases q : ∀ x ∈ xs, R x
    · rw [decide_eq_true q]; exact List.all_eq_true.mpr fun x hx => by simp [q x hx]
    · rw [decide_eq_false q]
      cases z : xs.all (id ∘ fun x => decide (R x)) with
      | false => rfl
      | true => exact (q fun x hx => by have := List.all_eq_true.mp z x hx; simpa using this).elim)
theorem ev_anyY {xs : List α} {R : α → Prop} [DecidablePred R] {dq : Decidable (∃ x ∈ xs, R x)} (h : m env tp = .ok (eL eB (xs.map fun x => decide (R x))) t1') : callB anyD (consA m nilA) env tp = .ok (eB (@decide _ dq)) t1' :=
  ev_callB (ev_cons h ev_nil) (by
    show (unB ((xs.map fun x => decide (R x)).map eB)).map (fun bs => D.bl (bs.any id)) = _
    rw [unB_map]
    show some (D.bl ((xs.map fun x => decide (R x)).any id)) = _
    congr 2
    rw [List.any_map]
    by_cases q : ∃ x ∈ xs, R x
    · rw [decide_eq_true q]
      obtain ⟨x, hx, r⟩ := q
      exact List.any_eq_true.mpr ⟨x, hx, by simp [r]⟩
    · rw [decide_eq_false q]
      refine List.any_eq_false.mpr fun x hx => ?_
      intro z
      exact q ⟨x, hx, by simpa using z⟩)
theorem cast_sum (ns : List Nat) : (ns.map fun n : Nat => (n : Int)).sum = (ns.sum : Int) := by
  induction ns with
  | nil => rfl
  | cons n ns ih => rw [List.map_cons, List.sum_cons, ih, List.sum_cons]; simp
theorem ev_sumL {xs : List Nat} (h : m env tp = .ok (eL eN xs) t1') : callB sum2D (consA m nilA) env tp = .ok (eN xs.sum) t1' :=
  ev_callB (ev_cons h ev_nil) (by
    show (unI (xs.map eN)).map (fun bs => D.int bs.sum) = _
    rw [unI_mapN]
    show some (D.int (xs.map fun n : Nat => (n : Int)).sum) = _
    rw [cast_sum])
def insN (x : Nat) : List Nat → List Nat
  | [] => [x]
  | y :: ys => if x ≤ y then x :: y :: ys else y :: insN x ys
def sortN : List Nat → List Nat
  | [] => []
  | x :: xs => insN x (sortN xs)
theorem insI_N (x : Nat) (ys : List Nat) : _root_.G.insI (x : Int) (ys.map fun n : Nat => (n : Int)) = (insN x ys).map fun n : Nat => (n : Int) := by
  induction ys with
  | nil => rfl
  | cons y ys ih =>
    rw [List.map_cons]
    unfold _root_.G.insI insN
    by_cases q : x ≤ y
    · rw [if_pos (by omega), if_pos q]; rfl
    · rw [if_neg (by omega), if_neg q, ih]; rfl
theorem sortI_N (xs : List Nat) : _root_.G.sortI (xs.map fun n : Nat => (n : Int)) = (sortN xs).map fun n : Nat => (n : Int) := by
  induction xs with
  | nil => rfl
  | cons x xs ih => rw [List.map_cons]; unfold _root_.G.sortI sortN; rw [ih, insI_N]
theorem insN_perm (x : Nat) (ys : List Nat) : (insN x ys).Perm (x :: ys) := by
  induction ys with
  | nil => exact .refl _
  | cons y ys ih =>
    unfold insN
    by_cases q : x ≤ y
    · rw [if_pos q]
    · rw [if_neg q]; exact (ih.cons y).trans (.swap x y ys)
theorem sortN_perm (xs : List Nat) : (sortN xs).Perm xs := by
  induction xs with
  | nil => exact .refl _
  | cons x xs ih => exact (insN_perm x _).trans (ih.cons x)
theorem insN_le (x : Nat) (ys : List Nat) (h : ys.Pairwise (· ≤ ·)) : (insN x ys).Pairwise (· ≤ ·) := by
  induction ys with
  | nil => exact List.pairwise_singleton _ _
  | cons y ys ih =>
    unfold insN
    have h' := List.pairwise_cons.mp h
    by_cases q : x ≤ y
    · rw [if_pos q]
      exact List.pairwise_cons.mpr ⟨fun z hz => (List.mem_cons.mp hz).elim (fun e => e ▸ q) (fun hz => Nat.le_trans q (h'.1 z hz)), h⟩
    · rw [if_neg q]
      refine List.pairwise_cons.mpr ⟨fun z hz => ?_, ih h'.2⟩
      rcases List.mem_cons.mp ((insN_perm x ys).mem_iff.mp hz) with rfl | hz
      · omega
      · exact h'.1 z hz
theorem sortN_le (xs : List Nat) : (sortN xs).Pairwise (· ≤ ·) := by
  induction xs with
  | nil => exact .nil
  | cons x xs ih => exact insN_le x _ ih
theorem sorted_unique : ∀ {xs ys : List Nat}, xs.Perm ys → xs.Pairwise (· ≤ ·) → ys.Pairwise (· ≤ ·) → xs = ys
  | xs, ys, p, h1, h2 => p.eq_of_pairwise (fun a b _ _ h1 h2 => Nat.le_antisymm h1 h2) h1 h2
theorem sortN_of_perm {xs ys : List Nat} (p : xs.Perm ys) (h : ys.Pairwise (· ≤ ·)) : sortN xs = ys := sorted_unique ((sortN_perm xs).trans p) (sortN_le xs) h
theorem ev_sortL {xs : List Nat} (h : m env tp = .ok (eL eN xs) t1') : callB sortD (consA m nilA) env tp = .ok (eL eN (sortN xs)) t1' :=
  ev_callB (ev_cons h ev_nil) (by
    show (unI (xs.map eN)).map (fun ns => D.lst ((_root_.G.sortI ns).map .int)) = _
    rw [unI_mapN]
    show some (D.lst ((_root_.G.sortI (xs.map fun n : Nat => (n : Int))).map .int)) = _
    rw [sortI_N, List.map_map]; rfl)
theorem ev_sortT {xs : List Nat} (h : m env tp = .ok (eT eN xs) t1') : callB sortD (consA m nilA) env tp = .ok (eL eN (sortN xs)) t1' :=
  ev_callB (ev_cons h ev_nil) (by
    show (unI (xs.map eN)).map (fun ns => D.lst ((_root_.G.sortI ns).map .int)) = _
    rw [unI_mapN]
    show some (D.lst ((_root_.G.sortI (xs.map fun n : Nat => (n : Int))).map .int)) = _
    rw [sortI_N, List.map_map]; rfl)
theorem rg1_i {k : List D → D} {i : Int} (hc : cRgOk 0 i = true) (h : m env tp = .ok (.int i) t1') : rg1E k m env tp = .ok (k (rangeL 0 i)) t1' := by
  unfold rg1E; rw [h]; simp only [RE.bind_ok]; rw [if_pos hc]
theorem rg2_i {k : List D → D} {i j : Int} (hc : cRgOk i j = true) (ha : ma env tp = .ok (.int i) t1') (h : m env t1' = .ok (.int j) t2') : rg2E k ma m env tp = .ok (k (rangeL i j)) t2' := by
  unfold rg2E; rw [ha]; simp only [RE.bind_ok]; rw [h]; simp only [RE.bind_ok]; rw [if_pos hc]
theorem cRgOk_i {i j : Int} (h1 : cRg i = true) (h2 : cRg j = true) (h3 : (j - i).toNat ≤ 16777216) : cRgOk i j = true := by
  unfold cRgOk; rw [h1, h2, decide_eq_true h3]; rfl
theorem cRg_zero : cRg 0 = true := by decide +kernel
theorem ev_rg1L {n : Nat} (hn : n ≤ 16777216) (h : m env tp = .ok (eN n) t1') : rg1E .lst m env tp = .ok (eL eN (List.range n)) t1' := by
  rw [rg1_i (cRgOk_i cRg_zero (cRg_nat (show n ≤ 1073741824 by omega)) (by omega)) h, rangeL_N]
theorem ev_rg2L {a n : Nat} (hn : a ≤ 16777216 ∧ n ≤ 16777216) (ha : ma env tp = .ok (eN a) t1') (h : m env t1' = .ok (eN n) t2') : rg2E .lst ma m env tp = .ok (eL eN (List.range' a (n - a))) t2' := by
  rw [rg2_i (cRgOk_i (cRg_nat (show a ≤ 1073741824 by omega)) (cRg_nat (show n ≤ 1073741824 by omega)) (by omega)) ha h, rangeL_N2]
theorem flatten_sing (bs : List Bool) : (bs.map fun b => [b]).flatten = bs := by
  induction bs with
  | nil => rfl
  | cons b bs ih => rw [List.map_cons, List.flatten_cons, ih]; rfl
theorem sum_lens (bs : List Row) : ((bs.map rowS).map (·.length)).sum = (bs.map (·.length)).sum := by
  rw [List.map_map]; congr 1; exact List.map_congr_left fun a _ => rowS_len a
theorem sum_ones {α : Type} (xs : List α) : (xs.map fun _ => 1).sum = xs.length := by
  induction xs with
  | nil => rfl
  | cons x xs ih => rw [List.map_cons, List.sum_cons, ih, List.length_cons]; omega
theorem join_R {d : D} {bs : List Row} (hd : itemsD d = some (bs.map eR)) (h : (bs.map (·.length)).sum ≤ 16777216) : joinD (.str "") d = some (eR bs.flatten) := by
  unfold joinD
  simp only
  rw [hd]
  simp only [Option.bind_some]
  rw [unS_mapR]
  simp only [Option.bind_some]
  have e : ("" : Str) = rowS [] := by decide +kernel
  rw [e, rowS_len, sum_lens, if_pos (by simpa using h), join_rows]
theorem ev_joinR {bs : List Row} (h : (bs.map (·.length)).sum ≤ 16777216) (hb : mb env tp = .ok (eL eR bs) t1') : methE isStrD joinD (cE (.str "")) mb env tp = .ok (eR bs.flatten) t1' :=
  ev_meth rfl rfl hb (join_R (d := eL eR bs) rfl h)
theorem ev_joinG {bs : List Bool} (h : bs.length ≤ 16777216) (hb : mb env tp = .ok (eL eG bs) t1') : methE isStrD joinD (cE (.str "")) mb env tp = .ok (eR bs) t1' := by
  have e : bs.map eG = (bs.map fun b => [b]).map eR := by rw [List.map_map]; rfl
  have := ev_joinR (bs := bs.map fun b => [b]) (by rw [List.map_map]; show (bs.map fun _ => 1).sum ≤ 16777216; rw [sum_ones]; exact h) (hb.trans (by show RE.ok (D.lst (bs.map eG)) t1' = _; rw [e]))
  rw [this, flatten_sing]
theorem ev_countG {r : Row} {b : Bool} (ha : ma env tp = .ok (eR r) t1') (hb : mb env t1' = .ok (eG b) t2') : methE isStrD countD ma mb env tp = .ok (eN (r.count b)) t2' :=
  ev_meth ha rfl hb (by show some (D.int (Txt.count (rowS r) (rowS [b]))) = _; rw [count_row])
end
end T
set_option maxHeartbeats 1000000
namespace T
open PySem L2 G
abbrev Wn := DEnv → List D → Prop
abbrev Wr := D → List D → Prop
/-- N behind it, R where it returns, B where it breaks, C where it goes on with the next turn -/
inductive WP (N : Wn) (R : Wr) (B C : Wn) : RS → Prop
  | nx {e : DEnv} {t : List D} : N e t → WP N R B C (.nx e t)
  | rt {d : D} {t : List D} : R d t → WP N R B C (.rt d t)
  | bk {e : DEnv} {t : List D} : B e t → WP N R B C (.bk e t)
  | ct {e : DEnv} {t : List D} : C e t → WP N R B C (.ct e t)
abbrev At (s : SS) (env : DEnv) (tp : List D) : RS := s env tp
def no : Wn := fun _ _ => False
section
variable {α β γ δ : Type} {e : α → D} {e1 : β → D} {env : DEnv} {tp t1' t2' : List D} {m ma mb mc : SE D} {mi : SE (List D)} {ms : SE (List D)} {c : SE Bool} {N : Wn} {R : Wr} {B C : Wn} {s s1 s2 : SS} {P : Prop} [Decidable P]
theorem wp_seq (h : WP (fun e t => WP N R B C (s2 e t)) R B C (s1 env tp)) : WP N R B C (seqS s1 s2 env tp) := by
  unfold seqS
  cases q : s1 env tp with
  | nx e t => rw [q] at h; cases h with | nx h => exact h
  | rt d t => rw [q] at h; cases h with | rt h => exact .rt h
  | bk e t => rw [q] at h; cases h with | bk h => exact .bk h
  | ct e t => rw [q] at h; cases h with | ct h => exact .ct h
  | exn a b t => rw [q] at h; cases h
  | stuck => rw [q] at h; cases h
theorem wp_skip (h : N env tp) : WP N R B C (skipS env tp) := .nx h
theorem wp_set {i : Nat} {d : D} (h : m env tp = .ok d t1') (hn : N (env.set i (some d)) t1') : WP N R B C (setS i m env tp) := by
  unfold setS; rw [h]; exact .nx hn
theorem wp_setF {i : Nat} {d : D} (h : m env tp = .ok d t1') (hi : decide (i < env.length) = true) (hn : N (env.set i (some d)) t1') : WP N R B C (setFS i m env tp) := by
  unfold setFS; rw [h]
  show WP N R B C (if i < env.length then .nx (env.set i (some d)) t1' else .stuck)
  rw [if_pos (of_decide_eq_true hi)]; exact .nx hn
theorem wp_ret {d : D} (h : m env tp = .ok d t1') (hr : R d t1') : WP N R B C (retS m env tp) := by
  unfold retS; rw [h]; exact .rt hr
theorem wp_drop {d : D} (h : m env tp = .ok d t1') (hn : N env t1') : WP N R B C (dropS m env tp) := by
  unfold dropS; rw [h]; exact .nx hn
theorem wp_if (h : c env tp = .ok (decide P) t1') (hp : P → WP N R B C (s1 env t1')) (hn : ¬P → WP N R B C (s2 env t1')) : WP N R B C (ifS c s1 s2 env tp) := by
  unfold ifS; rw [h]
  show WP N R B C (if decide P = true then s1 env t1' else s2 env t1')
  by_cases q : P
  · rw [if_pos (decide_eq_true q)]; exact hp q
  · rw [if_neg (by simp [q])]; exact hn q
theorem wp_ifJ (J : DEnv → List D → Prop) (h : c env tp = .ok (decide P) t1') (hp : P → WP J R B C (s1 env t1')) (hn : ¬P → WP J R B C (s2 env t1')) (hJ : ∀ e t, J e t → N e t) : WP N R B C (ifS c s1 s2 env tp) := by
  have key : ∀ r : RS, WP J R B C r → WP N R B C r := fun r h => by
    cases h with
    | nx h => exact .nx (hJ _ _ h)
    | rt h => exact .rt h
    | bk h => exact .bk h
    | ct h => exact .ct h
  exact key _ (wp_if h hp hn)
theorem ev_as {x y : α} (h : x = y) {e : α → D} {r : RE D} {t : List D} (p : r = .ok (e y) t) : r = .ok (e x) t := by rw [h]; exact p
theorem ev_tt (h : P) {t : List D} : (RE.ok (eB (decide P)) t : RE D) = .ok (.bl true) t := by rw [decide_eq_true h]
theorem ev_compI {vs is : List Nat} {tgt : D → Option (List D)} {xs : List α} {ds : α → List D} {P : α → Prop} [DecidablePred P] (hi : mi env tp = .ok (xs.map e) t1') (hl : xs.length ≤ 1000000) (ht : ∀ x, tgt (e x) = some (ds x))
    (hc : ∀ x ∈ xs, c (setAll (wipeE env vs) is (ds x)) t1' = .ok (decide (P x)) t1') (hm : ∀ x ∈ xs, P x → m (setAll (wipeE env vs) is (ds x)) t1' = .ok (e x) t1') :
    compE mi vs tgt is c m env tp = .ok (eL e (xs.filter fun x => decide (P x))) t1' := by
  have := ev_comp (g := fun x => x) (e1 := e) (vs := vs) hi hl ht hc hm
  rw [this]
  simp
theorem wp_app {i : Nat} {xs : List α} {x : α} (he : env[i]? = some (some (eL e xs))) (h : m env tp = .ok (e x) t1') (hl : xs.length < 1000000) (hn : N (env.set i (some (eL e (xs ++ [x])))) t1') : WP N R B C (appS i m env tp) := by
  unfold appS
  rw [he]
  simp only
  rw [h]
  show WP N R B C (if (xs.map e).length < sizeLine then .nx (env.set i (some (.lst (xs.map e ++ [e x])))) t1' else .stuck)
  rw [List.length_map, if_pos (by have := small_line (Nat.le_refl 1000000); omega)]
  rw [show xs.map e ++ [e x] = (xs ++ [x]).map e from by rw [List.map_append]; rfl]
  exact .nx hn
theorem wp_par {is : List Nat} {ds : List D} (h : ms env tp = .ok ds t1') (hi : is.all (fun i => decide (i < env.length)) = true) (hn : N (setAll env is ds) t1') : WP N R B C (parS is ms env tp) := by
  unfold parS; rw [h]
  show WP N R B C (if is.all (fun i => decide (i < env.length)) = true then .nx (setAll env is ds) t1' else .stuck)
  rw [if_pos hi]; exact .nx hn
theorem wp_augN {i : Nat} {x y : Nat} (he : env[i]? = some (some (eN x))) (h : m env tp = .ok (eN y) t1') (hn : N (env.set i (some (eN (x + y)))) t1') : WP N R B C (augS i addD m env tp) := by
  unfold augS
  rw [he]
  simp only
  rw [h]
  show WP N R B C (.nx (env.set i (some (.int ((x : Int) + (y : Int))))) t1')
  rw [← Int.natCast_add]; exact .nx hn
theorem WP.imp {N' : Wn} {R' : Wr} {B' C' : Wn} {r : RS} (h : WP N R B C r) (hn : ∀ e t, N e t → N' e t) (hr : ∀ d t, R d t → R' d t) (hb : ∀ e t, B e t → B' e t) (hc : ∀ e t, C e t → C' e t) : WP N' R' B' C' r := by
  cases h with
  | nx h => exact .nx (hn _ _ h)
  | rt h => exact .rt (hr _ _ h)
  | bk h => exact .bk (hb _ _ h)
  | ct h => exact .ct (hc _ _ h)
theorem wp_forL {tgt : D → Option (List D)} {is : List Nat} {ds : α → List D} (I : Nat → Wn) (ht : ∀ x, tgt (e x) = some (ds x)) : ∀ (xs : List α) (k : Nat) (env : DEnv) (tp : List D), I k env tp →
    (∀ j x env t, xs[j]? = some x → I (k + j) env t → WP (I (k + j + 1)) R N (I (k + j + 1)) (s (setAll env is (ds x)) t)) → (∀ env t, I (k + xs.length) env t → N env t) → WP N R B C (forL tgt is s (xs.map e) env tp)
  | [], k, env, tp, h0, _, he => .nx (he env tp h0)
  | x :: xs, k, env, tp, h0, hs, he => by
    rw [List.map_cons]
    unfold forL
    rw [ht]
    simp only
    have h1 := hs 0 x env tp rfl h0
    have ih : ∀ env tp, I (k + 1) env tp → WP N R B C (forL tgt is s (xs.map e) env tp) := fun env tp hi => wp_forL I ht xs (k + 1) env tp hi (fun j y env t hj hi => by
      have q : k + 1 + j = k + (j + 1) := by omega
      rw [q] at hi ⊢
      exact hs (j + 1) y env t (by simpa using hj) hi) (fun env t hi => he env t (by rw [List.length_cons, show k + (xs.length + 1) = k + 1 + xs.length from by omega]; exact hi))
    cases q : s (setAll env is (ds x)) tp with
    | nx e t => rw [q] at h1; cases h1 with | nx h1 => exact ih e t h1
    | rt d t => rw [q] at h1; cases h1 with | rt h1 => exact .rt h1
    | bk e t => rw [q] at h1; cases h1 with | bk h1 => exact .nx h1
    | ct e t => rw [q] at h1; cases h1 with | ct h1 => exact ih e t h1
    | exn a b t => rw [q] at h1; cases h1
    | stuck => rw [q] at h1; cases h1
theorem wp_for {tgt : D → Option (List D)} {is : List Nat} {xs : List α} {ds : α → List D} (I : Nat → Wn) (hi : mi env tp = .ok (xs.map e) t1') (ht : ∀ x, tgt (e x) = some (ds x)) (h0 : I 0 env t1')
    (hs : ∀ k x env t, xs[k]? = some x → I k env t → WP (I (k + 1)) R N (I (k + 1)) (s (setAll env is (ds x)) t)) (he : ∀ env t, I xs.length env t → N env t) : WP N R B C (forS mi tgt is s env tp) := by
  unfold forS; rw [hi]
  exact wp_forL I ht xs 0 env t1' h0 (fun j x env t hj q => by rw [Nat.zero_add] at q ⊢; exact hs j x env t hj q) (fun env t q => he env t (by rw [Nat.zero_add] at q; exact q))
theorem wp_whileF (I : Nat → Wn) (hs : ∀ n env t, I n env t → ∃ (P : Prop) (dp : Decidable P), c env t = .ok (@decide P dp) t ∧ (P → WP (fun e t => ∃ n', n' < n ∧ I n' e t) R N (fun e t => ∃ n', n' < n ∧ I n' e t) (s env t)) ∧ (¬P → N env t)) : ∀ (f n : Nat) (env : DEnv) (tp : List D), n < f → I n env tp → WP N R B C (whileF c s f env tp)
  | 0, n, env, tp, hf, h0 => by omega
  | f + 1, n, env, tp, hf, h0 => by
    unfold whileF
    obtain ⟨P, dp, e1, e2, e3⟩ := hs n env tp h0
    rw [e1]
    show WP N R B C (if @decide P dp = true then _ else RS.nx env tp)
    by_cases q : P
    · rw [if_pos (decide_eq_true q)]
      have h1 := e2 q
      have ih : ∀ e t, (∃ n', n' < n ∧ I n' e t) → WP N R B C (whileF c s f e t) := fun e t ⟨n', l, i⟩ => wp_whileF I hs f n' e t (by omega) i
      cases q : s env tp with
      | nx e t => rw [q] at h1; cases h1 with | nx h1 => exact ih e t h1
      | rt d t => rw [q] at h1; cases h1 with | rt h1 => exact .rt h1
      | bk e t => rw [q] at h1; cases h1 with | bk h1 => exact .nx h1
      | ct e t => rw [q] at h1; cases h1 with | ct h1 => exact ih e t h1
      | exn a b t => rw [q] at h1; cases h1
      | stuck => rw [q] at h1; cases h1
    · rw [if_neg (by simp [q])]; exact .nx (e3 q)
theorem wp_while {f : Nat} (I : Nat → Wn) (h0 : ∃ n, n < f ∧ I n env tp) (hs : ∀ n env t, I n env t → ∃ (P : Prop) (dp : Decidable P), c env t = .ok (@decide P dp) t ∧ (P → WP (fun e t => ∃ n', n' < n ∧ I n' e t) R N (fun e t => ∃ n', n' < n ∧ I n' e t) (s env t)) ∧ (¬P → N env t)) : WP N R B C (whileS f c s env tp) := by
  obtain ⟨n, l, i⟩ := h0
  exact wp_whileF I hs f n env tp l i
/-- a def of data -/
theorem wp_def {n : Nat} {ds : List D} {Q : D → List D → Prop} (h : WP (fun _ t => Q .non t) Q no no (s (ds.map some ++ List.replicate (n - ds.length) none) tp)) : ∃ d t, defD n s ds tp = .ok d t ∧ Q d t := by
  unfold defD
  cases q : s (ds.map some ++ List.replicate (n - ds.length) none) tp with
  | nx e t => rw [q] at h; cases h with | nx h => exact ⟨.non, t, rfl, h⟩
  | rt d t => rw [q] at h; cases h with | rt h => exact ⟨d, t, rfl, h⟩
  | bk e t => rw [q] at h; cases h with | bk h => exact h.elim
  | ct e t => rw [q] at h; cases h with | ct h => exact h.elim
  | exn a b t => rw [q] at h; cases h
  | stuck => rw [q] at h; cases h
theorem wp_law {ns : List Int} {n : Nat} (h : WP no (fun d t => d = .bl true) no no (s (some (.scr ns) :: some .tape :: List.replicate n none) tp)) : ∃ t, retR (s (some (.scr ns) :: some .tape :: List.replicate n none) tp) = .ok (.bl true) t := by
  cases q : s (some (.scr ns) :: some .tape :: List.replicate n none) tp with
  | nx e t => rw [q] at h; cases h with | nx h => exact h.elim
  | rt d t => rw [q] at h; cases h with | rt h => exact ⟨t, by rw [show d = .bl true from h]; rfl⟩
  | bk e t => rw [q] at h; cases h with | bk h => exact h.elim
  | ct e t => rw [q] at h; cases h with | ct h => exact h.elim
  | exn a b t => rw [q] at h; cases h
  | stuck => rw [q] at h; cases h
end
end T
set_option maxHeartbeats 1000000
namespace T
open PySem L2 G
abbrev eD {β : Type} (e : β → D) (d : List (Nat × β)) : D := .dic (d.map fun p => (eN p.1, e p.2))
abbrev dkeys {β : Type} (d : List (Nat × β)) : List Nat := d.map (·.1)
def dget {β : Type} : List (Nat × β) → Nat → Option β
  | [], _ => none
  | (a, b) :: r, k => if a = k then some b else dget r k
def dput {β : Type} (d : List (Nat × β)) (k : Nat) (v : β) : List (Nat × β) := if (dget d k).isSome = true then d.map (fun p => if p.1 = k then (p.1, v) else p) else d ++ [(k, v)]
def dictOf {β : Type} (ps : List (Nat × β)) : List (Nat × β) := ps.foldl (fun d p => dput d p.1 p.2) []
section
variable {α β γ δ : Type} {e : β → D} {e1 : α → D} {e2 : γ → D} {env : DEnv} {tp t1' t2' t3' : List D} {m ma mb mc mk mv : SE D} {mi mi1 : SE (List D)} {c : SE Bool}
theorem key_eqN {a k : Nat} : (keyOf (eN a) = some (.inl (k : Int))) ↔ a = k := by
  show (some (Sum.inl (a : Int)) = some (Sum.inl (k : Int)) : Prop) ↔ _
  constructor
  · intro h; have := Sum.inl.inj (Option.some.inj h); omega
  · rintro rfl; rfl
theorem find_T (k : Nat) : ∀ d : List (Nat × β), findP keyOf (d.map fun p => (eN p.1, e p.2)) (.inl (k : Int)) = (dget d k).map e
  | [] => rfl
  | (a, b) :: r => by
    rw [List.map_cons]
    unfold findP dget
    by_cases q : a = k
    · rw [if_pos (key_eqN.mpr q), if_pos q]; rfl
    · rw [if_neg (fun z => q (key_eqN.mp z)), if_neg q]; exact find_T k r
theorem dget_isSome {d : List (Nat × β)} {k : Nat} : (dget d k).isSome = true ↔ k ∈ dkeys d := by
  induction d with
  | nil => simp [dget]
  | cons p r ih =>
    unfold dget
    by_cases q : p.1 = k
    · simp [q]
    · rw [if_neg q, ih]; simp [Ne.symm q]
theorem put_T (d : List (Nat × β)) (k : Nat) (v : β) : putP keyOf keyD (d.map fun p => (eN p.1, e p.2)) (.inl (k : Int)) (e v) = (dput d k v).map fun p => (eN p.1, e p.2) := by
  unfold putP dput
  rw [find_T, Option.isSome_map]
  by_cases q : (dget d k).isSome = true
  · rw [if_pos q, if_pos q, List.map_map, List.map_map]
    refine List.map_congr_left fun p _ => ?_
    show (if keyOf (eN p.1) = some (.inl (k : Int)) then (eN p.1, e v) else (eN p.1, e p.2)) = _
    by_cases z : p.1 = k
    · rw [if_pos (key_eqN.mpr z)]; simp [z]
    · rw [if_neg fun y => z (key_eqN.mp y)]; simp [z]
  · rw [if_neg q, if_neg q, List.map_append]; rfl
theorem dget_N (d : List (Nat × β)) (k : Nat) : dgetD (eD e d) (eN k) = some ((dget d k).map e) := by
  show some (findP keyOf (d.map fun p => (eN p.1, e p.2)) (.inl (k : Int))) = _
  rw [find_T]
theorem ev_inK {x : Nat} {d : List (Nat × β)} (ha : ma env tp = .ok (eN x) t1') (hb : mb env t1' = .ok (eD e d) t2') : binE (inKD false) ma mb env tp = .ok (eB (decide (x ∈ dkeys d))) t2' :=
  ev_bin ha hb (by
    unfold inKD
    rw [dget_N]
    show some (D.bl ((dget d x).map e).isSome) = _
    rw [Option.isSome_map]
    congr 2
    by_cases q : x ∈ dkeys d
    · rw [decide_eq_true q]; exact dget_isSome.mpr q
    · rw [decide_eq_false q]
      cases z : (dget d x).isSome with
      | false => rfl
      | true => exact (q (dget_isSome.mp z)).elim)
theorem ev_ninK {x : Nat} {d : List (Nat × β)} (ha : ma env tp = .ok (eN x) t1') (hb : mb env t1' = .ok (eD e d) t2') : binE (inKD true) ma mb env tp = .ok (eB (decide (x ∉ dkeys d))) t2' :=
  ev_bin ha hb (by
    unfold inKD
    rw [dget_N]
    show some (D.bl (!((dget d x).map e).isSome)) = _
    rw [Option.isSome_map]
    congr 2
    by_cases q : x ∈ dkeys d
    · rw [decide_eq_false (by simp [q])]
      rw [dget_isSome.mpr q]; rfl
    · rw [decide_eq_true q]
      cases z : (dget d x).isSome with
      | false => rfl
      | true => exact (q (dget_isSome.mp z)).elim)
theorem ev_ixK [Inhabited β] {x : Nat} {d : List (Nat × β)} (h : x ∈ dkeys d) (ha : ma env tp = .ok (eD e d) t1') (hb : mb env t1' = .ok (eN x) t2') : binE ixKD ma mb env tp = .ok (e ((dget d x).getD default)) t2' :=
  ev_bin ha hb (by
    unfold ixKD
    rw [dget_N]
    have := dget_isSome.mpr h
    cases z : dget d x with
    | none => rw [z] at this; cases this
    | some v => rfl)
theorem len_dput (d : List (Nat × β)) (k : Nat) (v : β) : (dput d k v).length ≤ d.length + 1 := by
  unfold dput
  split
  · rw [List.length_map]; omega
  · rw [List.length_append, List.length_singleton]; omega
theorem fold_T {f : List (D × D) → D → List D → RE (List (D × D))} {h : List (Nat × β) → α → List (Nat × β)} : ∀ {xs : List α} {d : List (Nat × β)},
    (∀ x ∈ xs, ∀ d : List (Nat × β), d.length < 1000000 → f (d.map fun p => (eN p.1, e p.2)) (e1 x) tp = .ok ((h d x).map fun p => (eN p.1, e p.2)) tp) → (∀ x ∈ xs, ∀ d, (h d x).length ≤ d.length + 1) → d.length + xs.length ≤ 1000000 →
    foldR f (xs.map e1) (d.map fun p => (eN p.1, e p.2)) tp = .ok ((xs.foldl h d).map fun p => (eN p.1, e p.2)) tp
  | [], d, _, _, _ => rfl
  | x :: xs, d, hf, hl, hn => by
    rw [List.map_cons]
    unfold foldR
    rw [List.length_cons] at hn
    rw [hf x List.mem_cons_self d (by omega)]
    simp only
    have := hl x List.mem_cons_self d
    exact fold_T (fun y hy => hf y (List.mem_cons_of_mem _ hy)) (fun y hy => hl y (List.mem_cons_of_mem _ hy)) (by omega)
theorem pair_T {k : Nat} {v : β} {d : List (Nat × β)} (hl : d.length < 1000000) (hk : mk env tp = .ok (eN k) tp) (hv : mv env tp = .ok (e v) tp) : pairT mk mv env (d.map fun p => (eN p.1, e p.2)) tp = .ok ((dput d k v).map fun p => (eN p.1, e p.2)) tp := by
  unfold pairT
  rw [hk]; simp only
  rw [hv]; simp only
  unfold putR
  rw [List.length_map, if_pos (by have := small_line (Nat.le_refl 1000000); omega)]
  show RE.ok (putP keyOf keyD (d.map fun p => (eN p.1, e p.2)) (.inl (k : Int)) (e v)) tp = _
  rw [put_T]
theorem dictOf_map (g : α → Nat × β) (xs : List α) : dictOf (xs.map g) = xs.foldl (fun d x => dput d (g x).1 (g x).2) [] := by
  unfold dictOf; rw [List.foldl_map]
theorem ev_dc {vs is : List Nat} {tgt : D → Option (List D)} {xs : List α} {ds : α → List D} {k : α → Nat} {v : α → β} (hi : mi env tp = .ok (xs.map e1) t1') (hl : xs.length ≤ 1000000) (ht : ∀ x, tgt (e1 x) = some (ds x))
    (hk : ∀ x ∈ xs, mk (setAll (wipeE env vs) is (ds x)) t1' = .ok (eN (k x)) t1') (hv : ∀ x ∈ xs, mv (setAll (wipeE env vs) is (ds x)) t1' = .ok (e (v x)) t1') :
    dcE mi vs tgt is mk mv env tp = .ok (eD e (dictOf (xs.map fun x => (k x, v x)))) t1' := by
  unfold dcE
  rw [hi]
  simp only [RE.bind_ok]
  have := fold_T (f := dcTurn tgt is mk mv (wipeE env vs)) (e := e) (e1 := e1) (tp := t1') (h := fun d x => dput d (k x) (v x)) (xs := xs) (d := []) (fun x hx d hd => by
    unfold dcTurn
    rw [ht]
    exact pair_T hd (hk x hx) (hv x hx)) (fun x _ d => len_dput _ _ _) (by simpa using hl)
  rw [show ([] : List (D × D)) = (([] : List (Nat × β)).map fun p => (eN p.1, e p.2)) from rfl, this]
  simp only
  rw [dictOf_map]
theorem ev_dc2 {vs is vs1 is1 : List Nat} {tgt tgt1 : D → Option (List D)} {xs : List α} {ds : α → List D} {ys : α → List γ} {ds1 : γ → List D} {k : α → γ → Nat} {v : α → γ → β} (hi : mi env tp = .ok (xs.map e1) t1') (ht : ∀ x, tgt (e1 x) = some (ds x))
    (hi1 : ∀ x ∈ xs, mi1 (setAll (wipeE env vs) is (ds x)) t1' = .ok ((ys x).map e2) t1') (ht1 : ∀ y, tgt1 (e2 y) = some (ds1 y))
    (hk : ∀ x ∈ xs, ∀ y ∈ ys x, mk (setAll (wipeE (setAll (wipeE env vs) is (ds x)) vs1) is1 (ds1 y)) t1' = .ok (eN (k x y)) t1')
    (hv : ∀ x ∈ xs, ∀ y ∈ ys x, mv (setAll (wipeE (setAll (wipeE env vs) is (ds x)) vs1) is1 (ds1 y)) t1' = .ok (e (v x y)) t1')
    (hl : (xs.flatMap ys).length ≤ 1000000) :
    dc2E mi vs tgt is mi1 vs1 tgt1 is1 mk mv env tp = .ok (eD e (dictOf (xs.flatMap fun x => (ys x).map fun y => (k x y, v x y)))) t1' := by
  unfold dc2E
  rw [hi]
  simp only [RE.bind_ok]
  have key : ∀ (zs : List α) (d : List (Nat × β)), (∀ x ∈ zs, x ∈ xs) → d.length + (zs.flatMap ys).length ≤ 1000000 → foldR (dcTurn2 tgt is mi1 vs1 tgt1 is1 mk mv (wipeE env vs)) (zs.map e1) (d.map fun p => (eN p.1, e p.2)) t1' =
      .ok ((zs.foldl (fun d x => (ys x).foldl (fun d y => dput d (k x y) (v x y)) d) d).map fun p => (eN p.1, e p.2)) t1' := by
    intro zs
    induction zs with
    | nil => intro d _ _; rfl
    | cons x zs ih =>
      intro d hz hn
      rw [List.flatMap_cons, List.length_append] at hn
      rw [List.map_cons]
      unfold foldR
      have hx := hz x List.mem_cons_self
      have one : dcTurn2 tgt is mi1 vs1 tgt1 is1 mk mv (wipeE env vs) (d.map fun p => (eN p.1, e p.2)) (e1 x) t1' = .ok (((ys x).foldl (fun d y => dput d (k x y) (v x y)) d).map fun p => (eN p.1, e p.2)) t1' := by
        unfold dcTurn2
        rw [ht]
        simp only
        rw [hi1 x hx]
        simp only
        exact fold_T (e := e) (e1 := e2) (h := fun d y => dput d (k x y) (v x y)) (fun y hy d hd => by
          unfold dcTurn
          rw [ht1]
          exact pair_T hd (hk x hx y hy) (hv x hx y hy)) (fun y _ d => len_dput _ _ _) (by omega)
      rw [one]
      simp only
      have len : ∀ (us : List γ) (d : List (Nat × β)), (us.foldl (fun d y => dput d (k x y) (v x y)) d).length ≤ d.length + us.length := by
        intro us
        induction us with
        | nil => intro d; exact Nat.le_refl _
        | cons u us ih2 =>
          intro d
          rw [List.foldl_cons, List.length_cons]
          have a := ih2 (dput d (k x u) (v x u))
          have b := len_dput d (k x u) (v x u)
          omega
      have := len (ys x) d
      exact ih _ (fun z h => hz z (List.mem_cons_of_mem _ h)) (by omega)
  have := key xs [] (fun _ h => h) (by simpa using hl)
  rw [show ([] : List (D × D)) = (([] : List (Nat × β)).map fun p => (eN p.1, e p.2)) from rfl, this]
  simp only
  congr 2
  unfold dictOf
  rw [List.foldl_flatMap]
  congr 1
  congr 1
  funext d x
  rw [List.foldl_map]
theorem wp_dset {N : Wn} {R : Wr} {B C : Wn} {i k : Nat} {v : β} {d : List (Nat × β)} (he : env[i]? = some (some (eD e d))) (hv : mv env tp = .ok (e v) t1') (hk : mk env t1' = .ok (eN k) t2') (hl : d.length < 1000000) (hn : N (env.set i (some (eD e (dput d k v)))) t2') : WP N R B C (dsetS i mk mv env tp) := by
  unfold dsetS
  rw [he]
  simp only
  rw [hv]
  show WP N R B C ((mk env t1').bindS fun k tp2 => (match putD (eD e d) k (e v) with
    | some d' => RS.nx (env.set i (some d')) tp2
    | none => RS.stuck))
  rw [hk]
  have : putD (eD e d) (eN k) (e v) = some (eD e (dput d k v)) := by
    show (if (d.map fun p => (eN p.1, e p.2)).length < sizeLine then some (D.dic (putP keyOf keyD (d.map fun p => (eN p.1, e p.2)) (.inl (k : Int)) (e v))) else none) = _
    rw [List.length_map, if_pos (by have := small_line (Nat.le_refl 1000000); omega), put_T]
  show WP N R B C (match putD (eD e d) (eN k) (e v) with
    | some d' => RS.nx (env.set i (some d')) t2'
    | none => RS.stuck)
  rw [this]
  exact .nx hn
theorem dkeys_dput {d : List (Nat × β)} {k x : Nat} {v : β} : x ∈ dkeys (dput d k v) ↔ x ∈ dkeys d ∨ x = k := by
  unfold dput
  by_cases q : (dget d k).isSome = true
  · rw [if_pos q]
    have hk := dget_isSome.mp q
    have e : dkeys (d.map fun p => if p.1 = k then (p.1, v) else p) = dkeys d := by
      unfold dkeys
      rw [List.map_map]
      refine List.map_congr_left fun p _ => ?_
      show (if p.1 = k then (p.1, v) else p).1 = p.1
      split <;> rfl
    rw [e]
    exact ⟨.inl, fun h => h.elim id fun h => h ▸ hk⟩
  · rw [if_neg q]
    unfold dkeys
    rw [List.map_append, List.mem_append]
    simp
theorem dkeys_fold {ps : List (Nat × β)} {x : Nat} : ∀ {d : List (Nat × β)}, x ∈ dkeys (ps.foldl (fun d p => dput d p.1 p.2) d) ↔ x ∈ dkeys d ∨ x ∈ dkeys ps := by
  induction ps with
  | nil => intro d; simp
  | cons p ps ih =>
    intro d
    rw [List.foldl_cons, ih, dkeys_dput]
    simp only [List.map_cons, List.mem_cons]
    exact or_assoc
theorem mem_dictOf {ps : List (Nat × β)} {x : Nat} : x ∈ dkeys (dictOf ps) ↔ x ∈ dkeys ps := by
  unfold dictOf; rw [dkeys_fold]; simp
end
end T
set_option maxHeartbeats 1000000
namespace T
open PySem L2 G
end T
namespace T
open PySem L2 G
structure KeyE {κ : Type} (e1 : κ → D) where
  q : κ → List Key
  of : ∀ k, keysOf (e1 k) = some (q k)
  kd : ∀ k, keyT (q k) = e1 k
  inj : ∀ a b, q a = q b → a = b
section
variable {κ β α : Type} [DecidableEq κ] {e1 : κ → D} {e : β → D} {env : DEnv} {tp t1' t2' t3' : List D} {m ma mb mc mk mv : SE D}
theorem KeyE.eq (h : KeyE e1) {a k : κ} : keysOf (e1 a) = some (h.q k) ↔ a = k := by
  rw [h.of]
  exact ⟨fun z => h.inj _ _ (Option.some.inj z), fun z => by rw [z]⟩
end
end T
namespace T
open PySem L2 G
end T
set_option maxHeartbeats 1000000
namespace T
open PySem L2 G
structure SrtE {α : Type} (e : α → D) : Prop where
  ok : ∀ x, (e x).okq = true
  al : ∀ x y, PySem.W.alike (e x).pd (e y).pd = true
  kd : (∀ x, tupPd (e x).pd = true) ∨ ∀ x, othPd (e x).pd = true
@[irreducible] def srtBy {α : Type} (e : α → D) (xs : List α) : List α := xs.mergeSort fun a b => PySem.W.dataLe false D.pd (e a) (e b)
theorem srtBy_perm {α : Type} (e : α → D) (xs : List α) : (srtBy e xs).Perm xs := by unfold srtBy; exact List.mergeSort_perm _ _
section
variable {α : Type} {e : α → D} {env : DEnv} {tp t1' : List D} {m : SE D}
theorem sortOk_of (h : SrtE e) (xs : List α) : sortOk (xs.map e) = true := by
  unfold sortOk
  have h1 : (xs.map e).all D.okq = true := List.all_eq_true.mpr fun d hd => by
    obtain ⟨x, _, rfl⟩ := List.mem_map.mp hd
    exact h.ok x
  have h2 : ((xs.map e).all fun d => (xs.map e).all fun f => PySem.W.alike d.pd f.pd) = true := List.all_eq_true.mpr fun d hd => List.all_eq_true.mpr fun f hf => by
    obtain ⟨x, _, rfl⟩ := List.mem_map.mp hd
    obtain ⟨y, _, rfl⟩ := List.mem_map.mp hf
    exact h.al x y
  rw [h1, h2]
  rcases h.kd with k | k
  · have h3 : ((xs.map e).all fun d => tupPd d.pd) = true := List.all_eq_true.mpr fun d hd => by
      obtain ⟨x, _, rfl⟩ := List.mem_map.mp hd
      exact k x
    rw [h3]; rfl
  · have h3 : ((xs.map e).all fun d => othPd d.pd) = true := List.all_eq_true.mpr fun d hd => by
      obtain ⟨x, _, rfl⟩ := List.mem_map.mp hd
      exact k x
    rw [h3]; simp
theorem srt_map (xs : List α) : sortDat (xs.map e) = (srtBy e xs).map e := by
  unfold srtBy
  exact (List.map_mergeSort (r := fun a b => PySem.W.dataLe false D.pd (e a) (e b)) (s := PySem.W.dataLe false D.pd) (f := e) fun a _ b _ => rfl).symm
theorem ev_sortDat {xs : List α} (h : SrtE e) (ha : m env tp = .ok (eL e xs) t1') : callB sortDD (consA m nilA) env tp = .ok (eL e (srtBy e xs)) t1' :=
  ev_callB (ev_cons ha ev_nil) (by
    show (if sortOk (xs.map e) = true then some (D.lst (sortDat (xs.map e))) else none) = _
    rw [if_pos (sortOk_of h xs), srt_map])
end
end T
set_option maxHeartbeats 1000000
namespace T
open PySem L2 G
section
variable {α β : Type} [Inhabited α] {e : α → D} {e1 : β → D} {env : DEnv} {tp t1' t2' : List D} {m ma mb mk mv : SE D} {N : Wn} {R : Wr} {B C : Wn} {s : SS}
theorem laugSub_z {i : Nat} {xs : List D} {k a b : Int} (he : env[i]? = some (some (.lst xs))) (hk : mk env tp = .ok (.int k) t1') (h0 : 0 ≤ k) (hg : xs[k.toNat]? = some (.int a)) (hv : mv env t1' = .ok (.int b) t2') :
    laugSubS i mk mv env tp = .nx (env.set i (some (.lst (xs.set k.toNat (.int (a - b)))))) t2' := by
  unfold laugSubS
  rw [he]
  simp -implicitDefEqProofs only []
  rw [hk]
  simp -implicitDefEqProofs only [RE.bindS]
  rw [if_pos h0, hg]
  simp -implicitDefEqProofs only []
  rw [hv]
theorem wp_laugSub {i k v : Nat} {xs : List Nat} (he : env[i]? = some (some (eL eN xs))) (hk : mk env tp = .ok (eN k) t1') (hv : mv env t1' = .ok (eN v) t2') (hl : k < xs.length ∧ v ≤ xs[k]!) (hn : N (env.set i (some (eL eN (xs.set k (xs[k]! - v))))) t2') : WP N R B C (laugSubS i mk mv env tp) := by
  obtain ⟨hl1, hl2⟩ := hl
  have g : (xs.map eN)[((k : Nat) : Int).toNat]? = some (.int ((xs[k]! : Nat) : Int)) := by
    rw [Int.toNat_natCast, List.getElem?_map, List.getElem?_eq_getElem hl1, getElem!_pos xs k hl1]; rfl
  have e := laugSub_z (i := i) (xs := xs.map eN) (k := ((k : Nat) : Int)) he hk (Int.natCast_nonneg k) g hv
  have e2 : D.lst ((xs.map eN).set ((k : Nat) : Int).toNat (.int (((xs[k]! : Nat) : Int) - ((v : Nat) : Int)))) = eL eN (xs.set k (xs[k]! - v)) := by
    rw [Int.toNat_natCast]
    show _ = D.lst ((xs.set k (xs[k]! - v)).map eN)
    rw [List.map_set, show ((xs[k]! : Nat) : Int) - ((v : Nat) : Int) = ((xs[k]! - v : Nat) : Int) by omega]
  rw [e, e2]
  exact .nx hn
end
end T
set_option maxHeartbeats 1000000
namespace T
open PySem L2 G
abbrev eM (_ : Unit) : D := .memo 0
section
variable {N : Wn} {R : Wr} {B C : Wn} {env : DEnv} {tp : List D}
theorem wp_memo {kn ky fn : Nat} {n : Int} {ds : List D} {ks : List Int} {mB : SS} (h1 : env[kn]? = some (some (.memo n))) (h2 : env[ky]? = some (some (.tup ds))) (h3 : dInts ds = some ks)
    (h : WP (fun env' tp' => tp' = tp ∧ env'[kn]? = env[kn]? ∧ env'[ky]? = env[ky]? ∧ ∃ d, env'[fn]? = some (some (.int d)) ∧ tellsF n ks = some d ∧ R (.int d) tp) (fun _ _ => False) (fun _ _ => False) (fun _ _ => False) (mB env tp)) : WP N R B C (memoS kn ky fn mB env tp) := by
  unfold memoS
  rw [h1, h2]
  simp only
  cases e : mB env tp with
  | nx env' tp' =>
    rw [e] at h
    cases h with
    | nx h =>
      obtain ⟨a, b, c, d, q, t, r⟩ := h
      simp only
      rw [q]
      simp only
      rw [if_pos ⟨b.trans h1, c.trans h2, a, ks, h3, t⟩]
      exact .rt r
  | rt d t => rw [e] at h; cases h with | rt h => exact h.elim
  | bk d t => rw [e] at h; cases h with | bk h => exact h.elim
  | ct d t => rw [e] at h; cases h with | ct h => exact h.elim
  | exn c f t => rw [e] at h; cases h
  | stuck => rw [e] at h; cases h
end
end T
set_option maxHeartbeats 1000000
namespace T
open PySem L2 G
end T
set_option maxHeartbeats 1000000
namespace T
open PySem L2 G
end T
set_option maxHeartbeats 1000000
namespace T
open PySem L2 G
end T
set_option maxHeartbeats 1000000
namespace T
open PySem L2 G
end T
set_option maxHeartbeats 1000000
namespace T
open PySem L2 G
section
variable {env : DEnv} {tp t1' : List D} {m : SE D}
theorem ev_maxT {xs : List Nat} (hd : xs ≠ []) (h : m env tp = .ok (eT eN xs) t1') : callB maxTD (consA m nilA) env tp = .ok (eN (xs.max?.getD 0)) t1' := by
  refine ev_callB (ev_cons h ev_nil) ?_
  show (unI (xs.map eN)).bind (fun ns => ns.max?.map D.int) = _
  rw [unI_mapN]
  show ((xs.map fun n : Nat => (n : Int)).max?).map D.int = _
  obtain ⟨x, hx⟩ : ∃ x, xs.max? = some x := by
    cases h : xs.max? with
    | none => exact absurd (List.max?_eq_none_iff.mp h) hd
    | some x => exact ⟨x, rfl⟩
  obtain ⟨a, b⟩ := List.max?_eq_some_iff.mp hx
  have : (xs.map fun n : Nat => (n : Int)).max? = some (x : Int) := List.max?_eq_some_iff.mpr ⟨List.mem_map.mpr ⟨x, a, rfl⟩, fun y hy => by
    obtain ⟨z, hz, rfl⟩ := List.mem_map.mp hy
    have := b z hz
    show (z : Int) ≤ (x : Int)
    omega⟩
  rw [this, hx]; rfl
end
theorem srt_ZN : SrtE (eP eZ eN) := ⟨fun x => by simp [D.okq, eP, D.pd, pdAll, PyData.plain, PyData.plainAll, PyData.depth, PyData.depthAll], fun x y => by simp [eP, D.pd, pdAll, PySem.W.alike, PySem.W.alikeAll], .inl fun x => by simp [eP, D.pd, pdAll, tupPd]⟩
end T
set_option maxHeartbeats 1000000
namespace T
open PySem L2 G
section
variable {α β : Type} {e : α → D} {e1 : β → D} {env : DEnv} {tp t1' t2' : List D} {ma mb mc : SE D}
theorem it_zipLL {xs : List α} {ys : List β} (ha : ma env tp = .ok (eL e xs) t1') (hb : mb env t1' = .ok (eL e1 ys) t2') : rangeI zipLLD (consA ma (consA mb nilA)) env tp = .ok ((xs.zip ys).map (eP e e1)) t2' := by
  unfold rangeI
  rw [ev_cons ha (ev_cons hb ev_nil)]
  simp only [RE.bind_ok]
  show RE.ok (zipL (xs.map e) (ys.map e1)) t2' = _
  rw [zipL_map]
theorem it_zipTL {xs : List α} {ys : List β} (ha : ma env tp = .ok (eT e xs) t1') (hb : mb env t1' = .ok (eL e1 ys) t2') : rangeI zipTLD (consA ma (consA mb nilA)) env tp = .ok ((xs.zip ys).map (eP e e1)) t2' := by
  unfold rangeI
  rw [ev_cons ha (ev_cons hb ev_nil)]
  simp only [RE.bind_ok]
  show RE.ok (zipL (xs.map e) (ys.map e1)) t2' = _
  rw [zipL_map]
end
end T
set_option maxHeartbeats 1000000
namespace T
open PySem L2 G
end T
set_option maxHeartbeats 1000000
namespace T
open PySem L2 G
section
variable {env : DEnv} {tp t1' : List D} {m : SE D}
/-- the small numbers of a list, ascending, each once -/
def setN (xs : List Nat) : List Nat := (List.range 60).filter fun i => decide (i ∈ xs)
theorem mem_setN {xs : List Nat} (h : ∀ x ∈ xs, x < 60) {k : Nat} : k ∈ setN xs ↔ k ∈ xs := by
  unfold setN
  rw [List.mem_filter, List.mem_range, decide_eq_true_eq]
  exact ⟨fun z => z.2, fun z => ⟨h k z, z⟩⟩
theorem setN_asc (xs : List Nat) : (setN xs).Pairwise (· < ·) := List.pairwise_lt_range.sublist List.filter_sublist
end
end T
set_option maxHeartbeats 1000000
namespace T
open PySem L2 G
section
variable {env : DEnv} {tp t1' : List D} {m : SE D}
theorem ev_lenSet {xs : List Nat} (hl : xs.length ≤ 4000) (hb : ∀ x ∈ xs, x < 60) (h : m env tp = .ok (eL eN xs) t1') : callB lenSetD (consA m nilA) env tp = .ok (eN (setN xs).length) t1' := by
  refine ev_callB (ev_cons h ev_nil) ?_
  show (unI (xs.map eN)).bind (fun ns => if ns.length ≤ 4000 ∧ (ns.all fun n => decide (0 ≤ n ∧ n < 60)) = true then some (D.int ((setI ns).length : Nat)) else none) = _
  rw [unI_mapN]
  have c : (xs.map fun n : Nat => (n : Int)).length ≤ 4000 ∧ ((xs.map fun n : Nat => (n : Int)).all fun n => decide (0 ≤ n ∧ n < 60)) = true := by
    refine ⟨by rw [List.length_map]; exact hl, List.all_eq_true.mpr fun n hn => ?_⟩
    obtain ⟨x, hx, rfl⟩ := List.mem_map.mp hn
    have := hb x hx
    exact decide_eq_true ⟨by omega, by omega⟩
  show (if _ then _ else _) = _
  rw [if_pos c]
  have e : (setI (xs.map fun n : Nat => (n : Int))).length = (setN xs).length := by
    unfold setI setN
    rw [List.length_map]
    congr 1
    refine List.filter_congr fun i _ => decide_eq_decide.mpr ?_
    rw [List.mem_map]
    constructor
    · rintro ⟨y, hy, e⟩
      have : y = i := by omega
      rw [← this]; exact hy
    · exact fun h => ⟨i, h, rfl⟩
  show some (D.int ((setI _).length : Nat)) = _
  rw [e]
end
end T
set_option maxHeartbeats 4000000
namespace W
open PySem L2 G
/-- what the top leaves -/
structure Tx (K : PySem.W.Frag) (mg : Str → Option Value) : Prop where
  all : mg "all" = none
  any : mg "any" = none
  bool : mg "bool" = none
  enumerate : mg "enumerate" = none
  int : mg "int" = none
  isinstance : mg "isinstance" = none
  len : mg "len" = none
  list : mg "list" = none
  max : mg "max" = none
  range : mg "range" = none
  set : mg "set" = none
  sorted : mg "sorted" = none
  str : mg "str" = none
  sum : mg "sum" = none
  tuple : mg "tuple" = none
  zip : mg "zip" = none
  MOST_SIDE : ∃ t, mg "MOST_SIDE" = some (.int 30 t)
  BLACK : ∃ t, mg "BLACK" = some (.str "#" t)
  WHITE : ∃ t, mg "WHITE" = some (.str "." t)
  f_is_int : ∃ f fd, FunD K "is_int" "is_int" (defArgs (top 11)) (defBody (top 11)) (defScope (top 11)) [] [] f fd ∧ mg "is_int" = some (.ref f)
  f_is_in : ∃ f fd, FunD K "is_in" "is_in" (defArgs (top 12)) (defBody (top 12)) (defScope (top 12)) [] [] f fd ∧ mg "is_in" = some (.ref f)
  f_need_number : ∃ f fd, FunD K "need_number" "need_number" (defArgs (top 13)) (defBody (top 13)) (defScope (top 13)) [] [] f fd ∧ mg "need_number" = some (.ref f)
  f_is_picture : ∃ f fd, FunD K "is_picture" "is_picture" (defArgs (top 14)) (defBody (top 14)) (defScope (top 14)) [] [] f fd ∧ mg "is_picture" = some (.ref f)
  f_need_picture : ∃ f fd, FunD K "need_picture" "need_picture" (defArgs (top 15)) (defBody (top 15)) (defScope (top 15)) [] [] f fd ∧ mg "need_picture" = some (.ref f)
  f_lines_of : ∃ f fd, FunD K "lines_of" "lines_of" (defArgs (top 16)) (defBody (top 16)) (defScope (top 16)) [] [] f fd ∧ mg "lines_of" = some (.ref f)
  f_black_of : ∃ f fd, FunD K "black_of" "black_of" (defArgs (top 17)) (defBody (top 17)) (defScope (top 17)) [] [] f fd ∧ mg "black_of" = some (.ref f)
  f_black_cells : ∃ f fd, FunD K "black_cells" "black_cells" (defArgs (top 18)) (defBody (top 18)) (defScope (top 18)) [] [] f fd ∧ mg "black_cells" = some (.ref f)
  f_row_sums_of : ∃ f fd, FunD K "row_sums_of" "row_sums_of" (defArgs (top 19)) (defBody (top 19)) (defScope (top 19)) [] [] f fd ∧ mg "row_sums_of" = some (.ref f)
  f_column_sums_of : ∃ f fd, FunD K "column_sums_of" "column_sums_of" (defArgs (top 20)) (defBody (top 20)) (defScope (top 20)) [] [] f fd ∧ mg "column_sums_of" = some (.ref f)
  f_sums : ∃ f fd, FunD K "sums" "sums" (defArgs (top 21)) (defBody (top 21)) (defScope (top 21)) [] [] f fd ∧ mg "sums" = some (.ref f)
  f_part_of : ∃ f fd, FunD K "part_of" "part_of" (defArgs (top 22)) (defBody (top 22)) (defScope (top 22)) [] [] f fd ∧ mg "part_of" = some (.ref f)
  f_leads_to : ∃ f fd, FunD K "leads_to" "leads_to" (defArgs (top 24)) (defBody (top 24)) (defScope (top 24)) [] [] f fd ∧ mg "leads_to" = some (.ref f)
  f_layers_of : ∃ f fd, FunD K "layers_of" "layers_of" (defArgs (top 25)) (defBody (top 25)) (defScope (top 25)) [] [] f fd ∧ mg "layers_of" = some (.ref f)
  f_layers : ∃ f fd, FunD K "layers" "layers" (defArgs (top 26)) (defBody (top 26)) (defScope (top 26)) [] [] f fd ∧ mg "layers" = some (.ref f)
  f_core_of : ∃ f fd, FunD K "core_of" "core_of" (defArgs (top 27)) (defBody (top 27)) (defScope (top 27)) [] [] f fd ∧ mg "core_of" = some (.ref f)
  f_is_free_of : ∃ f fd, FunD K "is_free_of" "is_free_of" (defArgs (top 28)) (defBody (top 28)) (defScope (top 28)) [] [] f fd ∧ mg "is_free_of" = some (.ref f)
  f_is_free : ∃ f fd, FunD K "is_free" "is_free" (defArgs (top 29)) (defBody (top 29)) (defScope (top 29)) [] [] f fd ∧ mg "is_free" = some (.ref f)
  f_need_free : ∃ f fd, FunD K "need_free" "need_free" (defArgs (top 30)) (defBody (top 30)) (defScope (top 30)) [] [] f fd ∧ mg "need_free" = some (.ref f)
  f_chosen : ∃ f fd, FunD K "chosen" "chosen" (defArgs (top 32)) (defBody (top 32)) (defScope (top 32)) [] [] f fd ∧ mg "chosen" = some (.ref f)
  f_ways_left : ∃ f fd, FunD K "ways_left" "ways_left" (defArgs (top 34)) (defBody (top 34)) (defScope (top 34)) [] [] f fd ∧ mg "ways_left" = some (.ref f)
  f_need_sides : ∃ f fd, FunD K "need_sides" "need_sides" (defArgs (top 35)) (defBody (top 35)) (defScope (top 35)) [] [] f fd ∧ mg "need_sides" = some (.ref f)
  f_by_layers : ∃ f fd, FunD K "by_layers" "by_layers" (defArgs (top 36)) (defBody (top 36)) (defScope (top 36)) [] [] f fd ∧ mg "by_layers" = some (.ref f)
  f_are_layers : ∃ f fd, FunD K "are_layers" "are_layers" (defArgs (top 37)) (defBody (top 37)) (defScope (top 37)) [] [] f fd ∧ mg "are_layers" = some (.ref f)
  f_free_by_layers : ∃ f fd, FunD K "free_by_layers" "free_by_layers" (defArgs (top 38)) (defBody (top 38)) (defScope (top 38)) [] [] f fd ∧ mg "free_by_layers" = some (.ref f)
  f_subset_number : ∃ f fd, FunD K "subset_number" "subset_number" (defArgs (top 39)) (defBody (top 39)) (defScope (top 39)) [] [] f fd ∧ mg "subset_number" = some (.ref f)
  f_number_of : ∃ f fd, FunD K "number_of" "number_of" (defArgs (top 40)) (defBody (top 40)) (defScope (top 40)) [] [] f fd ∧ mg "number_of" = some (.ref f)
  f_free_number : ∃ f fd, FunD K "free_number" "free_number" (defArgs (top 41)) (defBody (top 41)) (defScope (top 41)) [] [] f fd ∧ mg "free_number" = some (.ref f)
  f_are_sums : ∃ f fd, FunD K "are_sums" "are_sums" (defArgs (top 42)) (defBody (top 42)) (defScope (top 42)) [] [] f fd ∧ mg "are_sums" = some (.ref f)
  f_need_sums : ∃ f fd, FunD K "need_sums" "need_sums" (defArgs (top 43)) (defBody (top 43)) (defScope (top 43)) [] [] f fd ∧ mg "need_sums" = some (.ref f)
  f_free_by_sums : ∃ f fd, FunD K "free_by_sums" "free_by_sums" (defArgs (top 44)) (defBody (top 44)) (defScope (top 44)) [] [] f fd ∧ mg "free_by_sums" = some (.ref f)
  f_sizes_of : ∃ f fd, FunD K "sizes_of" "sizes_of" (defArgs (top 46)) (defBody (top 46)) (defScope (top 46)) [] [] f fd ∧ mg "sizes_of" = some (.ref f)
  f_shape : ∃ f fd, FunD K "shape" "shape" (defArgs (top 47)) (defBody (top 47)) (defScope (top 47)) [] [] f fd ∧ mg "shape" = some (.ref f)
  f_stairs_of : ∃ f fd, FunD K "stairs_of" "stairs_of" (defArgs (top 48)) (defBody (top 48)) (defScope (top 48)) [] [] f fd ∧ mg "stairs_of" = some (.ref f)
  f_stairs : ∃ f fd, FunD K "stairs" "stairs" (defArgs (top 49)) (defBody (top 49)) (defScope (top 49)) [] [] f fd ∧ mg "stairs" = some (.ref f)
  f_law_taken : ∃ f fd, FunD K "_law_taken" "_law_taken" (defArgs (top 51)) (defBody (top 51)) (defScope (top 51)) [] [] f fd ∧ mg "_law_taken" = some (.ref f)
  f_law_pick : ∃ f fd, FunD K "_law_pick" "_law_pick" (defArgs (top 52)) (defBody (top 52)) (defScope (top 52)) [] [] f fd ∧ mg "_law_pick" = some (.ref f)
  f_law_mixed : ∃ f fd, FunD K "_law_mixed" "_law_mixed" (defArgs (top 53)) (defBody (top 53)) (defScope (top 53)) [] [] f fd ∧ mg "_law_mixed" = some (.ref f)
noncomputable section
variable {P : Program} {w : World} {K : PySem.W.Frag} {mg : Str → Option Value} {base : Heap} {r : Addr}
abbrev s_is_int : Stmt := top 11
theorem sc_is_int : FnScope ["value"] ["value"] (defScope s_is_int) := ⟨rfl, rfl, rfl, by decide +kernel, rfl, by decide +kernel, by decide +kernel⟩
def b_is_int : SS := retS (andE (callB isiD (consA (vE 0) (consA (cE (.ty "int")) (nilA)))) (notE (callB isiD (consA (vE 0) (consA (cE (.ty "bool")) (nilA))))))
def m_is_int : List D → List D → RE D := defD 1 b_is_int
theorem d_is_int (T : Tx K mg) : DefOk P w K mg base CX0 r "is_int" 1 1 m_is_int := by
  obtain ⟨f, fd, F, hm⟩ := T.f_is_int
  refine fn_def (k := 0) F sc_is_int hm (fun _ _ _ _ _ _ us hl => match us, hl with | [_], _ => rfl) (fun cdv A outer s H E hr => ?_) (m := b_is_int)
  exact ⟨_, _, (gss_one (gs_ret (On := []) (ge_and (ge_isi T.isinstance (gao_cons ((ge_var 0)).go (gao_cons ((ge_ty T.int)).go gao_nil))) (ge_one (ge_not (ge_isi T.isinstance (gao_cons ((ge_var 0)).go (gao_cons ((ge_ty T.bool)).go gao_nil))))))))⟩
abbrev s_is_picture : Stmt := top 14
theorem sc_is_picture : FnScope ["value", "row", "sign"] ["value"] (defScope s_is_picture) := ⟨rfl, rfl, rfl, by decide +kernel, rfl, by decide +kernel, by decide +kernel⟩
def b_is_picture : SS := seqS (ifS (orT (notT (boolE (callB isiD (consA (vE 0) (consA (cE (.ty "tuple")) (nilA)))))) (notT (boolE (chainE leD leD (cE (.int 1)) (callB lenD (consA (vE 0) (nilA))) (cE (.int 30)))))) (retS (cE (.bl false))) (skipS)) (seqS (ifS (orT (notT (boolE (callB allD (consA (compE (seqI (vE 0)) [1] t1 [1] (yesT) (callB isiD (consA (vE 1) (consA (cE (.ty "str")) (nilA))))) (nilA))))) (notT (boolE (chainE leD leD (cE (.int 1)) (callB lenD (consA (binE ixD (vE 0) (cE (.int 0))) (nilA))) (cE (.int 30)))))) (retS (cE (.bl false))) (skipS)) (retS (callB allD (consA (compE (seqI (vE 0)) [1] t1 [1] (yesT) (andE (binE eqD (callB lenD (consA (vE 1) (nilA))) (callB lenD (consA (binE ixD (vE 0) (cE (.int 0))) (nilA)))) (callB allD (consA (compE (seqI (vE 1)) [2] t1 [2] (yesT) (binE inD (vE 2) (tupE (consA (cE (.str "#")) (consA (cE (.str ".")) (nilA)))))) (nilA))))) (nilA)))))
def m_is_picture : List D → List D → RE D := defD 3 b_is_picture
theorem d_is_picture (T : Tx K mg) : DefOk P w K mg base CX0 r "is_picture" 1 1 m_is_picture := by
  obtain ⟨f, fd, F, hm⟩ := T.f_is_picture
  refine fn_def (k := 0) F sc_is_picture hm (fun _ _ _ _ _ _ us hl => match us, hl with | [_], _ => rfl) (fun cdv A outer s H E hr => ?_) (m := b_is_picture)
  exact ⟨_, _, (gss_cons (gs_if ((gw_or (gt_not (gt_val (ge_isi T.isinstance (gao_cons ((ge_var 0)).go (gao_cons ((ge_ty T.tuple)).go gao_nil))))) (gw_or1 (gt_not (gt_leLe (ge_int).go ((ge_len T.len (gao_cons ((ge_var 0)).go gao_nil))).go ((ge_gint T.MOST_SIDE)).go))))).gt (gss_one (gs_ret (On := []) ge_bl)) (GSs.post (On' := []) (by decide) gss_nil)) (gss_cons (gs_if ((gw_or (gt_not (gt_val (ge_all rfl T.all (gao_cons (((gf_lc (own := [("row", 1)]) rfl sc_is_picture.nd (gi_seq (ge_var 0)) (blkOk_by (by kernel_rfl)) (fun _ _ _ _ _ => (gg_name 1 sc_is_picture.nd)) (fun _ _ _ _ _ => gts_nil) (fun _ _ _ _ _ => (ge_isi T.isinstance (gao_cons ((ge_var 1)).go (gao_cons ((ge_ty T.str)).go gao_nil)))) (by decide) (by decide))).ge).go gao_nil)))) (gw_or1 (gt_not (gt_leLe (ge_int).go ((ge_len T.len (gao_cons ((ge_sub1 ((ge_var 0)).go (ge_int).go)).go gao_nil))).go ((ge_gint T.MOST_SIDE)).go))))).gt (gss_one (gs_ret (On := []) ge_bl)) (GSs.post (On' := []) (by decide) gss_nil)) (gss_one (gs_ret (On := []) (ge_all rfl T.all (gao_cons (((gf_lc (own := [("row", 1)]) rfl sc_is_picture.nd (gi_seq (ge_var 0)) (blkOk_by (by kernel_rfl)) (fun _ _ _ _ _ => (gg_name 1 sc_is_picture.nd)) (fun _ _ _ _ _ => gts_nil) (fun _ _ _ _ _ => (ge_and (ge_eq hr.units ((ge_len T.len (gao_cons ((ge_var 1)).go gao_nil))).go ((ge_len T.len (gao_cons ((ge_sub1 ((ge_var 0)).go (ge_int).go)).go gao_nil))).go) (ge_one (ge_all rfl T.all (gao_cons (((gf_lc (own := [("sign", 2)]) rfl sc_is_picture.nd (gi_seq (ge_var 1)) (blkOk_by (by kernel_rfl)) (fun _ _ _ _ _ => (gg_name 2 sc_is_picture.nd)) (fun _ _ _ _ _ => gts_nil) (fun _ _ _ _ _ => (ge_in hr.units ((ge_var 2)).go ((ge_tup (ga_cons (ge_gstr T.BLACK) (ga_cons (ge_gstr T.WHITE) ga_nil)))).go)) (by decide) (by decide))).ge).go gao_nil))))) (by decide) (by decide))).ge).go gao_nil))))))⟩
abbrev s_lines_of : Stmt := top 16
theorem sc_lines_of : FnScope ["picture"] ["picture"] (defScope s_lines_of) := ⟨rfl, rfl, rfl, by decide +kernel, rfl, by decide +kernel, by decide +kernel⟩
def b_lines_of : SS := retS (binE addD (callB lenD (consA (vE 0) (nilA))) (callB lenD (consA (binE ixD (vE 0) (cE (.int 0))) (nilA))))
def m_lines_of : List D → List D → RE D := defD 1 b_lines_of
theorem d_lines_of (T : Tx K mg) : DefOk P w K mg base CX0 r "lines_of" 1 1 m_lines_of := by
  obtain ⟨f, fd, F, hm⟩ := T.f_lines_of
  refine fn_def (k := 0) F sc_lines_of hm (fun _ _ _ _ _ _ us hl => match us, hl with | [_], _ => rfl) (fun cdv A outer s H E hr => ?_) (m := b_lines_of)
  exact ⟨_, _, (gss_one (gs_ret (On := []) (ge_add ((ge_len T.len (gao_cons ((ge_var 0)).go gao_nil))).go ((ge_len T.len (gao_cons ((ge_sub1 ((ge_var 0)).go (ge_int).go)).go gao_nil))).go)))⟩
abbrev s_black_of : Stmt := top 17
theorem sc_black_of : FnScope ["picture", "sign", "row"] ["picture"] (defScope s_black_of) := ⟨rfl, rfl, rfl, by decide +kernel, rfl, by decide +kernel, by decide +kernel⟩
def b_black_of : SS := retS (callB sum2D (consA (compE (seqI (vE 0)) [2] t1 [2] (yesT) (callB lenD (consA (compE (seqI (vE 2)) [1] t1 [1] (boolE (binE eqD (vE 1) (cE (.str "#")))) (cE (.int 1))) (nilA)))) (nilA)))
def m_black_of : List D → List D → RE D := defD 3 b_black_of
theorem d_black_of (T : Tx K mg) : DefOk P w K mg base CX0 r "black_of" 1 1 m_black_of := by
  obtain ⟨f, fd, F, hm⟩ := T.f_black_of
  refine fn_def (k := 0) F sc_black_of hm (fun _ _ _ _ _ _ us hl => match us, hl with | [_], _ => rfl) (fun cdv A outer s H E hr => ?_) (m := b_black_of)
  exact ⟨_, _, (gss_one (gs_ret (On := []) (ge_sum2 rfl T.sum (gao_cons (((gf_lc (own := [("row", 2)]) rfl sc_black_of.nd (gi_seq (ge_var 0)) (blkOk_by (by kernel_rfl)) (fun _ _ _ _ _ => (gg_name 2 sc_black_of.nd)) (fun _ _ _ _ _ => gts_nil) (fun _ _ _ _ _ => (ge_len T.len (gao_cons (((gf_lc (own := [("sign", 1)]) rfl sc_black_of.nd (gi_seq (ge_var 2)) (blkOk_by (by kernel_rfl)) (fun _ _ _ _ _ => (gg_name 1 sc_black_of.nd)) (fun _ _ _ _ _ => (gts_one (gt_eq hr.units ((ge_var 1)).go ((ge_gstr T.BLACK)).go))) (fun _ _ _ _ _ => ge_int) (by decide) (by decide))).ge).go gao_nil))) (by decide) (by decide))).ge).go gao_nil))))⟩
abbrev s_row_sums_of : Stmt := top 19
theorem sc_row_sums_of : FnScope ["picture", "sign", "row"] ["picture"] (defScope s_row_sums_of) := ⟨rfl, rfl, rfl, by decide +kernel, rfl, by decide +kernel, by decide +kernel⟩
def b_row_sums_of : SS := retS (callB tupleD (consA (compE (seqI (vE 0)) [2] t1 [2] (yesT) (callB lenD (consA (compE (seqI (vE 2)) [1] t1 [1] (boolE (binE eqD (vE 1) (cE (.str "#")))) (cE (.int 1))) (nilA)))) (nilA)))
def m_row_sums_of : List D → List D → RE D := defD 3 b_row_sums_of
theorem d_row_sums_of (T : Tx K mg) : DefOk P w K mg base CX0 r "row_sums_of" 1 1 m_row_sums_of := by
  obtain ⟨f, fd, F, hm⟩ := T.f_row_sums_of
  refine fn_def (k := 0) F sc_row_sums_of hm (fun _ _ _ _ _ _ us hl => match us, hl with | [_], _ => rfl) (fun cdv A outer s H E hr => ?_) (m := b_row_sums_of)
  exact ⟨_, _, (gss_one (gs_ret (On := []) (ge_tuple T.tuple (gao_cons (((gf_lc (own := [("row", 2)]) rfl sc_row_sums_of.nd (gi_seq (ge_var 0)) (blkOk_by (by kernel_rfl)) (fun _ _ _ _ _ => (gg_name 2 sc_row_sums_of.nd)) (fun _ _ _ _ _ => gts_nil) (fun _ _ _ _ _ => (ge_len T.len (gao_cons (((gf_lc (own := [("sign", 1)]) rfl sc_row_sums_of.nd (gi_seq (ge_var 2)) (blkOk_by (by kernel_rfl)) (fun _ _ _ _ _ => (gg_name 1 sc_row_sums_of.nd)) (fun _ _ _ _ _ => (gts_one (gt_eq hr.units ((ge_var 1)).go ((ge_gstr T.BLACK)).go))) (fun _ _ _ _ _ => ge_int) (by decide) (by decide))).ge).go gao_nil))) (by decide) (by decide))).ge).go gao_nil))))⟩
abbrev s_column_sums_of : Stmt := top 20
theorem sc_column_sums_of : FnScope ["picture", "row", "at"] ["picture"] (defScope s_column_sums_of) := ⟨rfl, rfl, rfl, by decide +kernel, rfl, by decide +kernel, by decide +kernel⟩
def b_column_sums_of : SS := retS (callB tupleD (consA (compE (rangeI range1D (consA (callB lenD (consA (binE ixD (vE 0) (cE (.int 0))) (nilA))) (nilA))) [2] t1 [2] (yesT) (callB lenD (consA (compE (seqI (vE 0)) [1] t1 [1] (boolE (binE eqD (binE ixD (vE 1) (vE 2)) (cE (.str "#")))) (cE (.int 1))) (nilA)))) (nilA)))
def m_column_sums_of : List D → List D → RE D := defD 3 b_column_sums_of
theorem d_column_sums_of (T : Tx K mg) : DefOk P w K mg base CX0 r "column_sums_of" 1 1 m_column_sums_of := by
  obtain ⟨f, fd, F, hm⟩ := T.f_column_sums_of
  refine fn_def (k := 0) F sc_column_sums_of hm (fun _ _ _ _ _ _ us hl => match us, hl with | [_], _ => rfl) (fun cdv A outer s H E hr => ?_) (m := b_column_sums_of)
  exact ⟨_, _, (gss_one (gs_ret (On := []) (ge_tuple T.tuple (gao_cons (((gf_lc (own := [("at", 2)]) rfl sc_column_sums_of.nd (gi_range1 T.range (gao_cons ((ge_len T.len (gao_cons ((ge_sub1 ((ge_var 0)).go (ge_int).go)).go gao_nil))).go gao_nil)) (blkOk_by (by kernel_rfl)) (fun _ _ _ _ _ => (gg_name 2 sc_column_sums_of.nd)) (fun _ _ _ _ _ => gts_nil) (fun _ _ _ _ _ => (ge_len T.len (gao_cons (((gf_lc (own := [("row", 1)]) rfl sc_column_sums_of.nd (gi_seq (ge_var 0)) (blkOk_by (by kernel_rfl)) (fun _ _ _ _ _ => (gg_name 1 sc_column_sums_of.nd)) (fun _ _ _ _ _ => (gts_one (gt_eq hr.units ((ge_sub1 ((ge_var 1)).go ((ge_var 2)).go)).go ((ge_gstr T.BLACK)).go))) (fun _ _ _ _ _ => ge_int) (by decide) (by decide))).ge).go gao_nil))) (by decide) (by decide))).ge).go gao_nil))))⟩
abbrev s_part_of : Stmt := top 22
theorem sc_part_of : FnScope ["picture", "rows", "columns", "spot", "at"] ["picture", "rows", "columns"] (defScope s_part_of) := ⟨rfl, rfl, rfl, by decide +kernel, rfl, by decide +kernel, by decide +kernel⟩
def b_part_of : SS := retS (callB tupleD (consA (compE (seqI (vE 1)) [4] t1 [4] (yesT) (methE isStrD joinD (cE (.str "")) (compE (seqI (vE 2)) [3] t1 [3] (yesT) (binE ixD (binE ixD (vE 0) (vE 4)) (vE 3))))) (nilA)))
def m_part_of : List D → List D → RE D := defD 5 b_part_of
theorem d_part_of (T : Tx K mg) : DefOk P w K mg base CX0 r "part_of" 1 3 m_part_of := by
  obtain ⟨f, fd, F, hm⟩ := T.f_part_of
  refine fn_def (k := 0) F sc_part_of hm (fun _ _ _ _ _ _ us hl => match us, hl with | [_, _, _], _ => rfl) (fun cdv A outer s H E hr => ?_) (m := b_part_of)
  exact ⟨_, _, (gss_one (gs_ret (On := []) (ge_tuple T.tuple (gao_cons (((gf_lc (own := [("at", 4)]) rfl sc_part_of.nd (gi_seq (ge_var 1)) (blkOk_by (by kernel_rfl)) (fun _ _ _ _ _ => (gg_name 4 sc_part_of.nd)) (fun _ _ _ _ _ => gts_nil) (fun _ _ _ _ _ => (ge_join (ge_str).go (((gf_lc (own := [("spot", 3)]) rfl sc_part_of.nd (gi_seq (ge_var 2)) (blkOk_by (by kernel_rfl)) (fun _ _ _ _ _ => (gg_name 3 sc_part_of.nd)) (fun _ _ _ _ _ => gts_nil) (fun _ _ _ _ _ => (ge_sub1 ((ge_sub1 ((ge_var 0)).go ((ge_var 4)).go)).go ((ge_var 3)).go)) (by decide) (by decide))).ge).go)) (by decide) (by decide))).ge).go gao_nil))))⟩
abbrev s_leads_to : Stmt := top 24
theorem sc_leads_to : FnScope ["picture", "line", "high", "at", "sign", "row"] ["picture", "line"] (defScope s_leads_to) := ⟨rfl, rfl, rfl, by decide +kernel, rfl, by decide +kernel, by decide +kernel⟩
def b_leads_to : SS := seqS (setS 2 (callB lenD (consA (vE 0) (nilA)))) (seqS (ifS (boolE (binE ltD (vE 1) (vE 2))) (retS (compE (rangeI enumD (consA (binE ixD (vE 0) (vE 1)) (nilA))) [3, 4] (tN 2) [3, 4] (boolE (binE neD (vE 4) (cE (.str "#")))) (binE addD (vE 2) (vE 3)))) (skipS)) (retS (compE (rangeI enumD (consA (vE 0) (nilA))) [3, 5] (tN 2) [3, 5] (boolE (binE eqD (binE ixD (vE 5) (binE subD (vE 1) (vE 2))) (cE (.str "#")))) (vE 3))))
def m_leads_to : List D → List D → RE D := defD 6 b_leads_to
theorem d_leads_to (T : Tx K mg) : DefOk P w K mg base CX0 r "leads_to" 1 2 m_leads_to := by
  obtain ⟨f, fd, F, hm⟩ := T.f_leads_to
  refine fn_def (k := 0) F sc_leads_to hm (fun _ _ _ _ _ _ us hl => match us, hl with | [_, _], _ => rfl) (fun cdv A outer s H E hr => ?_) (m := b_leads_to)
  exact ⟨_, _, (gss_cons (GS.post (On' := []) (by decide) (gs_set 2 sc_leads_to.nd (ge_len T.len (gao_cons ((ge_var 0)).go gao_nil)))) (gss_cons (gs_if (gt_lt ((ge_var 1)).go ((ge_var 2)).go) (gss_one (gs_ret (On := []) ((gf_lc (own := [("at", 3), ("sign", 4)]) rfl sc_leads_to.nd (gi_enum T.enumerate (ga_cons (ge_sub1 ((ge_var 0)).go ((ge_var 1)).go) ga_nil)) (blkOk_by (by kernel_rfl)) (fun _ _ _ _ _ => (gg_tup rfl (ggs_cons 3 sc_leads_to.nd (ggs_cons 4 sc_leads_to.nd ggs_nil)) rfl)) (fun _ _ _ _ _ => (gts_one (gt_ne hr.units ((ge_var 4)).go ((ge_gstr T.BLACK)).go))) (fun _ _ _ _ _ => (ge_add ((ge_var 2)).go ((ge_var 3)).go)) (by decide) (by decide))).ge)) (GSs.post (On' := []) (by decide) gss_nil)) (gss_one (gs_ret (On := []) ((gf_lc (own := [("at", 3), ("row", 5)]) rfl sc_leads_to.nd (gi_enum T.enumerate (ga_cons (ge_var 0) ga_nil)) (blkOk_by (by kernel_rfl)) (fun _ _ _ _ _ => (gg_tup rfl (ggs_cons 3 sc_leads_to.nd (ggs_cons 5 sc_leads_to.nd ggs_nil)) rfl)) (fun _ _ _ _ _ => (gts_one (gt_eq hr.units ((ge_sub1 ((ge_var 5)).go ((ge_sub ((ge_var 1)).go ((ge_var 2)).go)).go)).go ((ge_gstr T.BLACK)).go))) (fun _ _ _ _ _ => (ge_var 3)) (by decide) (by decide))).ge))))⟩
abbrev s_chosen : Stmt := top 32
theorem sc_chosen : FnScope ["many", "some", "found", "turn"] ["many", "some"] (defScope s_chosen) := ⟨rfl, rfl, rfl, by decide +kernel, rfl, by decide +kernel, by decide +kernel⟩
def b_chosen : SS := seqS (setS 2 (cE (.int 1))) (seqS (forS (rangeI range1D (consA (vE 1) (nilA))) t1 [3] (setS 2 (binE fdivD (binE mulD (vE 2) (binE subD (vE 0) (vE 3))) (binE addD (vE 3) (cE (.int 1)))))) (retS (vE 2)))
def m_chosen : List D → List D → RE D := defD 4 b_chosen
theorem d_chosen (T : Tx K mg) : DefOk P w K mg base CX0 r "chosen" 1 2 m_chosen := by
  obtain ⟨f, fd, F, hm⟩ := T.f_chosen
  refine fn_def (k := 0) F sc_chosen hm (fun _ _ _ _ _ _ us hl => match us, hl with | [_, _], _ => rfl) (fun cdv A outer s H E hr => ?_) (m := b_chosen)
  exact ⟨_, _, (gss_cons (GS.post (On' := []) (by decide) (gs_set 2 sc_chosen.nd ge_int)) (gss_cons (gs_for .never rfl (gi_range1 T.range (gao_cons ((ge_var 1)).go gao_nil)) (gg_name 3 sc_chosen.nd) (GSs.post (On' := []) (by decide) (gss_one (GS.post (On' := []) (by decide) (gs_set 2 sc_chosen.nd (ge_fdiv ((ge_mul ((ge_var 2)).go ((ge_sub ((ge_var 0)).go ((ge_var 3)).go)).go)).go ((ge_add ((ge_var 3)).go (ge_int).go)).go))))) (by decide) (fun d ds h => by cases h; rfl)) (gss_one (gs_ret (On := []) (ge_var 2)))))⟩
abbrev s_by_layers : Stmt := top 36
theorem sc_by_layers : FnScope ["rows", "columns", "told", "later", "at", "some", "line", "found", "row", "spot"] ["rows", "columns", "told"] (defScope s_by_layers) := ⟨rfl, rfl, rfl, by decide +kernel, rfl, by decide +kernel, by decide +kernel⟩
def b_by_layers : SS := seqS (setFS 3 (cE (.dic []))) (seqS (forS (rangeI enumD (consA (vE 2) (nilA))) (tN 2) [4, 5] (forS (seqI (vE 5)) t1 [6] (dsetS 3 (vE 6) (vE 4)))) (seqS (setFS 7 (lstE (nilA))) (seqS (forS (rangeI range1D (consA (vE 0) (nilA))) t1 [8] (appS 7 (methE isStrD joinD (cE (.str "")) (compE (rangeI range1D (consA (vE 1) (nilA))) [9] t1 [9] (yesT) (ifE (boolE (binE ltD (binE ixKD (vE 3) (vE 8)) (binE ixKD (vE 3) (binE addD (vE 0) (vE 9))))) (cE (.str "#")) (cE (.str "."))))))) (retS (callB tupleD (consA (vE 7) (nilA)))))))
def m_by_layers : List D → List D → RE D := defD 10 b_by_layers
theorem d_by_layers (T : Tx K mg) : DefOk P w K mg base CX0 r "by_layers" 1 3 m_by_layers := by
  obtain ⟨f, fd, F, hm⟩ := T.f_by_layers
  refine fn_def (k := 0) F sc_by_layers hm (fun _ _ _ _ _ _ us hl => match us, hl with | [_, _, _], _ => rfl) (fun cdv A outer s H E hr => ?_) (m := b_by_layers)
  exact ⟨_, _, (gss_cons (GS.post (On' := [3]) (by decide) (gs_setF 3 sc_by_layers.nd gf_dnew)) (gss_cons (gs_for .never rfl (gi_enum T.enumerate (ga_cons (ge_var 2) ga_nil)) (gg_tup rfl (ggs_cons 4 sc_by_layers.nd (ggs_cons 5 sc_by_layers.nd ggs_nil)) rfl) (GSs.post (On' := [3]) (by decide) (gss_one (gs_for .never rfl (gi_seq (ge_var 5)) (gg_name 6 sc_by_layers.nd) (GSs.post (On' := [3]) (by decide) (gss_one (gs_dset 3 hr.units (by decide) (ge_var 6) (ge_var 4)))) (by decide) (fun d ds h => by cases h; rfl)))) (by decide) (fun d ds h => tN_len h)) (gss_cons (GS.post (On' := [3, 7]) (by decide) (gs_setF 7 sc_by_layers.nd (gf_lst ga_nil))) (gss_cons (gs_for .never rfl (gi_range1 T.range (gao_cons ((ge_var 0)).go gao_nil)) (gg_name 8 sc_by_layers.nd) (GSs.post (On' := [3, 7]) (by decide) (gss_one (gs_append 7 (by decide) (ge_join (ge_str).go (((gf_lc (own := [("spot", 9)]) rfl sc_by_layers.nd (gi_range1 T.range (gao_cons ((ge_var 1)).go gao_nil)) (blkOk_by (by kernel_rfl)) (fun _ _ _ _ _ => (gg_name 9 sc_by_layers.nd)) (fun _ _ _ _ _ => gts_nil) (fun _ _ _ _ _ => (ge_ifExp (gt_lt ((ge_ixK hr.units (go_own 3) ((ge_var 8)).go)).go ((ge_ixK hr.units (go_own 3) ((ge_add ((ge_var 0)).go ((ge_var 9)).go)).go)).go) (ge_gstr T.BLACK) (ge_gstr T.WHITE))) (by decide) (by decide))).ge).go)))) (by decide) (fun d ds h => by cases h; rfl)) (gss_one (gs_ret (On := []) (ge_tuple T.tuple (gao_cons (go_own 7) gao_nil))))))))⟩
abbrev s_law_taken : Stmt := top 51
theorem sc_law_taken : FnScope ["_law_row", "_law_many", "_law_found", "_law_cell"] ["_law_row", "_law_many"] (defScope s_law_taken) := ⟨rfl, rfl, rfl, by decide +kernel, rfl, by decide +kernel, by decide +kernel⟩
def b_law_taken : SS := seqS (ifS (boolE (binE gtD (tixE (vE 0) (cE (.int 3))) (cE (.int 0)))) (seqS (setS 2 (binE modD (callB intD (consA (tixE (vE 0) (cE (.int 3))) (nilA))) (vE 1))) (seqS (tsetS 3 (vE 0) (cE (.int 3)) (binE fdivD (tixE (vE 0) (cE (.int 3))) (vE 1))) (retS (vE 2)))) (skipS)) (seqS (tsetS 1 (vE 0) (cE (.int 1)) (binE addD (tixE (vE 0) (cE (.int 1))) (cE (.int 1)))) (seqS (ifS (boolE (binE gtD (tixE (vE 0) (cE (.int 1))) (callB lenD (consA (tixE (vE 0) (cE (.int 0))) (nilA))))) (seqS (tsetS 2 (vE 0) (cE (.int 2)) (binE modD (callB intD (consA (binE addD (binE mulD (tixE (vE 0) (cE (.int 2))) (cE (.int 48271))) (cE (.int 11))) (nilA))) (cE (.int 2147483647)))) (retS (binE modD (callB intD (consA (binE fdivD (tixE (vE 0) (cE (.int 2))) (cE (.int 7))) (nilA))) (vE 1)))) (skipS)) (seqS (setS 3 (binE ixD (tixE (vE 0) (cE (.int 0))) (binE subD (tixE (vE 0) (cE (.int 1))) (cE (.int 1))))) (seqS (tsetS 2 (vE 0) (cE (.int 2)) (binE modD (callB intD (consA (binE addD (binE addD (binE mulD (tixE (vE 0) (cE (.int 2))) (cE (.int 48271))) (vE 3)) (cE (.int 11))) (nilA))) (cE (.int 2147483647)))) (seqS (ifS (boolE (binE geD (vE 3) (binE powD (cE (.int 10)) (cE (.int 18))))) (tsetS 3 (vE 0) (cE (.int 3)) (binE fdivD (vE 3) (vE 1))) (skipS)) (retS (binE modD (callB intD (consA (vE 3) (nilA))) (vE 1))))))))
def m_law_taken : List D → List D → RE D := defD 4 b_law_taken
theorem d_law_taken (T : Tx K mg) : DefOk P w K mg base CX0 r "_law_taken" 1 2 m_law_taken := by
  obtain ⟨f, fd, F, hm⟩ := T.f_law_taken
  refine fn_def (k := 0) F sc_law_taken hm (fun _ _ _ _ _ _ us hl => match us, hl with | [_, _], _ => rfl) (fun cdv A outer s H E hr => ?_) (m := b_law_taken)
  exact ⟨_, _, (gss_cons (gs_if (gt_gt ((ge_tix ((ge_var 0)).go (ge_int).go)).go (ge_int).go) (gss_cons (GS.post (On' := []) (by decide) (gs_set 2 sc_law_taken.nd (ge_mod ((ge_int1 T.int (gao_cons ((ge_tix ((ge_var 0)).go (ge_int).go)).go gao_nil))).go ((ge_var 1)).go))) (gss_cons (gs_tset 3 (ge_fdiv ((ge_tix ((ge_var 0)).go (ge_int).go)).go ((ge_var 1)).go) ((ge_var 0)).go (ge_int).go) (gss_one (gs_ret (On := []) (ge_var 2))))) (GSs.post (On' := []) (by decide) gss_nil)) (gss_cons (gs_tset 1 (ge_add ((ge_tix ((ge_var 0)).go (ge_int).go)).go (ge_int).go) ((ge_var 0)).go (ge_int).go) (gss_cons (gs_if (gt_gt ((ge_tix ((ge_var 0)).go (ge_int).go)).go ((ge_len T.len (gao_cons ((ge_tix ((ge_var 0)).go (ge_int).go)).go gao_nil))).go) (gss_cons (gs_tset 2 (ge_mod ((ge_int1 T.int (gao_cons ((ge_add ((ge_mul ((ge_tix ((ge_var 0)).go (ge_int).go)).go (ge_int).go)).go (ge_int).go)).go gao_nil))).go (ge_int).go) ((ge_var 0)).go (ge_int).go) (gss_one (gs_ret (On := []) (ge_mod ((ge_int1 T.int (gao_cons ((ge_fdiv ((ge_tix ((ge_var 0)).go (ge_int).go)).go (ge_int).go)).go gao_nil))).go ((ge_var 1)).go)))) (GSs.post (On' := []) (by decide) gss_nil)) (gss_cons (GS.post (On' := []) (by decide) (gs_set 3 sc_law_taken.nd (ge_sub1 ((ge_tix ((ge_var 0)).go (ge_int).go)).go ((ge_sub ((ge_tix ((ge_var 0)).go (ge_int).go)).go (ge_int).go)).go))) (gss_cons (gs_tset 2 (ge_mod ((ge_int1 T.int (gao_cons ((ge_add ((ge_add ((ge_mul ((ge_tix ((ge_var 0)).go (ge_int).go)).go (ge_int).go)).go ((ge_var 3)).go)).go (ge_int).go)).go gao_nil))).go (ge_int).go) ((ge_var 0)).go (ge_int).go) (gss_cons (gs_if (gt_ge ((ge_var 3)).go ((ge_pow (ge_int).go (ge_int).go)).go) (GSs.post (On' := []) (by decide) (gss_one (gs_tset 3 (ge_fdiv ((ge_var 3)).go ((ge_var 1)).go) ((ge_var 0)).go (ge_int).go))) (GSs.post (On' := []) (by decide) gss_nil)) (gss_one (gs_ret (On := []) (ge_mod ((ge_int1 T.int (gao_cons ((ge_var 3)).go gao_nil))).go ((ge_var 1)).go)))))))))⟩
abbrev s_is_in : Stmt := top 12
theorem sc_is_in : FnScope ["value", "least", "most"] ["value", "least", "most"] (defScope s_is_in) := ⟨rfl, rfl, rfl, by decide +kernel, rfl, by decide +kernel, by decide +kernel⟩
def b_is_in : SS := retS (andE (callE 1 m_is_int (consA (vE 0) (nilA))) (chainE leD leD (vE 1) (vE 0) (vE 2)))
def m_is_in : List D → List D → RE D := defD 3 b_is_in
theorem d_is_in (T : Tx K mg) : DefOk P w K mg base CX0 r "is_in" 2 3 m_is_in := by
  obtain ⟨f, fd, F, hm⟩ := T.f_is_in
  refine fn_def (k := 1) F sc_is_in hm (fun _ _ _ _ _ _ us hl => match us, hl with | [_, _, _], _ => rfl) (fun cdv A outer s H E hr => ?_) (m := b_is_in)
  exact ⟨_, _, (gss_one (gs_ret (On := []) (ge_and (ge_call (d_is_int T) (hr.mono (by decide)) pass0 (ga_cons (ge_var 0) ga_nil)) (ge_one (ge_leLe ((ge_var 1)).go ((ge_var 0)).go ((ge_var 2)).go)))))⟩
abbrev s_need_picture : Stmt := top 15
theorem sc_need_picture : FnScope ["value"] ["value"] (defScope s_need_picture) := ⟨rfl, rfl, rfl, by decide +kernel, rfl, by decide +kernel, by decide +kernel⟩
def b_need_picture : SS := ifS (notT (boolE (callE 1 m_is_picture (consA (vE 0) (nilA))))) ((fun _ _ => .stuck)) (skipS)
def m_need_picture : List D → List D → RE D := defD 1 b_need_picture
theorem d_need_picture (T : Tx K mg) : DefOk P w K mg base CX0 r "need_picture" 2 1 m_need_picture := by
  obtain ⟨f, fd, F, hm⟩ := T.f_need_picture
  refine fn_def (k := 1) F sc_need_picture hm (fun _ _ _ _ _ _ us hl => match us, hl with | [_], _ => rfl) (fun cdv A outer s H E hr => ?_) (m := b_need_picture)
  exact ⟨_, _, (gss_one (gs_if (gt_not (gt_val (ge_call (d_is_picture T) (hr.mono (by decide)) pass0 (ga_cons (ge_var 0) ga_nil)))) (gss_one (gs_never (On := []))) (GSs.post (On' := []) (by decide) gss_nil)))⟩
abbrev s_layers_of : Stmt := top 25
theorem sc_layers_of : FnScope ["picture", "left", "found", "ways", "line", "told", "some", "other", "gone"] ["picture"] (defScope s_layers_of) := ⟨rfl, rfl, rfl, by decide +kernel, rfl, by decide +kernel, by decide +kernel⟩
def b_layers_of : SS := seqS (parS [1, 2] (consA (rg1E .lst (callE 1 m_lines_of (consA (vE 0) (nilA)))) (consA (lstE (nilA)) (nilA)))) (seqS (setS 3 (compE (seqI (vE 1)) [4] t1 [4] (yesT) (callE 2 m_leads_to (consA (vE 0) (consA (vE 4) (nilA)))))) (whileS 1000000 (boolE (cE (.bl true))) (seqS (setS 5 (dcE (seqI (vE 1)) [4] t1 [4] (vE 4) (cE (.bl true)))) (seqS (setS 6 (compE (seqI (vE 1)) [4] t1 [4] (notT (boolE (callB anyD (consA (compE (seqI (binE ixD (vE 3) (vE 4))) [7] t1 [7] (yesT) (binE (inKD false) (vE 7) (vE 5))) (nilA))))) (vE 4))) (seqS (ifS (boolE (binE eqD (vE 6) (lstE (nilA)))) (retS (vE 2)) (skipS)) (seqS (appS 2 (vE 6)) (seqS (setS 8 (dcE (seqI (vE 6)) [4] t1 [4] (vE 4) (cE (.bl true)))) (setS 1 (compE (seqI (vE 1)) [4] t1 [4] (boolE (binE (inKD true) (vE 4) (vE 8))) (vE 4))))))))))
def m_layers_of : List D → List D → RE D := defD 9 b_layers_of
theorem d_layers_of (T : Tx K mg) : DefOk P w K mg base CX0 r "layers_of" 2 1 m_layers_of := by
  obtain ⟨f, fd, F, hm⟩ := T.f_layers_of
  refine fn_def (k := 1) F sc_layers_of hm (fun _ _ _ _ _ _ us hl => match us, hl with | [_], _ => rfl) (fun cdv A outer s H E hr => ?_) (m := b_layers_of)
  exact ⟨_, _, (gss_cons (GS.post (On' := [2]) (by decide) (gs_par2 1 2 sc_layers_of.nd (gak_st ((gf_listRg1 T.list T.range ((ge_call (d_lines_of T) (hr.mono (by decide)) pass0 (ga_cons (ge_var 0) ga_nil))).go)).ge (gak_fr (gf_lst ga_nil) gak_nil)))) (gss_cons (GS.post (On' := [2]) (by decide) (gs_set 3 sc_layers_of.nd ((gf_lc (own := [("line", 4)]) rfl sc_layers_of.nd (gi_seq (ge_var 1)) (blkOk_by (by kernel_rfl)) (fun _ _ _ _ _ => (gg_name 4 sc_layers_of.nd)) (fun _ _ _ _ _ => gts_nil) (fun _ _ _ _ _ => (ge_call (d_leads_to T) (hr.mono (by decide)) pass0 (ga_cons (ge_var 0) (ga_cons (ge_var 4) ga_nil)))) (by decide) (by decide))).ge)) (gss_one (gs_while 1000000 .never (gt_val ge_bl) (GSs.post (On' := [2]) (by decide) (gss_cons (GS.post (On' := [2]) (by decide) (gs_set 5 sc_layers_of.nd ((gf_dc (own := [("line", 4)]) rfl sc_layers_of.nd (gi_seq (ge_var 1)) (blkOk_by (by kernel_rfl)) (fun _ _ _ _ _ => (gg_name 4 sc_layers_of.nd)) (fun _ _ _ _ _ => gts_nil) (fun _ _ _ _ _ => (ge_var 4)) (fun _ _ _ _ _ => ge_bl) (by decide) (by decide))).ge)) (gss_cons (GS.post (On' := [2]) (by decide) (gs_setLc (i := 6) (lc_stmt (own := [("line", 4)]) rfl sc_layers_of.nd (gi_seq (ge_var 1)) (blkOk_by (by kernel_rfl)) (fun _ _ _ _ _ => (gg_name 4 sc_layers_of.nd)) (fun _ _ _ _ _ => (gts_one (gt_not (gt_val (ge_any rfl T.any (gao_cons (((gf_lc (own := [("other", 7)]) rfl sc_layers_of.nd (gi_seq (ge_sub1 ((ge_var 3)).go ((ge_var 4)).go)) (blkOk_by (by kernel_rfl)) (fun _ _ _ _ _ => (gg_name 7 sc_layers_of.nd)) (fun _ _ _ _ _ => gts_nil) (fun _ _ _ _ _ => (ge_inK hr.units ((ge_var 7)).go ((ge_var 5)).go)) (by decide) (by decide))).ge).go gao_nil)))))) (fun _ _ _ _ _ => (ge_var 4)) (by decide) (by decide)))) (gss_cons (gs_if (gt_eq hr.units ((ge_var 6)).go (((gf_lst ga_nil)).ge).go) (gss_one (gs_retO (On := [2]) 2 (by decide))) (GSs.post (On' := [2]) (by decide) gss_nil)) (gss_cons (gs_append 2 (by decide) (ge_var 6)) (gss_cons (GS.post (On' := [2]) (by decide) (gs_set 8 sc_layers_of.nd ((gf_dc (own := [("line", 4)]) rfl sc_layers_of.nd (gi_seq (ge_var 6)) (blkOk_by (by kernel_rfl)) (fun _ _ _ _ _ => (gg_name 4 sc_layers_of.nd)) (fun _ _ _ _ _ => gts_nil) (fun _ _ _ _ _ => (ge_var 4)) (fun _ _ _ _ _ => ge_bl) (by decide) (by decide))).ge)) (gss_one (GS.post (On' := [2]) (by decide) (gs_setLc (i := 1) (lc_stmt (own := [("line", 4)]) rfl sc_layers_of.nd (gi_seq (ge_var 1)) (blkOk_by (by kernel_rfl)) (fun _ _ _ _ _ => (gg_name 4 sc_layers_of.nd)) (fun _ _ _ _ _ => (gts_one (gt_notInK hr.units ((ge_var 4)).go ((ge_var 8)).go))) (fun _ _ _ _ _ => (ge_var 4)) (by decide) (by decide)))))))))))))))⟩
abbrev s_ways_left : Stmt := top 34
theorem sc_ways_left : FnScope ["known", "rows", "columns", "is_rows", "key", "found", "many"] ["known", "rows", "columns", "is_rows"] (defScope s_ways_left) := ⟨rfl, rfl, rfl, by decide +kernel, rfl, by decide +kernel, by decide +kernel⟩
def b_ways_left (rec : List D → List D → RE D) : SS := seqS (ifS (boolE (binE eqD (binE addD (vE 1) (vE 2)) (cE (.int 0)))) (retS (cE (.int 1))) (skipS)) (seqS (setS 4 (tupE (consA (vE 1) (consA (vE 2) (consA (vE 3) (nilA)))))) (memoS 0 4 5 (seqS (setS 5 (cE (.int 0))) (ifS (boolE (vE 3)) (forS (rangeI range2D (consA (cE (.int 1)) (consA (binE addD (vE 1) (cE (.int 1))) (nilA)))) t1 [6] (augS 5 addD (binE mulD (callE 2 m_chosen (consA (vE 1) (consA (vE 6) (nilA)))) (callE 4 rec (consA (vE 0) (consA (binE subD (vE 1) (vE 6)) (consA (vE 2) (consA (cE (.bl false)) (nilA))))))))) (forS (rangeI range2D (consA (cE (.int 1)) (consA (binE addD (vE 2) (cE (.int 1))) (nilA)))) t1 [6] (augS 5 addD (binE mulD (callE 2 m_chosen (consA (vE 2) (consA (vE 6) (nilA)))) (callE 4 rec (consA (vE 0) (consA (vE 1) (consA (binE subD (vE 2) (vE 6)) (consA (cE (.bl true)) (nilA)))))))))))))
def m_ways_left : Nat → List D → List D → RE D
  | 0 => fun _ _ => .stuck
  | n + 1 => defD 7 (b_ways_left (m_ways_left n))
theorem d_ways_left (T : Tx K mg) : ∀ n : Nat, DefOk P w K mg base CX0 r "ways_left" (n + 2) 4 (m_ways_left n)
  | 0 => by
    obtain ⟨f, fd, F, hm⟩ := T.f_ways_left
    exact def_stuck (ps := ["known", "rows", "columns", "is_rows"]) F hm (fun _ _ _ _ _ _ us hl => match us, hl with | [_, _, _, _], _ => rfl)
  | n + 1 => by
    have ih := d_ways_left T n
    obtain ⟨f, fd, F, hm⟩ := T.f_ways_left
    refine fn_def (k := n + 2) F sc_ways_left hm (fun _ _ _ _ _ _ us hl => match us, hl with | [_, _, _, _], _ => rfl) (fun cdv A outer s H E hr => ?_) (m := b_ways_left (m_ways_left n))
    exact ⟨_, _, (gss_cons (gs_if (gt_eq hr.units ((ge_add ((ge_var 1)).go ((ge_var 2)).go)).go (ge_int).go) (gss_one (gs_ret (On := []) ge_int)) (GSs.post (On' := []) (by decide) gss_nil)) (gss_cons (GS.post (On' := []) (by decide) (gs_set 4 sc_ways_left.nd (ge_tup (ga_cons (ge_var 1) (ga_cons (ge_var 2) (ga_cons (ge_var 3) ga_nil)))))) (gss_memo2 (On := []) (On' := []) (kn := 0) (ky := 4) (fn := 5) (by decide) (by decide) (by decide) (by decide) (by decide) (pt_cmp (pc_mnotin hr.units (pe_var (i := 4) rfl (by first | exact Or.inl rfl | exact Or.inr (Or.inl rfl) | exact Or.inr (Or.inr rfl))) (pe_var (i := 0) rfl (by first | exact Or.inl rfl | exact Or.inr (Or.inl rfl) | exact Or.inr (Or.inr rfl))))) (GS.post (On' := []) (by decide) (gs_set 5 sc_ways_left.nd ge_int)) (gs_if (gt_val (ge_var 3)) (GSs.post (On' := []) (by decide) (gss_one (gs_for .never rfl (gi_range2 T.range (gao_cons (ge_int).go (gao_cons ((ge_add ((ge_var 1)).go (ge_int).go)).go gao_nil))) (gg_name 6 sc_ways_left.nd) (GSs.post (On' := []) (by decide) (gss_one (gs_augAdd 5 sc_ways_left.nd (ge_mul ((ge_call (d_chosen T) (hr.mono (by omega)) pass0 (ga_cons (ge_var 1) (ga_cons (ge_var 6) ga_nil)))).go ((ge_call ih (hr.mono (by omega)) pass0 (ga_cons (ge_var 0) (ga_cons (ge_sub ((ge_var 1)).go ((ge_var 6)).go) (ga_cons (ge_var 2) (ga_cons ge_bl ga_nil)))))).go)))) (by decide) (fun d ds h => by cases h; rfl)))) (GSs.post (On' := []) (by decide) (gss_one (gs_for .never rfl (gi_range2 T.range (gao_cons (ge_int).go (gao_cons ((ge_add ((ge_var 2)).go (ge_int).go)).go gao_nil))) (gg_name 6 sc_ways_left.nd) (GSs.post (On' := []) (by decide) (gss_one (gs_augAdd 5 sc_ways_left.nd (ge_mul ((ge_call (d_chosen T) (hr.mono (by omega)) pass0 (ga_cons (ge_var 2) (ga_cons (ge_var 6) ga_nil)))).go ((ge_call ih (hr.mono (by omega)) pass0 (ga_cons (ge_var 0) (ga_cons (ge_var 1) (ga_cons (ge_sub ((ge_var 2)).go ((ge_var 6)).go) (ga_cons ge_bl ga_nil)))))).go)))) (by decide) (fun d ds h => by cases h; rfl))))) (ps_mput hr.units (pe_var (i := 0) rfl (by first | exact Or.inl rfl | exact Or.inr (Or.inl rfl) | exact Or.inr (Or.inr rfl))) (pe_var (i := 4) rfl (by first | exact Or.inl rfl | exact Or.inr (Or.inl rfl) | exact Or.inr (Or.inr rfl))) (pe_var (i := 5) rfl (by first | exact Or.inl rfl | exact Or.inr (Or.inl rfl) | exact Or.inr (Or.inr rfl))) rfl) (pe_mget hr.units (pe_var (i := 0) rfl (by first | exact Or.inl rfl | exact Or.inr (Or.inl rfl) | exact Or.inr (Or.inr rfl))) (pe_var (i := 4) rfl (by first | exact Or.inl rfl | exact Or.inr (Or.inl rfl) | exact Or.inr (Or.inr rfl))) (fun _ _ => rfl)))))⟩
abbrev s_subset_number : Stmt := top 39
theorem sc_subset_number : FnScope ["some", "told", "found", "at", "spot", "one"] ["some", "told"] (defScope s_subset_number) := ⟨rfl, rfl, rfl, by decide +kernel, rfl, by decide +kernel, by decide +kernel⟩
def b_subset_number : SS := seqS (parS [2, 3] (consA (cE (.int 0)) (consA (cE (.int 0)) (nilA)))) (seqS (forS (rangeI enumD (consA (vE 0) (nilA))) (tN 2) [4, 5] (ifS (boolE (binE ltD (vE 3) (callB lenD (consA (vE 1) (nilA))))) (ifS (boolE (binE eqD (binE ixD (vE 1) (vE 3)) (vE 5))) (augS 3 addD (cE (.int 1))) (augS 2 addD (callE 2 m_chosen (consA (binE subD (binE subD (callB lenD (consA (vE 0) (nilA))) (vE 4)) (cE (.int 1))) (consA (binE subD (binE subD (callB lenD (consA (vE 1) (nilA))) (vE 3)) (cE (.int 1))) (nilA)))))) (skipS))) (retS (vE 2)))
def m_subset_number : List D → List D → RE D := defD 6 b_subset_number
theorem d_subset_number (T : Tx K mg) : DefOk P w K mg base CX0 r "subset_number" 2 2 m_subset_number := by
  obtain ⟨f, fd, F, hm⟩ := T.f_subset_number
  refine fn_def (k := 1) F sc_subset_number hm (fun _ _ _ _ _ _ us hl => match us, hl with | [_, _], _ => rfl) (fun cdv A outer s H E hr => ?_) (m := b_subset_number)
  exact ⟨_, _, (gss_cons (GS.post (On' := []) (by decide) (gs_tup (gak_st ge_int (gak_st ge_int gak_nil)) (ggs_cons 2 sc_subset_number.nd (ggs_cons 3 sc_subset_number.nd ggs_nil)))) (gss_cons (gs_for .never rfl (gi_enum T.enumerate (ga_cons (ge_var 0) ga_nil)) (gg_tup rfl (ggs_cons 4 sc_subset_number.nd (ggs_cons 5 sc_subset_number.nd ggs_nil)) rfl) (GSs.post (On' := []) (by decide) (gss_one (gs_if (gt_lt ((ge_var 3)).go ((ge_len T.len (gao_cons ((ge_var 1)).go gao_nil))).go) (GSs.post (On' := []) (by decide) (gss_one (gs_if (gt_eq hr.units ((ge_sub1 ((ge_var 1)).go ((ge_var 3)).go)).go ((ge_var 5)).go) (GSs.post (On' := []) (by decide) (gss_one (gs_augAdd 3 sc_subset_number.nd ge_int))) (GSs.post (On' := []) (by decide) (gss_one (gs_augAdd 2 sc_subset_number.nd (ge_call (d_chosen T) (hr.mono (by decide)) pass0 (ga_cons (ge_sub ((ge_sub ((ge_len T.len (gao_cons ((ge_var 0)).go gao_nil))).go ((ge_var 4)).go)).go (ge_int).go) (ga_cons (ge_sub ((ge_sub ((ge_len T.len (gao_cons ((ge_var 1)).go gao_nil))).go ((ge_var 3)).go)).go (ge_int).go) ga_nil))))))))) (GSs.post (On' := []) (by decide) gss_nil)))) (by decide) (fun d ds h => tN_len h)) (gss_one (gs_ret (On := []) (ge_var 2)))))⟩
abbrev s_law_pick : Stmt := top 52
theorem sc_law_pick : FnScope ["_law_row", "_law_things"] ["_law_row", "_law_things"] (defScope s_law_pick) := ⟨rfl, rfl, rfl, by decide +kernel, rfl, by decide +kernel, by decide +kernel⟩
def b_law_pick : SS := retS (binE ixD (vE 1) (callE 2 m_law_taken (consA (vE 0) (consA (callB lenD (consA (vE 1) (nilA))) (nilA)))))
def m_law_pick : List D → List D → RE D := defD 2 b_law_pick
theorem d_law_pick (T : Tx K mg) : DefOk P w K mg base CX0 r "_law_pick" 2 2 m_law_pick := by
  obtain ⟨f, fd, F, hm⟩ := T.f_law_pick
  refine fn_def (k := 1) F sc_law_pick hm (fun _ _ _ _ _ _ us hl => match us, hl with | [_, _], _ => rfl) (fun cdv A outer s H E hr => ?_) (m := b_law_pick)
  exact ⟨_, _, (gss_one (gs_ret (On := []) (ge_sub1 ((ge_var 1)).go ((ge_call (d_law_taken T) (hr.mono (by decide)) pass0 (ga_cons (ge_var 0) (ga_cons (ge_len T.len (gao_cons ((ge_var 1)).go gao_nil)) ga_nil)))).go)))⟩
abbrev s_law_mixed : Stmt := top 53
theorem sc_law_mixed : FnScope ["_law_row", "_law_some", "_law_left", "_law_found", "_law_turn"] ["_law_row", "_law_some"] (defScope s_law_mixed) := ⟨rfl, rfl, rfl, by decide +kernel, rfl, by decide +kernel, by decide +kernel⟩
def b_law_mixed : SS := seqS (parS [2, 3] (consA (callB listD (consA (vE 1) (nilA))) (consA (lstE (nilA)) (nilA)))) (seqS (forS (rangeI range1D (consA (callB lenD (consA (vE 2) (nilA))) (nilA))) t1 [4] (appPopS 3 2 (callE 2 m_law_taken (consA (vE 0) (consA (callB lenD (consA (vE 2) (nilA))) (nilA)))))) (retS (vE 3)))
def m_law_mixed : List D → List D → RE D := defD 5 b_law_mixed
theorem d_law_mixed (T : Tx K mg) : DefOk P w K mg base CX0 r "_law_mixed" 2 2 m_law_mixed := by
  obtain ⟨f, fd, F, hm⟩ := T.f_law_mixed
  refine fn_def (k := 1) F sc_law_mixed hm (fun _ _ _ _ _ _ us hl => match us, hl with | [_, _], _ => rfl) (fun cdv A outer s H E hr => ?_) (m := b_law_mixed)
  exact ⟨_, _, (gss_cons (GS.post (On' := [2, 3]) (by decide) (gs_par2 2 3 sc_law_mixed.nd (gak_fr (gf_list1 T.list (gao_cons ((ge_var 1)).go gao_nil)) (gak_fr (gf_lst ga_nil) gak_nil)))) (gss_cons (gs_for .never rfl (gi_range1 T.range (gao_cons ((ge_len T.len (gao_cons (go_own 2) gao_nil))).go gao_nil)) (gg_name 4 sc_law_mixed.nd) (GSs.post (On' := [2, 3]) (by decide) (gss_one (gs_appPop 3 2 (by decide) (by decide) (by decide) (ge_call (d_law_taken T) (hr.mono (by decide)) pass0 (ga_cons (ge_var 0) (ga_cons (ge_len T.len (gao_cons (go_own 2) gao_nil)) ga_nil)))))) (by decide) (fun d ds h => by cases h; rfl)) (gss_one (gs_retO (On := []) 3 (by decide)))))⟩
abbrev s_need_number : Stmt := top 13
theorem sc_need_number : FnScope ["value", "least", "most"] ["value", "least", "most"] (defScope s_need_number) := ⟨rfl, rfl, rfl, by decide +kernel, rfl, by decide +kernel, by decide +kernel⟩
def b_need_number : SS := ifS (notT (boolE (callE 3 m_is_in (consA (vE 0) (consA (vE 1) (consA (vE 2) (nilA))))))) ((fun _ _ => .stuck)) (skipS)
def m_need_number : List D → List D → RE D := defD 3 b_need_number
theorem d_need_number (T : Tx K mg) : DefOk P w K mg base CX0 r "need_number" 3 3 m_need_number := by
  obtain ⟨f, fd, F, hm⟩ := T.f_need_number
  refine fn_def (k := 2) F sc_need_number hm (fun _ _ _ _ _ _ us hl => match us, hl with | [_, _, _], _ => rfl) (fun cdv A outer s H E hr => ?_) (m := b_need_number)
  exact ⟨_, _, (gss_one (gs_if (gt_not (gt_val (ge_call (d_is_in T) (hr.mono (by decide)) pass0 (ga_cons (ge_var 0) (ga_cons (ge_var 1) (ga_cons (ge_var 2) ga_nil)))))) (gss_one (gs_never (On := []))) (GSs.post (On' := []) (by decide) gss_nil)))⟩
abbrev s_black_cells : Stmt := top 18
theorem sc_black_cells : FnScope ["picture"] ["picture"] (defScope s_black_cells) := ⟨rfl, rfl, rfl, by decide +kernel, rfl, by decide +kernel, by decide +kernel⟩
def b_black_cells : SS := seqS (dropS (callE 1 m_need_picture (consA (vE 0) (nilA)))) (retS (callE 1 m_black_of (consA (vE 0) (nilA))))
def m_black_cells : List D → List D → RE D := defD 1 b_black_cells
theorem d_black_cells (T : Tx K mg) : DefOk P w K mg base CX0 r "black_cells" 3 1 m_black_cells := by
  obtain ⟨f, fd, F, hm⟩ := T.f_black_cells
  refine fn_def (k := 2) F sc_black_cells hm (fun _ _ _ _ _ _ us hl => match us, hl with | [_], _ => rfl) (fun cdv A outer s H E hr => ?_) (m := b_black_cells)
  exact ⟨_, _, (gss_cons (gs_drop (ge_call (d_need_picture T) (hr.mono (by decide)) pass0 (ga_cons (ge_var 0) ga_nil))) (gss_one (gs_ret (On := []) (ge_call (d_black_of T) (hr.mono (by decide)) pass0 (ga_cons (ge_var 0) ga_nil)))))⟩
abbrev s_sums : Stmt := top 21
theorem sc_sums : FnScope ["picture"] ["picture"] (defScope s_sums) := ⟨rfl, rfl, rfl, by decide +kernel, rfl, by decide +kernel, by decide +kernel⟩
def b_sums : SS := seqS (dropS (callE 1 m_need_picture (consA (vE 0) (nilA)))) (retS (tupE (consA (callE 1 m_row_sums_of (consA (vE 0) (nilA))) (consA (callE 1 m_column_sums_of (consA (vE 0) (nilA))) (nilA)))))
def m_sums : List D → List D → RE D := defD 1 b_sums
theorem d_sums (T : Tx K mg) : DefOk P w K mg base CX0 r "sums" 3 1 m_sums := by
  obtain ⟨f, fd, F, hm⟩ := T.f_sums
  refine fn_def (k := 2) F sc_sums hm (fun _ _ _ _ _ _ us hl => match us, hl with | [_], _ => rfl) (fun cdv A outer s H E hr => ?_) (m := b_sums)
  exact ⟨_, _, (gss_cons (gs_drop (ge_call (d_need_picture T) (hr.mono (by decide)) pass0 (ga_cons (ge_var 0) ga_nil))) (gss_one (gs_ret (On := []) (ge_tup (ga_cons (ge_call (d_row_sums_of T) (hr.mono (by decide)) pass0 (ga_cons (ge_var 0) ga_nil)) (ga_cons (ge_call (d_column_sums_of T) (hr.mono (by decide)) pass0 (ga_cons (ge_var 0) ga_nil)) ga_nil))))))⟩
abbrev s_layers : Stmt := top 26
theorem sc_layers : FnScope ["picture", "some"] ["picture"] (defScope s_layers) := ⟨rfl, rfl, rfl, by decide +kernel, rfl, by decide +kernel, by decide +kernel⟩
def b_layers : SS := seqS (dropS (callE 1 m_need_picture (consA (vE 0) (nilA)))) (retS (callB tupleD (consA (compE (seqI (callE 1 m_layers_of (consA (vE 0) (nilA)))) [1] t1 [1] (yesT) (callB tupleD (consA (vE 1) (nilA)))) (nilA))))
def m_layers : List D → List D → RE D := defD 2 b_layers
theorem d_layers (T : Tx K mg) : DefOk P w K mg base CX0 r "layers" 3 1 m_layers := by
  obtain ⟨f, fd, F, hm⟩ := T.f_layers
  refine fn_def (k := 2) F sc_layers hm (fun _ _ _ _ _ _ us hl => match us, hl with | [_], _ => rfl) (fun cdv A outer s H E hr => ?_) (m := b_layers)
  exact ⟨_, _, (gss_cons (gs_drop (ge_call (d_need_picture T) (hr.mono (by decide)) pass0 (ga_cons (ge_var 0) ga_nil))) (gss_one (gs_ret (On := []) (ge_tuple T.tuple (gao_cons (((gf_lc (own := [("some", 1)]) rfl sc_layers.nd (gi_seq (ge_call (d_layers_of T) (hr.mono (by decide)) pass0 (ga_cons (ge_var 0) ga_nil))) (blkOk_by (by kernel_rfl)) (fun _ _ _ _ _ => (gg_name 1 sc_layers.nd)) (fun _ _ _ _ _ => gts_nil) (fun _ _ _ _ _ => (ge_tuple T.tuple (gao_cons ((ge_var 1)).go gao_nil))) (by decide) (by decide))).ge).go gao_nil)))))⟩
abbrev s_core_of : Stmt := top 27
theorem sc_core_of : FnScope ["picture", "told", "some", "line"] ["picture"] (defScope s_core_of) := ⟨rfl, rfl, rfl, by decide +kernel, rfl, by decide +kernel, by decide +kernel⟩
def b_core_of : SS := seqS (setS 1 (dc2E (seqI (callE 1 m_layers_of (consA (vE 0) (nilA)))) [2, 3] t1 [2] (seqI (vE 2)) [3] t1 [3] (vE 3) (cE (.bl true)))) (retS (compE (rangeI range1D (consA (callE 1 m_lines_of (consA (vE 0) (nilA))) (nilA))) [3] t1 [3] (boolE (binE (inKD true) (vE 3) (vE 1))) (vE 3)))
def m_core_of : List D → List D → RE D := defD 4 b_core_of
theorem d_core_of (T : Tx K mg) : DefOk P w K mg base CX0 r "core_of" 3 1 m_core_of := by
  obtain ⟨f, fd, F, hm⟩ := T.f_core_of
  refine fn_def (k := 2) F sc_core_of hm (fun _ _ _ _ _ _ us hl => match us, hl with | [_], _ => rfl) (fun cdv A outer s H E hr => ?_) (m := b_core_of)
  exact ⟨_, _, (gss_cons (GS.post (On' := []) (by decide) (gs_set 1 sc_core_of.nd ((gf_dc2 (own := [("some", 2), ("line", 3)]) (vs1 := [3]) rfl sc_core_of.nd (gi_seq (ge_call (d_layers_of T) (hr.mono (by decide)) pass0 (ga_cons (ge_var 0) ga_nil))) (blkOk_by (by kernel_rfl)) (fun _ _ _ _ _ => (gg_name 2 sc_core_of.nd)) (fun _ _ _ _ _ => (gi_seq (ge_var 2))) (fun _ _ _ _ _ => (gg_name 3 sc_core_of.nd)) (fun _ _ _ _ _ => (ge_var 3)) (fun _ _ _ _ _ => ge_bl) (by decide) (by decide) (by decide) (by decide))).ge)) (gss_one (gs_ret (On := []) ((gf_lc (own := [("line", 3)]) rfl sc_core_of.nd (gi_range1 T.range (gao_cons ((ge_call (d_lines_of T) (hr.mono (by decide)) pass0 (ga_cons (ge_var 0) ga_nil))).go gao_nil)) (blkOk_by (by kernel_rfl)) (fun _ _ _ _ _ => (gg_name 3 sc_core_of.nd)) (fun _ _ _ _ _ => (gts_one (gt_notInK hr.units ((ge_var 3)).go ((ge_var 1)).go))) (fun _ _ _ _ _ => (ge_var 3)) (by decide) (by decide))).ge)))⟩
abbrev s_are_layers : Stmt := top 37
theorem sc_are_layers : FnScope ["rows", "columns", "value", "some", "line", "sorts", "sort", "one", "other"] ["rows", "columns", "value"] (defScope s_are_layers) := ⟨rfl, rfl, rfl, by decide +kernel, rfl, by decide +kernel, by decide +kernel⟩
def b_are_layers : SS := seqS (ifS (orT (notT (boolE (callB isiD (consA (vE 2) (consA (cE (.ty "tuple")) (nilA)))))) (notT (boolE (callB allD (consA (compE (seqI (vE 2)) [3] t1 [3] (yesT) (andE (callB isiD (consA (vE 3) (consA (cE (.ty "tuple")) (nilA)))) (binE neD (vE 3) (tupE (nilA))))) (nilA)))))) (retS (cE (.bl false))) (skipS)) (seqS (ifS (notT (boolE (callB allD (consA (comp2E (seqI (vE 2)) [3, 4] t1 [3] (yesT) (seqI (vE 3)) [4] t1 [4] (yesT) (callE 3 m_is_in (consA (vE 4) (consA (cE (.int 0)) (consA (binE subD (binE addD (vE 0) (vE 1)) (cE (.int 1))) (nilA)))))) (nilA))))) (retS (cE (.bl false))) (skipS)) (seqS (ifS (boolE (binE neD (callB sortD (consA (comp2E (seqI (vE 2)) [3, 4] t1 [3] (yesT) (seqI (vE 3)) [4] t1 [4] (yesT) (vE 4)) (nilA))) (rg1E .lst (binE addD (vE 0) (vE 1))))) (retS (cE (.bl false))) (skipS)) (seqS (setS 5 (compE (seqI (vE 2)) [3] t1 [3] (yesT) (binE ltD (binE ixD (vE 3) (cE (.int 0))) (vE 0)))) (seqS (ifS (notT (boolE (callB allD (consA (comp2E (rangeI zipTLD (consA (vE 2) (consA (vE 5) (nilA)))) [3, 4, 6] (tN 2) [3, 6] (yesT) (seqI (vE 3)) [4] t1 [4] (yesT) (binE eqD (binE ltD (vE 4) (vE 0)) (vE 6))) (nilA))))) (retS (cE (.bl false))) (skipS)) (seqS (ifS (notT (boolE (callB allD (consA (compE (rangeI zipLLD (consA (vE 5) (consA (sliceE (vE 5) (optI (some (cE (.int 1)))) (optI none)) (nilA)))) [7, 8] (tN 2) [7, 8] (yesT) (binE neD (vE 7) (vE 8))) (nilA))))) (retS (cE (.bl false))) (skipS)) (retS (callB allD (consA (compE (seqI (vE 2)) [3] t1 [3] (yesT) (binE eqD (vE 3) (callB tupleD (consA (callB sortD (consA (vE 3) (nilA))) (nilA))))) (nilA)))))))))
def m_are_layers : List D → List D → RE D := defD 9 b_are_layers
theorem d_are_layers (T : Tx K mg) : DefOk P w K mg base CX0 r "are_layers" 3 3 m_are_layers := by
  obtain ⟨f, fd, F, hm⟩ := T.f_are_layers
  refine fn_def (k := 2) F sc_are_layers hm (fun _ _ _ _ _ _ us hl => match us, hl with | [_, _, _], _ => rfl) (fun cdv A outer s H E hr => ?_) (m := b_are_layers)
  exact ⟨_, _, (gss_cons (gs_if ((gw_or (gt_not (gt_val (ge_isi T.isinstance (gao_cons ((ge_var 2)).go (gao_cons ((ge_ty T.tuple)).go gao_nil))))) (gw_or1 (gt_not (gt_val (ge_all rfl T.all (gao_cons (((gf_lc (own := [("some", 3)]) rfl sc_are_layers.nd (gi_seq (ge_var 2)) (blkOk_by (by kernel_rfl)) (fun _ _ _ _ _ => (gg_name 3 sc_are_layers.nd)) (fun _ _ _ _ _ => gts_nil) (fun _ _ _ _ _ => (ge_and (ge_isi T.isinstance (gao_cons ((ge_var 3)).go (gao_cons ((ge_ty T.tuple)).go gao_nil))) (ge_one (ge_ne hr.units ((ge_var 3)).go ((ge_tup ga_nil)).go)))) (by decide) (by decide))).ge).go gao_nil))))))).gt (gss_one (gs_ret (On := []) ge_bl)) (GSs.post (On' := []) (by decide) gss_nil)) (gss_cons (gs_if (gt_not (gt_val (ge_all rfl T.all (gao_cons (((gf_lc2 (own := [("some", 3), ("line", 4)]) (vs1 := [4]) rfl sc_are_layers.nd (gi_seq (ge_var 2)) (blkOk_by (by kernel_rfl)) (fun _ _ _ _ _ => (gg_name 3 sc_are_layers.nd)) (fun _ _ _ _ _ => gts_nil) (fun _ _ _ _ _ => (gi_seq (ge_var 3))) (fun _ _ _ _ _ => (gg_name 4 sc_are_layers.nd)) (fun _ _ _ _ _ => gts_nil) (fun _ _ _ _ _ => (ge_call (d_is_in T) (hr.mono (by decide)) pass0 (ga_cons (ge_var 4) (ga_cons ge_int (ga_cons (ge_sub ((ge_add ((ge_var 0)).go ((ge_var 1)).go)).go (ge_int).go) ga_nil))))) (by decide) (by decide) (by decide) (by decide))).ge).go gao_nil)))) (gss_one (gs_ret (On := []) ge_bl)) (GSs.post (On' := []) (by decide) gss_nil)) (gss_cons (gs_if (gt_ne hr.units (((gf_sorted T.sorted (gao_cons (((gf_lc2 (own := [("some", 3), ("line", 4)]) (vs1 := [4]) rfl sc_are_layers.nd (gi_seq (ge_var 2)) (blkOk_by (by kernel_rfl)) (fun _ _ _ _ _ => (gg_name 3 sc_are_layers.nd)) (fun _ _ _ _ _ => gts_nil) (fun _ _ _ _ _ => (gi_seq (ge_var 3))) (fun _ _ _ _ _ => (gg_name 4 sc_are_layers.nd)) (fun _ _ _ _ _ => gts_nil) (fun _ _ _ _ _ => (ge_var 4)) (by decide) (by decide) (by decide) (by decide))).ge).go gao_nil))).ge).go (((gf_listRg1 T.list T.range ((ge_add ((ge_var 0)).go ((ge_var 1)).go)).go)).ge).go) (gss_one (gs_ret (On := []) ge_bl)) (GSs.post (On' := []) (by decide) gss_nil)) (gss_cons (GS.post (On' := []) (by decide) (gs_setLc (i := 5) (lc_stmt (own := [("some", 3)]) rfl sc_are_layers.nd (gi_seq (ge_var 2)) (blkOk_by (by kernel_rfl)) (fun _ _ _ _ _ => (gg_name 3 sc_are_layers.nd)) (fun _ _ _ _ _ => gts_nil) (fun _ _ _ _ _ => (ge_lt ((ge_sub1 ((ge_var 3)).go (ge_int).go)).go ((ge_var 0)).go)) (by decide) (by decide)))) (gss_cons (gs_if (gt_not (gt_val (ge_all rfl T.all (gao_cons (((gf_lc2 (own := [("some", 3), ("line", 4), ("sort", 6)]) (vs1 := [4]) rfl sc_are_layers.nd (gi_zipTL T.zip (ga_cons (ge_var 2) (ga_cons (ge_var 5) ga_nil))) (blkOk_by (by kernel_rfl)) (fun _ _ _ _ _ => (gg_tup rfl (ggs_cons 3 sc_are_layers.nd (ggs_cons 6 sc_are_layers.nd ggs_nil)) rfl)) (fun _ _ _ _ _ => gts_nil) (fun _ _ _ _ _ => (gi_seq (ge_var 3))) (fun _ _ _ _ _ => (gg_name 4 sc_are_layers.nd)) (fun _ _ _ _ _ => gts_nil) (fun _ _ _ _ _ => (ge_eq hr.units ((ge_lt ((ge_var 4)).go ((ge_var 0)).go)).go ((ge_var 6)).go)) (by decide) (by decide) (by decide) (by decide))).ge).go gao_nil)))) (gss_one (gs_ret (On := []) ge_bl)) (GSs.post (On' := []) (by decide) gss_nil)) (gss_cons (gs_if (gt_not (gt_val (ge_all rfl T.all (gao_cons (((gf_lc (own := [("one", 7), ("other", 8)]) rfl sc_are_layers.nd (gi_zipLL T.zip (ga_cons (ge_var 5) (ga_cons (ge_slice ((ge_var 5)).go (gp_some ge_int) gp_none) ga_nil))) (blkOk_by (by kernel_rfl)) (fun _ _ _ _ _ => (gg_tup rfl (ggs_cons 7 sc_are_layers.nd (ggs_cons 8 sc_are_layers.nd ggs_nil)) rfl)) (fun _ _ _ _ _ => gts_nil) (fun _ _ _ _ _ => (ge_ne hr.units ((ge_var 7)).go ((ge_var 8)).go)) (by decide) (by decide))).ge).go gao_nil)))) (gss_one (gs_ret (On := []) ge_bl)) (GSs.post (On' := []) (by decide) gss_nil)) (gss_one (gs_ret (On := []) (ge_all rfl T.all (gao_cons (((gf_lc (own := [("some", 3)]) rfl sc_are_layers.nd (gi_seq (ge_var 2)) (blkOk_by (by kernel_rfl)) (fun _ _ _ _ _ => (gg_name 3 sc_are_layers.nd)) (fun _ _ _ _ _ => gts_nil) (fun _ _ _ _ _ => (ge_eq hr.units ((ge_var 3)).go ((ge_tuple T.tuple (gao_cons (((gf_sorted T.sorted (gao_cons ((ge_var 3)).go gao_nil))).ge).go gao_nil))).go)) (by decide) (by decide))).ge).go gao_nil))))))))))⟩
abbrev s_are_sums : Stmt := top 42
theorem sc_are_sums : FnScope ["value", "most", "one"] ["value", "most"] (defScope s_are_sums) := ⟨rfl, rfl, rfl, by decide +kernel, rfl, by decide +kernel, by decide +kernel⟩
def b_are_sums : SS := retS (andE (callB isiD (consA (vE 0) (consA (cE (.ty "tuple")) (nilA)))) (andE (chainE leD leD (cE (.int 1)) (callB lenD (consA (vE 0) (nilA))) (cE (.int 30))) (callB allD (consA (compE (seqI (vE 0)) [2] t1 [2] (yesT) (callE 3 m_is_in (consA (vE 2) (consA (cE (.int 0)) (consA (vE 1) (nilA)))))) (nilA)))))
def m_are_sums : List D → List D → RE D := defD 3 b_are_sums
theorem d_are_sums (T : Tx K mg) : DefOk P w K mg base CX0 r "are_sums" 3 2 m_are_sums := by
  obtain ⟨f, fd, F, hm⟩ := T.f_are_sums
  refine fn_def (k := 2) F sc_are_sums hm (fun _ _ _ _ _ _ us hl => match us, hl with | [_, _], _ => rfl) (fun cdv A outer s H E hr => ?_) (m := b_are_sums)
  exact ⟨_, _, (gss_one (gs_ret (On := []) (ge_and (ge_isi T.isinstance (gao_cons ((ge_var 0)).go (gao_cons ((ge_ty T.tuple)).go gao_nil))) (ge_and (ge_leLe (ge_int).go ((ge_len T.len (gao_cons ((ge_var 0)).go gao_nil))).go ((ge_gint T.MOST_SIDE)).go) (ge_one (ge_all rfl T.all (gao_cons (((gf_lc (own := [("one", 2)]) rfl sc_are_sums.nd (gi_seq (ge_var 0)) (blkOk_by (by kernel_rfl)) (fun _ _ _ _ _ => (gg_name 2 sc_are_sums.nd)) (fun _ _ _ _ _ => gts_nil) (fun _ _ _ _ _ => (ge_call (d_is_in T) (hr.mono (by decide)) pass0 (ga_cons (ge_var 2) (ga_cons ge_int (ga_cons (ge_var 1) ga_nil))))) (by decide) (by decide))).ge).go gao_nil)))))))⟩
abbrev s_sizes_of : Stmt := top 46
theorem sc_sizes_of : FnScope ["picture", "told", "some"] ["picture"] (defScope s_sizes_of) := ⟨rfl, rfl, rfl, by decide +kernel, rfl, by decide +kernel, by decide +kernel⟩
def b_sizes_of : SS := seqS (setS 1 (callE 1 m_layers_of (consA (vE 0) (nilA)))) (retS (tupE (consA (binE ltD (binE ixD (binE ixD (vE 1) (cE (.int 0))) (cE (.int 0))) (callB lenD (consA (vE 0) (nilA)))) (consA (callB tupleD (consA (compE (seqI (vE 1)) [2] t1 [2] (yesT) (callB lenD (consA (vE 2) (nilA)))) (nilA))) (nilA)))))
def m_sizes_of : List D → List D → RE D := defD 3 b_sizes_of
theorem d_sizes_of (T : Tx K mg) : DefOk P w K mg base CX0 r "sizes_of" 3 1 m_sizes_of := by
  obtain ⟨f, fd, F, hm⟩ := T.f_sizes_of
  refine fn_def (k := 2) F sc_sizes_of hm (fun _ _ _ _ _ _ us hl => match us, hl with | [_], _ => rfl) (fun cdv A outer s H E hr => ?_) (m := b_sizes_of)
  exact ⟨_, _, (gss_cons (GS.post (On' := []) (by decide) (gs_set 1 sc_sizes_of.nd (ge_call (d_layers_of T) (hr.mono (by decide)) pass0 (ga_cons (ge_var 0) ga_nil)))) (gss_one (gs_ret (On := []) (ge_tup (ga_cons (ge_lt ((ge_sub1 ((ge_sub1 ((ge_var 1)).go (ge_int).go)).go (ge_int).go)).go ((ge_len T.len (gao_cons ((ge_var 0)).go gao_nil))).go) (ga_cons (ge_tuple T.tuple (gao_cons (((gf_lc (own := [("some", 2)]) rfl sc_sizes_of.nd (gi_seq (ge_var 1)) (blkOk_by (by kernel_rfl)) (fun _ _ _ _ _ => (gg_name 2 sc_sizes_of.nd)) (fun _ _ _ _ _ => gts_nil) (fun _ _ _ _ _ => (ge_len T.len (gao_cons ((ge_var 2)).go gao_nil))) (by decide) (by decide))).ge).go gao_nil)) ga_nil))))))⟩
abbrev s_stairs_of : Stmt := top 48
theorem sc_stairs_of : FnScope ["picture", "told", "high", "rows", "some", "line", "columns"] ["picture"] (defScope s_stairs_of) := ⟨rfl, rfl, rfl, by decide +kernel, rfl, by decide +kernel, by decide +kernel⟩
def b_stairs_of : SS := seqS (parS [1, 2] (consA (callE 1 m_layers_of (consA (vE 0) (nilA))) (consA (callB lenD (consA (vE 0) (nilA))) (nilA)))) (seqS (setS 3 (comp2E (seqI (vE 1)) [4, 5] t1 [4] (yesT) (seqI (vE 4)) [5] t1 [5] (boolE (binE ltD (vE 5) (vE 2))) (vE 5))) (seqS (setS 6 (comp2E (seqI (vE 1)) [4, 5] t1 [4] (yesT) (seqI (vE 4)) [5] t1 [5] (boolE (binE geD (vE 5) (vE 2))) (binE subD (vE 5) (vE 2)))) (retS (callE 3 m_part_of (consA (vE 0) (consA (vE 3) (consA (vE 6) (nilA))))))))
def m_stairs_of : List D → List D → RE D := defD 7 b_stairs_of
theorem d_stairs_of (T : Tx K mg) : DefOk P w K mg base CX0 r "stairs_of" 3 1 m_stairs_of := by
  obtain ⟨f, fd, F, hm⟩ := T.f_stairs_of
  refine fn_def (k := 2) F sc_stairs_of hm (fun _ _ _ _ _ _ us hl => match us, hl with | [_], _ => rfl) (fun cdv A outer s H E hr => ?_) (m := b_stairs_of)
  exact ⟨_, _, (gss_cons (GS.post (On' := []) (by decide) (gs_tup (gak_st (ge_call (d_layers_of T) (hr.mono (by decide)) pass0 (ga_cons (ge_var 0) ga_nil)) (gak_st (ge_len T.len (gao_cons ((ge_var 0)).go gao_nil)) gak_nil)) (ggs_cons 1 sc_stairs_of.nd (ggs_cons 2 sc_stairs_of.nd ggs_nil)))) (gss_cons (GS.post (On' := []) (by decide) (gs_setLc (i := 3) (lc_stmt2 (own := [("some", 4), ("line", 5)]) (vs1 := [5]) rfl sc_stairs_of.nd (gi_seq (ge_var 1)) (blkOk_by (by kernel_rfl)) (fun _ _ _ _ _ => (gg_name 4 sc_stairs_of.nd)) (fun _ _ _ _ _ => gts_nil) (fun _ _ _ _ _ => (gi_seq (ge_var 4))) (fun _ _ _ _ _ => (gg_name 5 sc_stairs_of.nd)) (fun _ _ _ _ _ => (gts_one (gt_lt ((ge_var 5)).go ((ge_var 2)).go))) (fun _ _ _ _ _ => (ge_var 5)) (by decide) (by decide) (by decide) (by decide)))) (gss_cons (GS.post (On' := []) (by decide) (gs_setLc (i := 6) (lc_stmt2 (own := [("some", 4), ("line", 5)]) (vs1 := [5]) rfl sc_stairs_of.nd (gi_seq (ge_var 1)) (blkOk_by (by kernel_rfl)) (fun _ _ _ _ _ => (gg_name 4 sc_stairs_of.nd)) (fun _ _ _ _ _ => gts_nil) (fun _ _ _ _ _ => (gi_seq (ge_var 4))) (fun _ _ _ _ _ => (gg_name 5 sc_stairs_of.nd)) (fun _ _ _ _ _ => (gts_one (gt_ge ((ge_var 5)).go ((ge_var 2)).go))) (fun _ _ _ _ _ => (ge_sub ((ge_var 5)).go ((ge_var 2)).go)) (by decide) (by decide) (by decide) (by decide)))) (gss_one (gs_ret (On := []) (ge_call (d_part_of T) (hr.mono (by decide)) pass0 (ga_cons (ge_var 0) (ga_cons (ge_var 3) (ga_cons (ge_var 6) ga_nil)))))))))⟩
abbrev s_is_free_of : Stmt := top 28
theorem sc_is_free_of : FnScope ["picture"] ["picture"] (defScope s_is_free_of) := ⟨rfl, rfl, rfl, by decide +kernel, rfl, by decide +kernel, by decide +kernel⟩
def b_is_free_of : SS := retS (binE eqD (callE 1 m_core_of (consA (vE 0) (nilA))) (lstE (nilA)))
def m_is_free_of : List D → List D → RE D := defD 1 b_is_free_of
theorem d_is_free_of (T : Tx K mg) : DefOk P w K mg base CX0 r "is_free_of" 4 1 m_is_free_of := by
  obtain ⟨f, fd, F, hm⟩ := T.f_is_free_of
  refine fn_def (k := 3) F sc_is_free_of hm (fun _ _ _ _ _ _ us hl => match us, hl with | [_], _ => rfl) (fun cdv A outer s H E hr => ?_) (m := b_is_free_of)
  exact ⟨_, _, (gss_one (gs_ret (On := []) (ge_eq hr.units ((ge_call (d_core_of T) (hr.mono (by decide)) pass0 (ga_cons (ge_var 0) ga_nil))).go (((gf_lst ga_nil)).ge).go)))⟩
abbrev s_need_sides : Stmt := top 35
theorem sc_need_sides : FnScope ["rows", "columns"] ["rows", "columns"] (defScope s_need_sides) := ⟨rfl, rfl, rfl, by decide +kernel, rfl, by decide +kernel, by decide +kernel⟩
def b_need_sides : SS := seqS (dropS (callE 3 m_need_number (consA (vE 0) (consA (cE (.int 1)) (consA (cE (.int 30)) (nilA)))))) (dropS (callE 3 m_need_number (consA (vE 1) (consA (cE (.int 1)) (consA (cE (.int 30)) (nilA))))))
def m_need_sides : List D → List D → RE D := defD 2 b_need_sides
theorem d_need_sides (T : Tx K mg) : DefOk P w K mg base CX0 r "need_sides" 4 2 m_need_sides := by
  obtain ⟨f, fd, F, hm⟩ := T.f_need_sides
  refine fn_def (k := 3) F sc_need_sides hm (fun _ _ _ _ _ _ us hl => match us, hl with | [_, _], _ => rfl) (fun cdv A outer s H E hr => ?_) (m := b_need_sides)
  exact ⟨_, _, (gss_cons (gs_drop (ge_call (d_need_number T) (hr.mono (by decide)) pass0 (ga_cons (ge_var 0) (ga_cons ge_int (ga_cons (ge_gint T.MOST_SIDE) ga_nil))))) (gss_one (gs_drop (ge_call (d_need_number T) (hr.mono (by decide)) pass0 (ga_cons (ge_var 1) (ga_cons ge_int (ga_cons (ge_gint T.MOST_SIDE) ga_nil)))))))⟩
abbrev s_need_sums : Stmt := top 43
theorem sc_need_sums : FnScope ["rows", "columns"] ["rows", "columns"] (defScope s_need_sums) := ⟨rfl, rfl, rfl, by decide +kernel, rfl, by decide +kernel, by decide +kernel⟩
def b_need_sums : SS := seqS (ifS (notT (boolE (callE 2 m_are_sums (consA (vE 0) (consA (cE (.int 30)) (nilA)))))) ((fun _ _ => .stuck)) (skipS)) (ifS (orT (notT (boolE (callE 2 m_are_sums (consA (vE 1) (consA (callB lenD (consA (vE 0) (nilA))) (nilA)))))) (boolE (binE gtD (callB maxTD (consA (vE 0) (nilA))) (callB lenD (consA (vE 1) (nilA)))))) ((fun _ _ => .stuck)) (skipS))
def m_need_sums : List D → List D → RE D := defD 2 b_need_sums
theorem d_need_sums (T : Tx K mg) : DefOk P w K mg base CX0 r "need_sums" 4 2 m_need_sums := by
  obtain ⟨f, fd, F, hm⟩ := T.f_need_sums
  refine fn_def (k := 3) F sc_need_sums hm (fun _ _ _ _ _ _ us hl => match us, hl with | [_, _], _ => rfl) (fun cdv A outer s H E hr => ?_) (m := b_need_sums)
  exact ⟨_, _, (gss_cons (gs_if (gt_not (gt_val (ge_call (d_are_sums T) (hr.mono (by decide)) pass0 (ga_cons (ge_var 0) (ga_cons (ge_gint T.MOST_SIDE) ga_nil))))) (gss_one (gs_never (On := []))) (GSs.post (On' := []) (by decide) gss_nil)) (gss_one (gs_if ((gw_or (gt_not (gt_val (ge_call (d_are_sums T) (hr.mono (by decide)) pass0 (ga_cons (ge_var 1) (ga_cons (ge_len T.len (gao_cons ((ge_var 0)).go gao_nil)) ga_nil))))) (gw_or1 (gt_gt ((ge_maxTu rfl T.max (gao_cons ((ge_var 0)).go gao_nil))).go ((ge_len T.len (gao_cons ((ge_var 1)).go gao_nil))).go)))).gt (gss_one (gs_never (On := []))) (GSs.post (On' := []) (by decide) gss_nil))))⟩
abbrev s_is_free : Stmt := top 29
theorem sc_is_free : FnScope ["picture"] ["picture"] (defScope s_is_free) := ⟨rfl, rfl, rfl, by decide +kernel, rfl, by decide +kernel, by decide +kernel⟩
def b_is_free : SS := seqS (dropS (callE 1 m_need_picture (consA (vE 0) (nilA)))) (retS (callE 1 m_is_free_of (consA (vE 0) (nilA))))
def m_is_free : List D → List D → RE D := defD 1 b_is_free
theorem d_is_free (T : Tx K mg) : DefOk P w K mg base CX0 r "is_free" 5 1 m_is_free := by
  obtain ⟨f, fd, F, hm⟩ := T.f_is_free
  refine fn_def (k := 4) F sc_is_free hm (fun _ _ _ _ _ _ us hl => match us, hl with | [_], _ => rfl) (fun cdv A outer s H E hr => ?_) (m := b_is_free)
  exact ⟨_, _, (gss_cons (gs_drop (ge_call (d_need_picture T) (hr.mono (by decide)) pass0 (ga_cons (ge_var 0) ga_nil))) (gss_one (gs_ret (On := []) (ge_call (d_is_free_of T) (hr.mono (by decide)) pass0 (ga_cons (ge_var 0) ga_nil)))))⟩
abbrev s_need_free : Stmt := top 30
theorem sc_need_free : FnScope ["picture"] ["picture"] (defScope s_need_free) := ⟨rfl, rfl, rfl, by decide +kernel, rfl, by decide +kernel, by decide +kernel⟩
def b_need_free : SS := seqS (dropS (callE 1 m_need_picture (consA (vE 0) (nilA)))) (ifS (notT (boolE (callE 1 m_is_free_of (consA (vE 0) (nilA))))) ((fun _ _ => .stuck)) (skipS))
def m_need_free : List D → List D → RE D := defD 1 b_need_free
theorem d_need_free (T : Tx K mg) : DefOk P w K mg base CX0 r "need_free" 5 1 m_need_free := by
  obtain ⟨f, fd, F, hm⟩ := T.f_need_free
  refine fn_def (k := 4) F sc_need_free hm (fun _ _ _ _ _ _ us hl => match us, hl with | [_], _ => rfl) (fun cdv A outer s H E hr => ?_) (m := b_need_free)
  exact ⟨_, _, (gss_cons (gs_drop (ge_call (d_need_picture T) (hr.mono (by decide)) pass0 (ga_cons (ge_var 0) ga_nil))) (gss_one (gs_if (gt_not (gt_val (ge_call (d_is_free_of T) (hr.mono (by decide)) pass0 (ga_cons (ge_var 0) ga_nil)))) (gss_one (gs_never (On := []))) (GSs.post (On' := []) (by decide) gss_nil))))⟩
abbrev s_free_by_layers : Stmt := top 38
theorem sc_free_by_layers : FnScope ["rows", "columns", "value"] ["rows", "columns", "value"] (defScope s_free_by_layers) := ⟨rfl, rfl, rfl, by decide +kernel, rfl, by decide +kernel, by decide +kernel⟩
def b_free_by_layers : SS := seqS (dropS (callE 2 m_need_sides (consA (vE 0) (consA (vE 1) (nilA))))) (seqS (ifS (notT (boolE (callE 3 m_are_layers (consA (vE 0) (consA (vE 1) (consA (vE 2) (nilA))))))) ((fun _ _ => .stuck)) (skipS)) (retS (callE 3 m_by_layers (consA (vE 0) (consA (vE 1) (consA (vE 2) (nilA)))))))
def m_free_by_layers : List D → List D → RE D := defD 3 b_free_by_layers
theorem d_free_by_layers (T : Tx K mg) : DefOk P w K mg base CX0 r "free_by_layers" 5 3 m_free_by_layers := by
  obtain ⟨f, fd, F, hm⟩ := T.f_free_by_layers
  refine fn_def (k := 4) F sc_free_by_layers hm (fun _ _ _ _ _ _ us hl => match us, hl with | [_, _, _], _ => rfl) (fun cdv A outer s H E hr => ?_) (m := b_free_by_layers)
  exact ⟨_, _, (gss_cons (gs_drop (ge_call (d_need_sides T) (hr.mono (by decide)) pass0 (ga_cons (ge_var 0) (ga_cons (ge_var 1) ga_nil)))) (gss_cons (gs_if (gt_not (gt_val (ge_call (d_are_layers T) (hr.mono (by decide)) pass0 (ga_cons (ge_var 0) (ga_cons (ge_var 1) (ga_cons (ge_var 2) ga_nil)))))) (gss_one (gs_never (On := []))) (GSs.post (On' := []) (by decide) gss_nil)) (gss_one (gs_ret (On := []) (ge_call (d_by_layers T) (hr.mono (by decide)) pass0 (ga_cons (ge_var 0) (ga_cons (ge_var 1) (ga_cons (ge_var 2) ga_nil))))))))⟩
abbrev s_free_by_sums : Stmt := top 44
theorem sc_free_by_sums : FnScope ["rows", "columns", "order", "many", "spot", "found", "black", "picture"] ["rows", "columns"] (defScope s_free_by_sums) := ⟨rfl, rfl, rfl, by decide +kernel, rfl, by decide +kernel, by decide +kernel⟩
def b_free_by_sums : SS := seqS (dropS (callE 2 m_need_sums (consA (vE 0) (consA (vE 1) (nilA))))) (seqS (setS 2 (compE (seqI (callB sortDD (consA (compE (rangeI enumD (consA (vE 1) (nilA))) [3, 4] (tN 2) [4, 3] (yesT) (tupE (consA (unE negD (vE 3)) (consA (vE 4) (nilA))))) (nilA)))) [3, 4] (tN 2) [3, 4] (yesT) (vE 4))) (seqS (setFS 5 (lstE (nilA))) (seqS (forS (seqI (vE 0)) t1 [3] (seqS (setS 6 (dcE (seqI (sliceE (vE 2) (optI none) (optI (some (vE 3))))) [4] t1 [4] (vE 4) (cE (.bl true)))) (appS 5 (methE isStrD joinD (cE (.str "")) (compE (rangeI range1D (consA (callB lenD (consA (vE 1) (nilA))) (nilA))) [4] t1 [4] (yesT) (ifE (boolE (binE (inKD false) (vE 4) (vE 6))) (cE (.str "#")) (cE (.str ".")))))))) (seqS (setS 7 (callB tupleD (consA (vE 5) (nilA)))) (retS (ifE (boolE (binE eqD (callE 1 m_column_sums_of (consA (vE 7) (nilA))) (vE 1))) (vE 7) (cE .non)))))))
def m_free_by_sums : List D → List D → RE D := defD 8 b_free_by_sums
theorem d_free_by_sums (T : Tx K mg) : DefOk P w K mg base CX0 r "free_by_sums" 5 2 m_free_by_sums := by
  obtain ⟨f, fd, F, hm⟩ := T.f_free_by_sums
  refine fn_def (k := 4) F sc_free_by_sums hm (fun _ _ _ _ _ _ us hl => match us, hl with | [_, _], _ => rfl) (fun cdv A outer s H E hr => ?_) (m := b_free_by_sums)
  exact ⟨_, _, (gss_cons (gs_drop (ge_call (d_need_sums T) (hr.mono (by decide)) pass0 (ga_cons (ge_var 0) (ga_cons (ge_var 1) ga_nil)))) (gss_cons (GS.post (On' := []) (by decide) (gs_setLc (i := 2) (lc_stmt (own := [("many", 3), ("spot", 4)]) rfl sc_free_by_sums.nd (gi_seq ((gf_sortDat hr.units T.sorted (gao_cons (((gf_lc (own := [("many", 3), ("spot", 4)]) rfl sc_free_by_sums.nd (gi_enum T.enumerate (ga_cons (ge_var 1) ga_nil)) (blkOk_by (by kernel_rfl)) (fun _ _ _ _ _ => (gg_tup rfl (ggs_cons 4 sc_free_by_sums.nd (ggs_cons 3 sc_free_by_sums.nd ggs_nil)) rfl)) (fun _ _ _ _ _ => gts_nil) (fun _ _ _ _ _ => (ge_tup (ga_cons (ge_neg ((ge_var 3)).go) (ga_cons (ge_var 4) ga_nil)))) (by decide) (by decide))).ge).go gao_nil))).ge) (blkOk_by (by kernel_rfl)) (fun _ _ _ _ _ => (gg_tup rfl (ggs_cons 3 sc_free_by_sums.nd (ggs_cons 4 sc_free_by_sums.nd ggs_nil)) rfl)) (fun _ _ _ _ _ => gts_nil) (fun _ _ _ _ _ => (ge_var 4)) (by decide) (by decide)))) (gss_cons (GS.post (On' := [5]) (by decide) (gs_setF 5 sc_free_by_sums.nd (gf_lst ga_nil))) (gss_cons (gs_for .never rfl (gi_seq (ge_var 0)) (gg_name 3 sc_free_by_sums.nd) (GSs.post (On' := [5]) (by decide) (gss_cons (GS.post (On' := [5]) (by decide) (gs_set 6 sc_free_by_sums.nd ((gf_dc (own := [("spot", 4)]) rfl sc_free_by_sums.nd (gi_seq (ge_slice ((ge_var 2)).go gp_none (gp_some (ge_var 3)))) (blkOk_by (by kernel_rfl)) (fun _ _ _ _ _ => (gg_name 4 sc_free_by_sums.nd)) (fun _ _ _ _ _ => gts_nil) (fun _ _ _ _ _ => (ge_var 4)) (fun _ _ _ _ _ => ge_bl) (by decide) (by decide))).ge)) (gss_one (gs_append 5 (by decide) (ge_join (ge_str).go (((gf_lc (own := [("spot", 4)]) rfl sc_free_by_sums.nd (gi_range1 T.range (gao_cons ((ge_len T.len (gao_cons ((ge_var 1)).go gao_nil))).go gao_nil)) (blkOk_by (by kernel_rfl)) (fun _ _ _ _ _ => (gg_name 4 sc_free_by_sums.nd)) (fun _ _ _ _ _ => gts_nil) (fun _ _ _ _ _ => (ge_ifExp (gt_inK hr.units ((ge_var 4)).go ((ge_var 6)).go) (ge_gstr T.BLACK) (ge_gstr T.WHITE))) (by decide) (by decide))).ge).go))))) (by decide) (fun d ds h => by cases h; rfl)) (gss_cons (GS.post (On' := [5]) (by decide) (gs_set 7 sc_free_by_sums.nd (ge_tuple T.tuple (gao_cons (go_own 5) gao_nil)))) (gss_one (gs_ret (On := []) (ge_ifExp (gt_eq hr.units ((ge_call (d_column_sums_of T) (hr.mono (by decide)) pass0 (ga_cons (ge_var 7) ga_nil))).go ((ge_var 1)).go) (ge_var 7) ge_non))))))))⟩
abbrev s_shape : Stmt := top 47
theorem sc_shape : FnScope ["picture"] ["picture"] (defScope s_shape) := ⟨rfl, rfl, rfl, by decide +kernel, rfl, by decide +kernel, by decide +kernel⟩
def b_shape : SS := seqS (dropS (callE 1 m_need_free (consA (vE 0) (nilA)))) (retS (callE 1 m_sizes_of (consA (vE 0) (nilA))))
def m_shape : List D → List D → RE D := defD 1 b_shape
theorem d_shape (T : Tx K mg) : DefOk P w K mg base CX0 r "shape" 6 1 m_shape := by
  obtain ⟨f, fd, F, hm⟩ := T.f_shape
  refine fn_def (k := 5) F sc_shape hm (fun _ _ _ _ _ _ us hl => match us, hl with | [_], _ => rfl) (fun cdv A outer s H E hr => ?_) (m := b_shape)
  exact ⟨_, _, (gss_cons (gs_drop (ge_call (d_need_free T) (hr.mono (by decide)) pass0 (ga_cons (ge_var 0) ga_nil))) (gss_one (gs_ret (On := []) (ge_call (d_sizes_of T) (hr.mono (by decide)) pass0 (ga_cons (ge_var 0) ga_nil)))))⟩
abbrev s_stairs : Stmt := top 49
theorem sc_stairs : FnScope ["picture"] ["picture"] (defScope s_stairs) := ⟨rfl, rfl, rfl, by decide +kernel, rfl, by decide +kernel, by decide +kernel⟩
def b_stairs : SS := seqS (dropS (callE 1 m_need_free (consA (vE 0) (nilA)))) (retS (callE 1 m_stairs_of (consA (vE 0) (nilA))))
def m_stairs : List D → List D → RE D := defD 1 b_stairs
theorem d_stairs (T : Tx K mg) : DefOk P w K mg base CX0 r "stairs" 6 1 m_stairs := by
  obtain ⟨f, fd, F, hm⟩ := T.f_stairs
  refine fn_def (k := 5) F sc_stairs hm (fun _ _ _ _ _ _ us hl => match us, hl with | [_], _ => rfl) (fun cdv A outer s H E hr => ?_) (m := b_stairs)
  exact ⟨_, _, (gss_cons (gs_drop (ge_call (d_need_free T) (hr.mono (by decide)) pass0 (ga_cons (ge_var 0) ga_nil))) (gss_one (gs_ret (On := []) (ge_call (d_stairs_of T) (hr.mono (by decide)) pass0 (ga_cons (ge_var 0) ga_nil)))))⟩
abbrev s_number_of : Stmt := top 40
theorem sc_number_of : FnScope ["picture", "rows", "columns", "known", "found", "left", "told", "sort", "some", "many", "rest", "ways", "line"] ["picture"] (defScope s_number_of) := ⟨rfl, rfl, rfl, by decide +kernel, rfl, by decide +kernel, by decide +kernel⟩
def b_number_of : SS := seqS (parS [1, 2, 3, 4] (consA (callB lenD (consA (vE 0) (nilA))) (consA (callB lenD (consA (binE ixD (vE 0) (cE (.int 0))) (nilA))) (consA (cE (.memo 0)) (consA (cE (.int 0)) (nilA)))))) (seqS (setFS 5 (lstE (consA (rg1E .lst (vE 1)) (consA (rg2E .lst (vE 1) (binE addD (vE 1) (vE 2))) (nilA))))) (seqS (setS 6 (callE 1 m_layers_of (consA (vE 0) (nilA)))) (seqS (setS 7 (ifE (boolE (binE ltD (binE ixD (binE ixD (vE 6) (cE (.int 0))) (cE (.int 0))) (vE 1))) (cE (.int 0)) (cE (.int 1)))) (seqS (ifS (boolE (binE eqD (vE 7) (cE (.int 1)))) (setS 4 (callE 4 (m_ways_left 62) (consA (vE 3) (consA (vE 1) (consA (vE 2) (consA (cE (.bl true)) (nilA))))))) (skipS)) (seqS (forS (seqI (vE 6)) t1 [8] (seqS (forS (rangeI range2D (consA (cE (.int 1)) (consA (binE addD (callB lenD (consA (vE 8) (nilA))) (cE (.int 1))) (nilA)))) t1 [9] (seqS (setFS 10 (lstE (consA (callB lenD (consA (binE ixD (vE 5) (cE (.int 0))) (nilA))) (consA (callB lenD (consA (binE ixD (vE 5) (cE (.int 1))) (nilA))) (nilA))))) (seqS (laugSubS 10 (vE 7) (vE 9)) (seqS (setS 11 (callE 4 (m_ways_left 62) (consA (vE 3) (consA (binE ixD (vE 10) (cE (.int 0))) (consA (binE ixD (vE 10) (cE (.int 1))) (consA (binE eqD (vE 7) (cE (.int 1))) (nilA))))))) (ifS (boolE (binE ltD (vE 9) (callB lenD (consA (vE 8) (nilA))))) (augS 4 addD (binE mulD (callE 2 m_chosen (consA (callB lenD (consA (binE ixD (vE 5) (vE 7)) (nilA))) (consA (vE 9) (nilA)))) (vE 11))) (augS 4 addD (binE mulD (callE 2 m_subset_number (consA (binE ixD (vE 5) (vE 7)) (consA (vE 8) (nilA)))) (vE 11)))))))) (seqS (lsetS 5 (vE 7) (compE (seqI (binE ixD (vE 5) (vE 7))) [12] t1 [12] (boolE (binE notInD (vE 12) (vE 8))) (vE 12))) (setS 7 (binE subD (cE (.int 1)) (vE 7)))))) (retS (vE 4)))))))
def m_number_of : List D → List D → RE D := defD 13 b_number_of
theorem d_number_of (T : Tx K mg) : DefOk P w K mg base CX0 r "number_of" 65 1 m_number_of := by
  obtain ⟨f, fd, F, hm⟩ := T.f_number_of
  refine fn_def (k := 64) F sc_number_of hm (fun _ _ _ _ _ _ us hl => match us, hl with | [_], _ => rfl) (fun cdv A outer s H E hr => ?_) (m := b_number_of)
  exact ⟨_, _, (gss_cons (GS.post (On' := []) (by decide) (gs_tup (gak_st (ge_len T.len (gao_cons ((ge_var 0)).go gao_nil)) (gak_st (ge_len T.len (gao_cons ((ge_sub1 ((ge_var 0)).go (ge_int).go)).go gao_nil)) (gak_st (ge_memo 0) (gak_st ge_int gak_nil)))) (ggs_cons 1 sc_number_of.nd (ggs_cons 2 sc_number_of.nd (ggs_cons 3 sc_number_of.nd (ggs_cons 4 sc_number_of.nd ggs_nil)))))) (gss_cons (GS.post (On' := [5]) (by decide) (gs_setF 5 sc_number_of.nd (gf_lst (ga_cons ((gf_listRg1 T.list T.range ((ge_var 1)).go)).ge (ga_cons ((gf_listRg2 T.list T.range ((ge_var 1)).go ((ge_add ((ge_var 1)).go ((ge_var 2)).go)).go)).ge ga_nil))))) (gss_cons (GS.post (On' := [5]) (by decide) (gs_set 6 sc_number_of.nd (ge_call (d_layers_of T) (hr.mono (by decide)) pass0 (ga_cons (ge_var 0) ga_nil)))) (gss_cons (GS.post (On' := [5]) (by decide) (gs_set 7 sc_number_of.nd (ge_ifExp (gt_lt ((ge_sub1 ((ge_sub1 ((ge_var 6)).go (ge_int).go)).go (ge_int).go)).go ((ge_var 1)).go) ge_int ge_int))) (gss_cons (gs_if (gt_eq hr.units ((ge_var 7)).go (ge_int).go) (GSs.post (On' := [5]) (by decide) (gss_one (GS.post (On' := [5]) (by decide) (gs_set 4 sc_number_of.nd (ge_call (d_ways_left T 62) (hr.mono (by decide)) pass0 (ga_cons (ge_var 3) (ga_cons (ge_var 1) (ga_cons (ge_var 2) (ga_cons ge_bl ga_nil))))))))) (GSs.post (On' := [5]) (by decide) gss_nil)) (gss_cons (gs_for .never rfl (gi_seq (ge_var 6)) (gg_name 8 sc_number_of.nd) (GSs.post (On' := [5]) (by decide) (gss_cons (gs_for .never rfl (gi_range2 T.range (gao_cons (ge_int).go (gao_cons ((ge_add ((ge_len T.len (gao_cons ((ge_var 8)).go gao_nil))).go (ge_int).go)).go gao_nil))) (gg_name 9 sc_number_of.nd) (GSs.post (On' := [5]) (by decide) (gss_cons (GS.post (On' := [5, 10]) (by decide) (gs_setF 10 sc_number_of.nd (gf_lst (ga_cons (ge_len T.len (gao_cons ((ge_sub1 (go_own 5) (ge_int).go)).go gao_nil)) (ga_cons (ge_len T.len (gao_cons ((ge_sub1 (go_own 5) (ge_int).go)).go gao_nil)) ga_nil))))) (gss_cons (gs_laugSub 10 (by decide) (ge_var 7) (ge_var 9)) (gss_cons (GS.post (On' := [5, 10]) (by decide) (gs_set 11 sc_number_of.nd (ge_call (d_ways_left T 62) (hr.mono (by decide)) pass0 (ga_cons (ge_var 3) (ga_cons (ge_sub1 (go_own 10) (ge_int).go) (ga_cons (ge_sub1 (go_own 10) (ge_int).go) (ga_cons (ge_eq hr.units ((ge_var 7)).go (ge_int).go) ga_nil))))))) (gss_one (gs_if (gt_lt ((ge_var 9)).go ((ge_len T.len (gao_cons ((ge_var 8)).go gao_nil))).go) (GSs.post (On' := [5, 10]) (by decide) (gss_one (gs_augAdd 4 sc_number_of.nd (ge_mul ((ge_call (d_chosen T) (hr.mono (by decide)) pass0 (ga_cons (ge_len T.len (gao_cons ((ge_sub1 (go_own 5) ((ge_var 7)).go)).go gao_nil)) (ga_cons (ge_var 9) ga_nil)))).go ((ge_var 11)).go)))) (GSs.post (On' := [5, 10]) (by decide) (gss_one (gs_augAdd 4 sc_number_of.nd (ge_mul ((ge_call (d_subset_number T) (hr.mono (by decide)) pass0 (ga_cons (ge_sub1 (go_own 5) ((ge_var 7)).go) (ga_cons (ge_var 8) ga_nil)))).go ((ge_var 11)).go)))))))))) (by decide) (fun d ds h => by cases h; rfl)) (gss_cons (gs_lset 5 (by decide) (ge_var 7) ((gf_lc (own := [("line", 12)]) rfl sc_number_of.nd (gi_seq (ge_sub1 (go_own 5) ((ge_var 7)).go)) (blkOk_by (by kernel_rfl)) (fun _ _ _ _ _ => (gg_name 12 sc_number_of.nd)) (fun _ _ _ _ _ => (gts_one (gt_notIn hr.units ((ge_var 12)).go ((ge_var 8)).go))) (fun _ _ _ _ _ => (ge_var 12)) (by decide) (by decide))).ge) (gss_one (GS.post (On' := [5]) (by decide) (gs_set 7 sc_number_of.nd (ge_sub (ge_int).go ((ge_var 7)).go))))))) (by decide) (fun d ds h => by cases h; rfl)) (gss_one (gs_ret (On := []) (ge_var 4)))))))))⟩
abbrev s_free_number : Stmt := top 41
theorem sc_free_number : FnScope ["picture"] ["picture"] (defScope s_free_number) := ⟨rfl, rfl, rfl, by decide +kernel, rfl, by decide +kernel, by decide +kernel⟩
def b_free_number : SS := seqS (dropS (callE 1 m_need_free (consA (vE 0) (nilA)))) (retS (callE 1 m_number_of (consA (vE 0) (nilA))))
def m_free_number : List D → List D → RE D := defD 1 b_free_number
theorem d_free_number (T : Tx K mg) : DefOk P w K mg base CX0 r "free_number" 66 1 m_free_number := by
  obtain ⟨f, fd, F, hm⟩ := T.f_free_number
  refine fn_def (k := 65) F sc_free_number hm (fun _ _ _ _ _ _ us hl => match us, hl with | [_], _ => rfl) (fun cdv A outer s H E hr => ?_) (m := b_free_number)
  exact ⟨_, _, (gss_cons (gs_drop (ge_call (d_need_free T) (hr.mono (by decide)) pass0 (ga_cons (ge_var 0) ga_nil))) (gss_one (gs_ret (On := []) (ge_call (d_number_of T) (hr.mono (by decide)) pass0 (ga_cons (ge_var 0) ga_nil)))))⟩
abbrev s_law : Stmt := top 54
theorem sc_law : FnScope ["_law_script", "_law_row", "_law_high", "_law_wide", "_law_rows", "_law_at", "_law_order", "_law_columns", "_law_spot", "_law_many", "_law_picture", "_law_told", "_law_some", "_law_line", "_law_kinds", "_law_best", "_law_there"] ["_law_script"] (defScope s_law) := ⟨rfl, rfl, rfl, by decide +kernel, rfl, by decide +kernel, by decide +kernel⟩
def b_law : SS := seqS (parS [2, 3] (consA (binE addD (cE (.int 1)) (callE 2 m_law_taken (consA (vE 1) (consA (cE (.int 20)) (nilA))))) (consA (binE addD (cE (.int 1)) (callE 2 m_law_taken (consA (vE 1) (consA (cE (.int 20)) (nilA))))) (nilA)))) (seqS (setS 4 (compE (rangeI range1D (consA (vE 2) (nilA))) [5] t1 [5] (yesT) (callE 2 m_law_pick (consA (vE 1) (consA (lstE (consA (cE (.int 0)) (consA (vE 3) (consA (callE 2 m_law_taken (consA (vE 1) (consA (binE addD (vE 3) (cE (.int 1))) (nilA)))) (nilA))))) (nilA)))))) (seqS (setS 6 (callE 2 m_law_mixed (consA (vE 1) (consA (rg1E .lst (vE 3)) (nilA))))) (seqS (setFS 7 (binE lrepD (lstE (consA (cE (.int 0)) (nilA))) (vE 3))) (seqS (forS (rangeI range1D (consA (vE 3) (nilA))) t1 [8] (lsetS 7 (binE ixD (vE 6) (vE 8)) (callB lenD (consA (compE (seqI (vE 4)) [9] t1 [9] (boolE (binE gtD (vE 9) (vE 8))) (vE 9)) (nilA))))) (seqS (setS 10 (callE 2 m_free_by_sums (consA (callB tupleD (consA (vE 4) (nilA))) (consA (callB tupleD (consA (vE 7) (nilA))) (nilA))))) (seqS (ifS (orT (boolE (binE isNoneD (vE 10) (cE .non))) (boolE (binE isNotNoneD (callE 1 m_is_free (consA (vE 10) (nilA))) (cE (.bl true))))) (retS (cE (.bl false))) (skipS)) (seqS (ifS (orT (boolE (binE neD (callE 1 m_sums (consA (vE 10) (nilA))) (tupE (consA (callB tupleD (consA (vE 4) (nilA))) (consA (callB tupleD (consA (vE 7) (nilA))) (nilA)))))) (boolE (binE neD (callE 1 m_black_cells (consA (vE 10) (nilA))) (callB sum2D (consA (vE 4) (nilA)))))) (retS (cE (.bl false))) (skipS)) (seqS (forS (rangeI range1D (consA (vE 2) (nilA))) t1 [5] (ifS (orT (boolE (binE neD (methE isStrD countD (binE ixD (vE 10) (vE 5)) (cE (.str "#"))) (binE ixD (vE 4) (vE 5)))) (boolE (binE neD (compE (rangeI range1D (consA (binE ixD (vE 4) (vE 5)) (nilA))) [8] t1 [8] (andT (boolE (binE gtD (binE ixD (vE 7) (binE ixD (vE 6) (vE 8))) (cE (.int 0)))) (boolE (binE eqD (binE ixD (binE ixD (vE 10) (vE 5)) (binE ixD (vE 6) (vE 8))) (cE (.str "."))))) (vE 8)) (lstE (nilA))))) (retS (cE (.bl false))) (skipS))) (seqS (setS 11 (callE 1 m_layers (consA (vE 10) (nilA)))) (seqS (ifS (orT (boolE (binE neD (callE 3 m_free_by_layers (consA (vE 2) (consA (vE 3) (consA (vE 11) (nilA))))) (vE 10))) (boolE (binE ltD (callE 1 m_free_number (consA (vE 10) (nilA))) (cE (.int 0))))) (retS (cE (.bl false))) (skipS)) (seqS (forS (seqI (vE 11)) t1 [12] (ifS (boolE (binE neD (callB lenSetD (consA (compE (seqI (vE 12)) [13] t1 [13] (yesT) (ifE (boolE (binE ltD (vE 13) (vE 2))) (binE ixD (vE 4) (vE 13)) (binE ixD (vE 7) (binE subD (vE 13) (vE 2))))) (nilA))) (cE (.int 1)))) (retS (cE (.bl false))) (skipS))) (seqS (setS 14 (binE addD (callB lenSetD (consA (vE 4) (nilA))) (callB lenSetD (consA (vE 7) (nilA))))) (seqS (ifS (orT (boolE (binE neD (callB lenD (consA (vE 11) (nilA))) (vE 14))) (boolE (binE neD (callB lenD (consA (binE ixD (callE 1 m_shape (consA (vE 10) (nilA))) (cE (.int 1))) (nilA))) (vE 14)))) (retS (cE (.bl false))) (skipS)) (seqS (setS 15 (callE 1 m_stairs (consA (vE 10) (nilA)))) (seqS (ifS (boolE (binE neD (revE (callB sortD (consA (compE (seqI (vE 15)) [13] t1 [13] (yesT) (methE isStrD countD (vE 13) (cE (.str "#")))) (nilA)))) (compE (seqI (vE 15)) [13] t1 [13] (yesT) (methE isStrD countD (vE 13) (cE (.str "#")))))) (retS (cE (.bl false))) (skipS)) (seqS (ifS (boolE (binE neD (callE 1 m_black_cells (consA (vE 15) (nilA))) (callB sum2D (consA (vE 4) (nilA))))) (retS (cE (.bl false))) (skipS)) (seqS (parS [5, 8] (consA (callE 2 m_law_taken (consA (vE 1) (consA (vE 3) (nilA)))) (consA (callE 2 m_law_taken (consA (vE 1) (consA (vE 3) (nilA)))) (nilA)))) (seqS (ifS (andT (boolE (binE ltD (binE ixD (vE 7) (vE 5)) (vE 2))) (andT (boolE (binE gtD (binE ixD (vE 7) (vE 8)) (cE (.int 0)))) (boolE (binE neD (vE 5) (vE 8))))) (seqS (lset2S 7 (vE 5) (vE 8) (consA (binE addD (binE ixD (vE 7) (vE 5)) (cE (.int 1))) (consA (binE subD (binE ixD (vE 7) (vE 8)) (cE (.int 1))) (nilA)))) (seqS (setS 16 (callE 2 m_free_by_sums (consA (callB tupleD (consA (vE 4) (nilA))) (consA (callB tupleD (consA (vE 7) (nilA))) (nilA))))) (ifS (boolE (binE neD (binE isNotNoneD (vE 16) (cE .non)) (binE eqD (callB sortD (consA (vE 7) (nilA))) (callB sortD (consA (compE (seqI (binE ixD (callE 1 m_sums (consA (vE 10) (nilA))) (cE (.int 1)))) [13] t1 [13] (yesT) (vE 13)) (nilA)))))) (retS (cE (.bl false))) (skipS)))) (skipS)) (retS (cE (.bl true)))))))))))))))))))))
theorem law_body (T : Tx K mg) {f : Addr} {qual : Str} (r : Addr) (cdv : Value) (A : Around) (outer : List Env) (s : Shared) (H : Hp) (E : XK) (hr : Room 66 (A.deeper (PyProof.Rows.envOfC qual (defScope s_law) s.heap.objs.size f cdv))) : ∃ On u, GSs K mg r (cxOf CX0 P w K mg base ["_law_script", "_law_row", "_law_high", "_law_wide", "_law_rows", "_law_at", "_law_order", "_law_columns", "_law_spot", "_law_many", "_law_picture", "_law_told", "_law_some", "_law_line", "_law_kinds", "_law_best", "_law_there"] qual (defScope s_law) f cdv A outer s H E).nox E0 [] On [] (defBody s_law).tail u b_law := by
  exact ⟨_, _, (gss_cons (GS.post (On' := []) (by decide) (gs_tup (gak_st (ge_add (ge_int).go ((ge_call (d_law_taken T) (hr.mono (by decide)) pass0 (ga_cons (ge_var 1) (ga_cons ge_int ga_nil)))).go) (gak_st (ge_add (ge_int).go ((ge_call (d_law_taken T) (hr.mono (by decide)) pass0 (ga_cons (ge_var 1) (ga_cons ge_int ga_nil)))).go) gak_nil)) (ggs_cons 2 sc_law.nd (ggs_cons 3 sc_law.nd ggs_nil)))) (gss_cons (GS.post (On' := []) (by decide) (gs_set 4 sc_law.nd ((gf_lc (own := [("_law_at", 5)]) rfl sc_law.nd (gi_range1 T.range (gao_cons ((ge_var 2)).go gao_nil)) (blkOk_by (by kernel_rfl)) (fun _ _ _ _ _ => (gg_name 5 sc_law.nd)) (fun _ _ _ _ _ => gts_nil) (fun _ _ _ _ _ => (ge_call (d_law_pick T) (hr.mono (by decide)) pass0 (ga_cons (ge_var 1) (ga_cons ((gf_lst (ga_cons ge_int (ga_cons (ge_var 3) (ga_cons (ge_call (d_law_taken T) (hr.mono (by decide)) pass0 (ga_cons (ge_var 1) (ga_cons (ge_add ((ge_var 3)).go (ge_int).go) ga_nil))) ga_nil))))).ge ga_nil)))) (by decide) (by decide))).ge)) (gss_cons (GS.post (On' := []) (by decide) (gs_set 6 sc_law.nd (ge_call (d_law_mixed T) (hr.mono (by decide)) pass0 (ga_cons (ge_var 1) (ga_cons ((gf_listRg1 T.list T.range ((ge_var 3)).go)).ge ga_nil))))) (gss_cons (GS.post (On' := [7]) (by decide) (gs_setF 7 sc_law.nd (gf_lrep ((gf_lst (ga_cons ge_int ga_nil))).ge (ge_var 3)))) (gss_cons (gs_for .never rfl (gi_range1 T.range (gao_cons ((ge_var 3)).go gao_nil)) (gg_name 8 sc_law.nd) (GSs.post (On' := [7]) (by decide) (gss_one (gs_lset 7 (by decide) (ge_sub1 ((ge_var 6)).go ((ge_var 8)).go) (ge_len T.len (gao_cons (((gf_lc (own := [("_law_many", 9)]) rfl sc_law.nd (gi_seq (ge_var 4)) (blkOk_by (by kernel_rfl)) (fun _ _ _ _ _ => (gg_name 9 sc_law.nd)) (fun _ _ _ _ _ => (gts_one (gt_gt ((ge_var 9)).go ((ge_var 8)).go))) (fun _ _ _ _ _ => (ge_var 9)) (by decide) (by decide))).ge).go gao_nil))))) (by decide) (fun d ds h => by cases h; rfl)) (gss_cons (GS.post (On' := [7]) (by decide) (gs_set 10 sc_law.nd (ge_call (d_free_by_sums T) (hr.mono (by decide)) pass0 (ga_cons (ge_tuple T.tuple (gao_cons ((ge_var 4)).go gao_nil)) (ga_cons (ge_tuple T.tuple (gao_cons (go_own 7) gao_nil)) ga_nil))))) (gss_cons (gs_if ((gw_or (gt_is ((ge_var 10)).go (ge_non).go) (gw_or1 (gt_isNot ((ge_call (d_is_free T) (hr.mono (by decide)) pass0 (ga_cons (ge_var 10) ga_nil))).go (ge_bl).go)))).gt (gss_one (gs_ret (On := [7]) ge_bl)) (GSs.post (On' := [7]) (by decide) gss_nil)) (gss_cons (gs_if ((gw_or (gt_ne hr.units ((ge_call (d_sums T) (hr.mono (by decide)) pass0 (ga_cons (ge_var 10) ga_nil))).go ((ge_tup (ga_cons (ge_tuple T.tuple (gao_cons ((ge_var 4)).go gao_nil)) (ga_cons (ge_tuple T.tuple (gao_cons (go_own 7) gao_nil)) ga_nil)))).go) (gw_or1 (gt_ne hr.units ((ge_call (d_black_cells T) (hr.mono (by decide)) pass0 (ga_cons (ge_var 10) ga_nil))).go ((ge_sum2 rfl T.sum (gao_cons ((ge_var 4)).go gao_nil))).go)))).gt (gss_one (gs_ret (On := [7]) ge_bl)) (GSs.post (On' := [7]) (by decide) gss_nil)) (gss_cons (gs_for .never rfl (gi_range1 T.range (gao_cons ((ge_var 2)).go gao_nil)) (gg_name 5 sc_law.nd) (GSs.post (On' := [7]) (by decide) (gss_one (gs_if ((gw_or (gt_ne hr.units ((ge_count ((ge_sub1 ((ge_var 10)).go ((ge_var 5)).go)).go (ge_str).go)).go ((ge_sub1 ((ge_var 4)).go ((ge_var 5)).go)).go) (gw_or1 (gt_ne hr.units (((gf_lc (own := [("_law_spot", 8)]) rfl sc_law.nd (gi_range1 T.range (gao_cons ((ge_sub1 ((ge_var 4)).go ((ge_var 5)).go)).go gao_nil)) (blkOk_by (by kernel_rfl)) (fun _ _ _ _ _ => (gg_name 8 sc_law.nd)) (fun _ _ _ _ _ => (gts_one ((gw_and (gt_gt ((ge_sub1 (go_own 7) ((ge_sub1 ((ge_var 6)).go ((ge_var 8)).go)).go)).go (ge_int).go) (gw_and1 (gt_eq hr.units ((ge_sub1 ((ge_sub1 ((ge_var 10)).go ((ge_var 5)).go)).go ((ge_sub1 ((ge_var 6)).go ((ge_var 8)).go)).go)).go (ge_str).go)))).gt)) (fun _ _ _ _ _ => (ge_var 8)) (by decide) (by decide))).ge).go (((gf_lst ga_nil)).ge).go)))).gt (gss_one (gs_ret (On := [7]) ge_bl)) (GSs.post (On' := [7]) (by decide) gss_nil)))) (by decide) (fun d ds h => by cases h; rfl)) (gss_cons (GS.post (On' := [7]) (by decide) (gs_set 11 sc_law.nd (ge_call (d_layers T) (hr.mono (by decide)) pass0 (ga_cons (ge_var 10) ga_nil)))) (gss_cons (gs_if ((gw_or (gt_ne hr.units ((ge_call (d_free_by_layers T) (hr.mono (by decide)) pass0 (ga_cons (ge_var 2) (ga_cons (ge_var 3) (ga_cons (ge_var 11) ga_nil))))).go ((ge_var 10)).go) (gw_or1 (gt_lt ((ge_call (d_free_number T) (hr.mono (by decide)) pass0 (ga_cons (ge_var 10) ga_nil))).go (ge_int).go)))).gt (gss_one (gs_ret (On := [7]) ge_bl)) (GSs.post (On' := [7]) (by decide) gss_nil)) (gss_cons (gs_for .never rfl (gi_seq (ge_var 11)) (gg_name 12 sc_law.nd) (GSs.post (On' := [7]) (by decide) (gss_one (gs_if (gt_ne hr.units ((ge_lenSetN rfl T.len T.set (gao_cons (((gf_lc (own := [("_law_line", 13)]) rfl sc_law.nd (gi_seq (ge_var 12)) (blkOk_by (by kernel_rfl)) (fun _ _ _ _ _ => (gg_name 13 sc_law.nd)) (fun _ _ _ _ _ => gts_nil) (fun _ _ _ _ _ => (ge_ifExp (gt_lt ((ge_var 13)).go ((ge_var 2)).go) (ge_sub1 ((ge_var 4)).go ((ge_var 13)).go) (ge_sub1 (go_own 7) ((ge_sub ((ge_var 13)).go ((ge_var 2)).go)).go))) (by decide) (by decide))).ge).go gao_nil))).go (ge_int).go) (gss_one (gs_ret (On := [7]) ge_bl)) (GSs.post (On' := [7]) (by decide) gss_nil)))) (by decide) (fun d ds h => by cases h; rfl)) (gss_cons (GS.post (On' := [7]) (by decide) (gs_set 14 sc_law.nd (ge_add ((ge_lenSetN rfl T.len T.set (gao_cons ((ge_var 4)).go gao_nil))).go ((ge_lenSetN rfl T.len T.set (gao_cons (go_own 7) gao_nil))).go))) (gss_cons (gs_if ((gw_or (gt_ne hr.units ((ge_len T.len (gao_cons ((ge_var 11)).go gao_nil))).go ((ge_var 14)).go) (gw_or1 (gt_ne hr.units ((ge_len T.len (gao_cons ((ge_sub1 ((ge_call (d_shape T) (hr.mono (by decide)) pass0 (ga_cons (ge_var 10) ga_nil))).go (ge_int).go)).go gao_nil))).go ((ge_var 14)).go)))).gt (gss_one (gs_ret (On := [7]) ge_bl)) (GSs.post (On' := [7]) (by decide) gss_nil)) (gss_cons (GS.post (On' := [7]) (by decide) (gs_set 15 sc_law.nd (ge_call (d_stairs T) (hr.mono (by decide)) pass0 (ga_cons (ge_var 10) ga_nil)))) (gss_cons (gs_if (gt_ne hr.units (((gf_rev (((gf_sorted T.sorted (gao_cons (((gf_lc (own := [("_law_line", 13)]) rfl sc_law.nd (gi_seq (ge_var 15)) (blkOk_by (by kernel_rfl)) (fun _ _ _ _ _ => (gg_name 13 sc_law.nd)) (fun _ _ _ _ _ => gts_nil) (fun _ _ _ _ _ => (ge_count ((ge_var 13)).go (ge_str).go)) (by decide) (by decide))).ge).go gao_nil))).ge).go)).ge).go (((gf_lc (own := [("_law_line", 13)]) rfl sc_law.nd (gi_seq (ge_var 15)) (blkOk_by (by kernel_rfl)) (fun _ _ _ _ _ => (gg_name 13 sc_law.nd)) (fun _ _ _ _ _ => gts_nil) (fun _ _ _ _ _ => (ge_count ((ge_var 13)).go (ge_str).go)) (by decide) (by decide))).ge).go) (gss_one (gs_ret (On := [7]) ge_bl)) (GSs.post (On' := [7]) (by decide) gss_nil)) (gss_cons (gs_if (gt_ne hr.units ((ge_call (d_black_cells T) (hr.mono (by decide)) pass0 (ga_cons (ge_var 15) ga_nil))).go ((ge_sum2 rfl T.sum (gao_cons ((ge_var 4)).go gao_nil))).go) (gss_one (gs_ret (On := [7]) ge_bl)) (GSs.post (On' := [7]) (by decide) gss_nil)) (gss_cons (GS.post (On' := [7]) (by decide) (gs_tup (gak_st (ge_call (d_law_taken T) (hr.mono (by decide)) pass0 (ga_cons (ge_var 1) (ga_cons (ge_var 3) ga_nil))) (gak_st (ge_call (d_law_taken T) (hr.mono (by decide)) pass0 (ga_cons (ge_var 1) (ga_cons (ge_var 3) ga_nil))) gak_nil)) (ggs_cons 5 sc_law.nd (ggs_cons 8 sc_law.nd ggs_nil)))) (gss_cons (gs_if ((gw_and (gt_lt ((ge_sub1 (go_own 7) ((ge_var 5)).go)).go ((ge_var 2)).go) (gw_and (gt_gt ((ge_sub1 (go_own 7) ((ge_var 8)).go)).go (ge_int).go) (gw_and1 (gt_ne hr.units ((ge_var 5)).go ((ge_var 8)).go))))).gt (GSs.post (On' := [7]) (by decide) (gss_cons (gs_lset2 7 (by decide) (ge_var 5) (ge_var 8) (gao_cons ((ge_add ((ge_sub1 (go_own 7) ((ge_var 5)).go)).go (ge_int).go)).go (gao_cons ((ge_sub ((ge_sub1 (go_own 7) ((ge_var 8)).go)).go (ge_int).go)).go gao_nil))) (gss_cons (GS.post (On' := [7]) (by decide) (gs_set 16 sc_law.nd (ge_call (d_free_by_sums T) (hr.mono (by decide)) pass0 (ga_cons (ge_tuple T.tuple (gao_cons ((ge_var 4)).go gao_nil)) (ga_cons (ge_tuple T.tuple (gao_cons (go_own 7) gao_nil)) ga_nil))))) (gss_one (gs_if (gt_ne hr.units ((ge_isNot ((ge_var 16)).go (ge_non).go)).go ((ge_eq hr.units (((gf_sorted T.sorted (gao_cons (go_own 7) gao_nil))).ge).go (((gf_sorted T.sorted (gao_cons (((gf_lc (own := [("_law_line", 13)]) rfl sc_law.nd (gi_seq (ge_sub1 ((ge_call (d_sums T) (hr.mono (by decide)) pass0 (ga_cons (ge_var 10) ga_nil))).go (ge_int).go)) (blkOk_by (by kernel_rfl)) (fun _ _ _ _ _ => (gg_name 13 sc_law.nd)) (fun _ _ _ _ _ => gts_nil) (fun _ _ _ _ _ => (ge_var 13)) (by decide) (by decide))).ge).go gao_nil))).ge).go)).go) (gss_one (gs_ret (On := [7]) ge_bl)) (GSs.post (On' := [7]) (by decide) gss_nil)))))) (GSs.post (On' := [7]) (by decide) gss_nil)) (gss_one (gs_ret (On := []) ge_bl)))))))))))))))))))))⟩
end
end W
set_option maxHeartbeats 1000000
namespace W
open PySem L2 G
theorem log_small {m : Int} (h : m ≤ 2 ^ 30) (h1 : 1 ≤ m) : cDiv m = true := by
  unfold cDiv
  have : m.natAbs.log2 < 9000 := by
    have : m.natAbs.log2 < 31 := (Nat.log2_lt (by omega)).mpr (by omega)
    omega
  simp [this]; omega
theorem mul_small {i j : Int} (hi : 0 ≤ i) (hi2 : i < 2147483648) (hj : 0 ≤ j) (hj2 : j < 2147483648) : cMul i j = true := by
  unfold cMul
  have k : ∀ x : Int, 0 ≤ x → x < 2147483648 → x.natAbs.log2 ≤ 32 := fun x h1 h2 => by
    rcases Nat.eq_zero_or_pos x.natAbs with e | e
    · rw [e]; decide
    · have : x.natAbs.log2 < 32 := (Nat.log2_lt (by omega)).mpr (by omega)
      omega
  have := k i hi hi2
  have := k j hj hj2
  exact decide_eq_true (by omega)
theorem taken_ok {tp : List D} {m : Int} (h : Tape tp) (hm : 1 ≤ m) (hM : m ≤ 2 ^ 30) : ∃ v tp', m_law_taken [.tape, .int m] tp = .ok (.int v) tp' ∧ Tape tp' ∧ 0 ≤ v ∧ v < m := by
  obtain ⟨⟨ns, pos, seed, rest, rfl, p0, s0, s1, nl⟩⟩ := h
  have cd := log_small hM hm
  have cm : cMul seed 48271 = true := mul_small s0 (by omega) (by decide) (by decide)
  have m0 : (0 : Int) < m := by omega
  have c7 : cDiv 7 = true := by decide +kernel
  have a0 : ∀ a b c d : D, atI [a, b, c, d] 0 = some a := fun _ _ _ _ => rfl
  have a1 : ∀ a b c d : D, atI [a, b, c, d] 1 = some b := fun _ _ _ _ => rfl
  have a2 : ∀ a b c d : D, atI [a, b, c, d] 2 = some c := fun _ _ _ _ => rfl
  have a3 : ∀ a b c d : D, atI [a, b, c, d] 3 = some d := fun _ _ _ _ => rfl
  have i1 : ixN 4 1 = some 1 := rfl
  have i2 : ixN 4 2 = some 2 := rfl
  have i3 : ixN 4 3 = some 3 := rfl
  have b7 : (0 : Int) < 2147483647 := by decide
  by_cases c1 : 0 < rest
  · refine ⟨rest % m, [.scr ns, .int pos, .int seed, .int (rest / m)], ?_, ⟨⟨ns, pos, seed, _, rfl, p0, s0, s1, nl⟩⟩, Int.emod_nonneg _ (by omega), Int.emod_lt_of_pos _ m0⟩
    simp -implicitDefEqProofs only [m_law_taken, b_law_taken, defD, retR, seqS, ifS, setS, retS, skipS, dropS, parS, setAll, vE, cE, binE, chainE, callB, consA, nilA, tupE, lstE, boolE, isB, notT, orT, andT, andE, orE, notE, callE, tixE, tsetS, sliceE, optI, methE, seqI, rangeI, RE.bind_ok, RE.bindS, RE.of_some, RE.of_none, List.map_cons, List.map_nil, List.length_cons, List.length_nil, List.replicate, List.cons_append, List.nil_append, List.getElem?_cons_zero, List.getElem?_cons_succ, List.set_cons_zero, List.set_cons_succ, if_true, if_false, Nat.zero_add, Nat.reduceAdd, Nat.reduceSub, decide_true, decide_false, Bool.false_eq_true, Option.map_some, Option.bind_some, a0, a1, a2, a3, i1, i2, i3, gtD, modD, fdivD, intD, c1, cd, m0]
  · by_cases c2 : (ns.length : Int) < pos + 1
    · refine ⟨((seed * 48271 + 11) % 2147483647 / 7) % m, [.scr ns, .int (pos + 1), .int ((seed * 48271 + 11) % 2147483647), .int rest], ?_, ⟨⟨ns, _, _, _, rfl, by omega, by omega, by omega, nl⟩⟩, Int.emod_nonneg _ (by omega), Int.emod_lt_of_pos _ m0⟩
      simp -implicitDefEqProofs only [m_law_taken, b_law_taken, defD, retR, seqS, ifS, setS, retS, skipS, dropS, parS, setAll, vE, cE, binE, chainE, callB, consA, nilA, tupE, lstE, boolE, isB, notT, orT, andT, andE, orE, notE, callE, tixE, tsetS, sliceE, optI, methE, seqI, rangeI, RE.bind_ok, RE.bindS, RE.of_some, RE.of_none, List.map_cons, List.map_nil, List.length_cons, List.length_nil, List.replicate, List.cons_append, List.nil_append, List.getElem?_cons_zero, List.getElem?_cons_succ, List.set_cons_zero, List.set_cons_succ, if_true, if_false, Nat.zero_add, Nat.reduceAdd, Nat.reduceSub, decide_true, decide_false, Bool.false_eq_true, Option.map_some, Option.bind_some, a0, a1, a2, a3, i1, i2, i3, gtD, modD, fdivD, intD, c1, cd, m0, addD, mulD, lenD, c2, cm, b7, c7]
    · have hp : pos.toNat < ns.length := by omega
      have e : atI ns (pos + 1 - 1) = some (ns[pos.toNat]) := by
        have : pos + 1 - 1 = pos := by omega
        rw [this, atI_int ns p0, List.getElem?_eq_getElem hp]
      have cp : cPow 10 18 = true := by decide +kernel
      generalize hc : ns[pos.toNat] = c at e
      have ev : ∀ q : Prop, ∀ [Decidable q], q = ((10 : Int) ^ (Int.toNat 18) ≤ c) → True := fun _ _ _ => trivial
      by_cases c3 : (10 : Int) ^ (Int.toNat 18) ≤ c
      · refine ⟨c % m, [.scr ns, .int (pos + 1), .int ((seed * 48271 + c + 11) % 2147483647), .int (c / m)], ?_, ⟨⟨ns, _, _, _, rfl, by omega, by omega, by omega, nl⟩⟩, Int.emod_nonneg _ (by omega), Int.emod_lt_of_pos _ m0⟩
        simp -implicitDefEqProofs only [m_law_taken, b_law_taken, defD, retR, seqS, ifS, setS, retS, skipS, dropS, parS, setAll, vE, cE, binE, chainE, callB, consA, nilA, tupE, lstE, boolE, isB, notT, orT, andT, andE, orE, notE, callE, tixE, tsetS, sliceE, optI, methE, seqI, rangeI, RE.bind_ok, RE.bindS, RE.of_some, RE.of_none, List.map_cons, List.map_nil, List.length_cons, List.length_nil, List.replicate, List.cons_append, List.nil_append, List.getElem?_cons_zero, List.getElem?_cons_succ, List.set_cons_zero, List.set_cons_succ, if_true, if_false, Nat.zero_add, Nat.reduceAdd, Nat.reduceSub, decide_true, decide_false, Bool.false_eq_true, Option.map_some, Option.bind_some, a0, a1, a2, a3, i1, i2, i3, gtD, geD, modD, fdivD, intD, c1, cd, m0, addD, subD, mulD, powD, lenD, ixD, c2, cm, b7, c7, e, cp, c3]
      · refine ⟨c % m, [.scr ns, .int (pos + 1), .int ((seed * 48271 + c + 11) % 2147483647), .int rest], ?_, ⟨⟨ns, _, _, _, rfl, by omega, by omega, by omega, nl⟩⟩, Int.emod_nonneg _ (by omega), Int.emod_lt_of_pos _ m0⟩
        simp -implicitDefEqProofs only [m_law_taken, b_law_taken, defD, retR, seqS, ifS, setS, retS, skipS, dropS, parS, setAll, vE, cE, binE, chainE, callB, consA, nilA, tupE, lstE, boolE, isB, notT, orT, andT, andE, orE, notE, callE, tixE, tsetS, sliceE, optI, methE, seqI, rangeI, RE.bind_ok, RE.bindS, RE.of_some, RE.of_none, List.map_cons, List.map_nil, List.length_cons, List.length_nil, List.replicate, List.cons_append, List.nil_append, List.getElem?_cons_zero, List.getElem?_cons_succ, List.set_cons_zero, List.set_cons_succ, if_true, if_false, Nat.zero_add, Nat.reduceAdd, Nat.reduceSub, decide_true, decide_false, Bool.false_eq_true, Option.map_some, Option.bind_some, a0, a1, a2, a3, i1, i2, i3, gtD, geD, modD, fdivD, intD, c1, cd, m0, addD, subD, mulD, powD, lenD, ixD, c2, cm, b7, c7, e, cp, c3]
end W
set_option maxHeartbeats 1000000
namespace W
open PySem L2 G
theorem cRg_small {i : Int} (h0 : 0 ≤ i) (h : i ≤ 2 ^ 30) : cRg i = true := by
  unfold cRg
  have h1 : -(2 ^ 62) ≤ i := by omega
  have h2 : i < 2 ^ 62 := by omega
  rw [decide_eq_true h1, decide_eq_true h2]; rfl
theorem range1_ok {i : Int} (h0 : 0 ≤ i) (h : i ≤ 2 ^ 30) : range1D [.int i] = some (rangeL 0 i) := by
  show (if cRg i then some (rangeL 0 i) else none) = _
  rw [cRg_small h0 h, if_pos rfl]
theorem rangeL_len (n : Nat) : (rangeL 0 (n : Int)).length = n := by unfold rangeL; simp
theorem rangeL_get {n j : Nat} {d : D} (h : (rangeL 0 (n : Int))[j]? = some d) : d = .int j ∧ j < n := by
  unfold rangeL at h
  rw [List.getElem?_map] at h
  obtain ⟨x, h1, h2⟩ := Option.map_eq_some_iff.mp h
  have hl : j < (List.range ((n : Int) - 0).toNat).length := (List.getElem?_eq_some_iff.mp h1).1
  have e := (List.getElem?_eq_some_iff.mp h1).2
  rw [List.getElem_range] at e
  rw [List.length_range] at hl
  subst e
  refine ⟨by rw [← h2]; simp, by omega⟩
theorem forS_eq {mi : SE (List D)} {tgt : D → Option (List D)} {is : List Nat} {body : SS} {env : DEnv} {tp tp1 : List D} {items : List D} (h : mi env tp = .ok items tp1) : forS mi tgt is body env tp = forL tgt is body items env tp1 := by
  unfold forS; rw [h]; rfl
theorem seqS_nx {m n : SS} {env env' : DEnv} {tp tp' : List D} (h : m env tp = .nx env' tp') : seqS m n env tp = n env' tp' := by
  unfold seqS; rw [h]
theorem pick_ok {tp : List D} {ds : List D} (h : Tape tp) (h0 : ds ≠ []) (hl : ds.length ≤ 2 ^ 30) : ∃ v tp', m_law_pick [.tape, .lst ds] tp = .ok v tp' ∧ Tape tp' ∧ v ∈ ds := by
  have hp := List.length_pos_iff.mpr h0
  obtain ⟨v, tp', e, t, v0, v1⟩ := taken_ok (m := (ds.length : Int)) h (by omega) (by omega)
  have hv : v.toNat < ds.length := by omega
  have ea : atI ds v = some ds[v.toNat] := by rw [atI_int ds v0, List.getElem?_eq_getElem hv]
  refine ⟨ds[v.toNat], tp', ?_, t, List.getElem_mem hv⟩
  simp -implicitDefEqProofs only [m_law_pick, b_law_pick, defD, retR, seqS, ifS, setS, retS, skipS, dropS, parS, setAll, vE, cE, binE, chainE, callB, consA, nilA, tupE, lstE, boolE, isB, notT, orT, andT, andE, orE, notE, callE, tixE, tsetS, sliceE, optI, methE, seqI, rangeI, RE.bind_ok, RE.bindS, RE.of_some, RE.of_none, List.map_cons, List.map_nil, List.length_cons, List.length_nil, List.replicate, List.cons_append, List.nil_append, List.getElem?_cons_zero, List.getElem?_cons_succ, List.set_cons_zero, List.set_cons_succ, if_true, if_false, Nat.zero_add, Nat.reduceAdd, Nat.reduceSub, decide_true, decide_false, Bool.false_eq_true, Option.map_some, Option.bind_some, lenD, e, ixD, ea]
end W
set_option maxHeartbeats 1000000
namespace W
open PySem L2 G
theorem lstE_ok {ms : SE (List D)} {env : DEnv} {tp tp1 : List D} {ds : List D} (h : ms env tp = .ok ds tp1) (hl : ds.length ≤ 1000000) : lstE ms env tp = .ok (.lst ds) tp1 := by
  unfold lstE; rw [h]; simp only [RE.bind_ok]; rw [if_pos (small_line hl)]
end W
set_option maxHeartbeats 1000000
namespace W
open PySem L2 G
theorem callE_ok {n : Nat} {m : List D → List D → RE D} {ms : SE (List D)} {env : DEnv} {tp tp1 tp2 : List D} {ds : List D} {d : D} (h : ms env tp = .ok ds tp1) (hl : ds.length = n) (h2 : m ds tp1 = .ok d tp2) : callE n m ms env tp = .ok d tp2 := by
  unfold callE; rw [h]; simp only [RE.bind_ok]; rw [if_pos hl, h2]
theorem consA_ok {c : SE D} {d : SE (List D)} {env : DEnv} {tp tp' tp2 : List D} {x : D} {xs : List D} (h : c env tp = .ok x tp') (h2 : d env tp' = .ok xs tp2) : consA c d env tp = .ok (x :: xs) tp2 := by
  unfold consA; rw [h]; simp only [RE.bind_ok]; rw [h2]; rfl
theorem callB_ok {f : List D → Option D} {ms : SE (List D)} {env : DEnv} {tp tp1 : List D} {ds : List D} {d : D} (h : ms env tp = .ok ds tp1) (h2 : f ds = some d) : callB f ms env tp = .ok d tp1 := by
  unfold callB; rw [h]; simp only [RE.bind_ok]; rw [h2]; rfl
theorem _root_.G.PicOk.get {h w : Nat} {p : Pic} (k : PicOk h w p) {i : Nat} (hi : i < h) : ∃ r, p[i]? = some r ∧ r.length = w ∧ p.getD i [] = r := by
  have : i < p.length := by rw [k.len]; exact hi
  exact ⟨p[i], List.getElem?_eq_getElem this, k.row _ (List.getElem_mem this), by rw [List.getD_eq_getElem?_getD, List.getElem?_eq_getElem this]; rfl⟩
end W
set_option maxHeartbeats 1000000
namespace W
open PySem L2 G
theorem taken_nat {tp : List D} {m : Nat} (h : Tape tp) (hm : 1 ≤ m) (hM : m ≤ 2 ^ 30) : ∃ (n : Nat) (tp' : List D), m_law_taken [.tape, .int (m : Int)] tp = .ok (.int (n : Int)) tp' ∧ Tape tp' ∧ n < m := by
  obtain ⟨v, tp', e, t, v0, v1⟩ := taken_ok (m := (m : Int)) h (by omega) (by omega)
  exact ⟨v.toNat, tp', by rw [e]; congr 2; omega, t, by omega⟩
theorem taken_e {tp : List D} {m : Nat} {ms : SE (List D)} {env : DEnv} {tp0 : List D} (h : Tape tp) (hm : 1 ≤ m) (hM : m ≤ 2 ^ 30) (e : ms env tp0 = .ok [.tape, .int (m : Int)] tp) : ∃ (n : Nat) (tp' : List D), callE 2 m_law_taken ms env tp0 = .ok (.int (n : Int)) tp' ∧ Tape tp' ∧ n < m := by
  obtain ⟨n, tp', e1, t, l⟩ := taken_nat h hm hM
  exact ⟨n, tp', callE_ok e rfl e1, t, l⟩
theorem rangeI_ok {f : List D → Option (List D)} {ms : SE (List D)} {env : DEnv} {tp tp1 : List D} {ds items : List D} (h : ms env tp = .ok ds tp1) (h2 : f ds = some items) : rangeI f ms env tp = .ok items tp1 := by
  unfold rangeI; rw [h]; simp only [RE.bind_ok]; rw [h2]; rfl
theorem appPop_z {i j : Nat} {m : SE D} {env : DEnv} {tp tp1 : List D} {ds es : List D} {z : Int} {y : D} (h1 : env[i]? = some (some (.lst ds))) (h2 : env[j]? = some (some (.lst es))) (h3 : m env tp = .ok (.int z) tp1) (hz : 0 ≤ z) (h4 : es[z.toNat]? = some y) (h5 : ds.length < 1000000) (h6 : es.length ≤ 1000000) :
    appPopS i j m env tp = .nx ((env.set j (some (.lst (es.eraseIdx z.toNat)))).set i (some (.lst (ds ++ [y])))) tp1 := by
  have hq : z.toNat < es.length := (List.getElem?_eq_some_iff.mp h4).1
  have c : (decide (-(2 ^ 63) ≤ z) && (decide (z < 2 ^ 63) && decide (ds.length < sizeLine))) = true := by
    have a1 : -(2 ^ 63) ≤ z := by omega
    have a2 : z < 2 ^ 63 := by omega
    have a3 : ds.length < sizeLine := small_line (n := ds.length + 1) h5
    rw [decide_eq_true a1, decide_eq_true a2, decide_eq_true a3]; rfl
  have cx : ixN es.length z = some z.toNat := by
    unfold ixN
    rw [if_pos hz, if_pos (by omega)]
  unfold appPopS
  rw [h1, h2]
  simp -implicitDefEqProofs only []
  rw [h3]
  simp -implicitDefEqProofs only [RE.bindS]
  rw [if_pos c, cx]
  simp -implicitDefEqProofs only []
  rw [h4]
theorem appPop_ok {i j : Nat} {m : SE D} {env : DEnv} {tp tp1 : List D} {ds es : List D} {q : Nat} {y : D} (h1 : env[i]? = some (some (.lst ds))) (h2 : env[j]? = some (some (.lst es))) (h3 : m env tp = .ok (.int (q : Int)) tp1) (h4 : es[q]? = some y) (h5 : ds.length < 1000000) (h6 : es.length ≤ 1000000) :
    appPopS i j m env tp = .nx ((env.set j (some (.lst (es.eraseIdx q)))).set i (some (.lst (ds ++ [y])))) tp1 := by
  have e : ((q : Int)).toNat = q := Int.toNat_natCast q
  have := appPop_z (z := (q : Int)) h1 h2 h3 (by omega) (by rw [e]; exact h4) h5 h6
  rw [e] at this
  exact this
theorem perm_erase {α : Type} : ∀ (es : List α) (q : Nat) (y : α), es[q]? = some y → (y :: es.eraseIdx q).Perm es
  | [], q, y, h => by simp at h
  | e :: es, 0, y, h => by simp at h; subst h; exact List.Perm.refl _
  | e :: es, q + 1, y, h => by
    have h' : es[q]? = some y := by simpa using h
    show (y :: e :: es.eraseIdx q).Perm (e :: es)
    exact (List.Perm.swap _ _ _).trans ((perm_erase es q y h').cons _)
theorem mixed_ok {tp : List D} {ds : List D} (ht : Tape tp) (hl : ds.length ≤ 10000) : ∃ (xs : List D) (tp' : List D), m_law_mixed [.tape, .lst ds] tp = .ok (.lst xs) tp' ∧ Tape tp' ∧ xs.Perm ds := by
  have e0 : parS [2, 3] (consA (callB listD (consA (vE 1) (nilA))) (consA (lstE (nilA)) (nilA))) [some .tape, some (.lst ds), none, none, none] tp = .nx [some .tape, some (.lst ds), some (.lst ds), some (.lst []), none] tp := by
    unfold parS
    rw [consA_ok (callB_ok (consA_ok rfl rfl) rfl) (consA_ok (lstE_ok (ds := []) rfl (by decide)) rfl)]
    rfl
  have ei : rangeI range1D (consA (callB lenD (consA (vE 2) (nilA))) (nilA)) [some .tape, some (.lst ds), some (.lst ds), some (.lst []), none] tp = .ok (rangeL 0 (ds.length : Int)) tp := by
    exact rangeI_ok (consA_ok (callB_ok (consA_ok rfl rfl) rfl) rfl) (range1_ok (by omega) (by omega))
  obtain ⟨env', tp2, e2, t2, left, found, x, hle, hp, rfl⟩ := forL_inv (i := 4) (tp := tp) (env := [some .tape, some (.lst ds), some (.lst ds), some (.lst []), none]) (items := rangeL 0 (ds.length : Int)) (body := appPopS 3 2 (callE 2 m_law_taken (consA (vE 0) (consA (callB lenD (consA (vE 2) (nilA))) (nilA)))))
    (fun n env tp' => Tape tp' ∧ ∃ (left found : List D) (x : Option D), left.length + n = ds.length ∧ (found ++ left).Perm ds ∧ env = [some .tape, some (.lst ds), some (.lst left), some (.lst found), x]) 0
    ⟨ht, ds, [], none, by omega, by rw [List.nil_append], rfl⟩ (fun i d env tp' hj hI => by
      obtain ⟨tt, left, found, x, hle, hp, rfl⟩ := hI
      obtain ⟨_, hi⟩ := rangeL_get hj
      obtain ⟨q, tp3, e3, t3, hq⟩ := taken_e (m := left.length) (ms := consA (vE 0) (consA (callB lenD (consA (vE 2) (nilA))) (nilA))) (env := [some .tape, some (.lst ds), some (.lst left), some (.lst found), some d]) (tp0 := tp') tt (by omega) (by omega) rfl
      have hf : found.length + left.length = ds.length := by rw [← hp.length_eq, List.length_append]
      refine ⟨_, tp3, appPop_ok (ds := found) (es := left) (y := left[q]) rfl rfl e3 (List.getElem?_eq_getElem hq) (by omega) (by omega), t3, left.eraseIdx q, found ++ [left[q]], some d, ?_, ?_, rfl⟩
      · rw [List.length_eraseIdx, if_pos hq]; omega
      · rw [List.append_assoc]
        exact ((perm_erase left q _ (List.getElem?_eq_getElem hq)).append_left found).trans hp)
  rw [rangeL_len, Nat.zero_add] at hle
  have : left = [] := List.eq_nil_of_length_eq_zero (by omega)
  subst this
  rw [List.append_nil] at hp
  refine ⟨found, tp2, ?_, t2, hp⟩
  show retR (b_law_mixed [some .tape, some (.lst ds), none, none, none] tp) = _
  unfold b_law_mixed
  rw [seqS_nx e0, seqS_nx ((forS_eq ei).trans e2)]
  rfl
end W
set_option maxHeartbeats 1000000
namespace W
open PySem L2 G
end W
set_option maxHeartbeats 1000000
namespace W
open PySem L2 G
end W
set_option maxHeartbeats 1000000
namespace W
open PySem L2 G
theorem pdAll_map : ∀ xs : List D, pdAll xs = xs.map D.pd
  | [] => rfl
  | x :: xs => by
    show x.pd :: pdAll xs = _
    rw [pdAll_map xs]; rfl
end W
set_option maxHeartbeats 1000000
namespace W
open PySem L2 G
end W
set_option maxHeartbeats 1000000
namespace W
open PySem L2 G
end W
set_option maxHeartbeats 1000000
namespace W
open PySem L2 G T
/-- a picture by itself -/
structure PicP (p : Pic) : Prop where
  row : ∀ r ∈ p, r.length = p[0]!.length
  h1 : 1 ≤ p.length
  h30 : p.length ≤ 30
  w1 : 1 ≤ p[0]!.length
  w30 : p[0]!.length ≤ 30
theorem PicP.ok {p : Pic} (k : PicP p) : PicOk p.length p[0]!.length p := ⟨rfl, k.row, k.h1, k.h30, k.w1, k.w30⟩
abbrev P_law_taken (many : Nat) : Prop := 1 ≤ many ∧ many ≤ 1073741824
abbrev D_law_taken (many r : Nat) : Prop := r < many
theorem t_law_taken {many : Nat} {tp : List D} (ht : Tape tp) (hP : P_law_taken many) : ∃ (r : Nat) (tp' : List D), m_law_taken [.tape, eN many] tp = .ok (eN r) tp' ∧ Tape tp' ∧ D_law_taken many r :=
  taken_nat ht hP.1 hP.2
theorem t_law_pickL {α : Type} {e : α → D} {xs : List α} {tp : List D} (ht : Tape tp) (hP : xs ≠ [] ∧ xs.length ≤ 1073741824) : ∃ (r : α) (tp' : List D), m_law_pick [.tape, eL e xs] tp = .ok (e r) tp' ∧ Tape tp' ∧ r ∈ xs := by
  obtain ⟨v, tp', e1, t, hv⟩ := pick_ok (ds := xs.map e) ht (by simpa using hP.1) (by rw [List.length_map]; exact hP.2)
  obtain ⟨a, ha, rfl⟩ := List.mem_map.mp hv
  exact ⟨a, tp', e1, t, ha⟩
theorem perm_map {α : Type} {e : α → D} : ∀ {xs ys : List D}, xs.Perm ys → ∀ ls : List α, ys = ls.map e → ∃ ks : List α, xs = ks.map e ∧ ks.Perm ls := by
  intro xs ys h
  induction h with
  | nil => intro ls h; cases ls with
    | nil => exact ⟨[], rfl, .refl _⟩
    | cons a as => cases h
  | cons x h ih => intro ls h; cases ls with
    | nil => cases h
    | cons a as =>
      rw [List.map_cons] at h
      cases h
      obtain ⟨ks, rfl, p⟩ := ih as rfl
      exact ⟨a :: ks, rfl, p.cons a⟩
  | swap x y l => intro ls h; match ls, h with
    | [], h => cases h
    | [a], h => cases h
    | a :: b :: as, h =>
      rw [List.map_cons, List.map_cons] at h
      cases h
      exact ⟨b :: a :: as, rfl, .swap _ _ _⟩
  | trans h1 h2 ih1 ih2 =>
    intro ls h
    obtain ⟨ks, rfl, p⟩ := ih2 ls h
    obtain ⟨js, rfl, q⟩ := ih1 ks rfl
    exact ⟨js, rfl, q.trans p⟩
theorem t_law_mixedL {α : Type} {e : α → D} {xs : List α} {tp : List D} (ht : Tape tp) (hP : xs.length ≤ 10000) : ∃ (r : List α) (tp' : List D), m_law_mixed [.tape, eL e xs] tp = .ok (eL e r) tp' ∧ Tape tp' ∧ r.Perm xs := by
  obtain ⟨zs, tp', e1, t, hp⟩ := mixed_ok (ds := xs.map e) ht (by rw [List.length_map]; exact hP)
  obtain ⟨ks, rfl, q⟩ := perm_map hp xs rfl
  exact ⟨ks, tp', e1, t, q⟩
end W
set_option maxHeartbeats 1000000
namespace W
open PySem L2 G T
theorem take_snoc {α : Type} {xs : List α} {k : Nat} {x : α} (h : xs[k]? = some x) : xs.take (k + 1) = xs.take k ++ [x] := by
  rw [List.take_succ, h]; rfl
theorem range_get {n k x : Nat} (h : (List.range n)[k]? = some x) : x = k ∧ k < n := by
  obtain ⟨h1, h2⟩ := List.getElem?_eq_some_iff.mp h
  rw [List.getElem_range] at h2
  rw [List.length_range] at h1
  exact ⟨h2.symm, h1⟩
theorem enumP_eq {α : Type} [Inhabited α] (xs : List α) : enumP xs = (List.range xs.length).map fun i => (i, xs[i]!) := by
  unfold enumP
  refine List.ext_getElem (by simp) fun i h1 h2 => ?_
  rw [List.getElem_mapIdx, List.getElem_map, List.getElem_range, getElem!_pos xs i (by simpa using h1)]
theorem mem_enumP {α : Type} [Inhabited α] {xs : List α} {x : Nat × α} (h : x ∈ enumP xs) : x.1 < xs.length ∧ x.2 = xs[x.1]! := by
  rw [enumP_eq] at h
  obtain ⟨i, hi, rfl⟩ := List.mem_map.mp h
  exact ⟨List.mem_range.mp hi, rfl⟩
theorem mem_get! {α : Type} [Inhabited α] {xs : List α} {i : Nat} (h : i < xs.length) : xs[i]! ∈ xs := by
  rw [getElem!_pos xs i h]; exact List.getElem_mem h
theorem len_filter_le {α : Type} (f : α → Bool) (xs : List α) : (xs.filter f).length ≤ xs.length := List.length_filter_le f xs
theorem get!_map' {α β : Type} [Inhabited α] [Inhabited β] (f : α → β) {xs : List α} {i : Nat} (h : i < xs.length) : (xs.map f)[i]! = f xs[i]! := by
  rw [getElem!_pos (xs.map f) i (by simpa using h), List.getElem_map, getElem!_pos xs i h]
theorem get!_range {n i : Nat} (h : i < n) : (List.range n)[i]! = i := by
  rw [getElem!_pos (List.range n) i (by simpa using h), List.getElem_range]
theorem get!_cons_succ {α : Type} [Inhabited α] (x : α) (xs : List α) (i : Nat) : (x :: xs)[i + 1]! = xs[i]! := rfl
theorem get!_append_left {α : Type} [Inhabited α] {xs ys : List α} {i : Nat} (h : i < xs.length) : (xs ++ ys)[i]! = xs[i]! := by
  rw [getElem!_pos _ i (by rw [List.length_append]; omega), getElem!_pos xs i h, List.getElem_append_left h]
theorem get!_append_right {α : Type} [Inhabited α] {xs ys : List α} {i : Nat} (h : xs.length ≤ i) (h2 : i < xs.length + ys.length) : (xs ++ ys)[i]! = ys[i - xs.length]! := by
  rw [getElem!_pos _ i (by rw [List.length_append]; omega), getElem!_pos ys _ (by omega), List.getElem_append_right h]
theorem ext_get! {α : Type} [Inhabited α] {xs ys : List α} (hl : xs.length = ys.length) (h : ∀ i, i < xs.length → xs[i]! = ys[i]!) : xs = ys := by
  refine List.ext_getElem hl fun i h1 h2 => ?_
  have := h i h1
  rwa [getElem!_pos xs i h1, getElem!_pos ys i h2] at this
section
variable {p q : Pic}
theorem PicP.get (k : PicP p) {i : Nat} (h : i < p.length) : (p[i]!).length = p[0]!.length := k.row _ (mem_get! h)
theorem PicP.pos (k : PicP p) : 0 < p.length := k.h1
/-- two pictures of the same sides are the same if all cells are -/
theorem pic_ext (k : PicP p) (l : PicP q) (h : p.length = q.length) (w : p[0]!.length = q[0]!.length) (e : ∀ i j, i < p.length → j < p[0]!.length → (p[i]!)[j]! = (q[i]!)[j]!) : p = q := by
  refine ext_get! h fun i hi => ?_
  have a := k.get hi
  have b := l.get (i := i) (by omega)
  exact ext_get! (by omega) fun j hj => e i j hi (by omega)
/-- a picture told by its cells -/
def mkP (h w : Nat) (f : Nat → Nat → Bool) : Pic := (List.range h).map fun i => (List.range w).map fun j => f i j
theorem mkP_len (h w : Nat) (f : Nat → Nat → Bool) : (mkP h w f).length = h := by simp [mkP]
theorem mkP_row {h w : Nat} {f : Nat → Nat → Bool} {i : Nat} (hi : i < h) : (mkP h w f)[i]! = (List.range w).map fun j => f i j := by
  unfold mkP
  rw [get!_map' _ (by simpa using hi), get!_range hi]
theorem mkP_get {h w : Nat} {f : Nat → Nat → Bool} {i j : Nat} (hi : i < h) (hj : j < w) : ((mkP h w f)[i]!)[j]! = f i j := by
  rw [mkP_row hi, get!_map' _ (by simpa using hj), get!_range hj]
theorem mkP_wid {h w : Nat} {f : Nat → Nat → Bool} {i : Nat} (hi : i < h) : ((mkP h w f)[i]!).length = w := by rw [mkP_row hi]; simp
theorem mkP_pp {h w : Nat} {f : Nat → Nat → Bool} (h1 : 1 ≤ h) (h30 : h ≤ 30) (w1 : 1 ≤ w) (w30 : w ≤ 30) : PicP (mkP h w f) := by
  have e := mkP_wid (f := f) (w := w) (show 0 < h by omega)
  refine ⟨fun r hr => ?_, by rw [mkP_len]; exact h1, by rw [mkP_len]; exact h30, by rw [e]; exact w1, by rw [e]; exact w30⟩
  rw [e]
  obtain ⟨i, hi, rfl⟩ := List.mem_map.mp hr
  simp
end
end W
set_option maxHeartbeats 1000000
namespace W
open PySem L2 G T
/-- the rows that are full among the columns left, and the columns that are empty -/
def fullQ (p : Pic) (rs cs : List Nat) : List Nat := rs.filter fun i => decide (∀ j ∈ cs, (p[i]!)[j]! = true)
def empQ (p : Pic) (rs cs : List Nat) : List Nat := cs.filter fun j => decide (∀ i ∈ rs, (p[i]!)[j]! = false)
/-- what a turn does: layers found, rows left, columns left -/
def lstep (p : Pic) (s : List (List Nat) × List Nat × List Nat) : List (List Nat) × List Nat × List Nat :=
  if fullQ p s.2.1 s.2.2 ≠ [] then (s.1 ++ [fullQ p s.2.1 s.2.2], s.2.1.filter fun i => decide (i ∉ fullQ p s.2.1 s.2.2), s.2.2)
  else if empQ p s.2.1 s.2.2 ≠ [] then (s.1 ++ [(empQ p s.2.1 s.2.2).map fun j => p.length + j], s.2.1, s.2.2.filter fun j => decide (j ∉ empQ p s.2.1 s.2.2))
  else s
def liter (p : Pic) : Nat → List (List Nat) × List Nat × List Nat
  | 0 => ([], List.range p.length, List.range p[0]!.length)
  | n + 1 => lstep p (liter p n)
def layersQ (p : Pic) : List (List Nat) := (liter p (p.length + p[0]!.length)).1
def coreQ (p : Pic) : List Nat := (List.range (p.length + p[0]!.length)).filter fun l => decide (l ∉ (layersQ p).flatten)
theorem liter_sub (p : Pic) : ∀ n, (liter p n).2.1.Sublist (List.range p.length) ∧ (liter p n).2.2.Sublist (List.range p[0]!.length) ∧ (liter p n).1.length ≤ n
  | 0 => ⟨.refl _, .refl _, Nat.le_refl _⟩
  | n + 1 => by
    obtain ⟨a, b, c⟩ := liter_sub p n
    unfold liter lstep
    split
    · exact ⟨(List.filter_sublist).trans a, b, by simp; omega⟩
    · split
      · exact ⟨a, (List.filter_sublist).trans b, by simp; omega⟩
      · exact ⟨a, b, by omega⟩
theorem sub_len {α : Type} {n : Nat} : ∀ {xs : List (List α)}, (∀ x ∈ xs, x.length ≤ n) → xs.flatten.length ≤ xs.length * n
  | [], _ => by simp
  | x :: xs, h => by
    rw [List.flatten_cons, List.length_append, List.length_cons, Nat.add_mul]
    have := h x List.mem_cons_self
    have := sub_len fun y hy => h y (List.mem_cons_of_mem _ hy)
    omega
theorem liter_row {p : Pic} {n i : Nat} (h : i ∈ (liter p n).2.1) : i < p.length := List.mem_range.mp ((liter_sub p n).1.subset h)
theorem liter_col {p : Pic} {n j : Nat} (h : j ∈ (liter p n).2.2) : j < p[0]!.length := List.mem_range.mp ((liter_sub p n).2.1.subset h)
/-- what a layer is -/
theorem liter_layer {p : Pic} : ∀ n, ∀ x ∈ (liter p n).1, x ≠ [] ∧ x.Pairwise (· < ·) ∧ ((∀ l ∈ x, l < p.length) ∨ ∀ l ∈ x, p.length ≤ l ∧ l < p.length + p[0]!.length)
  | 0, x, hx => by cases hx
  | n + 1, x, hx => by
    obtain ⟨s1, s2, s3⟩ := liter_sub p n
    unfold liter lstep at hx
    split at hx
    · rename_i ne
      rcases List.mem_append.mp hx with hx | hx
      · exact liter_layer n x hx
      · have := List.mem_singleton.mp hx
        subst this
        exact ⟨ne, (List.pairwise_lt_range.sublist s1).sublist List.filter_sublist, .inl fun l hl => liter_row (List.mem_filter.mp hl).1⟩
    · split at hx
      · rename_i ne
        rcases List.mem_append.mp hx with hx | hx
        · exact liter_layer n x hx
        · have := List.mem_singleton.mp hx
          subst this
          refine ⟨fun e => ne (List.map_eq_nil_iff.mp e), List.pairwise_map.mpr (((List.pairwise_lt_range.sublist s2).sublist List.filter_sublist).imp fun h => by omega), .inr fun l hl => ?_⟩
          obtain ⟨j, hj, rfl⟩ := List.mem_map.mp hl
          have := liter_col (List.mem_filter.mp hj).1
          omega
      · exact liter_layer n x hx
theorem liter_len {p : Pic} (k : PicP p) (n : Nat) : ∀ x ∈ (liter p n).1, x.length ≤ 30 := by
  induction n with
  | zero => intro x hx; cases hx
  | succ n ih =>
    intro x hx
    obtain ⟨s1, s2, s3⟩ := liter_sub p n
    have l1 := s1.length_le
    have l2 := s2.length_le
    rw [List.length_range] at l1 l2
    have := k.h30; have := k.w30
    unfold liter lstep at hx
    split at hx
    · rcases List.mem_append.mp hx with hx | hx
      · exact ih x hx
      · have := List.mem_singleton.mp hx
        subst this
        have : (fullQ p (liter p n).2.1 (liter p n).2.2).length ≤ (liter p n).2.1.length := len_filter_le _ _
        omega
    · split at hx
      · rcases List.mem_append.mp hx with hx | hx
        · exact ih x hx
        · have := List.mem_singleton.mp hx
          subst this
          rw [List.length_map]
          have : (empQ p (liter p n).2.1 (liter p n).2.2).length ≤ (liter p n).2.2.length := len_filter_le _ _
          omega
      · exact ih x hx
theorem layersQ_len {p : Pic} (k : PicP p) : (layersQ p).length ≤ 60 ∧ ∀ x ∈ layersQ p, x.length ≤ 30 := by
  have := k.h30; have := k.w30
  exact ⟨Nat.le_trans (liter_sub p _).2.2 (by omega), liter_len k _⟩
theorem layersQ_flat {p : Pic} (k : PicP p) : (layersQ p).flatten.length ≤ 1800 := by
  obtain ⟨a, b⟩ := layersQ_len k
  exact Nat.le_trans (sub_len b) (Nat.le_trans (Nat.mul_le_mul_right 30 a) (by omega))
theorem layersQ_layer {p : Pic} : ∀ x ∈ layersQ p, x ≠ [] ∧ x.Pairwise (· < ·) ∧ ((∀ l ∈ x, l < p.length) ∨ ∀ l ∈ x, p.length ≤ l ∧ l < p.length + p[0]!.length) := liter_layer _
theorem coreQ_lt {p : Pic} {l : Nat} (h : l ∈ coreQ p) : l < p.length + p[0]!.length := List.mem_range.mp (List.mem_filter.mp h).1
def leadsQ (p : Pic) (l : Nat) : List Nat := if l < p.length then ((List.range p[0]!.length).filter fun j => decide ((p[l]!)[j]! = false)).map fun j => p.length + j else (List.range p.length).filter fun i => decide ((p[i]!)[l - p.length]! = true)
/-- the lines left -/
def lv (p : Pic) (s : List (List Nat) × List Nat × List Nat) : List Nat := s.2.1 ++ s.2.2.map fun j => p.length + j
/-- the lines left without arrows to lines left -/
def freeQ (p : Pic) (s : List (List Nat) × List Nat × List Nat) : List Nat := (lv p s).filter fun l => decide (¬∃ o ∈ leadsQ p l, o ∈ lv p s)
theorem mem_lv {p : Pic} {s : List (List Nat) × List Nat × List Nat} (hr : ∀ i ∈ s.2.1, i < p.length) (l : Nat) : l ∈ lv p s ↔ (l < p.length ∧ l ∈ s.2.1) ∨ (p.length ≤ l ∧ l - p.length ∈ s.2.2) := by
  unfold lv
  rw [List.mem_append, List.mem_map]
  constructor
  · rintro (h | ⟨j, hj, rfl⟩)
    · exact .inl ⟨hr l h, h⟩
    · exact .inr ⟨by omega, by rw [Nat.add_sub_cancel_left]; exact hj⟩
  · rintro (⟨_, h⟩ | ⟨h1, h2⟩)
    · exact .inl h
    · exact .inr ⟨_, h2, by omega⟩
theorem freeQ_eq {p : Pic} {s : List (List Nat) × List Nat × List Nat} (hr : ∀ i ∈ s.2.1, i < p.length) (hc : ∀ j ∈ s.2.2, j < p[0]!.length) : freeQ p s = fullQ p s.2.1 s.2.2 ++ (empQ p s.2.1 s.2.2).map fun j => p.length + j := by
  unfold freeQ
  have e : lv p s = s.2.1 ++ s.2.2.map fun j => p.length + j := rfl
  conv => lhs; arg 2; rw [e]
  rw [List.filter_append]
  congr 1
  · unfold fullQ
    refine List.filter_congr fun i hi => decide_eq_decide.mpr ?_
    have hi' := hr i hi
    unfold leadsQ
    rw [if_pos hi']
    constructor
    · intro h j hj
      cases q : (p[i]!)[j]! with
      | true => rfl
      | false => exact (h ⟨p.length + j, List.mem_map.mpr ⟨j, List.mem_filter.mpr ⟨List.mem_range.mpr (hc j hj), decide_eq_true q⟩, rfl⟩, (mem_lv hr _).mpr (.inr ⟨by omega, by rw [Nat.add_sub_cancel_left]; exact hj⟩)⟩).elim
    · rintro h ⟨o, ho, hl⟩
      obtain ⟨j, hj, rfl⟩ := List.mem_map.mp ho
      have q := of_decide_eq_true (List.mem_filter.mp hj).2
      rcases (mem_lv hr _).mp hl with ⟨a, _⟩ | ⟨_, b⟩
      · omega
      · rw [Nat.add_sub_cancel_left] at b
        rw [h j b] at q; cases q
  · rw [List.filter_map]
    congr 1
    unfold empQ
    refine List.filter_congr fun j hj => decide_eq_decide.mpr ?_
    show (¬∃ o ∈ leadsQ p (p.length + j), o ∈ lv p s) ↔ _
    unfold leadsQ
    rw [if_neg (by omega), Nat.add_sub_cancel_left]
    constructor
    · intro h i hi
      cases q : (p[i]!)[j]! with
      | false => rfl
      | true => exact (h ⟨i, List.mem_filter.mpr ⟨List.mem_range.mpr (hr i hi), decide_eq_true q⟩, (mem_lv hr _).mpr (.inl ⟨hr i hi, hi⟩)⟩).elim
    · rintro h ⟨o, ho, hl⟩
      obtain ⟨a, b⟩ := List.mem_filter.mp ho
      have q := of_decide_eq_true b
      have a := List.mem_range.mp a
      rcases (mem_lv hr _).mp hl with ⟨_, y⟩ | ⟨y, _⟩
      · rw [h o y] at q; cases q
      · omega
/-- a full row and an empty column are not both there -/
theorem full_emp {p : Pic} {rs cs : List Nat} (h : fullQ p rs cs ≠ []) : empQ p rs cs = [] := by
  obtain ⟨i, hi⟩ := List.exists_mem_of_ne_nil _ h
  obtain ⟨i1, i2⟩ := List.mem_filter.mp hi
  have i2 := of_decide_eq_true i2
  refine List.filter_eq_nil_iff.mpr fun j hj q => ?_
  have q := of_decide_eq_true q i i1
  rw [i2 j hj] at q; cases q
/-- the turn by the free lines -/
theorem lstep_free {p : Pic} {s : List (List Nat) × List Nat × List Nat} (hr : ∀ i ∈ s.2.1, i < p.length) (hc : ∀ j ∈ s.2.2, j < p[0]!.length) (h : freeQ p s ≠ []) :
    (lstep p s).1 = s.1 ++ [freeQ p s] ∧ lv p (lstep p s) = (lv p s).filter fun l => decide (l ∉ freeQ p s) := by
  have e := freeQ_eq hr hc
  by_cases q : fullQ p s.2.1 s.2.2 ≠ []
  · have z := full_emp q
    rw [z, List.map_nil, List.append_nil] at e
    rw [e]
    unfold lstep
    rw [if_pos q]
    refine ⟨rfl, ?_⟩
    unfold lv
    rw [List.filter_append]
    congr 1
    refine (List.filter_eq_self.mpr fun l hl => ?_).symm
    obtain ⟨j, hj, rfl⟩ := List.mem_map.mp hl
    refine decide_eq_true fun y => ?_
    have := hr _ (List.mem_filter.mp y).1
    omega
  · have z : fullQ p s.2.1 s.2.2 = [] := Classical.not_not.mp q
    rw [z, List.nil_append] at e
    have q2 : empQ p s.2.1 s.2.2 ≠ [] := fun y => h (by rw [e, y]; rfl)
    rw [e]
    unfold lstep
    rw [if_neg q, if_pos q2]
    refine ⟨rfl, ?_⟩
    unfold lv
    rw [List.filter_append]
    have a : s.2.1.filter (fun l => decide (l ∉ (empQ p s.2.1 s.2.2).map fun j => p.length + j)) = s.2.1 := List.filter_eq_self.mpr fun l hl => by
      refine decide_eq_true fun y => ?_
      obtain ⟨j, _, rfl⟩ := List.mem_map.mp y
      have := hr _ hl
      omega
    rw [a]
    congr 1
    rw [List.filter_map]
    congr 1
    refine List.filter_congr fun j hj => decide_eq_decide.mpr ?_
    constructor
    · intro y y2
      obtain ⟨j', h1, h2⟩ := List.mem_map.mp y2
      have h2 : p.length + j' = p.length + j := h2
      have : j' = j := by omega
      exact y (this ▸ h1)
    · intro y y2
      exact y (List.mem_map.mpr ⟨j, y2, rfl⟩)
theorem lstep_stop {p : Pic} {s : List (List Nat) × List Nat × List Nat} (hr : ∀ i ∈ s.2.1, i < p.length) (hc : ∀ j ∈ s.2.2, j < p[0]!.length) (h : freeQ p s = []) : lstep p s = s := by
  have e := freeQ_eq hr hc
  rw [h] at e
  have e := (List.append_eq_nil_iff.mp e.symm)
  have e2 := List.map_eq_nil_iff.mp e.2
  unfold lstep
  rw [if_neg (by simp [e.1]), if_neg (by simp [e2])]
theorem liter_stop {p : Pic} {n : Nat} (h : freeQ p (liter p n) = []) : ∀ m, liter p (n + m) = liter p n
  | 0 => rfl
  | m + 1 => by
    show lstep p (liter p (n + m)) = _
    rw [liter_stop h m]
    exact lstep_stop (fun i hi => liter_row hi) (fun j hj => liter_col hj) h
end W
set_option maxHeartbeats 1000000
namespace W
open PySem L2 G T
section
variable {q : Pic}
theorem lv_lt {n l : Nat} (h : l ∈ lv q (liter q n)) : l < q.length + q[0]!.length := by
  rcases (mem_lv (fun i hi => liter_row hi) l).mp h with ⟨a, _⟩ | ⟨_, b⟩
  · omega
  · have := liter_col b; omega
/-- what a turn adds -/
theorem liter_succ (n : Nat) : (freeQ q (liter q n) = [] ∧ liter q (n + 1) = liter q n) ∨ (freeQ q (liter q n) ≠ [] ∧ (liter q (n + 1)).1 = (liter q n).1 ++ [freeQ q (liter q n)] ∧ lv q (liter q (n + 1)) = (lv q (liter q n)).filter fun l => decide (l ∉ freeQ q (liter q n))) := by
  have hr : ∀ i ∈ (liter q n).2.1, i < q.length := fun i hi => liter_row hi
  have hc : ∀ j ∈ (liter q n).2.2, j < q[0]!.length := fun j hj => liter_col hj
  by_cases h : freeQ q (liter q n) = []
  · exact .inl ⟨h, lstep_stop hr hc h⟩
  · obtain ⟨a, b⟩ := lstep_free hr hc h
    exact .inr ⟨h, a, b⟩
/-- a line is left, or it is in a layer -/
theorem lv_flat : ∀ (n : Nat) (l : Nat), l < q.length + q[0]!.length → (l ∈ lv q (liter q n) ↔ l ∉ (liter q n).1.flatten)
  | 0, l, hl => by
    refine ⟨fun _ h => (by cases h), fun _ => ?_⟩
    refine (mem_lv (fun i hi => liter_row (n := 0) hi) l).mpr ?_
    by_cases h : l < q.length
    · exact .inl ⟨h, List.mem_range.mpr h⟩
    · exact .inr ⟨by omega, List.mem_range.mpr (by omega)⟩
  | n + 1, l, hl => by
    have ih := lv_flat n l hl
    rcases liter_succ (q := q) n with ⟨_, e⟩ | ⟨_, e1, e2⟩
    · rw [e]; exact ih
    · rw [e1, e2, List.mem_filter, decide_eq_true_iff, ih, List.flatten_append, List.mem_append]
      simp
theorem nodup_flat : ∀ n : Nat, (liter q n).1.flatten.Nodup ∧ (lv q (liter q n)).Nodup
  | 0 => by
    refine ⟨.nil, ?_⟩
    show (List.range q.length ++ (List.range q[0]!.length).map fun j => q.length + j).Nodup
    rw [← List.range_add]
    exact List.nodup_range
  | n + 1 => by
    obtain ⟨a, b⟩ := nodup_flat n
    rcases liter_succ (q := q) n with ⟨_, e⟩ | ⟨_, e1, e2⟩
    · rw [e]; exact ⟨a, b⟩
    · rw [e1, e2]
      refine ⟨?_, b.sublist List.filter_sublist⟩
      rw [List.flatten_append]
      refine List.nodup_append.mpr ⟨a, ?_, fun x hx y hy e => ?_⟩
      · simp only [List.flatten_cons, List.flatten_nil, List.append_nil]
        exact b.sublist List.filter_sublist
      · simp only [List.flatten_cons, List.flatten_nil, List.append_nil] at hy
        subst e
        have hy := (List.mem_filter.mp hy).1
        exact (lv_flat n x (lv_lt hy)).mp hy hx
theorem free_end : freeQ q (liter q (q.length + q[0]!.length)) = [] := by
  refine Classical.byContradiction fun h => ?_
  have all : ∀ n, n ≤ q.length + q[0]!.length → freeQ q (liter q n) ≠ [] := fun n hn e => by
    obtain ⟨m, hm⟩ : ∃ m, q.length + q[0]!.length = n + m := ⟨_, (Nat.add_sub_cancel' hn).symm⟩
    rw [hm, liter_stop e m] at h
    exact h e
  have len : ∀ n, n ≤ q.length + q[0]!.length → (lv q (liter q n)).length + n ≤ q.length + q[0]!.length := by
    intro n
    induction n with
    | zero =>
      intro _
      show (List.range q.length ++ (List.range q[0]!.length).map fun j => q.length + j).length + 0 ≤ _
      rw [← List.range_add, List.length_range]; exact Nat.le_refl _
    | succ n ih =>
      intro hn
      have ih := ih (by omega)
      have ne := all n (by omega)
      rcases liter_succ (q := q) n with ⟨e, _⟩ | ⟨_, _, e2⟩
      · exact (ne e).elim
      · rw [e2]
        obtain ⟨z, hz⟩ := List.exists_mem_of_ne_nil _ ne
        have hz2 : z ∈ lv q (liter q n) := (List.mem_filter.mp hz).1
        have : ((lv q (liter q n)).filter fun l => decide (l ∉ freeQ q (liter q n))).length < (lv q (liter q n)).length := by
          refine Nat.lt_of_le_of_ne (len_filter_le _ _) fun e => ?_
          have := List.length_filter_eq_length_iff.mp e z hz2
          exact of_decide_eq_true this hz
        omega
  have z := len _ (Nat.le_refl _)
  have : lv q (liter q (q.length + q[0]!.length)) = [] := List.eq_nil_of_length_eq_zero (by omega)
  unfold freeQ at h
  rw [this] at h
  exact h rfl
theorem core_lv (l : Nat) : l ∈ coreQ q ↔ l ∈ lv q (liter q (q.length + q[0]!.length)) := by
  unfold coreQ
  rw [List.mem_filter, List.mem_range, decide_eq_true_iff]
  constructor
  · rintro ⟨a, b⟩; exact (lv_flat _ l a).mpr b
  · intro h; exact ⟨lv_lt h, (lv_flat _ l (lv_lt h)).mp h⟩
/-- a line of the core leads to one -/
theorem core_leads {l : Nat} (h : l ∈ coreQ q) : ∃ o ∈ leadsQ q l, o ∈ coreQ q := by
  refine Classical.byContradiction fun z => ?_
  have hl := (core_lv l).mp h
  have : l ∈ freeQ q (liter q (q.length + q[0]!.length)) := by
    refine List.mem_filter.mpr ⟨hl, decide_eq_true ?_⟩
    rintro ⟨o, ho, h2⟩
    exact z ⟨o, ho, (core_lv o).mpr h2⟩
  rw [free_end] at this
  cases this
theorem layer_or_core {l : Nat} (h : l < q.length + q[0]!.length) : l ∈ coreQ q ∨ l ∈ (layersQ q).flatten := by
  by_cases z : l ∈ (layersQ q).flatten
  · exact .inr z
  · exact .inl ((core_lv l).mpr ((lv_flat _ l h).mpr z))
theorem mem_flat {l : Nat} {L : List (List Nat)} (h : l ∈ L.flatten) : ∃ k, k < L.length ∧ l ∈ L[k]! := by
  obtain ⟨s, h1, h2⟩ := List.mem_flatten.mp h
  obtain ⟨k, hk, e⟩ := List.getElem_of_mem h1
  exact ⟨k, hk, by rw [getElem!_pos L k hk, e]; exact h2⟩
theorem flat_mem {l k : Nat} {L : List (List Nat)} (hk : k < L.length) (h : l ∈ L[k]!) : l ∈ L.flatten := List.mem_flatten.mpr ⟨L[k]!, mem_get! hk, h⟩
/-- the colour of a line against one of the other kind that is in no layer up to its own -/
theorem liter_color : ∀ (n k : Nat), k < (liter q n).1.length →
    (∀ i ∈ (liter q n).1[k]!, i < q.length → ∀ j, j < q[0]!.length → (∀ m ≤ k, q.length + j ∉ (liter q n).1[m]!) → (q[i]!)[j]! = true) ∧
    (∀ j, q.length + j ∈ (liter q n).1[k]! → ∀ i, i < q.length → (∀ m ≤ k, i ∉ (liter q n).1[m]!) → (q[i]!)[j]! = false)
  | 0, k, hk => by cases hk
  | n + 1, k, hk => by
    rcases liter_succ (q := q) n with ⟨_, e⟩ | ⟨ne, e1, e2⟩
    · rw [e] at hk ⊢; exact liter_color n k hk
    · rw [e1] at hk ⊢
      rw [List.length_append, List.length_singleton] at hk
      by_cases hlt : k < (liter q n).1.length
      · obtain ⟨a, b⟩ := liter_color n k hlt
        have eq : ∀ m ≤ k, ((liter q n).1 ++ [freeQ q (liter q n)])[m]! = (liter q n).1[m]! := fun m hm => get!_append_left (by omega)
        rw [eq k (Nat.le_refl _)]
        exact ⟨fun i hi h1 j h2 hm => a i hi h1 j h2 fun m h => by rw [← eq m h]; exact hm m h, fun j hj i h1 hm => b j hj i h1 fun m h => by rw [← eq m h]; exact hm m h⟩
      · have ek : k = (liter q n).1.length := by omega
        have hr : ∀ i ∈ (liter q n).2.1, i < q.length := fun i hi => liter_row hi
        have hc : ∀ j ∈ (liter q n).2.2, j < q[0]!.length := fun j hj => liter_col hj
        have gk : ((liter q n).1 ++ [freeQ q (liter q n)])[k]! = freeQ q (liter q n) := by
          rw [get!_append_right (by omega) (by rw [List.length_singleton]; omega), ek, Nat.sub_self]; rfl
        rw [gk]
        -- a line in no list so far is left
        have left : ∀ o, o < q.length + q[0]!.length → (∀ m ≤ k, o ∉ ((liter q n).1 ++ [freeQ q (liter q n)])[m]!) → o ∈ lv q (liter q n) := fun o ho hm => by
          refine (lv_flat n o ho).mpr fun z => ?_
          obtain ⟨m, h1, h2⟩ := mem_flat z
          refine hm m (by omega) ?_
          rw [get!_append_left h1]; exact h2
        rw [freeQ_eq hr hc] at gk ⊢
        refine ⟨fun i hi h1 j h2 hm => ?_, fun j hj i h1 hm => ?_⟩
        · have hl := left (q.length + j) (by omega) (by rw [freeQ_eq hr hc]; exact hm)
          have hj : j ∈ (liter q n).2.2 := by
            rcases (mem_lv hr _).mp hl with ⟨y, _⟩ | ⟨_, y⟩
            · omega
            · rwa [Nat.add_sub_cancel_left] at y
          rcases List.mem_append.mp hi with hi | hi
          · exact of_decide_eq_true (List.mem_filter.mp hi).2 j hj
          · obtain ⟨j', _, rfl⟩ := List.mem_map.mp hi
            omega
        · have hl := left i (by omega) (by rw [freeQ_eq hr hc]; exact hm)
          have hi : i ∈ (liter q n).2.1 := by
            rcases (mem_lv hr _).mp hl with ⟨_, y⟩ | ⟨y, _⟩
            · exact y
            · omega
          rcases List.mem_append.mp hj with hj | hj
          · have := hr _ (List.mem_filter.mp hj).1
            omega
          · obtain ⟨j', h3, h4⟩ := List.mem_map.mp hj
            have h4 : q.length + j' = q.length + j := h4
            have : j' = j := by omega
            subst this
            exact of_decide_eq_true (List.mem_filter.mp h3).2 i hi
/-- layers go by turns: the lists of a kind that was told last are used up -/
theorem liter_turn : ∀ n : Nat, ((liter q n).1 ≠ [] → ((∀ l ∈ (liter q n).1[(liter q n).1.length - 1]!, l < q.length) → fullQ q (liter q n).2.1 (liter q n).2.2 = []) ∧ ((∀ l ∈ (liter q n).1[(liter q n).1.length - 1]!, q.length ≤ l) → empQ q (liter q n).2.1 (liter q n).2.2 = [])) ∧
    ∀ k, k + 1 < (liter q n).1.length → ((∀ l ∈ (liter q n).1[k]!, l < q.length) ∧ ∀ l ∈ (liter q n).1[k + 1]!, q.length ≤ l) ∨ ((∀ l ∈ (liter q n).1[k]!, q.length ≤ l) ∧ ∀ l ∈ (liter q n).1[k + 1]!, l < q.length)
  | 0 => ⟨fun h => (h rfl).elim, fun k hk => by simp [liter] at hk⟩
  | n + 1 => by
    obtain ⟨a, b⟩ := liter_turn n
    have hr : ∀ i ∈ (liter q n).2.1, i < q.length := fun i hi => liter_row hi
    by_cases f : fullQ q (liter q n).2.1 (liter q n).2.2 ≠ []
    · have e : liter q (n + 1) = ((liter q n).1 ++ [fullQ q (liter q n).2.1 (liter q n).2.2], (liter q n).2.1.filter fun i => decide (i ∉ fullQ q (liter q n).2.1 (liter q n).2.2), (liter q n).2.2) := by
        show lstep q (liter q n) = _
        unfold lstep; rw [if_pos f]
      rw [e]
      have g : ((liter q n).1 ++ [fullQ q (liter q n).2.1 (liter q n).2.2])[(liter q n).1.length]! = fullQ q (liter q n).2.1 (liter q n).2.2 := by
        rw [get!_append_right (Nat.le_refl _) (by rw [List.length_singleton]; omega), Nat.sub_self]; rfl
      have rows : ∀ l ∈ fullQ q (liter q n).2.1 (liter q n).2.2, l < q.length := fun l hl => hr l (List.mem_filter.mp hl).1
      refine ⟨fun _ => ⟨fun _ => ?_, fun h => ?_⟩, fun k hk => ?_⟩
      · refine List.filter_eq_nil_iff.mpr fun i hi z => ?_
        obtain ⟨h1, h2⟩ := List.mem_filter.mp hi
        exact of_decide_eq_true h2 (List.mem_filter.mpr ⟨h1, z⟩)
      · simp only [List.length_append, List.length_singleton, Nat.add_sub_cancel] at h
        rw [g] at h
        obtain ⟨z, hz⟩ := List.exists_mem_of_ne_nil _ f
        have := h z hz; have := rows z hz; omega
      · simp only [List.length_append, List.length_singleton] at hk
        by_cases hlt : k + 1 < (liter q n).1.length
        · rw [get!_append_left (by omega), get!_append_left hlt]; exact b k hlt
        · have ek : k + 1 = (liter q n).1.length := by omega
          have kk : k = (liter q n).1.length - 1 := by omega
          have ne : (liter q n).1 ≠ [] := fun z => by rw [z] at ek; simp at ek
          rw [ek, g, get!_append_left (by omega), kk]
          refine .inr ⟨?_, rows⟩
          have hm := mem_get! (xs := (liter q n).1) (i := (liter q n).1.length - 1) (by omega)
          rcases (liter_layer n _ hm).2.2 with h | h
          · exact (f ((a ne).1 h)).elim
          · exact fun l hl => (h l hl).1
    · have f0 : fullQ q (liter q n).2.1 (liter q n).2.2 = [] := Classical.not_not.mp f
      by_cases m : empQ q (liter q n).2.1 (liter q n).2.2 ≠ []
      · have e : liter q (n + 1) = ((liter q n).1 ++ [(empQ q (liter q n).2.1 (liter q n).2.2).map fun j => q.length + j], (liter q n).2.1, (liter q n).2.2.filter fun j => decide (j ∉ empQ q (liter q n).2.1 (liter q n).2.2)) := by
          show lstep q (liter q n) = _
          unfold lstep; rw [if_neg f, if_pos m]
        rw [e]
        have g : ((liter q n).1 ++ [(empQ q (liter q n).2.1 (liter q n).2.2).map fun j => q.length + j])[(liter q n).1.length]! = (empQ q (liter q n).2.1 (liter q n).2.2).map fun j => q.length + j := by
          rw [get!_append_right (Nat.le_refl _) (by rw [List.length_singleton]; omega), Nat.sub_self]; rfl
        have cols : ∀ l ∈ (empQ q (liter q n).2.1 (liter q n).2.2).map (fun j => q.length + j), q.length ≤ l := fun l hl => by
          obtain ⟨j, _, rfl⟩ := List.mem_map.mp hl; omega
        have mne : (empQ q (liter q n).2.1 (liter q n).2.2).map (fun j => q.length + j) ≠ [] := fun z => m (List.map_eq_nil_iff.mp z)
        refine ⟨fun _ => ⟨fun h => ?_, fun _ => ?_⟩, fun k hk => ?_⟩
        · simp only [List.length_append, List.length_singleton, Nat.add_sub_cancel] at h
          rw [g] at h
          obtain ⟨z, hz⟩ := List.exists_mem_of_ne_nil _ mne
          have := h z hz; have := cols z hz; omega
        · refine List.filter_eq_nil_iff.mpr fun i hi z => ?_
          obtain ⟨h1, h2⟩ := List.mem_filter.mp hi
          exact of_decide_eq_true h2 (List.mem_filter.mpr ⟨h1, z⟩)
        · simp only [List.length_append, List.length_singleton] at hk
          by_cases hlt : k + 1 < (liter q n).1.length
          · rw [get!_append_left (by omega), get!_append_left hlt]; exact b k hlt
          · have ek : k + 1 = (liter q n).1.length := by omega
            have kk : k = (liter q n).1.length - 1 := by omega
            have ne : (liter q n).1 ≠ [] := fun z => by rw [z] at ek; simp at ek
            rw [ek, g, get!_append_left (by omega), kk]
            refine .inl ⟨?_, cols⟩
            have hm := mem_get! (xs := (liter q n).1) (i := (liter q n).1.length - 1) (by omega)
            rcases (liter_layer n _ hm).2.2 with h | h
            · exact h
            · exact (m ((a ne).2 fun l hl => (h l hl).1)).elim
      · have e : liter q (n + 1) = liter q n := by
          show lstep q (liter q n) = _
          unfold lstep; rw [if_neg f, if_neg m]
        rw [e]; exact ⟨a, b⟩
theorem color_row {i j k : Nat} (hk : k < (layersQ q).length) (hi : i ∈ (layersQ q)[k]!) (h1 : i < q.length) (h2 : j < q[0]!.length) (hm : ∀ m ≤ k, q.length + j ∉ (layersQ q)[m]!) : (q[i]!)[j]! = true := (liter_color _ k hk).1 i hi h1 j h2 hm
theorem color_col {i j k : Nat} (hk : k < (layersQ q).length) (hj : q.length + j ∈ (layersQ q)[k]!) (h1 : i < q.length) (hm : ∀ m ≤ k, i ∉ (layersQ q)[m]!) : (q[i]!)[j]! = false := (liter_color _ k hk).2 j hj i h1 hm
theorem layers_turn {k : Nat} (hk : k + 1 < (layersQ q).length) : ((∀ l ∈ (layersQ q)[k]!, l < q.length) ∧ ∀ l ∈ (layersQ q)[k + 1]!, q.length ≤ l) ∨ ((∀ l ∈ (layersQ q)[k]!, q.length ≤ l) ∧ ∀ l ∈ (layersQ q)[k + 1]!, l < q.length) := (liter_turn _).2 k hk
theorem layers_nodup : (layersQ q).flatten.Nodup := (nodup_flat _).1
theorem layers_lt {l : Nat} (h : l ∈ (layersQ q).flatten) : l < q.length + q[0]!.length := by
  obtain ⟨s, h1, h2⟩ := List.mem_flatten.mp h
  rcases (layersQ_layer s h1).2.2 with z | z
  · have := z l h2; omega
  · exact (z l h2).2
theorem nodup_idx {L : List (List Nat)} (h : L.flatten.Nodup) {a b l : Nat} (ha : a < L.length) (hb : b < L.length) (h1 : l ∈ L[a]!) (h2 : l ∈ L[b]!) : a = b := by
  induction L generalizing a b with
  | nil => cases ha
  | cons s L ih =>
    rw [List.flatten_cons] at h
    obtain ⟨n1, n2, n3⟩ := List.nodup_append.mp h
    cases a with
    | zero =>
      cases b with
      | zero => rfl
      | succ b => exact (n3 l h1 l (flat_mem (by simpa using hb) h2) rfl).elim
    | succ a =>
      cases b with
      | zero => exact (n3 l h2 l (flat_mem (by simpa using ha) h1) rfl).elim
      | succ b => rw [ih n2 (by simpa using ha) (by simpa using hb) h1 h2]
end
end W
set_option maxHeartbeats 1000000
namespace W
open PySem L2 G T
/-- the last deed that meets a cell: its colour -/
def hit (h i j : Nat) : List Nat → Option Bool
  | [] => none
  | l :: ls => (hit h i j ls).or (if l = i then some true else if l = h + j then some false else none)
section
variable {p q : Pic}
/-- the least set's lists are parts of the layers, in their order -/
inductive Parts : List (List Nat) → List (List Nat) → Prop
  | nil {L : List (List Nat)} : Parts [] L
  | last {s t : List Nat} {L : List (List Nat)} : t.Sublist s → Parts [t] (s :: L)
  | cons {s : List Nat} {T L : List (List Nat)} : Parts T L → Parts (s :: T) (s :: L)
theorem Parts.sub {T L : List (List Nat)} (h : Parts T L) : T.flatten.Sublist L.flatten := by
  induction h with
  | nil => exact List.nil_sublist _
  | last h =>
    simp only [List.flatten_cons, List.flatten_nil, List.append_nil]
    exact h.trans (List.sublist_append_left _ _)
  | cons _ ih =>
    rw [List.flatten_cons, List.flatten_cons]
    exact (List.Sublist.refl _).append ih
end
end W
set_option maxHeartbeats 1000000
namespace W
open PySem L2 G T
theorem enumP_get {α : Type} [Inhabited α] {xs : List α} {i : Nat} {x : Nat × α} (h : (enumP xs)[i]? = some x) : x = (i, xs[i]!) ∧ xs[i]? = some xs[i]! ∧ i < xs.length := by
  rw [enumP_eq] at h
  have hi : i < xs.length := by
    have := (List.getElem?_eq_some_iff.mp h).1
    simpa using this
  rw [List.getElem?_map, List.getElem?_range hi] at h
  exact ⟨(Option.some.inj h).symm, by rw [List.getElem?_eq_getElem hi, getElem!_pos xs i hi], hi⟩
theorem get?_get! {α : Type} [Inhabited α] {xs : List α} {i : Nat} {x : α} (h : xs[i]? = some x) : x = xs[i]! ∧ i < xs.length := by
  obtain ⟨h1, h2⟩ := List.getElem?_eq_some_iff.mp h
  exact ⟨by rw [getElem!_pos xs i h1, h2], h1⟩
theorem get!_get? {α : Type} [Inhabited α] {xs : List α} {i : Nat} (h : i < xs.length) : xs[i]? = some xs[i]! := by rw [List.getElem?_eq_getElem h, getElem!_pos xs i h]
theorem get!_set {α : Type} [Inhabited α] {xs : List α} {n i : Nat} {x : α} (h : i < xs.length) : (xs.set n x)[i]! = if n = i then x else xs[i]! := by
  rw [getElem!_pos _ i (by rw [List.length_set]; exact h), List.getElem_set, getElem!_pos xs i h]
theorem len_sub {a b : List Nat} (nd : a.Nodup) (h : ∀ x ∈ a, x ∈ b) : a.length ≤ b.length := by
  induction a generalizing b with
  | nil => exact Nat.zero_le _
  | cons x a ih =>
    obtain ⟨n1, n2⟩ := List.nodup_cons.mp nd
    have hx := h x List.mem_cons_self
    have := ih (b := b.erase x) n2 fun y hy => (List.mem_erase_of_ne (fun e => n1 (by rw [← e]; exact hy))).mpr (h y (List.mem_cons_of_mem _ hy))
    rw [List.length_erase_of_mem hx] at this
    have : 0 < b.length := List.length_pos_of_mem hx
    rw [List.length_cons]; omega
theorem drop_at {α : Type} [Inhabited α] {L : List α} {i : Nat} {x : α} (h : L[i]? = some x) : L.drop i = x :: L.drop (i + 1) := by
  obtain ⟨h1, h2⟩ := List.getElem?_eq_some_iff.mp h
  rw [List.drop_eq_getElem_cons h1, h2]
end W
set_option maxHeartbeats 1000000
namespace T
open PySem L2 G
theorem ev_allB {xs : List Bool} {env : DEnv} {tp t1' : List D} {m : SE D} (h : m env tp = .ok (eL eB xs) t1') : callB allD (consA m nilA) env tp = .ok (eB (xs.all id)) t1' :=
  ev_callB (ev_cons h ev_nil) (by
    show (unB (xs.map eB)).map (fun bs => D.bl (bs.all id)) = _
    rw [unB_map]; rfl)
end T
namespace W
open PySem L2 G T
theorem keys_true (xs : List Nat) (x : Nat) : x ∈ dkeys (dictOf (xs.map fun x => (x, true))) ↔ x ∈ xs := by
  rw [mem_dictOf]
  unfold dkeys
  rw [List.map_map]
  have : ((fun p : Nat × Bool => p.1) ∘ fun x => (x, true)) = id := rfl
  rw [this, List.map_id]
theorem keys_flat (xs : List (List Nat)) (x : Nat) : x ∈ dkeys (dictOf (xs.flatMap fun s => s.map fun y => (y, true))) ↔ x ∈ xs.flatten := by
  rw [mem_dictOf]
  unfold dkeys
  rw [List.map_flatMap]
  have : (fun s : List Nat => (s.map fun y => (y, true)).map (fun p : Nat × Bool => p.1)) = fun s => s := by
    funext s
    rw [List.map_map]
    exact List.map_id _
  rw [this]
  exact Iff.of_eq (congrArg (x ∈ ·) (List.flatMap_id'))
section
variable {p q : Pic}
theorem Parts.len {T L : List (List Nat)} (h : Parts T L) : T.length ≤ L.length := by
  induction h with
  | nil => exact Nat.zero_le _
  | last _ => simp
  | cons _ ih => rw [List.length_cons, List.length_cons]; omega
end
end W
set_option maxHeartbeats 1000000
namespace T
open PySem L2 G
end T
set_option maxHeartbeats 1000000
namespace T
open PySem L2 G
end T
set_option maxHeartbeats 1000000
namespace T
open PySem L2 G
end T
set_option maxHeartbeats 1000000
namespace T
open PySem L2 G
theorem ixN_nat {n k : Nat} (h : k < n) : ixN n (k : Int) = some k := by
  unfold ixN
  split <;> simp_all <;> omega
/-- a store into an own list -/
theorem wp_lset {α : Type} {e : α → D} {env : DEnv} {tp t1' t2' : List D} {mk mv : SE D} {N : Wn} {R : Wr} {B C : Wn} {i k : Nat} {x : α} {xs : List α} (he : env[i]? = some (some (eL e xs))) (hv : mv env tp = .ok (e x) t1') (hk : mk env t1' = .ok (eN k) t2') (hl : k < xs.length) (hn : N (env.set i (some (eL e (xs.set k x)))) t2') : WP N R B C (lsetS i mk mv env tp) := by
  unfold lsetS
  rw [hv]
  show WP N R B C (match env[i]? with
    | some (some (.lst xs)) => (mk env t1').bindS fun k tp2 => (match k with
      | .int n => (match ixN xs.length n with
        | some j => RS.nx (env.set i (some (.lst (xs.set j (e x))))) tp2
        | none => RS.stuck)
      | _ => RS.stuck)
    | _ => RS.stuck)
  rw [he]
  show WP N R B C ((mk env t1').bindS fun k tp2 => (match k with
      | .int n => (match ixN (xs.map e).length n with
        | some j => RS.nx (env.set i (some (.lst ((xs.map e).set j (e x))))) tp2
        | none => RS.stuck)
      | _ => RS.stuck))
  rw [hk]
  show WP N R B C (match ixN (xs.map e).length (k : Int) with
        | some j => RS.nx (env.set i (some (.lst ((xs.map e).set j (e x))))) t2'
        | none => RS.stuck)
  rw [List.length_map, ixN_nat hl]
  show WP N R B C (RS.nx (env.set i (some (.lst ((xs.map e).set k (e x))))) t2')
  rw [← List.map_set]
  exact .nx hn
end T
set_option maxHeartbeats 1000000
namespace T
open PySem L2 G
theorem rep_flat {α : Type} (x : α) : ∀ n : Nat, (List.replicate n [x]).flatten = List.replicate n x
  | 0 => rfl
  | n + 1 => by rw [List.replicate_succ, List.replicate_succ, List.flatten_cons, rep_flat x n]; rfl
/-- [x] * n -/
theorem ev_lrep1 {α : Type} {e : α → D} {env : DEnv} {tp t1' t2' : List D} {ma mb : SE D} {x : α} {n : Nat} (h : n ≤ 16777216) (ha : ma env tp = .ok (eL e [x]) t1') (hb : mb env t1' = .ok (eN n) t2') : binE lrepD ma mb env tp = .ok (eL e (List.replicate n x)) t2' :=
  ev_bin ha hb (by
    show (if cRep 1 (n : Int) then some (D.lst (List.replicate ((n : Int)).toNat [e x]).flatten) else none) = _
    have c : cRep 1 (n : Int) = true := by
      unfold cRep
      rw [Bool.and_eq_true, Bool.and_eq_true]
      exact ⟨decide_eq_true (by omega), decide_eq_true (by omega), decide_eq_true (by omega)⟩
    rw [if_pos c, Int.toNat_natCast, rep_flat, ← List.map_replicate])
end T
set_option maxHeartbeats 1000000
namespace W
open PySem L2 G T
abbrev one (b : Bool) : Nat := if b then 1 else 0
end W
set_option maxHeartbeats 1000000
namespace W
def Lg (x : Int) (n : Nat) : Prop := x.natAbs < 2 ^ n
theorem log_lt {x k : Nat} (h : x < 2 ^ k) (hk : 0 < k) : x.log2 < k := by
  by_cases q : x = 0
  · subst q; simpa using hk
  · exact (Nat.log2_lt q).mpr h
theorem Lg.mono {x : Int} {n m : Nat} (a : Lg x n) (h : n ≤ m) : Lg x m := Nat.lt_of_lt_of_le a (Nat.pow_le_pow_right (by decide) h)
theorem Lg.mul {x y : Int} {n m : Nat} (a : Lg x n) (b : Lg y m) : Lg (x * y) (n + m) := by
  unfold Lg at *; rw [Int.natAbs_mul, Nat.pow_add]; exact Nat.mul_lt_mul'' a b
theorem Lg.le {x y : Int} {n : Nat} (a : Lg y n) (h : x.natAbs ≤ y.natAbs) : Lg x n := Nat.lt_of_le_of_lt h a
theorem Lg.nat {x n : Nat} (h : x < 2 ^ n) : Lg (x : Int) n := by unfold Lg; rw [Int.natAbs_natCast]; exact h
/-- the lowest terms -/
def low (a b : Int) : Int × Int := (a / (Int.gcd a b : Int), b / (Int.gcd a b : Int))
theorem gcd_pos {a b : Int} (h : 0 < b) : 0 < (Int.gcd a b : Int) := by
  have : 0 < Int.gcd a b := Int.gcd_pos_of_ne_zero_right a (by omega)
  omega
theorem low_spec {a b : Int} (h : 0 < b) : ∃ g : Int, 0 < g ∧ a = g * (low a b).1 ∧ b = g * (low a b).2 := by
  refine ⟨Int.gcd a b, gcd_pos h, ?_, ?_⟩
  · exact (Int.mul_ediv_cancel' (Int.gcd_dvd_left a b)).symm
  · exact (Int.mul_ediv_cancel' (Int.gcd_dvd_right a b)).symm
theorem low_pos {a b : Int} (h : 0 < b) : 0 < (low a b).2 := by
  obtain ⟨g, h1, _, h3⟩ := low_spec (a := a) h
  have : 0 < g * (low a b).2 := by rw [← h3]; exact h
  rcases Int.lt_or_le 0 (low a b).2 with q | q
  · exact q
  · have := Int.mul_le_mul_of_nonneg_left q (Int.le_of_lt h1)
    omega
theorem low_le {a b : Int} (h : 0 < b) : (low a b).1.natAbs ≤ a.natAbs ∧ (low a b).2.natAbs ≤ b.natAbs := by
  have hp := gcd_pos (a := a) h
  refine ⟨?_, ?_⟩
  · show (a / (Int.gcd a b : Int)).natAbs ≤ _
    rw [Int.natAbs_ediv_of_dvd (Int.gcd_dvd_left a b)]; exact Nat.div_le_self _ _
  · show (b / (Int.gcd a b : Int)).natAbs ≤ _
    rw [Int.natAbs_ediv_of_dvd (Int.gcd_dvd_right a b)]; exact Nat.div_le_self _ _
/-- a ratio that stands for a / b, its size -/
structure Rat' (x : Int × Int) (a b : Int) (n : Nat) : Prop where
  e : x = low a b
  p : 0 < b
  l1 : Lg a n
  l2 : Lg b n
theorem Rat'.pos {x : Int × Int} {a b : Int} {n : Nat} (h : Rat' x a b n) : 0 < x.2 := by rw [h.e]; exact low_pos h.p
theorem Rat'.lg {x : Int × Int} {a b : Int} {n : Nat} (h : Rat' x a b n) : Lg x.1 n ∧ Lg x.2 n := by
  rw [h.e]; exact ⟨h.l1.le (low_le h.p).1, h.l2.le (low_le h.p).2⟩
end W
namespace W
def ch : Nat → Nat → Nat
  | _, 0 => 1
  | 0, _ + 1 => 0
  | n + 1, k + 1 => ch n k + ch n (k + 1)
theorem ch_zero (n : Nat) : ch n 0 = 1 := by cases n <;> rfl
theorem ch_gt : ∀ {n k : Nat}, n < k → ch n k = 0
  | 0, 0, h => by omega
  | 0, k + 1, _ => rfl
  | n + 1, 0, h => by omega
  | n + 1, k + 1, h => by show ch n k + ch n (k + 1) = 0; rw [ch_gt (by omega), ch_gt (by omega)]
theorem ch_mul : ∀ n k : Nat, (k + 1) * ch (n + 1) (k + 1) = (n + 1) * ch n k
  | 0, 0 => rfl
  | 0, k + 1 => by show (k + 1 + 1) * (ch 0 (k + 1) + ch 0 (k + 2)) = _; rw [ch_gt (n := 0) (k := k + 1) (by omega), ch_gt (n := 0) (k := k + 2) (by omega)]; omega
  | n + 1, 0 => by
    have h := ch_mul n 0
    show (0 + 1) * (ch (n + 1) 0 + ch (n + 1) 1) = _
    rw [ch_zero] at h ⊢
    rw [Nat.mul_add, h]; omega
  | n + 1, k + 1 => by
    have h1 := ch_mul n k
    have h2 := ch_mul n (k + 1)
    show (k + 1 + 1) * (ch (n + 1) (k + 1) + ch (n + 1) (k + 2)) = (n + 1 + 1) * ch (n + 1) (k + 1)
    have e : ch (n + 1) (k + 1) = ch n k + ch n (k + 1) := rfl
    rw [Nat.mul_add, h2, Nat.add_mul (k + 1), h1, Nat.one_mul, Nat.add_mul (n + 1) 1, Nat.one_mul, e, Nat.mul_add]; omega
theorem ch_step (n k : Nat) : (k + 1) * ch n (k + 1) = ch n k * (n - k) := by
  cases n with
  | zero => cases k with
    | zero => rfl
    | succ k => rw [ch_gt (n := 0) (k := k + 1 + 1) (by omega)]; simp
  | succ n =>
    rw [ch_mul]
    -- (n+1) * ch n k = ch (n+1) k * (n + 1 - k)
    cases k with
    | zero => rw [ch_zero, ch_zero]; omega
    | succ k =>
      by_cases hk : k + 1 ≤ n + 1
      · have h1 := ch_mul n k
        have e : ch (n + 1) (k + 1) = ch n k + ch n (k + 1) := rfl
        have h2 : (k + 1) * ch (n + 1) (k + 1) = (n + 1) * ch n k := h1
        obtain ⟨m, hm⟩ : ∃ m, n + 1 = k + 1 + m := ⟨n + 1 - (k + 1), by omega⟩
        have e3 : n + 1 - (k + 1) = m := by omega
        rw [e3]
        have h3 : (n + 1) * ch (n + 1) (k + 1) = (n + 1) * ch n k + (n + 1) * ch n (k + 1) := by rw [e, Nat.mul_add]
        have h4 : (n + 1) * ch (n + 1) (k + 1) = (k + 1) * ch (n + 1) (k + 1) + m * ch (n + 1) (k + 1) := by rw [← Nat.add_mul, ← hm]
        rw [Nat.mul_comm (ch (n + 1) (k + 1)) m]
        omega
      · rw [ch_gt (n := n) (k := k + 1) (by omega), ch_gt (n := n + 1) (k := k + 1) (by omega)]; simp
theorem ch_div (n k : Nat) : ch n k * (n - k) / (k + 1) = ch n (k + 1) := by
  rw [← ch_step, Nat.mul_div_cancel_left _ (by omega)]
theorem ch_le : ∀ n k : Nat, ch n k ≤ 2 ^ n
  | n, 0 => by rw [ch_zero]; exact Nat.one_le_two_pow
  | 0, k + 1 => Nat.zero_le _
  | n + 1, k + 1 => by
    have h1 := ch_le n k
    have h2 := ch_le n (k + 1)
    show ch n k + ch n (k + 1) ≤ _
    rw [Nat.pow_succ]; omega
/-- a sum over 0 .. n - 1 -/
def sm (f : Nat → Int) : Nat → Int
  | 0 => 0
  | n + 1 => sm f n + f n
def sg (j : Nat) : Int := if j % 2 = 0 then 1 else -1
/-- the alternating sum -/
def alt (t d L : Nat) : Int := sm (fun j => sg j * (ch d j : Int) * (((L + d - j : Nat) : Int) ^ t)) (d + 1)
end W
namespace W
/-- the sums of parts -/
def hs : Nat → Int × Int
  | 0 => (0, 1)
  | n + 1 => low ((hs n).1 * ((n + 1 : Nat) : Int) + 1 * (hs n).2) ((hs n).2 * ((n + 1 : Nat) : Int))
def hnum : Nat → Nat
  | 0 => 0
  | n + 1 => hnum n * (n + 1) + fac n
where fac : Nat → Nat
  | 0 => 1
  | n + 1 => fac n * (n + 1)
abbrev hfac := hnum.fac
open PySem L2 G T
theorem cDiv_lg {y : Int} {n : Nat} (h0 : 0 < y) (b : Lg y n) (hn : 0 < n) (h : n ≤ 9000) : cDiv y = true := by
  have h2 := log_lt b hn
  unfold cDiv
  rw [decide_eq_true h0, decide_eq_true (by omega : y.natAbs.log2 < 9000)]; rfl
theorem cMul_nat {x y n m : Nat} (a : x < 2 ^ n) (b : y < 2 ^ m) (hn : 0 < n) (hm : 0 < m) (h : n + m ≤ 900000) : cMul ((x : Nat) : Int) ((y : Nat) : Int) = true := by
  have h1 := log_lt a hn
  have h2 := log_lt b hm
  refine decide_eq_true ?_
  rw [Int.natAbs_natCast, Int.natAbs_natCast]; omega
theorem Rat'.ok {x : Int × Int} {a b : Int} {n : Nat} (h : Rat' x a b n) (hn : n ≤ 4000) : Lg x.1 4000 ∧ Lg x.2 4000 ∧ 0 < x.2 := ⟨h.lg.1.mono hn, h.lg.2.mono hn, h.pos⟩
end W
set_option maxHeartbeats 1000000
namespace W
open PySem L2 G T
end W
namespace W
open PySem L2 G T
abbrev dcnt (d : List (Nat × Nat)) (k : Nat) : Nat := (dget d k).getD 0
def dadd (d : List (Nat × Nat)) (k v : Nat) : List (Nat × Nat) := dput d k (dcnt d k + v)
theorem dget_none {β : Type} {d : List (Nat × β)} {k : Nat} (h : k ∉ dkeys d) : dget d k = none := by
  cases q : dget d k with
  | none => rfl
  | some v => exact absurd (dget_isSome.mp (by rw [q]; rfl)) h
theorem dget_map {β : Type} (k v') {d : List (Nat × β)} (x : Nat) : dget (d.map fun p => if p.1 = k then (p.1, v') else p) x = if x = k then (dget d x).map fun _ => v' else dget d x := by
  induction d with
  | nil => simp [dget]
  | cons p r ih =>
    obtain ⟨a, b⟩ := p
    rw [List.map_cons]
    by_cases h1 : a = k
    · subst h1
      rw [if_pos rfl]
      unfold dget
      by_cases h2 : a = x
      · subst h2; simp
      · rw [if_neg h2, ih, if_neg h2]
    · rw [if_neg h1]
      unfold dget
      by_cases h2 : a = x
      · subst h2; rw [if_pos rfl, if_pos rfl, if_neg h1]
      · rw [if_neg h2, if_neg h2, ih]
theorem dget_snoc {β : Type} {d : List (Nat × β)} {k : Nat} {v : β} (x : Nat) (h : k ∉ dkeys d) : dget (d ++ [(k, v)]) x = if x = k then some v else dget d x := by
  induction d with
  | nil =>
    show (if k = x then some v else none) = _
    by_cases e : x = k
    · subst e; simp
    · rw [if_neg e, if_neg (fun z => e z.symm)]; rfl
  | cons p r ih =>
    obtain ⟨a, b⟩ := p
    have hr : k ∉ dkeys r := fun z => h (List.mem_cons_of_mem _ z)
    have ha : a ≠ k := fun e => h (by rw [← e]; exact List.mem_cons_self)
    show (if a = x then some b else dget (r ++ [(k, v)]) x) = if x = k then some v else (if a = x then some b else dget r x)
    rw [ih hr]
    by_cases e : a = x
    · rw [if_pos e, if_pos e, if_neg (fun z => ha (e.trans z))]
    · rw [if_neg e, if_neg e]
theorem dget_dput {β : Type} (d : List (Nat × β)) (k : Nat) (v : β) (x : Nat) : dget (dput d k v) x = if x = k then some v else dget d x := by
  unfold dput
  by_cases q : (dget d k).isSome = true
  · rw [if_pos q, dget_map]
    by_cases e : x = k
    · subst e
      rw [if_pos rfl, if_pos rfl]
      obtain ⟨b, hb⟩ := Option.isSome_iff_exists.mp q
      rw [hb]; rfl
    · rw [if_neg e, if_neg e]
  · rw [if_neg q]
    exact dget_snoc x fun z => q (dget_isSome.mpr z)
/-- many pairs counted -/
def daddAll (ps : List (Nat × Nat)) (d : List (Nat × Nat)) : List (Nat × Nat) := ps.foldl (fun d x => dadd d x.1 x.2) d
end W
set_option maxHeartbeats 1000000
namespace W
open PySem L2 G T
/-- ways to put t things into k heaps -/
def st : Nat → Nat → Nat
  | 0, 0 => 1
  | 0, _ + 1 => 0
  | _ + 1, 0 => 0
  | t + 1, k + 1 => (k + 1) * st t (k + 1) + st t k
/-- how many lists of t deeds paint just k told lines, each at least once -/
def sj (t k : Nat) : Nat := hfac k * st t k
/-- a sum over 0 .. n - 1 -/
def su (f : Nat → Nat) : Nat → Nat
  | 0 => 0
  | n + 1 => su f n + f n
theorem su_congr {f g : Nat → Nat} : ∀ {n : Nat}, (∀ i, i < n → f i = g i) → su f n = su g n
  | 0, _ => rfl
  | n + 1, h => by show su f n + f n = su g n + g n; rw [su_congr fun i hi => h i (by omega), h n (by omega)]
theorem su_le {f : Nat → Nat} {c : Nat} : ∀ {n : Nat}, (∀ i, i < n → f i ≤ c) → su f n ≤ n * c
  | 0, _ => by show 0 ≤ _; omega
  | n + 1, h => by
    have h1 := su_le (n := n) fun i hi => h i (by omega)
    have h2 := h n (by omega)
    show su f n + f n ≤ _
    rw [Nat.add_mul, Nat.one_mul]; omega
theorem su_range (f : Nat → Nat) : ∀ n : Nat, ((List.range n).map f).sum = su f n
  | 0 => rfl
  | n + 1 => by rw [List.range_succ, List.map_append, List.sum_append, su_range f n]; simp [su]
end W
set_option maxHeartbeats 1000000
namespace W
open PySem L2 G T
theorem Parts.get {T L : List (List Nat)} (h : Parts T L) : ∀ i, i < T.length → i < L.length ∧ (T[i]!).Sublist L[i]! ∧ (i + 1 < T.length → T[i]! = L[i]!) := by
  induction h with
  | nil => intro i hi; cases hi
  | last hs =>
    intro i hi
    have e : i = 0 := by simp at hi; omega
    subst e
    exact ⟨by simp, hs, fun z => by simp at z⟩
  | cons h ih =>
    intro i hi
    cases i with
    | zero => exact ⟨by simp, .refl _, fun _ => rfl⟩
    | succ i =>
      obtain ⟨a, b, c⟩ := ih i (by simpa using hi)
      refine ⟨by simpa using a, ?_, fun z => ?_⟩
      · rw [get!_cons_succ, get!_cons_succ]; exact b
      · rw [get!_cons_succ, get!_cons_succ]; exact c (by simpa using z)
theorem flat_uniq {L : List (List Nat)} (nd : L.flatten.Nodup) {i j l : Nat} (hi : i < L.length) (hj : j < L.length) (h1 : l ∈ L[i]!) (h2 : l ∈ L[j]!) : i = j := by
  have hp := (List.pairwise_flatten.mp nd).2
  rw [List.pairwise_iff_getElem] at hp
  rw [getElem!_pos L i hi] at h1
  rw [getElem!_pos L j hj] at h2
  rcases Nat.lt_trichotomy i j with h | h | h
  · exact (hp i j hi hj h l h1 l h2 rfl).elim
  · exact h
  · exact (hp j i hj hi h l h2 l h1 rfl).elim
theorem flat_take_le {α : Type} (i : Nat) (L : List (List α)) : (L.take i).flatten.length ≤ L.flatten.length := by
  conv => rhs; rw [← List.take_append_drop i L, List.flatten_append, List.length_append]
  omega
/-- the orders of some layers -/
def fp (T : List (List Nat)) : Nat → Nat
  | 0 => 1
  | n + 1 => fp T n * hfac (T[n]!).length
end W
set_option maxHeartbeats 1000000
namespace W
open PySem L2 G T
/-- far enough -/
theorem far {n t : Nat} (h2 : 2 ≤ n) (h8 : n ≤ 8) (ht : 120 ≤ t) : 9000000 * (n - 1) ^ t ≤ n ^ t := by
  obtain ⟨s, rfl⟩ : ∃ s, t = 120 + s := ⟨t - 120, by omega⟩
  clear ht
  induction s with
  | zero =>
    have : n = 2 ∨ n = 3 ∨ n = 4 ∨ n = 5 ∨ n = 6 ∨ n = 7 ∨ n = 8 := by omega
    rcases this with e | e | e | e | e | e | e <;> subst e <;> decide
  | succ s ih =>
    rw [← Nat.add_assoc, Nat.pow_succ, Nat.pow_succ, ← Nat.mul_assoc]
    exact Nat.mul_le_mul ih (by omega)
end W
set_option maxHeartbeats 1000000
namespace W
open PySem L2 G T
end W
set_option maxHeartbeats 1000000
namespace W
open PySem L2 G T
end W
set_option maxHeartbeats 1000000
set_option exponentiation.threshold 4000
namespace W
open PySem L2 G T
end W
set_option maxHeartbeats 1000000
namespace W
open PySem L2 G T
end W
set_option maxHeartbeats 1000000
namespace W
open PySem L2 G T
end W
set_option maxHeartbeats 1000000
namespace W
open PySem L2 G T
end W
set_option maxHeartbeats 1000000
namespace W
open PySem L2 G T
end W
set_option maxHeartbeats 1000000
namespace W
open PySem L2 G T
theorem compL_draw {α β : Type} {e : α → D} {e2 : β → D} {R : β → Prop} {f : D → List D → RE (Option D)} : ∀ {xs : List α} {t : List D}, Tape t →
    (∀ x ∈ xs, ∀ t, Tape t → ∃ (v : β) (t' : List D), f (e x) t = .ok (some (e2 v)) t' ∧ Tape t' ∧ R v) →
    ∃ (ys : List β) (t2 : List D), compL f (xs.map e) t = .ok (ys.map e2) t2 ∧ Tape t2 ∧ ys.length = xs.length ∧ ∀ y ∈ ys, R y
  | [], t, ht, _ => ⟨[], t, rfl, ht, rfl, fun y hy => by cases hy⟩
  | x :: xs, t, ht, h => by
    obtain ⟨v, t', a, b, c⟩ := h x List.mem_cons_self t ht
    obtain ⟨ys, t2, a2, b2, c2, d2⟩ := compL_draw (xs := xs) b fun y hy => h y (List.mem_cons_of_mem _ hy)
    refine ⟨v :: ys, t2, ?_, b2, by rw [List.length_cons, List.length_cons, c2], fun y hy => ?_⟩
    · rw [List.map_cons]
      unfold compL
      rw [a]
      simp only
      rw [a2]
      rfl
    · rcases List.mem_cons.mp hy with z | z
      · rw [z]; exact c
      · exact d2 y z
/-- [draw for x in xs] -/
theorem comp_draw {α β : Type} {e : α → D} {e2 : β → D} {R : β → Prop} {xs : List α} {i : Nat} {vs : List Nat} {mi : SE (List D)} {m : SE D} {env : DEnv} {tp tq : List D} (hx : mi env tp = .ok (xs.map e) tq) (ht : Tape tq) (hl : xs.length ≤ 1000000)
    (h : ∀ x ∈ xs, ∀ t, Tape t → ∃ (v : β) (t' : List D), m (setAll (wipeE env vs) [i] [e x]) t = .ok (e2 v) t' ∧ Tape t' ∧ R v) :
    ∃ (ys : List β) (t2 : List D), compE mi vs G.t1 [i] yesT m env tp = .ok (eL e2 ys) t2 ∧ Tape t2 ∧ ys.length = xs.length ∧ ∀ y ∈ ys, R y := by
  obtain ⟨ys, t2, a, b, c, d⟩ := compL_draw (e := e) (e2 := e2) (R := R) (f := compTurn1 G.t1 [i] yesT m (wipeE env vs)) (xs := xs) ht fun x hx t ht => by
    obtain ⟨v, t', a, b, c⟩ := h x hx t ht
    refine ⟨v, t', ?_, b, c⟩
    unfold compTurn1
    show ((yesT (setAll (wipeE env vs) [i] [e x]) t).bind fun b tp1 => if b = true then (m (setAll (wipeE env vs) [i] [e x]) tp1).bind fun x tp2 => .ok (some x) tp2 else .ok none tp1) = _
    unfold yesT
    simp only [RE.bind_ok, if_true]
    rw [a]
    simp only [RE.bind_ok]
  refine ⟨ys, t2, ?_, b, c, d⟩
  unfold compE
  rw [hx]
  simp only [RE.bind_ok]
  rw [if_pos (by rw [List.length_map]; have := small_line hl; omega), a]
end W
set_option maxHeartbeats 1000000
namespace W
open PySem L2 G T
def decL (c S : List Nat) : List Nat := (enumP c).map fun x => if x.1 ∈ S then x.2 - 1 else x.2
def hS (g : List Nat → Nat) (c S : List Nat) : Nat := if ∀ s ∈ S, c[s]! > 0 then g (decL c S) else 0
end W
set_option maxHeartbeats 1000000
namespace W
open PySem L2 G T
def dnQ (p : Pic) (a b : Nat) : List Nat := (List.range p[0]!.length).filter fun x => decide ((p[a]!)[x]! = true ∧ (p[b]!)[x]! ≠ true)
theorem mem_dn {p : Pic} {a b c : Nat} : c ∈ dnQ p a b ↔ c < p[0]!.length ∧ (p[a]!)[c]! = true ∧ (p[b]!)[c]! = false := by
  unfold dnQ
  rw [List.mem_filter, List.mem_range, decide_eq_true_eq]
  exact and_congr_right fun _ => and_congr_right fun _ => by cases (p[b]!)[c]! <;> simp
/-- a core has a round of four -/
theorem coreR {p : Pic} (hc : coreQ p ≠ []) : ∃ a b c d, a < p.length ∧ b < p.length ∧ c ∈ dnQ p a b ∧ d ∈ dnQ p b a := by
  have row : ∀ l ∈ coreQ p, p.length ≤ l → ∃ b, b < p.length ∧ b ∈ coreQ p ∧ (p[b]!)[l - p.length]! = true := fun l hl z => by
    obtain ⟨o, o1, o2⟩ := core_leads hl
    unfold leadsQ at o1
    rw [if_neg (by omega)] at o1
    obtain ⟨x1, x2⟩ := List.mem_filter.mp o1
    exact ⟨o, List.mem_range.mp x1, o2, of_decide_eq_true x2⟩
  have go : ∀ n a, a < p.length → a ∈ coreQ p → p[0]!.length - ((List.range p[0]!.length).filter fun x => decide ((p[a]!)[x]! = true)).length ≤ n → ∃ a b c d, a < p.length ∧ b < p.length ∧ c ∈ dnQ p a b ∧ d ∈ dnQ p b a := by
    intro n
    induction n with
    | zero =>
      intro a ha ac hn
      obtain ⟨o, o1, o2⟩ := core_leads ac
      unfold leadsQ at o1
      rw [if_pos ha] at o1
      obtain ⟨c, c1, rfl⟩ := List.mem_map.mp o1
      obtain ⟨c2, c3⟩ := List.mem_filter.mp c1
      have c3 := of_decide_eq_true c3
      have nd : (c :: (List.range p[0]!.length).filter fun x => decide ((p[a]!)[x]! = true)).Nodup := List.nodup_cons.mpr ⟨fun z => (by have := of_decide_eq_true (List.mem_filter.mp z).2; rw [c3] at this; cases this), List.nodup_range.sublist List.filter_sublist⟩
      have := len_sub nd (b := List.range p[0]!.length) fun x hx => by
        rcases List.mem_cons.mp hx with e | e
        · rw [e]; exact c2
        · exact (List.mem_filter.mp e).1
      rw [List.length_cons, List.length_range] at this
      omega
    | succ n ih =>
      intro a ha ac hn
      obtain ⟨o, o1, o2⟩ := core_leads ac
      unfold leadsQ at o1
      rw [if_pos ha] at o1
      obtain ⟨c, c1, rfl⟩ := List.mem_map.mp o1
      obtain ⟨c2, c3⟩ := List.mem_filter.mp c1
      have c3 := of_decide_eq_true c3
      obtain ⟨b, b1, b2, b3⟩ := row _ o2 (by omega)
      rw [show p.length + c - p.length = c by omega] at b3
      have cd : c ∈ dnQ p b a := mem_dn.mpr ⟨List.mem_range.mp c2, b3, c3⟩
      by_cases z : dnQ p a b = []
      · refine ih b b1 b2 ?_
        have nd : (c :: (List.range p[0]!.length).filter fun x => decide ((p[a]!)[x]! = true)).Nodup := List.nodup_cons.mpr ⟨fun z => (by have := of_decide_eq_true (List.mem_filter.mp z).2; rw [c3] at this; cases this), List.nodup_range.sublist List.filter_sublist⟩
        have := len_sub nd (b := (List.range p[0]!.length).filter fun x => decide ((p[b]!)[x]! = true)) fun x hx => by
          rcases List.mem_cons.mp hx with e | e
          · rw [e]; exact List.mem_filter.mpr ⟨c2, decide_eq_true b3⟩
          · obtain ⟨e1, e2⟩ := List.mem_filter.mp e
            have e2 := of_decide_eq_true e2
            refine List.mem_filter.mpr ⟨e1, decide_eq_true ?_⟩
            cases y : (p[b]!)[x]! with
            | true => rfl
            | false =>
              have : x ∈ dnQ p a b := mem_dn.mpr ⟨List.mem_range.mp e1, e2, y⟩
              rw [z] at this; cases this
        rw [List.length_cons] at this
        omega
      · obtain ⟨d, hd⟩ := List.exists_mem_of_ne_nil _ z
        exact ⟨a, b, d, c, ha, b1, hd, cd⟩
  obtain ⟨l, hl⟩ := List.exists_mem_of_ne_nil _ hc
  have ll := coreQ_lt hl
  by_cases z : l < p.length
  · exact go _ l z hl (Nat.le_refl _)
  · obtain ⟨b, b1, b2, _⟩ := row l hl (by omega)
    exact go _ b b1 b2 (Nat.le_refl _)
def rowS' (p : Pic) : List Nat := p.map fun r => r.count true
def colS (w : Nat) (p : Pic) : List Nat := (List.range w).map fun j => (p.filter fun r => decide (r[j]! = true)).length
theorem map_get {α : Type} [Inhabited α] (xs : List α) : (List.range xs.length).map (fun i => xs[i]!) = xs := by
  refine List.ext_getElem (by rw [List.length_map, List.length_range]) fun i h1 h2 => ?_
  rw [List.getElem_map, List.getElem_range, getElem!_pos xs i h2]
theorem cnt_range {α : Type} [Inhabited α] (xs : List α) (f : α → Bool) : (xs.filter f).length = ((List.range xs.length).filter fun i => f xs[i]!).length := by
  conv => lhs; rw [← map_get xs]
  rw [List.filter_map, List.length_map]; rfl
theorem row_cntF (r : Row) : r.count true = ((List.range r.length).filter fun j => r[j]!).length := by
  rw [List.count, List.countP_eq_length_filter, cnt_range]
  congr 1
  exact List.filter_congr fun j _ => by cases r[j]! <;> rfl
theorem col_cntF (p : Pic) (j : Nat) : (p.filter fun r => decide (r[j]! = true)).length = ((List.range p.length).filter fun i => (p[i]!)[j]!).length := by
  rw [cnt_range]
  congr 1
  exact List.filter_congr fun i _ => by cases (p[i]!)[j]! <;> rfl
end W
set_option maxHeartbeats 1000000
namespace W
open PySem L2 G T
end W
set_option maxHeartbeats 1000000
namespace W
open PySem L2 G T
theorem bin_ch : ∀ n k : Nat, G.bin n k = ch n k
  | n, 0 => by rw [ch_zero]; cases n <;> rfl
  | 0, k + 1 => rfl
  | n + 1, k + 1 => by
    show G.bin n k + G.bin n (k + 1) = ch n k + ch n (k + 1)
    rw [bin_ch n k, bin_ch n (k + 1)]
def wv (r c : Nat) (b : Bool) : Nat := G.waysN (r + c) r c b
theorem waysN_fuel : ∀ (n r c : Nat) (b : Bool), r + c ≤ n → G.waysN n r c b = G.waysN (r + c) r c b := by
  have key : ∀ (n m r c : Nat) (b : Bool), r + c ≤ n → r + c ≤ m → G.waysN n r c b = G.waysN m r c b := by
    intro n
    induction n with
    | zero =>
      intro m r c b h1 h2
      have : r = 0 ∧ c = 0 := by omega
      obtain ⟨rfl, rfl⟩ := this
      cases m with
      | zero => rfl
      | succ m => rfl
    | succ n ih =>
      intro m r c b h1 h2
      by_cases z : r + c = 0
      · have : r = 0 ∧ c = 0 := by omega
        obtain ⟨rfl, rfl⟩ := this
        cases m with
        | zero => rfl
        | succ m => rfl
      · cases m with
        | zero => omega
        | succ m =>
          unfold G.waysN
          rw [if_neg z, if_neg z]
          cases b with
          | true =>
            show ((List.range r).map _).sum = ((List.range r).map _).sum
            congr 1
            exact List.map_congr_left fun x hx => by
              have := List.mem_range.mp hx
              rw [ih m _ _ _ (by omega) (by omega)]
          | false =>
            show ((List.range c).map _).sum = ((List.range c).map _).sum
            congr 1
            exact List.map_congr_left fun x hx => by
              have := List.mem_range.mp hx
              rw [ih m _ _ _ (by omega) (by omega)]
  exact fun n r c b h => key n _ r c b h (Nat.le_refl _)
theorem wv_true {r c : Nat} (h : r + c ≠ 0) : wv r c true = su (fun m => ch r (m + 1) * wv (r - (m + 1)) c false) r := by
  unfold wv
  obtain ⟨n, hn⟩ : ∃ n, r + c = n + 1 := ⟨r + c - 1, by omega⟩
  rw [hn]
  conv => lhs; unfold G.waysN
  rw [if_neg h]
  show ((List.range r).map _).sum = _
  rw [su_range]
  exact su_congr fun m hm => by rw [bin_ch, waysN_fuel n _ _ _ (by omega)]
theorem wv_false {r c : Nat} (h : r + c ≠ 0) : wv r c false = su (fun m => ch c (m + 1) * wv r (c - (m + 1)) true) c := by
  unfold wv
  obtain ⟨n, hn⟩ : ∃ n, r + c = n + 1 := ⟨r + c - 1, by omega⟩
  rw [hn]
  conv => lhs; unfold G.waysN
  rw [if_neg h]
  show ((List.range c).map _).sum = _
  rw [su_range]
  exact su_congr fun m hm => by rw [bin_ch, waysN_fuel n _ _ _ (by omega)]
theorem wv_sym : ∀ (n r c : Nat) (b : Bool), r + c ≤ n → wv r c b = wv c r !b
  | 0, r, c, b, h => by
    have : r = 0 ∧ c = 0 := by omega
    obtain ⟨rfl, rfl⟩ := this
    rfl
  | n + 1, r, c, b, h => by
    by_cases z : r + c = 0
    · have : r = 0 ∧ c = 0 := by omega
      obtain ⟨rfl, rfl⟩ := this
      rfl
    · cases b with
      | true =>
        show wv r c true = wv c r false
        rw [wv_true z, wv_false (by omega)]
        exact su_congr fun m hm => by rw [wv_sym n _ _ _ (by omega)]; rfl
      | false =>
        show wv r c false = wv c r true
        rw [wv_false z, wv_true (by omega)]
        exact su_congr fun m hm => by rw [wv_sym n _ _ _ (by omega)]; rfl
theorem wv_turn (r c : Nat) : wv r c true = wv c r false := wv_sym (r + c) r c true (Nat.le_refl _)
/-- of no great size -/
theorem wv_small : ∀ (n r c : Nat) (b : Bool), r ≤ 30 → c ≤ 30 → r + c ≤ n → wv r c b ≤ 2 ^ (35 * n)
  | 0, r, c, b, _, _, h => by
    have : r = 0 ∧ c = 0 := by omega
    obtain ⟨rfl, rfl⟩ := this
    exact Nat.le_refl _
  | n + 1, r, c, b, hr, hc, h => by
    by_cases z : r + c = 0
    · have : r = 0 ∧ c = 0 := by omega
      obtain ⟨rfl, rfl⟩ := this
      exact Nat.one_le_two_pow
    · have e : 30 * (2 ^ 30 * 2 ^ (35 * n)) ≤ 2 ^ (35 * (n + 1)) := by
        rw [show 35 * (n + 1) = 5 + (30 + 35 * n) by omega, Nat.pow_add 2 5, Nat.pow_add 2 30]
        exact Nat.mul_le_mul_right _ (by decide)
      cases b with
      | true =>
        rw [wv_true z]
        refine Nat.le_trans (su_le (c := 2 ^ 30 * 2 ^ (35 * n)) fun m hm => ?_) (Nat.le_trans (Nat.mul_le_mul_right _ hr) e)
        exact Nat.mul_le_mul (Nat.le_trans (ch_le r _) (Nat.pow_le_pow_right (by decide) hr)) (wv_small n _ _ _ (by omega) hc (by omega))
      | false =>
        rw [wv_false z]
        refine Nat.le_trans (su_le (c := 2 ^ 30 * 2 ^ (35 * n)) fun m hm => ?_) (Nat.le_trans (Nat.mul_le_mul_right _ hc) e)
        exact Nat.mul_le_mul (Nat.le_trans (ch_le c _) (Nat.pow_le_pow_right (by decide) hc)) (wv_small n _ _ _ hr (by omega) (by omega))
def cl (X : List Row) : Nat → (Pic → Bool) → Nat
  | 0, Q => if Q [] = true then 1 else 0
  | h + 1, Q => (X.map fun r => cl X h fun p => Q (r :: p)).sum
end W
set_option maxHeartbeats 1000000
namespace W
open PySem L2 G T
end W
namespace W
end W
set_option maxHeartbeats 1000000
namespace W
open PySem L2 G T
/-- a list of deeds is made of orders of the blocks -/
inductive Blocks : List (List Nat) → List Nat → Prop
  | nil : Blocks [] []
  | cons {s v w : List Nat} {L : List (List Nat)} : v.Perm s → Blocks L w → Blocks (s :: L) (v ++ w)
theorem Blocks.perm {L : List (List Nat)} {v : List Nat} (h : Blocks L v) : v.Perm L.flatten := by
  induction h with
  | nil => exact .refl _
  | cons a _ ih => rw [List.flatten_cons]; exact a.append ih
end W
set_option maxHeartbeats 1000000
namespace W
open PySem L2 G T
/-- lists of lines, rows and columns by turns -/
def Alt (h : Nat) : Bool → List (List Nat) → Prop
  | _, [] => True
  | k, b :: B => b ≠ [] ∧ (∀ l ∈ b, decide (l < h) = k) ∧ Alt h (!k) B
/-- list by list the same lines -/
def PermL : List (List Nat) → List (List Nat) → Prop
  | [], [] => True
  | a :: A, b :: B => a.Perm b ∧ PermL A B
  | _, _ => False
theorem PermL.alt {h : Nat} : ∀ {A B : List (List Nat)} {k : Bool}, PermL A B → Alt h k B → Alt h k A
  | [], [], _, _, _ => trivial
  | a :: A, b :: B, k, ⟨p, q⟩, ⟨b1, b2, b3⟩ => ⟨fun e => b1 (by rw [e] at p; exact p.symm.eq_nil), fun l hl => b2 l (p.mem_iff.mp hl), q.alt b3⟩
theorem PermL.app : ∀ {A B C D : List (List Nat)}, PermL A B → PermL C D → PermL (A ++ C) (B ++ D)
  | [], [], _, _, _, q => q
  | _ :: _, _ :: _, _, _, ⟨p, r⟩, q => ⟨p, r.app q⟩
theorem PermL.get : ∀ {A B : List (List Nat)}, PermL A B → A.length = B.length ∧ ∀ i : Nat, (A[i]!).Perm B[i]!
  | [], [], _ => ⟨rfl, fun _ => .refl _⟩
  | a :: A, b :: B, ⟨p, q⟩ => by
    obtain ⟨l, g⟩ := q.get
    refine ⟨by rw [List.length_cons, List.length_cons, l], fun i => ?_⟩
    cases i with
    | zero => exact p
    | succ i => exact g i
/-- two neighbours of one kind change places -/
theorem Blocks.swap {h : Nat} {M : List (List Nat)} {v : List Nat} (b : Blocks M v) : ∀ {k : Bool} {a c : List Nat} {x y : Nat}, Alt h k M → v = a ++ x :: y :: c → decide (x < h) = decide (y < h) → Blocks M (a ++ y :: x :: c) := by
  induction b with
  | nil => intro k a c x y _ e _; cases a <;> cases e
  | cons p b ih =>
    rename_i s v w L
    intro k a c x y al e hk
    obtain ⟨a1, a2, a3⟩ := al
    rcases List.append_eq_append_iff.mp e with ⟨t, e1, e2⟩ | ⟨t, e1, e2⟩
    · rw [e1, List.append_assoc]
      exact .cons p (ih a3 e2 hk)
    · cases t with
      | nil =>
        rw [List.append_nil] at e1
        have := ih (a := []) a3 e2.symm hk
        rw [← e1]
        exact .cons p this
      | cons x' t =>
        rw [List.cons_append] at e2
        injection e2 with e3 e4
        subst e3
        have xk : decide (x < h) = k := a2 x (p.mem_iff.mp (by rw [e1]; simp))
        cases t with
        | nil =>
          -- y begins the next block
          exfalso
          rw [List.nil_append] at e4
          cases b with
          | nil => cases e4
          | cons p2 b2 =>
            rename_i s2 v2 w2 L2
            obtain ⟨c1, c2, c3⟩ := a3
            cases v2 with
            | nil => exact c1 p2.symm.eq_nil
            | cons z v2 =>
              rw [List.cons_append] at e4
              injection e4 with e5 e6
              have zk := c2 z (p2.mem_iff.mp List.mem_cons_self)
              rw [← e5, ← hk, xk] at zk
              cases k <;> cases zk
        | cons y' t =>
          rw [List.cons_append] at e4
          injection e4 with e5 e6
          subst e5
          rw [e6]
          have : a ++ y :: x :: (t ++ w) = (a ++ y :: x :: t) ++ w := by simp
          rw [this]
          refine .cons (List.Perm.trans ?_ p) b
          rw [e1]
          exact (List.Perm.swap x y t).append_left a
/-- the layers, rows and columns by turns -/
theorem alt_drop {q : Pic} : ∀ (n i : Nat), i + n = (layersQ q).length → ∃ k, Alt q.length k ((layersQ q).drop i) ∧ (i < (layersQ q).length → ∀ l ∈ (layersQ q)[i]!, decide (l < q.length) = k)
  | 0, i, h => ⟨true, by rw [List.drop_of_length_le (by omega)]; trivial, fun z => by omega⟩
  | n + 1, i, h => by
    have hi : i < (layersQ q).length := by omega
    obtain ⟨k, a, b⟩ := alt_drop (q := q) n (i + 1) (by omega)
    obtain ⟨c1, _, c3⟩ := layersQ_layer _ (mem_get! hi)
    have kd : ∃ k', ∀ l ∈ (layersQ q)[i]!, decide (l < q.length) = k' := by
      rcases c3 with z | z
      · exact ⟨true, fun l hl => decide_eq_true (z l hl)⟩
      · exact ⟨false, fun l hl => decide_eq_false (by have := (z l hl).1; omega)⟩
    obtain ⟨k', hk'⟩ := kd
    rw [drop_at (get!_get? hi)]
    refine ⟨k', ⟨c1, hk', ?_⟩, fun _ => hk'⟩
    rcases Nat.lt_or_ge (i + 1) (layersQ q).length with z | z
    · have b := b z
      obtain ⟨l, hl⟩ := List.exists_mem_of_ne_nil _ c1
      obtain ⟨m, hm⟩ := List.exists_mem_of_ne_nil _ (layersQ_layer _ (mem_get! z)).1
      have : (!k') = k := by
        have e1 := hk' l hl
        have e2 := b m hm
        rw [← e1, ← e2]
        rcases layers_turn z with ⟨t1, t2⟩ | ⟨t1, t2⟩
        · rw [decide_eq_true (t1 l hl), decide_eq_false (by have := t2 m hm; omega)]; rfl
        · rw [decide_eq_false (by have := t1 l hl; omega), decide_eq_true (t2 m hm)]; rfl
      rw [this]; exact a
    · rw [List.drop_of_length_le z]; trivial
theorem alt_layers (q : Pic) : ∃ k, Alt q.length k (layersQ q) := by
  obtain ⟨k, a, _⟩ := alt_drop (q := q) (layersQ q).length 0 (by omega)
  exact ⟨k, a⟩
def atL (L : List (List Nat)) (l : Nat) : Nat := L.findIdx fun s => decide (l ∈ s)
theorem atL_eq {L : List (List Nat)} (nd : L.flatten.Nodup) {i l : Nat} (hi : i < L.length) (hl : l ∈ L[i]!) : atL L l = i := by
  have h1 : atL L l < L.length := List.findIdx_lt_length_of_exists ⟨L[i]!, mem_get! hi, decide_eq_true hl⟩
  have h2 := List.findIdx_getElem (w := h1) (p := fun s => decide (l ∈ s))
  have h2 := of_decide_eq_true h2
  have h3 : l ∈ L[atL L l]! := by rw [getElem!_pos L _ h1]; exact h2
  exact flat_uniq nd h1 hi h3 hl
def layP (h w : Nat) (L : List (List Nat)) : Pic := mkP h w fun i j => decide (atL L i < atL L (h + j))
theorem perm_flat : ∀ {A B : List (List Nat)}, PermL A B → A.flatten.Perm B.flatten
  | [], [], _ => .refl _
  | a :: A, b :: B, ⟨p, q⟩ => by
    rw [List.flatten_cons, List.flatten_cons]
    exact p.append (perm_flat q)
/-- layers tell a picture without a core -/
theorem layP_free {q : Pic} (k : PicP q) (hc : coreQ q = []) {B : List (List Nat)} (p : PermL B (layersQ q)) : layP q.length q[0]!.length B = q := by
  have h1 := k.h1; have h30 := k.h30; have w1 := k.w1; have w30 := k.w30
  obtain ⟨bl, bg⟩ := p.get
  have ndB : B.flatten.Nodup := (perm_flat p).nodup_iff.mpr layers_nodup
  refine pic_ext (mkP_pp h1 h30 w1 w30) k (mkP_len _ _ _) (mkP_wid h1) fun i j hi hj => ?_
  rw [show (layP q.length q[0]!.length B).length = q.length from mkP_len _ _ _] at hi
  rw [show (layP q.length q[0]!.length B)[0]!.length = q[0]!.length from mkP_wid h1] at hj
  show ((mkP q.length q[0]!.length _)[i]!)[j]! = _
  rw [mkP_get hi hj]
  have inL : ∀ l, l < q.length + q[0]!.length → ∃ a, a < (layersQ q).length ∧ l ∈ (layersQ q)[a]! := fun l hl => by
    rcases layer_or_core hl with z | z
    · rw [hc] at z; cases z
    · exact mem_flat z
  obtain ⟨a, a1, a2⟩ := inL i (by omega)
  obtain ⟨b, b1, b2⟩ := inL (q.length + j) (by omega)
  rw [atL_eq ndB (by omega) ((bg a).mem_iff.mpr a2), atL_eq ndB (by omega) ((bg b).mem_iff.mpr b2)]
  rcases Nat.lt_trichotomy a b with z | z | z
  · rw [decide_eq_true z]
    exact (color_row a1 a2 hi hj fun m hm y => by
      have := nodup_idx layers_nodup (show m < (layersQ q).length by omega) b1 y b2
      omega).symm
  · subst z
    rcases (layersQ_layer _ (mem_get! a1)).2.2 with y | y
    · have := y _ b2; omega
    · have := (y _ a2).1; omega
  · rw [decide_eq_false (by omega)]
    exact (color_col b1 b2 hi fun m hm y => by
      have := nodup_idx layers_nodup (show m < (layersQ q).length by omega) a1 y a2
      omega).symm
theorem free_perm {q : Pic} (hc : coreQ q = []) : (layersQ q).flatten.Perm (List.range (q.length + q[0]!.length)) := by
  refine (List.perm_ext_iff_of_nodup layers_nodup List.nodup_range).mpr fun l => ?_
  rw [List.mem_range]
  refine ⟨layers_lt, fun hl => ?_⟩
  rcases layer_or_core hl with z | z
  · rw [hc] at z; cases z
  · exact z
end W
set_option maxHeartbeats 1000000
namespace W
open PySem L2 G T
theorem kinds_at {h : Nat} : ∀ {B : List (List Nat)} {k : Bool}, Alt h k B → ∀ n, n < B.length → B[n]! ≠ [] ∧ ∃ c, (∀ l ∈ B[n]!, decide (l < h) = c) ∧ (n + 1 < B.length → ∀ l ∈ B[n + 1]!, decide (l < h) = !c)
  | b :: B, k, ⟨b1, b2, b3⟩, 0, _ => by
    refine ⟨b1, k, b2, fun hn l hl => ?_⟩
    cases B with
    | nil => simp at hn
    | cons c B => exact b3.2.1 l hl
  | b :: B, k, ⟨_, _, b3⟩, n + 1, hn => by
    rw [List.length_cons] at hn
    obtain ⟨a, c, d, e⟩ := kinds_at b3 n (by omega)
    exact ⟨a, c, d, fun h => e (by rw [List.length_cons] at h; omega)⟩
section
variable {q : Pic} {B : List (List Nat)} {s : Bool}
/-- runs of kinds tell the layers -/
theorem runs_layers (k : PicP q) (al : Alt q.length s B) (pm : B.flatten.Perm (List.range (q.length + q[0]!.length))) (cell : ∀ i j, i < q.length → j < q[0]!.length → (q[i]!)[j]! = decide (atL B i < atL B (q.length + j))) : PermL B (layersQ q) := by
  have nd : B.flatten.Nodup := pm.nodup_iff.mpr List.nodup_range
  have lt : ∀ n l, n < B.length → l ∈ B[n]! → l < q.length + q[0]!.length := fun n l hn hl => List.mem_range.mp (pm.mem_iff.mp (flat_mem hn hl))
  have at_ : ∀ l, l < q.length + q[0]!.length → atL B l < B.length ∧ l ∈ B[atL B l]! := fun l hl => by
    obtain ⟨n, hn, h⟩ := mem_flat (pm.mem_iff.mpr (List.mem_range.mpr hl))
    rw [atL_eq nd hn h]; exact ⟨hn, h⟩
  have nds : ∀ n, n < B.length → (B[n]!).Nodup := fun n hn => (List.pairwise_flatten.mp nd).1 _ (mem_get! hn)
  have go : ∀ n, n ≤ B.length → ∃ done, liter q n = (done, (List.range q.length).filter (fun i => decide (n ≤ atL B i)), (List.range q[0]!.length).filter (fun j => decide (n ≤ atL B (q.length + j)))) ∧ PermL (B.take n) done := by
    intro n
    induction n with
    | zero =>
      intro _
      refine ⟨[], ?_, trivial⟩
      show ([], List.range q.length, List.range q[0]!.length) = _
      rw [List.filter_eq_self.mpr fun i _ => decide_eq_true (Nat.zero_le _), List.filter_eq_self.mpr fun i _ => decide_eq_true (Nat.zero_le _)]
    | succ n ih =>
      intro hn
      obtain ⟨done, e, pd⟩ := ih (by omega)
      obtain ⟨ne, c, c1, c2⟩ := kinds_at al n (by omega)
      have next : n + 1 < B.length → ∃ l, l ∈ B[n + 1]! := fun h => List.exists_mem_of_ne_nil _ (kinds_at al (n + 1) h).1
      obtain ⟨l0, hl0⟩ := List.exists_mem_of_ne_nil _ ne
      have l0lt := lt n l0 (by omega) hl0
      have a0 := atL_eq nd (show n < B.length by omega) hl0
      have tk : B.take (n + 1) = B.take n ++ [B[n]!] := take_snoc (get!_get? (by omega))
      rw [tk]
      have en : liter q (n + 1) = lstep q (liter q n) := rfl
      cases c with
      | true =>
        have rows : ∀ l ∈ B[n]!, l < q.length := fun l hl => of_decide_eq_true (c1 l hl)
        have ef : fullQ q ((List.range q.length).filter fun i => decide (n ≤ atL B i)) ((List.range q[0]!.length).filter fun j => decide (n ≤ atL B (q.length + j))) = (List.range q.length).filter fun i => decide (atL B i = n) := by
          unfold fullQ
          rw [List.filter_filter]
          refine List.filter_congr fun i hi => ?_
          have hi := List.mem_range.mp hi
          rw [← Bool.decide_and]
          refine decide_eq_decide.mpr ⟨fun ⟨h1, h2⟩ => ?_, fun h => ⟨fun j hj => ?_, by omega⟩⟩
          · refine Classical.byContradiction fun z => ?_
            have ai := (at_ i (by omega)).1
            obtain ⟨l, hl⟩ := next (by omega)
            have ll := lt (n + 1) l (by omega) hl
            have al1 := atL_eq nd (show n + 1 < B.length by omega) hl
            have lk : ¬ l < q.length := of_decide_eq_false (c2 (by omega) l hl)
            have := h1 (l - q.length) (List.mem_filter.mpr ⟨List.mem_range.mpr (by omega), decide_eq_true (by rw [show q.length + (l - q.length) = l by omega]; omega)⟩)
            rw [cell i _ hi (by omega), show q.length + (l - q.length) = l by omega] at this
            have := of_decide_eq_true this
            omega
          · obtain ⟨j1, j2⟩ := List.mem_filter.mp hj
            have j1 := List.mem_range.mp j1
            have j2 := of_decide_eq_true j2
            have nn : atL B (q.length + j) ≠ n := fun z => by
              have := rows (q.length + j) (by rw [← z]; exact (at_ _ (by omega)).2)
              omega
            rw [cell i j hi j1]
            exact decide_eq_true (by omega)
        have fne : (List.range q.length).filter (fun i => decide (atL B i = n)) ≠ [] := List.ne_nil_of_mem (List.mem_filter.mpr ⟨List.mem_range.mpr (rows l0 hl0), decide_eq_true a0⟩)
        refine ⟨done ++ [(List.range q.length).filter fun i => decide (atL B i = n)], ?_, pd.app ⟨?_, trivial⟩⟩
        · rw [en, e]
          unfold lstep
          simp only [ef]
          rw [if_pos fne]
          refine Prod.ext rfl (Prod.ext ?_ ?_)
          · show List.filter _ (List.filter _ _) = _
            rw [List.filter_filter]
            refine List.filter_congr fun i hi => ?_
            rw [← Bool.decide_and]
            refine decide_eq_decide.mpr ⟨fun ⟨h1, h2⟩ => ?_, fun h => ⟨fun z => ?_, by omega⟩⟩
            · have : atL B i ≠ n := fun z => h1 (List.mem_filter.mpr ⟨hi, decide_eq_true z⟩)
              omega
            · have := of_decide_eq_true (List.mem_filter.mp z).2
              omega
          · refine List.filter_congr fun j hj => decide_eq_decide.mpr ⟨fun h => ?_, fun h => by omega⟩
            have hj := List.mem_range.mp hj
            have nn : atL B (q.length + j) ≠ n := fun z => by
              have := rows (q.length + j) (by rw [← z]; exact (at_ _ (by omega)).2)
              omega
            omega
        · refine (List.perm_ext_iff_of_nodup (nds n (by omega)) (List.nodup_range.sublist List.filter_sublist)).mpr fun l => ?_
          rw [List.mem_filter, List.mem_range, decide_eq_true_eq]
          exact ⟨fun h => ⟨rows l h, atL_eq nd (by omega) h⟩, fun h => by rw [← h.2]; exact (at_ l (by omega)).2⟩
      | false =>
        have cols : ∀ l ∈ B[n]!, q.length ≤ l := fun l hl => Nat.le_of_not_lt (of_decide_eq_false (c1 l hl))
        have ef : fullQ q ((List.range q.length).filter fun i => decide (n ≤ atL B i)) ((List.range q[0]!.length).filter fun j => decide (n ≤ atL B (q.length + j))) = [] := List.filter_eq_nil_iff.mpr fun i hi z => by
          obtain ⟨i1, i2⟩ := List.mem_filter.mp hi
          have i1 := List.mem_range.mp i1
          have i2 := of_decide_eq_true i2
          have lc := cols l0 hl0
          have := of_decide_eq_true z (l0 - q.length) (List.mem_filter.mpr ⟨List.mem_range.mpr (by omega), decide_eq_true (by rw [show q.length + (l0 - q.length) = l0 by omega]; omega)⟩)
          rw [cell i _ i1 (by omega), show q.length + (l0 - q.length) = l0 by omega] at this
          have := of_decide_eq_true this
          omega
        have ee : empQ q ((List.range q.length).filter fun i => decide (n ≤ atL B i)) ((List.range q[0]!.length).filter fun j => decide (n ≤ atL B (q.length + j))) = (List.range q[0]!.length).filter fun j => decide (atL B (q.length + j) = n) := by
          unfold empQ
          rw [List.filter_filter]
          refine List.filter_congr fun j hj => ?_
          have hj := List.mem_range.mp hj
          rw [← Bool.decide_and]
          refine decide_eq_decide.mpr ⟨fun ⟨h1, h2⟩ => ?_, fun h => ⟨fun i hi => ?_, by omega⟩⟩
          · refine Classical.byContradiction fun z => ?_
            have ai := at_ (q.length + j) (by omega)
            obtain ⟨l, hl⟩ := next (by omega)
            have al1 := atL_eq nd (show n + 1 < B.length by omega) hl
            have lk : l < q.length := of_decide_eq_true (c2 (by omega) l hl)
            have nn : atL B (q.length + j) ≠ n + 1 := fun z => by
              have := of_decide_eq_true (c2 (by omega) (q.length + j) (by rw [← z]; exact ai.2))
              omega
            have := h1 l (List.mem_filter.mpr ⟨List.mem_range.mpr lk, decide_eq_true (by omega)⟩)
            rw [cell l j lk hj] at this
            have := of_decide_eq_false this
            omega
          · obtain ⟨i1, i2⟩ := List.mem_filter.mp hi
            have i1 := List.mem_range.mp i1
            have i2 := of_decide_eq_true i2
            rw [cell i j i1 hj]
            exact decide_eq_false (by omega)
        have ene : (List.range q[0]!.length).filter (fun j => decide (atL B (q.length + j) = n)) ≠ [] := by
          have lc := cols l0 hl0
          exact List.ne_nil_of_mem (List.mem_filter.mpr ⟨List.mem_range.mpr (show l0 - q.length < _ by omega), decide_eq_true (by rw [show q.length + (l0 - q.length) = l0 by omega]; exact a0)⟩)
        refine ⟨done ++ [((List.range q[0]!.length).filter fun j => decide (atL B (q.length + j) = n)).map fun j => q.length + j], ?_, pd.app ⟨?_, trivial⟩⟩
        · rw [en, e]
          unfold lstep
          simp only [ef, ee]
          rw [if_neg (by simp), if_pos ene]
          refine Prod.ext rfl (Prod.ext ?_ ?_)
          · refine List.filter_congr fun i hi => decide_eq_decide.mpr ⟨fun h => ?_, fun h => by omega⟩
            have hi := List.mem_range.mp hi
            have nn : atL B i ≠ n := fun z => by
              have := cols i (by rw [← z]; exact (at_ _ (by omega)).2)
              omega
            omega
          · show List.filter _ (List.filter _ _) = _
            rw [List.filter_filter]
            refine List.filter_congr fun j hj => ?_
            rw [← Bool.decide_and]
            refine decide_eq_decide.mpr ⟨fun ⟨h1, h2⟩ => ?_, fun h => ⟨fun z => ?_, by omega⟩⟩
            · have : atL B (q.length + j) ≠ n := fun z => h1 (List.mem_filter.mpr ⟨hj, decide_eq_true z⟩)
              omega
            · have := of_decide_eq_true (List.mem_filter.mp z).2
              omega
        · have nm : (((List.range q[0]!.length).filter fun j => decide (atL B (q.length + j) = n)).map fun j => q.length + j).Nodup := List.Pairwise.map _ (fun x y h => by omega) (List.nodup_range.sublist List.filter_sublist)
          refine (List.perm_ext_iff_of_nodup (nds n (by omega)) nm).mpr fun l => ?_
          rw [List.mem_map]
          constructor
          · intro h
            have lc := cols l h
            have ll := lt n l (by omega) h
            exact ⟨l - q.length, List.mem_filter.mpr ⟨List.mem_range.mpr (by omega), decide_eq_true (by rw [show q.length + (l - q.length) = l by omega]; exact atL_eq nd (by omega) h)⟩, by omega⟩
          · rintro ⟨j, hj, rfl⟩
            obtain ⟨j1, j2⟩ := List.mem_filter.mp hj
            have j1 := List.mem_range.mp j1
            have j2 := of_decide_eq_true j2
            rw [← j2]; exact (at_ _ (by omega)).2
  obtain ⟨done, e, pd⟩ := go B.length (Nat.le_refl _)
  rw [List.take_length] at pd
  have er : (List.range q.length).filter (fun i => decide (B.length ≤ atL B i)) = [] := List.filter_eq_nil_iff.mpr fun i hi z => by
    have := (at_ i (by have := List.mem_range.mp hi; omega)).1
    have := of_decide_eq_true z
    omega
  have ec : (List.range q[0]!.length).filter (fun j => decide (B.length ≤ atL B (q.length + j))) = [] := List.filter_eq_nil_iff.mpr fun j hj z => by
    have := (at_ (q.length + j) (by have := List.mem_range.mp hj; omega)).1
    have := of_decide_eq_true z
    omega
  rw [er, ec] at e
  have stop : ∀ m, liter q (B.length + m) = (done, [], []) := by
    intro m
    induction m with
    | zero => exact e
    | succ m ih =>
      show lstep q (liter q (B.length + m)) = _
      rw [ih]; rfl
  have bl : B.length ≤ q.length + q[0]!.length := by
    have a : ∀ L : List (List Nat), (∀ t ∈ L, t ≠ []) → L.length ≤ L.flatten.length := fun L h => by
      induction L with
      | nil => exact Nat.zero_le _
      | cons t L ih =>
        have a := List.length_pos_iff.mpr (h t List.mem_cons_self)
        have b := ih fun u hu => h u (List.mem_cons_of_mem _ hu)
        rw [List.length_cons, List.flatten_cons, List.length_append]; omega
    have b := a B fun t ht => by
      obtain ⟨i, hi, e⟩ := List.getElem_of_mem ht
      have := (kinds_at al i hi).1
      rw [getElem!_pos B i hi, e] at this
      exact this
    rw [pm.length_eq, List.length_range] at b
    exact b
  have := stop (q.length + q[0]!.length - B.length)
  rw [show B.length + (q.length + q[0]!.length - B.length) = q.length + q[0]!.length by omega] at this
  unfold layersQ
  rw [this]; exact pd
end
theorem atL_cons_in {b : List Nat} {B : List (List Nat)} {l : Nat} (h : l ∈ b) : atL (b :: B) l = 0 := by
  unfold atL
  rw [List.findIdx_cons, decide_eq_true h]; rfl
theorem atL_cons_out {b : List Nat} {B : List (List Nat)} {l : Nat} (h : l ∉ b) : atL (b :: B) l = atL B l + 1 := by
  unfold atL
  rw [List.findIdx_cons, decide_eq_false h]; rfl
theorem Blocks.filter {P : Nat → Bool} {L : List (List Nat)} {v : List Nat} (b : Blocks L v) : Blocks (L.map fun s => s.filter P) (v.filter P) := by
  induction b with
  | nil => exact .nil
  | cons a _ ih =>
    rw [List.filter_append, List.map_cons]
    exact .cons (a.filter P) ih
end W
set_option maxHeartbeats 1000000
namespace W
open PySem L2 G T
def atC : List Nat → Nat → Nat → List Nat
  | _, 0, _ => []
  | [], _ + 1, _ => []
  | c :: C, m + 1, i => if i < ch C.length m then c :: atC C m i else atC C (m + 1) (i - ch C.length m)
def numC : List Nat → List Nat → Nat
  | _, [] => 0
  | [], _ :: _ => 0
  | c :: C, t :: ts => if t = c then numC C ts else ch C.length ts.length + numC C (t :: ts)
theorem atC_zero (C : List Nat) (i : Nat) : atC C 0 i = [] := by cases C <;> rfl
theorem numC_nil (C : List Nat) : numC C [] = 0 := by cases C <;> rfl
theorem at_numC : ∀ (C t : List Nat), C.Nodup → t.Sublist C → numC C t < ch C.length t.length ∧ atC C t.length (numC C t) = t
  | C, [], _, _ => by
    rw [numC_nil]
    exact ⟨by rw [List.length_nil, ch_zero]; omega, atC_zero _ _⟩
  | [], x :: ts, _, h => by cases h
  | c :: C, x :: ts, nd, h => by
    obtain ⟨n1, n2⟩ := List.nodup_cons.mp nd
    show (if x = c then numC C ts else ch C.length ts.length + numC C (x :: ts)) < ch C.length ts.length + ch C.length (ts.length + 1) ∧ atC (c :: C) (ts.length + 1) (if x = c then numC C ts else ch C.length ts.length + numC C (x :: ts)) = x :: ts
    by_cases z : x = c
    · subst z
      have hs : ts.Sublist C := by
        rcases List.sublist_cons_iff.mp h with h | ⟨r, e, h⟩
        · exact (n1 (h.subset List.mem_cons_self)).elim
        · cases e; exact h
      obtain ⟨a, b⟩ := at_numC C ts n2 hs
      rw [if_pos rfl]
      refine ⟨by omega, ?_⟩
      show (if numC C ts < ch C.length ts.length then x :: atC C ts.length (numC C ts) else _) = _
      rw [if_pos a, b]
    · have hs : (x :: ts).Sublist C := by
        rcases List.sublist_cons_iff.mp h with h | ⟨r, e, h⟩
        · exact h
        · cases e; exact (z rfl).elim
      obtain ⟨a, b⟩ := at_numC C (x :: ts) n2 hs
      have a : numC C (x :: ts) < ch C.length (ts.length + 1) := a
      rw [if_neg z]
      refine ⟨by omega, ?_⟩
      show (if ch C.length ts.length + numC C (x :: ts) < ch C.length ts.length then _ else atC C (ts.length + 1) (ch C.length ts.length + numC C (x :: ts) - ch C.length ts.length)) = _
      rw [if_neg (by omega), Nat.add_sub_cancel_left]
      exact b
abbrev wA (a b : Nat) : Nat := wv a b true
abbrev fA (a b : Nat) : Nat → Nat := fun m => ch a (m + 1) * wA b (a - (m + 1))
abbrev outA (A t : List Nat) : List Nat := A.filter fun x => decide (x ∉ t)
def nuA : List Nat → List Nat → List (List Nat) → Nat
  | _, _, [] => 0
  | A, B, t :: ts => su (fA A.length B.length) (t.length - 1) + numC A t * wA B.length (A.length - t.length) + nuA B (outA A t) ts
/-- rows of layers that use up the lines A and B, the first one of A -/
def LayAB : List Nat → List Nat → List (List Nat) → Prop
  | A, B, [] => A = [] ∧ B = []
  | A, B, t :: ts => t ≠ [] ∧ t.Sublist A ∧ LayAB B (outA A t) ts
theorem outA_len : ∀ {A t : List Nat}, A.Nodup → t.Sublist A → (outA A t).length = A.length - t.length
  | A, t, nd, h => by
    have tn := nd.sublist h
    have p : (t ++ outA A t).Perm A := by
      refine (List.perm_ext_iff_of_nodup ?_ nd).mpr fun x => ?_
      · refine List.nodup_append.mpr ⟨tn, nd.sublist List.filter_sublist, fun a ha b hb e => ?_⟩
        subst e
        exact (of_decide_eq_true (List.mem_filter.mp hb).2) ha
      · rw [List.mem_append, List.mem_filter, decide_eq_true_iff]
        by_cases z : x ∈ t
        · exact ⟨fun _ => h.subset z, fun _ => .inl z⟩
        · exact ⟨fun y => y.elim (fun y => (z y).elim) fun y => y.1, fun y => .inr ⟨y, z⟩⟩
    have := p.length_eq
    rw [List.length_append] at this
    omega
theorem outA_nd {A : List Nat} (t : List Nat) (nd : A.Nodup) : (outA A t).Nodup := nd.sublist List.filter_sublist
theorem outA_perm {A t : List Nat} (nd : A.Nodup) (h : t.Sublist A) : (t ++ outA A t).Perm A := by
  have tn := nd.sublist h
  refine (List.perm_ext_iff_of_nodup ?_ nd).mpr fun x => ?_
  · refine List.nodup_append.mpr ⟨tn, nd.sublist List.filter_sublist, fun a ha b hb e => ?_⟩
    subst e
    exact (of_decide_eq_true (List.mem_filter.mp hb).2) ha
  · rw [List.mem_append, List.mem_filter, decide_eq_true_iff]
    by_cases z : x ∈ t
    · exact ⟨fun _ => h.subset z, fun _ => .inl z⟩
    · exact ⟨fun y => y.elim (fun y => (z y).elim) fun y => y.1, fun y => .inr ⟨y, z⟩⟩
theorem LayAB.perm : ∀ {L : List (List Nat)} {A B : List Nat}, A.Nodup → B.Nodup → LayAB A B L → L.flatten.Perm (A ++ B)
  | [], A, B, _, _, ⟨a, b⟩ => by subst a b; exact .nil
  | t :: ts, A, B, na, nb, ⟨_, h2, h3⟩ => by
    rw [List.flatten_cons]
    have ih := LayAB.perm nb (outA_nd t na) h3
    refine (ih.append_left t).trans ?_
    refine (List.perm_append_comm.append_left t).trans ?_
    rw [← List.append_assoc]
    exact (outA_perm na h2).append_right B
theorem LayAB.alt {h : Nat} : ∀ {L : List (List Nat)} {A B : List Nat} {k : Bool}, (∀ l ∈ A, decide (l < h) = k) → (∀ l ∈ B, decide (l < h) = !k) → LayAB A B L → Alt h k L
  | [], _, _, _, _, _, _ => trivial
  | t :: ts, A, B, k, ha, hb, ⟨h1, h2, h3⟩ => ⟨h1, fun l hl => ha l (h2.subset hl), LayAB.alt hb (fun l hl => by rw [Bool.not_not]; exact ha l (List.mem_filter.mp hl).1) h3⟩
theorem LayAB.asc : ∀ {L : List (List Nat)} {A B : List Nat}, A.Pairwise (· < ·) → B.Pairwise (· < ·) → LayAB A B L → ∀ t ∈ L, t.Pairwise (· < ·)
  | [], _, _, _, _, _ => fun t ht => by cases ht
  | t :: ts, A, B, ha, hb, ⟨_, h2, h3⟩ => fun u hu => by
    rcases List.mem_cons.mp hu with rfl | hu
    · exact ha.sublist h2
    · exact LayAB.asc hb (ha.sublist List.filter_sublist) h3 u hu
theorem asc_nodup {A : List Nat} (h : A.Pairwise (· < ·)) : A.Nodup := h.imp fun h => by omega
theorem asc_le {A : List Nat} (h : A.Pairwise (· < ·)) : A.Pairwise (· ≤ ·) := h.imp fun h => by omega
theorem asc_sub {A t : List Nat} (ha : A.Pairwise (· < ·)) (ht : t.Pairwise (· < ·)) (h : ∀ x ∈ t, x ∈ A) : t.Sublist A := by
  have e : t = A.filter fun x => decide (x ∈ t) := by
    refine T.sorted_unique ?_ (asc_le ht) (asc_le (ha.sublist List.filter_sublist))
    refine (List.perm_ext_iff_of_nodup (asc_nodup ht) ((asc_nodup ha).sublist List.filter_sublist)).mpr fun x => ?_
    rw [List.mem_filter, decide_eq_true_iff]
    exact ⟨fun y => ⟨h x y, y⟩, fun y => y.2⟩
  rw [e]
  exact List.filter_sublist
theorem lay_of {h : Nat} : ∀ {L : List (List Nat)} {A B : List Nat} {k : Bool}, A.Pairwise (· < ·) → B.Pairwise (· < ·) → (∀ l ∈ A, decide (l < h) = k) → (∀ l ∈ B, decide (l < h) = !k) → Alt h k L → (∀ t ∈ L, t.Pairwise (· < ·)) → L.flatten.Perm (A ++ B) → LayAB A B L
  | [], A, B, _, _, _, _, _, _, _, p => by
    have := p.length_eq
    rw [List.flatten_nil, List.length_nil, List.length_append] at this
    exact ⟨List.length_eq_zero_iff.mp (by omega), List.length_eq_zero_iff.mp (by omega)⟩
  | t :: ts, A, B, k, ha, hb, ka, kb, ⟨a1, a2, a3⟩, as, p => by
    rw [List.flatten_cons] at p
    have st : t.Sublist A := asc_sub ha (as t List.mem_cons_self) fun x hx => by
      rcases List.mem_append.mp (p.mem_iff.mp (List.mem_append_left _ hx)) with y | y
      · exact y
      · have q1 := a2 x hx
        have q2 := kb x y
        rw [q1] at q2
        cases k <;> cases q2
    refine ⟨a1, st, ?_⟩
    refine lay_of hb (ha.sublist List.filter_sublist) kb (fun l hl => by rw [Bool.not_not]; exact ka l (List.mem_filter.mp hl).1) a3 (fun u hu => as u (List.mem_cons_of_mem _ hu)) ?_
    have q := p.trans (((outA_perm (asc_nodup ha) st).symm.append_right B))
    rw [List.append_assoc] at q
    exact ((List.perm_append_left_iff t).mp q).trans List.perm_append_comm
theorem permL_asc : ∀ {A B : List (List Nat)}, PermL A B → (∀ t ∈ A, t.Pairwise (· < ·)) → (∀ t ∈ B, t.Pairwise (· < ·)) → A = B
  | [], [], _, _, _ => rfl
  | a :: A, b :: B, ⟨p, q⟩, ha, hb => by
    rw [T.sorted_unique p (asc_le (ha a List.mem_cons_self)) (asc_le (hb b List.mem_cons_self)), permL_asc q (fun t ht => ha t (List.mem_cons_of_mem _ ht)) fun t ht => hb t (List.mem_cons_of_mem _ ht)]
/-- the lines of a board -/
abbrev rowsL (h : Nat) : List Nat := List.range h
abbrev colsL (h w : Nat) : List Nat := List.range' h w
theorem rows_asc (h : Nat) : (rowsL h).Pairwise (· < ·) := List.pairwise_lt_range
theorem cols_asc (h w : Nat) : (colsL h w).Pairwise (· < ·) := List.pairwise_lt_range'
theorem rows_kind {h : Nat} : ∀ l ∈ rowsL h, decide (l < h) = true := fun l hl => decide_eq_true (List.mem_range.mp hl)
theorem cols_kind {h w : Nat} : ∀ l ∈ colsL h w, decide (l < h) = false := fun l hl => decide_eq_false (by have := (List.mem_range'_1.mp hl).1; omega)
theorem all_lines (h w : Nat) : rowsL h ++ colsL h w = List.range (h + w) := by
  show List.range h ++ List.range' h w = _
  rw [List.range_eq_range', List.range_eq_range', show List.range' h w = List.range' (0 + 1 * h) w by rw [Nat.zero_add, Nat.one_mul], List.range'_append]
/-- rows of layers of a board -/
def LayHW (h w : Nat) (L : List (List Nat)) : Prop := LayAB (rowsL h) (colsL h w) L ∨ LayAB (colsL h w) (rowsL h) L
section
variable {h w : Nat} {L : List (List Nat)} {q : Pic}
theorem LayHW.perm (k : LayHW h w L) : L.flatten.Perm (List.range (h + w)) := by
  rw [← all_lines]
  rcases k with k | k
  · exact k.perm (asc_nodup (rows_asc h)) (asc_nodup (cols_asc h w))
  · exact (k.perm (asc_nodup (cols_asc h w)) (asc_nodup (rows_asc h))).trans List.perm_append_comm
theorem LayHW.asc (k : LayHW h w L) : ∀ t ∈ L, t.Pairwise (· < ·) := by
  rcases k with k | k
  · exact LayAB.asc (rows_asc h) (cols_asc h w) k
  · exact LayAB.asc (cols_asc h w) (rows_asc h) k
theorem LayHW.alt (k : LayHW h w L) : ∃ s, Alt h s L := by
  rcases k with k | k
  · exact ⟨true, LayAB.alt rows_kind cols_kind k⟩
  · exact ⟨false, LayAB.alt cols_kind (fun l hl => rows_kind l hl) k⟩
theorem layP_layers (h1 : 1 ≤ h) (h30 : h ≤ 30) (w1 : 1 ≤ w) (w30 : w ≤ 30) (k : LayHW h w L) : PicP (layP h w L) ∧ (layP h w L).length = h ∧ (layP h w L)[0]!.length = w ∧ layersQ (layP h w L) = L ∧ coreQ (layP h w L) = [] := by
  have pp : PicP (layP h w L) := mkP_pp h1 h30 w1 w30
  have pl : (layP h w L).length = h := mkP_len _ _ _
  have pw : (layP h w L)[0]!.length = w := mkP_wid (by omega)
  obtain ⟨s, al⟩ := k.alt
  have e : layersQ (layP h w L) = L := by
    refine (permL_asc (runs_layers pp (s := s) (by rw [pl]; exact al) (by rw [pl, pw]; exact k.perm) fun i j hi hj => ?_) k.asc fun t ht => (layersQ_layer t ht).2.1).symm
    rw [pl] at hi
    rw [pw] at hj
    rw [pl]
    exact mkP_get hi hj
  refine ⟨pp, pl, pw, e, ?_⟩
  unfold coreQ
  refine List.filter_eq_nil_iff.mpr fun l hl => ?_
  rw [decide_eq_true_iff, e, pl, pw] at *
  exact fun z => z (k.perm.mem_iff.mpr hl)
theorem free_lays (k : PicP q) (hc : coreQ q = []) : LayHW q.length q[0]!.length (layersQ q) := by
  obtain ⟨s, al⟩ := alt_layers q
  have pm := free_perm hc
  have as : ∀ t ∈ layersQ q, t.Pairwise (· < ·) := fun t ht => (layersQ_layer t ht).2.1
  cases s with
  | true => exact .inl (lay_of (rows_asc _) (cols_asc _ _) rows_kind cols_kind al as (by rw [all_lines]; exact pm))
  | false => exact .inr (lay_of (cols_asc _ _) (rows_asc _) cols_kind (fun l hl => rows_kind l hl) al as ((by rw [all_lines]; exact pm : (layersQ q).flatten.Perm (rowsL q.length ++ colsL q.length q[0]!.length)).trans List.perm_append_comm))
theorem lays_made (k : PicP q) (hc : coreQ q = []) : layP q.length q[0]!.length (layersQ q) = q := by
  have pl : ∀ L : List (List Nat), PermL L L := fun L => by
    induction L with
    | nil => trivial
    | cons a L ih => exact ⟨.refl _, ih⟩
  exact layP_free k hc (pl _)
end
def layNo (h w : Nat) (L : List (List Nat)) : Nat := if (L[0]!)[0]! < h then nuA (rowsL h) (colsL h w) L else wA h w + nuA (colsL h w) (rowsL h) L
abbrev numQ (q : Pic) : Nat := layNo q.length q[0]!.length (layersQ q)
theorem lay_first {h w : Nat} {L : List (List Nat)} (h1 : 1 ≤ h) (k : LayAB (rowsL h) (colsL h w) L) : (L[0]!)[0]! < h := by
  cases L with
  | nil =>
    have := k.1
    have : (rowsL h).length = 0 := by rw [this]; rfl
    rw [List.length_range] at this; omega
  | cons t ts =>
    obtain ⟨k1, k2, _⟩ := k
    show t[0]! < h
    exact List.mem_range.mp (k2.subset (mem_get! (List.length_pos_iff.mpr k1)))
theorem lay_first' {h w : Nat} {L : List (List Nat)} (h1 : 1 ≤ h) (k : LayAB (colsL h w) (rowsL h) L) : ¬(L[0]!)[0]! < h := by
  cases L with
  | nil =>
    have := k.2
    have : (rowsL h).length = 0 := by rw [this]; rfl
    rw [List.length_range] at this; omega
  | cons t ts =>
    obtain ⟨k1, k2, _⟩ := k
    show ¬t[0]! < h
    have := (List.mem_range'_1.mp (k2.subset (mem_get! (List.length_pos_iff.mpr k1)))).1
    omega
end W
set_option maxHeartbeats 1000000
namespace W
open PySem L2 G T
theorem len_subG {α : Type} [DecidableEq α] {a b : List α} (nd : a.Nodup) (h : ∀ x ∈ a, x ∈ b) : a.length ≤ b.length := by
  induction a generalizing b with
  | nil => exact Nat.zero_le _
  | cons x a ih =>
    obtain ⟨n1, n2⟩ := List.nodup_cons.mp nd
    have hx := h x List.mem_cons_self
    have := ih (b := b.erase x) n2 fun y hy => (List.mem_erase_of_ne (fun e => n1 (by rw [← e]; exact hy))).mpr (h y (List.mem_cons_of_mem _ hy))
    rw [List.length_erase_of_mem hx] at this
    have : 0 < b.length := List.length_pos_of_mem hx
    rw [List.length_cons]; omega
/-- two lists of different things, the one in the other and as many -/
theorem same_mem {α : Type} [DecidableEq α] {a b : List α} (nd : a.Nodup) (h : ∀ x ∈ a, x ∈ b) (l : b.length ≤ a.length) : ∀ x ∈ b, x ∈ a := fun x hx => Classical.byContradiction fun z => by
  have := len_subG (List.nodup_cons.mpr ⟨z, nd⟩) (b := b) fun y hy => (List.mem_cons.mp hy).elim (fun e => by rw [e]; exact hx) (h y)
  rw [List.length_cons] at this; omega
theorem ord_ZN (xs : List (Int × Nat)) : (srtBy (eP eZ eN) xs).Pairwise fun a b => a.1 ≤ b.1 := by
  unfold srtBy
  refine (PySem.W.sort_pairwise (PySem.W.sortLe_total _ false _) _).imp fun {a b} h => ?_
  have h : (!PySem.W.dataLt (eP eZ eN b).pd (eP eZ eN a).pd) = true := h
  refine Int.not_lt.mp fun z => ?_
  have : PySem.W.dataLt (eP eZ eN b).pd (eP eZ eN a).pd = true := by
    show PySem.W.dataLt (.tuple [.int b.1, .int (b.2 : Int)]) (.tuple [.int a.1, .int (a.2 : Int)]) = true
    rw [PySem.W.dataLt_tuple]
    show PyProof.Rows.lexLt PyProof.Rows.itemOrd [.inl b.1, .inl (b.2 : Int)] [.inl a.1, .inl (a.2 : Int)] = true
    rw [PyProof.Rows.lex_diff (fun e => by have := Sum.inl.inj e; omega)]
    exact decide_eq_true z
  rw [this] at h; cases h
/-- the columns, those with more black cells first -/
def ordC (c : List Nat) : List Nat := (srtBy (eP eZ eN) ((enumP c).map fun x => (-((x.2 : Nat) : Int), x.1))).map fun x => x.2
theorem ordC_perm (c : List Nat) : (ordC c).Perm (List.range c.length) := by
  unfold ordC
  refine ((srtBy_perm _ _).map _).trans ?_
  rw [List.map_map, enumP_eq, List.map_map]
  refine .of_eq ?_
  exact List.map_id' _
theorem ordC_desc (c : List Nat) : (ordC c).Pairwise fun a b => c[b]! ≤ c[a]! := by
  unfold ordC
  rw [List.pairwise_map]
  have hv : ∀ x ∈ srtBy (eP eZ eN) ((enumP c).map fun x => (-((x.2 : Nat) : Int), x.1)), x.1 = -((c[x.2]! : Nat) : Int) := fun x hx => by
    obtain ⟨y, hy, rfl⟩ := List.mem_map.mp ((srtBy_perm _ _).mem_iff.mp hx)
    show -((y.2 : Nat) : Int) = _
    rw [(mem_enumP hy).2]
  refine (ord_ZN _).imp_of_mem fun {a b} ha hb h => ?_
  rw [hv a ha, hv b hb] at h
  omega
theorem ordC_nd (c : List Nat) : (ordC c).Nodup := (ordC_perm c).nodup_iff.mpr List.nodup_range
theorem ordC_len (c : List Nat) : (ordC c).length = c.length := by rw [(ordC_perm c).length_eq, List.length_range]
def bltQ (r c : List Nat) : Pic := r.map fun m => (List.range c.length).map fun x => decide (x ∈ (ordC c).take m)
theorem blt_len (r c : List Nat) : (bltQ r c).length = r.length := List.length_map _
theorem blt_row {r c : List Nat} {i : Nat} (hi : i < r.length) : (bltQ r c)[i]! = (List.range c.length).map fun x => decide (x ∈ (ordC c).take r[i]!) := by
  unfold bltQ; rw [get!_map' _ hi]
theorem blt_get {r c : List Nat} {i j : Nat} (hi : i < r.length) (hj : j < c.length) : ((bltQ r c)[i]!)[j]! = decide (j ∈ (ordC c).take r[i]!) := by
  rw [blt_row hi, get!_map' _ (by rw [List.length_range]; exact hj), get!_range hj]
theorem blt_wid {r c : List Nat} (h : 0 < r.length) : ((bltQ r c)[0]!).length = c.length := by rw [blt_row h, List.length_map, List.length_range]
theorem blt_pp {r c : List Nat} (h1 : 1 ≤ r.length) (h30 : r.length ≤ 30) (w1 : 1 ≤ c.length) (w30 : c.length ≤ 30) : PicP (bltQ r c) := by
  have e := blt_wid (r := r) (c := c) h1
  refine ⟨fun x hx => ?_, by rw [blt_len]; exact h1, by rw [blt_len]; exact h30, by rw [e]; exact w1, by rw [e]; exact w30⟩
  obtain ⟨m, _, rfl⟩ := List.mem_map.mp hx
  rw [e, List.length_map, List.length_range]
/-- its rows have the told sums -/
theorem blt_rows {r c : List Nat} (h : ∀ x ∈ r, x ≤ c.length) : rowS' (bltQ r c) = r := by
  unfold rowS' bltQ
  rw [List.map_map]
  refine (List.map_congr_left fun m hm => ?_).trans (List.map_id' r)
  show ((List.range c.length).map fun x => decide (x ∈ (ordC c).take m)).count true = m
  rw [List.count, List.countP_map, List.countP_eq_length_filter]
  have hp : ((List.range c.length).filter ((fun x => x == true) ∘ fun x => decide (x ∈ (ordC c).take m))).Perm ((ordC c).take m) := by
    refine (List.perm_ext_iff_of_nodup (List.nodup_range.sublist List.filter_sublist) ((ordC_nd c).sublist (List.take_sublist _ _))).mpr fun x => ?_
    rw [List.mem_filter]
    constructor
    · rintro ⟨_, b⟩
      simpa using b
    · intro hx
      exact ⟨(ordC_perm c).mem_iff.mp (List.mem_of_mem_take hx), by simpa using hx⟩
  rw [hp.length_eq, List.length_take, ordC_len]
  have := h m hm
  omega
/-- it has no core -/
theorem blt_free {r c : List Nat} (h1 : 1 ≤ r.length) : coreQ (bltQ r c) = [] := Classical.byContradiction fun z => by
  obtain ⟨a, b, x, y, ha, hb, hx, hy⟩ := coreR z
  obtain ⟨x0, x1, x2⟩ := mem_dn.mp hx
  obtain ⟨y0, y1, y2⟩ := mem_dn.mp hy
  rw [blt_len] at ha hb
  rw [blt_wid h1] at x0 y0
  rw [blt_get ha x0] at x1
  rw [blt_get hb x0] at x2
  rw [blt_get hb y0] at y1
  rw [blt_get ha y0] at y2
  have x1 := of_decide_eq_true x1
  have x2 := of_decide_eq_false x2
  have y1 := of_decide_eq_true y1
  have y2 := of_decide_eq_false y2
  rcases Nat.le_total r[a]! r[b]! with l | l
  · exact x2 ((List.take_sublist_take_left l).mem x1)
  · exact y2 ((List.take_sublist_take_left l).mem y1)
end W
set_option maxHeartbeats 1000000
namespace W
open PySem L2 G T
def cellY (h w f s : Nat) : List (Nat × Nat) := if (((f : Nat) : Int) - ((s : Nat) : Int)).natAbs < 2 then [(f + s, (if f = s then 2 else 1) * sj h f * sj w s)] else []
def rowL (h w f n : Nat) : List (Nat × Nat) := (List.range n).flatMap fun s => cellY h w f (s + 1)
def tabL (h w n : Nat) : List (Nat × Nat) := (List.range n).flatMap fun f => rowL h w (f + 1) w
def ltD (h w : Nat) : List (Nat × Nat) := daddAll (tabL h w h) []
end W
set_option maxHeartbeats 1000000
namespace W
open PySem L2 G T
def alt2 : List Nat → Nat × Nat
  | [] => (0, 0)
  | m :: ms => (m + (alt2 ms).2, (alt2 ms).1)
def stepG : Nat → Nat → List Nat → List (List Nat)
  | _, _, [] => []
  | a, c, m :: ms => List.range' a m :: stepG c (a + m) ms
theorem outA_range (a m x : Nat) : outA (List.range' a (m + x)) (List.range' a m) = List.range' (a + m) x := by
  unfold outA
  rw [← List.range'_append_1, List.filter_append, List.filter_eq_nil_iff.mpr, List.filter_eq_self.mpr, List.nil_append]
  · intro y hy
    rw [decide_eq_true_iff]
    intro z
    have := (List.mem_range'_1.mp hy).1
    have := (List.mem_range'_1.mp z).2
    omega
  · intro y hy
    rw [decide_eq_true_iff]
    exact fun z => z hy
theorem stepG_lay : ∀ (ms : List Nat) (a c : Nat), (∀ m ∈ ms, 0 < m) → LayAB (List.range' a (alt2 ms).1) (List.range' c (alt2 ms).2) (stepG a c ms)
  | [], _, _, _ => ⟨rfl, rfl⟩
  | m :: ms, a, c, h => by
    have m0 := h m List.mem_cons_self
    refine ⟨fun e => ?_, ?_, ?_⟩
    · have := congrArg List.length e
      rw [List.length_range'] at this
      have : m = 0 := this
      omega
    · show (List.range' a m).Sublist (List.range' a (m + (alt2 ms).2))
      rw [← List.range'_append_1]
      exact List.sublist_append_left _ _
    · show LayAB (List.range' c (alt2 ms).1) (outA (List.range' a (m + (alt2 ms).2)) (List.range' a m)) (stepG c (a + m) ms)
      rw [outA_range]
      exact stepG_lay ms c (a + m) fun x hx => h x (List.mem_cons_of_mem _ hx)
theorem stepG_len : ∀ (ms : List Nat) (a c : Nat), (stepG a c ms).map (fun s => s.length) = ms
  | [], _, _ => rfl
  | m :: ms, a, c => by
    show (List.range' a m).length :: (stepG c (a + m) ms).map (fun s => s.length) = _
    rw [stepG_len ms, List.length_range']
/-- the lines of the layers one, three, .. and two, four, .. -/
def fl2 : List (List Nat) → List Nat × List Nat
  | [] => ([], [])
  | t :: ts => (t ++ (fl2 ts).2, (fl2 ts).1)
theorem fl2_step : ∀ (ms : List Nat) (a c : Nat), fl2 (stepG a c ms) = (List.range' a (alt2 ms).1, List.range' c (alt2 ms).2)
  | [], _, _ => rfl
  | m :: ms, a, c => by
    show (List.range' a m ++ (fl2 (stepG c (a + m) ms)).2, (fl2 (stepG c (a + m) ms)).1) = (List.range' a (m + (alt2 ms).2), List.range' c (alt2 ms).1)
    rw [fl2_step ms, List.range'_append_1]
theorem fl2_len : ∀ L : List (List Nat), alt2 (L.map fun s => s.length) = ((fl2 L).1.length, (fl2 L).2.length)
  | [] => rfl
  | t :: L => by
    show (t.length + (alt2 (L.map fun s => s.length)).2, (alt2 (L.map fun s => s.length)).1) = ((t ++ (fl2 L).2).length, (fl2 L).1.length)
    rw [fl2_len L, List.length_append]
theorem fl2_mem : ∀ {L : List (List Nat)} {x : Nat}, x ∈ (fl2 L).1 ∨ x ∈ (fl2 L).2 → x ∈ L.flatten
  | [], _, h => by rcases h with h | h <;> cases h
  | t :: L, x, h => by
    rw [List.flatten_cons, List.mem_append]
    rcases h with h | h
    · rcases List.mem_append.mp h with h | h
      · exact .inl h
      · exact .inr (fl2_mem (.inr h))
    · exact .inr (fl2_mem (.inl h))
def ixS : Bool → List Nat → Nat → Nat
  | _, [], _ => 0
  | true, m :: ms, i => if i < m then 0 else ixS false ms (i - m) + 1
  | false, _ :: ms, i => ixS true ms i + 1
theorem at_ix : ∀ L : List (List Nat), L.flatten.Nodup → (∀ i, i < (fl2 L).1.length → atL L ((fl2 L).1[i]!) = ixS true (L.map fun s => s.length) i) ∧ (∀ i, i < (fl2 L).2.length → atL L ((fl2 L).2[i]!) = ixS false (L.map fun s => s.length) i)
  | [], _ => ⟨fun i hi => (by cases hi), fun i hi => (by cases hi)⟩
  | t :: L, nd => by
    rw [List.flatten_cons] at nd
    obtain ⟨_, nL, dj⟩ := List.nodup_append.mp nd
    obtain ⟨a, b⟩ := at_ix L nL
    have out : ∀ x, x ∈ (fl2 L).1 ∨ x ∈ (fl2 L).2 → x ∉ t := fun x hx z => dj x z x (fl2_mem hx) rfl
    refine ⟨fun i hi => ?_, fun i hi => ?_⟩
    · have hi : i < (t ++ (fl2 L).2).length := hi
      show atL (t :: L) ((t ++ (fl2 L).2)[i]!) = if i < t.length then 0 else ixS false (L.map fun s => s.length) (i - t.length) + 1
      by_cases z : i < t.length
      · rw [get!_append_left z, if_pos z]
        exact atL_cons_in (mem_get! z)
      · rw [List.length_append] at hi
        rw [get!_append_right (by omega) hi, if_neg z, atL_cons_out (out _ (.inr (mem_get! (by omega)))), b _ (by omega)]
    · show atL (t :: L) ((fl2 L).1[i]!) = ixS true (L.map fun s => s.length) i + 1
      have hi : i < (fl2 L).1.length := hi
      rw [atL_cons_out (out _ (.inl (mem_get! hi))), a _ hi]
theorem ixS_up : ∀ (ms : List Nat) (i : Nat), ixS true ms i ≤ ixS true ms (i + 1) ∧ ixS false ms i ≤ ixS false ms (i + 1)
  | [], _ => ⟨Nat.le_refl _, Nat.le_refl _⟩
  | m :: ms, i => by
    refine ⟨?_, ?_⟩
    · show (if i < m then 0 else ixS false ms (i - m) + 1) ≤ (if i + 1 < m then 0 else ixS false ms (i + 1 - m) + 1)
      by_cases z : i < m
      · rw [if_pos z]; exact Nat.zero_le _
      · rw [if_neg z, if_neg (by omega), show i + 1 - m = i - m + 1 by omega]
        have := (ixS_up ms (i - m)).2
        omega
    · show ixS true ms i + 1 ≤ ixS true ms (i + 1) + 1
      have := (ixS_up ms i).1
      omega
theorem fl2_kinds : ∀ {L : List (List Nat)} {A B : List Nat} {P R : Nat → Bool}, (∀ x ∈ A, P x = true ∧ R x = false) → (∀ x ∈ B, P x = false ∧ R x = true) → LayAB A B L → L.flatten.filter P = (fl2 L).1 ∧ L.flatten.filter R = (fl2 L).2
  | [], _, _, _, _, _, _, _ => ⟨rfl, rfl⟩
  | t :: L, A, B, P, R, hA, hB, ⟨_, ts, k⟩ => by
    obtain ⟨a, b⟩ := fl2_kinds (P := R) (R := P) (fun x hx => ⟨(hB x hx).2, (hB x hx).1⟩) (fun x hx => ⟨(hA x (List.mem_filter.mp hx).1).2, (hA x (List.mem_filter.mp hx).1).1⟩) k
    have e1 : t.filter P = t := List.filter_eq_self.mpr fun x hx => (hA x (ts.subset hx)).1
    have e2 : t.filter R = [] := List.filter_eq_nil_iff.mpr fun x hx z => by rw [(hA x (ts.subset hx)).2] at z; cases z
    rw [List.flatten_cons, List.filter_append, List.filter_append, e1, e2, a, b]
    exact ⟨rfl, rfl⟩
theorem lay_alt2 : ∀ {L : List (List Nat)} {A B : List Nat}, A.Nodup → B.Nodup → LayAB A B L → alt2 (L.map fun s => s.length) = (A.length, B.length) ∧ ∀ m ∈ L.map (fun s => s.length), 0 < m
  | [], _, _, _, _, ⟨rfl, rfl⟩ => ⟨rfl, fun m hm => by cases hm⟩
  | t :: L, A, B, na, nb, ⟨tn, ts, k⟩ => by
    obtain ⟨a, b⟩ := lay_alt2 nb (outA_nd t na) k
    have ol := outA_len na ts
    have tl := ts.length_le
    refine ⟨?_, fun m hm => ?_⟩
    · show (t.length + (alt2 (L.map fun s => s.length)).2, (alt2 (L.map fun s => s.length)).1) = _
      rw [a]
      show (t.length + (outA A t).length, B.length) = _
      rw [ol, show t.length + (A.length - t.length) = A.length by omega]
    · rcases List.mem_cons.mp hm with rfl | hm
      · exact List.length_pos_iff.mpr tn
      · exact b m hm
structure ShapeOk (h w : Nat) (v : Bool × List Nat) : Prop where
  pos : ∀ m ∈ v.2, 0 < m
  sums : alt2 v.2 = if v.1 = true then (h, w) else (w, h)
abbrev shapeV (q : Pic) : Bool × List Nat := (decide (((layersQ q)[0]!)[0]! < q.length), (layersQ q).map fun s => s.length)
def stairL (h : Nat) (v : Bool × List Nat) : List (List Nat) := if v.1 = true then stepG 0 h v.2 else stepG h 0 v.2
section
variable {h w : Nat} {v : Bool × List Nat} {q : Pic}
theorem stair_lay (k : ShapeOk h w v) : LayHW h w (stairL h v) := by
  obtain ⟨b, ms⟩ := v
  have s := k.sums
  cases b with
  | true =>
    have s : alt2 ms = (h, w) := s
    have := stepG_lay ms 0 h k.pos
    rw [s, ← List.range_eq_range'] at this
    exact .inl this
  | false =>
    have s : alt2 ms = (w, h) := s
    have := stepG_lay ms h 0 k.pos
    rw [s, ← List.range_eq_range'] at this
    exact .inr this
theorem shape_ok (k : PicP q) (hc : coreQ q = []) : ShapeOk q.length q[0]!.length (shapeV q) := by
  have h1 := k.h1
  have lr : (rowsL q.length).length = q.length := List.length_range
  have lc : (colsL q.length q[0]!.length).length = q[0]!.length := List.length_range' ..
  rcases free_lays k hc with y | y
  · obtain ⟨a, b⟩ := lay_alt2 (asc_nodup (rows_asc _)) (asc_nodup (cols_asc _ _)) y
    refine ⟨b, ?_⟩
    rw [lr, lc] at a
    rw [if_pos (decide_eq_true (lay_first h1 y))]
    exact a
  · obtain ⟨a, b⟩ := lay_alt2 (asc_nodup (cols_asc _ _)) (asc_nodup (rows_asc _)) y
    refine ⟨b, ?_⟩
    rw [lr, lc] at a
    rw [if_neg (fun z => lay_first' h1 y (of_decide_eq_true z))]
    exact a
/-- the first picture of a shape -/
abbrev firstP (h w : Nat) (v : Bool × List Nat) : Pic := layP h w (stairL h v)
theorem first_ok (h1 : 1 ≤ h) (h30 : h ≤ 30) (w1 : 1 ≤ w) (w30 : w ≤ 30) (k : ShapeOk h w v) : PicP (firstP h w v) ∧ (firstP h w v).length = h ∧ (firstP h w v)[0]!.length = w ∧ coreQ (firstP h w v) = [] ∧ shapeV (firstP h w v) = v := by
  obtain ⟨a, b, c, d, e⟩ := layP_layers h1 h30 w1 w30 (stair_lay k)
  refine ⟨a, b, c, e, ?_⟩
  unfold shapeV
  rw [d, b]
  obtain ⟨s, ms⟩ := v
  have sl := stair_lay k
  have ss := k.sums
  cases s with
  | true =>
    have ss : alt2 ms = (h, w) := ss
    have := stepG_lay ms 0 h k.pos
    rw [ss, ← List.range_eq_range'] at this
    show (decide (((stepG 0 h ms)[0]!)[0]! < h), (stepG 0 h ms).map fun s => s.length) = _
    rw [decide_eq_true (lay_first h1 this), stepG_len]
  | false =>
    have ss : alt2 ms = (w, h) := ss
    have := stepG_lay ms h 0 k.pos
    rw [ss, ← List.range_eq_range'] at this
    show (decide (((stepG h 0 ms)[0]!)[0]! < h), (stepG h 0 ms).map fun s => s.length) = _
    rw [decide_eq_false (lay_first' h1 this), stepG_len]
/-- rows and columns in the order of their layers -/
abbrev rowsO (q : Pic) : List Nat := (layersQ q).flatten.filter fun l => decide (l < q.length)
abbrev colsO (q : Pic) : List Nat := ((layersQ q).flatten.filter fun l => decide (l ≥ q.length)).map fun l => l - q.length
theorem at_both (h1 : 1 ≤ h) {L : List (List Nat)} (y : LayHW h w L) (hd : L.map (fun s => s.length) = v.2) (hb : v.1 = decide ((L[0]!)[0]! < h)) : (L.flatten.filter fun l => decide (l < h)).length = h ∧ (L.flatten.filter fun l => decide (l ≥ h)).length = w ∧ (∀ i, i < h → atL L ((L.flatten.filter fun l => decide (l < h))[i]!) = ixS v.1 v.2 i) ∧ ∀ j, j < w → atL L ((L.flatten.filter fun l => decide (l ≥ h))[j]!) = ixS (!v.1) v.2 j := by
  have nd : L.flatten.Nodup := y.perm.nodup_iff.mpr List.nodup_range
  obtain ⟨a, b⟩ := at_ix L nd
  have lr : (rowsL h).length = h := List.length_range
  have lc : (colsL h w).length = w := List.length_range' ..
  have fl := fl2_len L
  have kr : ∀ x ∈ rowsL h, decide (x < h) = true ∧ decide (x ≥ h) = false := fun x hx => ⟨decide_eq_true (List.mem_range.mp hx), decide_eq_false (by have := List.mem_range.mp hx; omega)⟩
  have kc : ∀ x ∈ colsL h w, decide (x < h) = false ∧ decide (x ≥ h) = true := fun x hx => ⟨decide_eq_false (by have := (List.mem_range'_1.mp hx).1; omega), decide_eq_true (by have := (List.mem_range'_1.mp hx).1; omega)⟩
  rcases y with y | y
  · obtain ⟨e1, e2⟩ := fl2_kinds (P := fun l => decide (l < h)) (R := fun l => decide (l ≥ h)) kr kc y
    have al := (lay_alt2 (asc_nodup (rows_asc _)) (asc_nodup (cols_asc _ _)) y).1
    rw [fl, lr, lc] at al
    have l1 : (fl2 L).1.length = h := congrArg Prod.fst al
    have l2 : (fl2 L).2.length = w := congrArg Prod.snd al
    rw [decide_eq_true (lay_first h1 y)] at hb
    rw [e1, e2, l1, l2, hb, ← hd]
    rw [l1] at a
    rw [l2] at b
    exact ⟨rfl, rfl, a, b⟩
  · obtain ⟨e1, e2⟩ := fl2_kinds (P := fun l => decide (l ≥ h)) (R := fun l => decide (l < h)) (fun x hx => ⟨(kc x hx).2, (kc x hx).1⟩) (fun x hx => ⟨(kr x hx).2, (kr x hx).1⟩) y
    have al := (lay_alt2 (asc_nodup (cols_asc _ _)) (asc_nodup (rows_asc _)) y).1
    rw [fl, lr, lc] at al
    have l1 : (fl2 L).1.length = w := congrArg Prod.fst al
    have l2 : (fl2 L).2.length = h := congrArg Prod.snd al
    rw [decide_eq_false (lay_first' h1 y)] at hb
    rw [e1, e2, l1, l2, hb, ← hd]
    rw [l1] at a
    rw [l2] at b
    exact ⟨rfl, rfl, b, a⟩
theorem first_cell (h1 : 1 ≤ h) (h30 : h ≤ 30) (w1 : 1 ≤ w) (w30 : w ≤ 30) (k : ShapeOk h w v) {i j : Nat} (hi : i < h) (hj : j < w) : ((firstP h w v)[i]!)[j]! = decide (ixS v.1 v.2 i < ixS (!v.1) v.2 j) := by
  have sl := stair_lay k
  have nd : (stairL h v).flatten.Nodup := sl.perm.nodup_iff.mpr List.nodup_range
  obtain ⟨a, b⟩ := at_ix _ nd
  refine (mkP_get hi hj).trans ?_
  obtain ⟨s, ms⟩ := v
  have ss := k.sums
  cases s with
  | true =>
    have ss : alt2 ms = (h, w) := ss
    have e : fl2 (stairL h (true, ms)) = (List.range' 0 h, List.range' h w) := by
      show fl2 (stepG 0 h ms) = _
      rw [fl2_step, ss]
    have el : (stairL h (true, ms)).map (fun s => s.length) = ms := stepG_len ms 0 h
    rw [e, el, List.length_range'] at a
    rw [e, el, List.length_range'] at b
    have a := a i hi
    have b := b j hj
    have g1 : (List.range' 0 h)[i]! = i := by rw [← List.range_eq_range']; exact get!_range hi
    have g2 : (List.range' h w)[j]! = h + j := by rw [getElem!_pos _ j (by rw [List.length_range']; exact hj), List.getElem_range', Nat.one_mul]
    rw [g1] at a
    rw [g2] at b
    rw [a, b]; rfl
  | false =>
    have ss : alt2 ms = (w, h) := ss
    have e : fl2 (stairL h (false, ms)) = (List.range' h w, List.range' 0 h) := by
      show fl2 (stepG h 0 ms) = _
      rw [fl2_step, ss]
    have el : (stairL h (false, ms)).map (fun s => s.length) = ms := stepG_len ms h 0
    rw [e, el, List.length_range'] at a
    rw [e, el, List.length_range'] at b
    have a := a j hj
    have b := b i hi
    have g1 : (List.range' 0 h)[i]! = i := by rw [← List.range_eq_range']; exact get!_range hi
    have g2 : (List.range' h w)[j]! = h + j := by rw [getElem!_pos _ j (by rw [List.length_range']; exact hj), List.getElem_range', Nat.one_mul]
    rw [g2] at a
    rw [g1] at b
    rw [a, b]; rfl
theorem free_cell (k : PicP q) (hc : coreQ q = []) {i j : Nat} (hi : i < q.length) (hj : j < q[0]!.length) : (q[i]!)[j]! = decide (atL (layersQ q) i < atL (layersQ q) (q.length + j)) := by
  conv => lhs; rw [← lays_made k hc]
  exact mkP_get hi hj
theorem orders_ok (k : PicP q) (hc : coreQ q = []) : (rowsO q).length = q.length ∧ (colsO q).length = q[0]!.length ∧ (∀ i ∈ rowsO q, i < q.length) ∧ ∀ j ∈ colsO q, j < q[0]!.length := by
  obtain ⟨a, b, _, _⟩ := at_both (v := shapeV q) k.h1 (free_lays k hc) rfl rfl
  refine ⟨a, by rw [List.length_map]; exact b, fun i hi => of_decide_eq_true (List.mem_filter.mp hi).2, fun j hj => ?_⟩
  obtain ⟨l, hl, rfl⟩ := List.mem_map.mp hj
  have := List.mem_range.mp ((free_lays k hc).perm.mem_iff.mp (List.mem_filter.mp hl).1)
  have := of_decide_eq_true (List.mem_filter.mp hl).2
  have w1 := k.w1
  omega
theorem stairs_eq (k : PicP q) (hc : coreQ q = []) : ((rowsO q).map fun i => (colsO q).map fun j => (q[i]!)[j]!) = firstP q.length q[0]!.length (shapeV q) := by
  obtain ⟨l1, l2, m1, m2⟩ := orders_ok k hc
  obtain ⟨_, b, c, d⟩ := at_both (v := shapeV q) k.h1 (free_lays k hc) rfl rfl
  have so := shape_ok k hc
  have mr : ∀ {α β : Type} [Inhabited α] (xs : List α) (f : α → β), xs.map f = (List.range xs.length).map fun i => f xs[i]! := fun xs f => by
    conv => lhs; rw [← map_get xs]
    rw [List.map_map]; rfl
  rw [mr (rowsO q), l1]
  show _ = (List.range q.length).map fun i => (List.range q[0]!.length).map fun j => _
  refine List.map_congr_left fun i hi => ?_
  have hi := List.mem_range.mp hi
  rw [mr (colsO q), l2]
  refine List.map_congr_left fun j hj => ?_
  have hj := List.mem_range.mp hj
  have fc := first_cell k.h1 k.h30 k.w1 k.w30 so hi hj
  have e : ((firstP q.length q[0]!.length (shapeV q))[i]!)[j]! = decide (atL (stairL q.length (shapeV q)) i < atL (stairL q.length (shapeV q)) (q.length + j)) := mkP_get hi hj
  rw [← e, fc]
  show ((q[(rowsO q)[i]!]!)[(colsO q)[j]!]!) = _
  have g2 : (colsO q)[j]! = ((layersQ q).flatten.filter fun l => decide (l ≥ q.length))[j]! - q.length := get!_map' _ (by rw [b]; exact hj)
  have ge : ((layersQ q).flatten.filter fun l => decide (l ≥ q.length))[j]! ≥ q.length := by
    have m := mem_get! (xs := (layersQ q).flatten.filter fun l => decide (l ≥ q.length)) (i := j) (by rw [b]; exact hj)
    exact of_decide_eq_true (List.mem_filter.mp m).2
  rw [free_cell k hc (m1 _ (mem_get! (by rw [l1]; exact hi))) (m2 _ (mem_get! (by rw [l2]; exact hj))), c i hi, g2, show q.length + (((layersQ q).flatten.filter fun l => decide (l ≥ q.length))[j]! - q.length) = ((layersQ q).flatten.filter fun l => decide (l ≥ q.length))[j]! by omega, d j hj]
theorem idx_at {xs : List Nat} (nd : xs.Nodup) {i : Nat} (hi : i < xs.length) : xs.idxOf xs[i]! = i := by
  rw [getElem!_pos xs i hi]
  exact List.Nodup.idxOf_getElem nd i hi
theorem at_idx {xs : List Nat} {x : Nat} (hx : x ∈ xs) : xs[xs.idxOf x]! = x := by
  have hl := List.idxOf_lt_length_of_mem hx
  rw [getElem!_pos xs _ hl]
  exact List.getElem_idxOf hl
theorem Alt.map {h : Nat} {f : Nat → Nat} : ∀ {L : List (List Nat)} {s : Bool}, (∀ l ∈ L.flatten, decide (f l < h) = decide (l < h)) → Alt h s L → Alt h s (L.map fun t => t.map f)
  | [], _, _, _ => trivial
  | t :: L, s, hf, k => by
    obtain ⟨a, b, c⟩ := k
    refine ⟨fun e => a (List.map_eq_nil_iff.mp e), fun l hl => ?_, Alt.map (fun l hl => hf l (by rw [List.flatten_cons]; exact List.mem_append_right _ hl)) c⟩
    obtain ⟨x, hx, rfl⟩ := List.mem_map.mp hl
    rw [hf x (by rw [List.flatten_cons]; exact List.mem_append_left _ hx)]
    exact b x hx
end
end W
set_option maxHeartbeats 1000000
namespace T
open PySem L2 G
theorem wp_put {α : Type} {e : α → D} {env : DEnv} {tp t2' : List D} {mk : SE D} {κ : SS} {N : Wn} {R : Wr} {B C : Wn} {i k : Nat} {x : α} {xs : List α} (he : env[i]? = some (some (eL e xs))) (hk : mk env tp = .ok (eN k) t2') (hl : k < xs.length) (hn : WP N R B C (κ (env.set i (some (eL e (xs.set k x)))) t2')) : WP N R B C (putS i mk (e x) κ env tp) := by
  unfold putS
  rw [he]
  show WP N R B C ((mk env tp).bindS fun k tp2 => (match k with
      | .int n => (match ixN (xs.map e).length n with
        | some j => κ (env.set i (some (.lst ((xs.map e).set j (e x))))) tp2
        | none => RS.stuck)
      | _ => RS.stuck))
  rw [hk]
  show WP N R B C (match ixN (xs.map e).length (k : Int) with
        | some j => κ (env.set i (some (.lst ((xs.map e).set j (e x))))) t2'
        | none => RS.stuck)
  rw [List.length_map, ixN_nat hl]
  show WP N R B C (κ (env.set i (some (.lst ((xs.map e).set k (e x))))) t2')
  rw [← List.map_set]
  exact hn
theorem wp_lset2 {env : DEnv} {tp t1' t2' t3' : List D} {mk1 mk2 : SE D} {ms : SE (List D)} {N : Wn} {R : Wr} {B C : Wn} {i k1 k2 a b : Nat} {xs : List Nat} (he : env[i]? = some (some (eL eN xs))) (hm : ms env tp = .ok [eN a, eN b] t1') (h1 : mk1 env t1' = .ok (eN k1) t2') (h2 : mk2 (env.set i (some (eL eN (xs.set k1 a)))) t2' = .ok (eN k2) t3') (l1 : k1 < xs.length) (l2 : k2 < xs.length) (hn : N (env.set i (some (eL eN ((xs.set k1 a).set k2 b)))) t3') : WP N R B C (lset2S i mk1 mk2 ms env tp) := by
  unfold lset2S
  rw [hm]
  show WP N R B C (putS i mk1 (eN a) (putS i mk2 (eN b) fun env tp => .nx env tp) env t1')
  have hi : i < env.length := (List.getElem?_eq_some_iff.mp he).1
  refine wp_put he h1 l1 (wp_put (xs := xs.set k1 a) ?_ h2 (by rw [List.length_set]; exact l2) ?_)
  · rw [List.getElem?_set_self hi]
  · rw [List.set_set]; exact .nx hn
end T
namespace W
open PySem L2 G T
theorem zip_self {α β : Type} (f : α → β) : ∀ L : List α, L.zip (L.map f) = L.map fun x => (x, f x)
  | [] => rfl
  | x :: L => by rw [List.map_cons, List.zip_cons_cons, zip_self f L, List.map_cons]
def numM (r : List Nat) (t : Nat) : Nat := (r.filter fun m => decide (m > t)).length
def conjR (r : List Nat) (w : Nat) : List Nat := (List.range w).map (numM r)
theorem numM_le (r : List Nat) (t : Nat) : numM r t ≤ r.length := List.length_filter_le _ _
theorem numM_down {r : List Nat} {a b : Nat} (h : a ≤ b) : numM r b ≤ numM r a := by
  unfold numM
  rw [← List.countP_eq_length_filter, ← List.countP_eq_length_filter]
  exact List.countP_mono_left fun x _ hx => decide_eq_true (Nat.lt_of_le_of_lt h (of_decide_eq_true hx))
theorem numM_lt : ∀ {r : List Nat} {a b i : Nat}, i < r.length → a < r[i]! → r[i]! ≤ b → numM r b < numM r a
  | [], _, _, i, hi, _, _ => by cases hi
  | m :: r, a, b, 0, _, h1, h2 => by
    have h1 : a < m := h1
    have h2 : m ≤ b := h2
    have := numM_down (r := r) (show a ≤ b by omega)
    unfold numM at this ⊢
    rw [List.filter_cons_of_pos (p := fun m => decide (m > a)) (decide_eq_true (p := m > a) h1), List.filter_cons_of_neg (p := fun m => decide (m > b)) (fun z => by have := of_decide_eq_true (p := m > b) z; omega), List.length_cons]
    omega
  | m :: r, a, b, i + 1, hi, h1, h2 => by
    have ih := numM_lt (r := r) (a := a) (b := b) (i := i) (by rw [List.length_cons] at hi; omega) h1 h2
    have ab : a ≤ b := by omega
    unfold numM at ih ⊢
    by_cases z : m > b
    · rw [List.filter_cons_of_pos (p := fun m => decide (m > b)) (decide_eq_true (p := m > b) z), List.filter_cons_of_pos (p := fun m => decide (m > a)) (decide_eq_true (p := m > a) (by omega)), List.length_cons, List.length_cons]; omega
    · rw [List.filter_cons_of_neg (p := fun m => decide (m > b)) (fun y => z (of_decide_eq_true (p := m > b) y))]
      by_cases y : m > a
      · rw [List.filter_cons_of_pos (p := fun m => decide (m > a)) (decide_eq_true (p := m > a) y), List.length_cons]; omega
      · rw [List.filter_cons_of_neg (p := fun m => decide (m > a)) (fun x => y (of_decide_eq_true (p := m > a) x))]; exact ih
theorem mem_take_idx {o : List Nat} (nd : o.Nodup) {x m : Nat} (hx : x ∈ o) : x ∈ o.take m ↔ o.idxOf x < m := by
  have hl := List.idxOf_lt_length_of_mem hx
  constructor
  · intro h
    obtain ⟨j, hj, e⟩ := List.getElem_of_mem h
    rw [List.getElem_take] at e
    rw [List.length_take] at hj
    have := idx_at nd (i := j) (by omega)
    rw [getElem!_pos o j (by omega), e] at this
    omega
  · intro h
    have := at_idx hx
    rw [getElem!_pos o _ hl] at this
    rw [← this]
    have lt : o.idxOf x < (o.take m).length := by rw [List.length_take]; omega
    have e : (o.take m)[o.idxOf x] = o[o.idxOf x] := List.getElem_take
    rw [← e]; exact List.getElem_mem lt
theorem blt_cols (r c : List Nat) : colS c.length (bltQ r c) = (List.range c.length).map fun x => numM r ((ordC c).idxOf x) := by
  unfold colS
  refine List.map_congr_left fun x hx => ?_
  have hx := List.mem_range.mp hx
  have mo : x ∈ ordC c := (ordC_perm c).mem_iff.mpr (List.mem_range.mpr hx)
  unfold bltQ numM
  rw [List.filter_map, List.length_map]
  congr 1
  refine List.filter_congr fun m _ => ?_
  show decide (((List.range c.length).map fun x => decide (x ∈ (ordC c).take m))[x]! = true) = decide (m > (ordC c).idxOf x)
  rw [get!_map' _ (by rw [List.length_range]; exact hx), get!_range hx]
  refine decide_eq_decide.mpr ?_
  rw [decide_eq_true_iff]
  exact mem_take_idx (ordC_nd c) mo
theorem mr_get {α β : Type} [Inhabited α] (xs : List α) (f : α → β) : xs.map f = (List.range xs.length).map fun i => f xs[i]! := by
  conv => lhs; rw [← map_get xs]
  rw [List.map_map]; rfl
theorem blt_perm (r c : List Nat) : (colS c.length (bltQ r c)).Perm (conjR r c.length) := by
  rw [blt_cols]
  refine ((ordC_perm c).symm.map _).trans (List.Perm.of_eq ?_)
  rw [mr_get (ordC c), ordC_len]
  refine List.map_congr_left fun k hk => ?_
  rw [idx_at (ordC_nd c) (by rw [ordC_len]; exact List.mem_range.mp hk)]
theorem conj_at {r c : List Nat} (h : c.Perm (conjR r c.length)) {x : Nat} (hx : x < c.length) : c[x]! = numM r ((ordC c).idxOf x) := by
  have e : (ordC c).map (fun x => c[x]!) = conjR r c.length := by
    have p : ((ordC c).map fun x => c[x]!).Perm (conjR r c.length) := (((ordC_perm c).map _).trans (List.Perm.of_eq (map_get c))).trans h
    have a : ((ordC c).map fun x => c[x]!).reverse.Pairwise (· ≤ ·) := by
      rw [List.pairwise_reverse, List.pairwise_map]
      exact (ordC_desc c).imp fun h => h
    have b : (conjR r c.length).reverse.Pairwise (· ≤ ·) := by
      rw [List.pairwise_reverse]
      unfold conjR
      rw [List.pairwise_map]
      exact List.pairwise_lt_range.imp fun {a b} h => numM_down (Nat.le_of_lt h)
    have := sorted_unique (((List.reverse_perm _).trans p).trans (List.reverse_perm _).symm) a b
    exact List.reverse_inj.mp this
  have mo : x ∈ ordC c := (ordC_perm c).mem_iff.mpr (List.mem_range.mpr hx)
  have hl := List.idxOf_lt_length_of_mem mo
  have h1 : ((ordC c).map fun x => c[x]!)[(ordC c).idxOf x]! = c[x]! := by rw [get!_map' _ hl, at_idx mo]
  rw [← h1, e]
  unfold conjR
  rw [ordC_len] at hl
  rw [get!_map' _ (by rw [List.length_range]; exact hl), get!_range hl]
theorem blt_told {r c : List Nat} (h : c.Perm (conjR r c.length)) : colS c.length (bltQ r c) = c := by
  rw [blt_cols]
  refine Eq.trans (List.map_congr_left fun x hx => (conj_at h (List.mem_range.mp hx)).symm) (map_get c)
section
variable {q : Pic}
theorem layer_same (k : PicP q) (hc : coreQ q = []) {n l l' : Nat} (hn : n < (layersQ q).length) (h : l ∈ (layersQ q)[n]!) (h' : l' ∈ (layersQ q)[n]!) : atL (layersQ q) l = n ∧ atL (layersQ q) l' = n := by
  have nd : (layersQ q).flatten.Nodup := (free_lays k hc).perm.nodup_iff.mpr List.nodup_range
  exact ⟨atL_eq nd hn h, atL_eq nd hn h'⟩
theorem row_count (k : PicP q) {i : Nat} (hi : i < q.length) : (q[i]!).count true = ((List.range q[0]!.length).filter fun j => (q[i]!)[j]!).length := by
  rw [row_cntF, k.get hi]
theorem row_le (k : PicP q) (hc : coreQ q = []) {i i' : Nat} (hi : i < q.length) (hi' : i' < q.length) (h : atL (layersQ q) i ≤ atL (layersQ q) i') : (q[i']!).count true ≤ (q[i]!).count true := by
  rw [row_count k hi, row_count k hi', ← List.countP_eq_length_filter, ← List.countP_eq_length_filter]
  refine List.countP_mono_left fun j hj z => ?_
  have hj := List.mem_range.mp hj
  rw [free_cell k hc hi' hj] at z
  rw [free_cell k hc hi hj]
  exact decide_eq_true (Nat.lt_of_le_of_lt h (of_decide_eq_true z))
theorem col_le (k : PicP q) (hc : coreQ q = []) {j j' : Nat} (hj : j < q[0]!.length) (hj' : j' < q[0]!.length) (h : atL (layersQ q) (q.length + j) ≤ atL (layersQ q) (q.length + j')) : ((List.range q.length).filter fun i => (q[i]!)[j]!).length ≤ ((List.range q.length).filter fun i => (q[i]!)[j']!).length := by
  rw [← List.countP_eq_length_filter, ← List.countP_eq_length_filter]
  refine List.countP_mono_left fun i hi z => ?_
  have hi := List.mem_range.mp hi
  rw [free_cell k hc hi hj] at z
  rw [free_cell k hc hi hj']
  exact decide_eq_true (Nat.lt_of_lt_of_le (of_decide_eq_true z) h)
theorem cnt_lt {n x : Nat} {f g : Nat → Bool} (h : ∀ i, i < n → f i = true → g i = true) (hx : x < n) (h1 : f x = false) (h2 : g x = true) : ((List.range n).filter f).length < ((List.range n).filter g).length := by
  have nd : (x :: (List.range n).filter f).Nodup := List.nodup_cons.mpr ⟨fun z => (by have := (List.mem_filter.mp z).2; rw [h1] at this; cases this), List.nodup_range.sublist List.filter_sublist⟩
  have := len_subG nd (b := (List.range n).filter g) fun y hy => by
    rcases List.mem_cons.mp hy with e | e
    · rw [e]; exact List.mem_filter.mpr ⟨List.mem_range.mpr hx, h2⟩
    · obtain ⟨e1, e2⟩ := List.mem_filter.mp e
      exact List.mem_filter.mpr ⟨e1, h y (List.mem_range.mp e1) e2⟩
  rwa [List.length_cons] at this
/-- the layers' kinds go by turns -/
theorem next_kind (k : PicP q) (hc : coreQ q = []) {n : Nat} (hn : n + 1 < (layersQ q).length) : decide ((layersQ q)[n]![0]! < q.length) = !decide ((layersQ q)[n + 1]![0]! < q.length) := by
  obtain ⟨s, al⟩ := (free_lays k hc).alt
  obtain ⟨a1, c, a2, a3⟩ := kinds_at al n (by omega)
  have e1 := a2 _ (mem_get! (List.length_pos_iff.mpr a1))
  have b1 := (kinds_at al (n + 1) hn).1
  have e2 := a3 hn _ (mem_get! (List.length_pos_iff.mpr b1))
  rw [e1, e2, Bool.not_not]
theorem lay_kindA (k : PicP q) (hc : coreQ q = []) {n : Nat} (hn : n < (layersQ q).length) : 0 < ((layersQ q)[n]!).length ∧ ∀ l ∈ (layersQ q)[n]!, decide (l < q.length) = decide ((layersQ q)[n]![0]! < q.length) := by
  obtain ⟨s, al⟩ := (free_lays k hc).alt
  obtain ⟨a1, c, a2, _⟩ := kinds_at al n hn
  have l0 := List.length_pos_iff.mpr a1
  exact ⟨l0, fun l hl => by rw [a2 l hl, a2 _ (mem_get! l0)]⟩
theorem lay_line (k : PicP q) (hc : coreQ q = []) {n l : Nat} (hn : n < (layersQ q).length) (hl : l ∈ (layersQ q)[n]!) : l < q.length + q[0]!.length :=
  List.mem_range.mp ((free_lays k hc).perm.mem_iff.mp (flat_mem hn hl))
/-- of two layers of rows the former has the greater sums -/
theorem rows_fall (k : PicP q) (hc : coreQ q = []) {a b : Nat} (ab : a < b) (hb : b < (layersQ q).length) (ka : (layersQ q)[a]![0]! < q.length) (kb : (layersQ q)[b]![0]! < q.length) : (q[(layersQ q)[b]![0]!]!).count true < (q[(layersQ q)[a]![0]!]!).count true := by
  have nk := next_kind k hc (show a + 1 < (layersQ q).length by omega)
  rw [decide_eq_true ka] at nk
  have kn : ¬(layersQ q)[a + 1]![0]! < q.length := fun z => by rw [decide_eq_true z] at nk; cases nk
  have bn : b ≠ a + 1 := fun e => kn (by rw [← e]; exact kb)
  have la := lay_kindA k hc (show a < (layersQ q).length by omega)
  have lb := lay_kindA k hc hb
  have ln := lay_kindA k hc (show a + 1 < (layersQ q).length by omega)
  have ea := (layer_same k hc (show a < (layersQ q).length by omega) (mem_get! la.1) (mem_get! la.1)).1
  have eb := (layer_same k hc hb (mem_get! lb.1) (mem_get! lb.1)).1
  have en := (layer_same k hc (show a + 1 < (layersQ q).length by omega) (mem_get! ln.1) (mem_get! ln.1)).1
  have hl := lay_line k hc (show a + 1 < (layersQ q).length by omega) (mem_get! ln.1)
  obtain ⟨j, hj⟩ : ∃ j, (layersQ q)[a + 1]![0]! = q.length + j := ⟨(layersQ q)[a + 1]![0]! - q.length, by omega⟩
  rw [hj] at en hl
  have hjw : j < q[0]!.length := by omega
  rw [row_count k ka, row_count k kb]
  refine cnt_lt (x := j) (fun i hi z => ?_) hjw ?_ ?_
  · rw [free_cell k hc kb hi, eb] at z
    rw [free_cell k hc ka hi, ea]
    have := of_decide_eq_true z
    exact decide_eq_true (by omega)
  · rw [free_cell k hc kb hjw, eb, en]; exact decide_eq_false (by omega)
  · rw [free_cell k hc ka hjw, ea, en]; exact decide_eq_true (by omega)
/-- of two layers of columns the latter has the greater sums -/
theorem cols_rise (k : PicP q) (hc : coreQ q = []) {a b : Nat} (ab : a < b) (hb : b < (layersQ q).length) (ka : ¬(layersQ q)[a]![0]! < q.length) (kb : ¬(layersQ q)[b]![0]! < q.length) : ((List.range q.length).filter fun i => (q[i]!)[(layersQ q)[a]![0]! - q.length]!).length < ((List.range q.length).filter fun i => (q[i]!)[(layersQ q)[b]![0]! - q.length]!).length := by
  have nk := next_kind k hc (show a + 1 < (layersQ q).length by omega)
  rw [decide_eq_false ka] at nk
  have kn : (layersQ q)[a + 1]![0]! < q.length := Classical.byContradiction fun z => by rw [decide_eq_false z] at nk; cases nk
  have bn : b ≠ a + 1 := fun e => kb (by rw [e]; exact kn)
  have la := lay_kindA k hc (show a < (layersQ q).length by omega)
  have lb := lay_kindA k hc hb
  have ln := lay_kindA k hc (show a + 1 < (layersQ q).length by omega)
  have ea := (layer_same k hc (show a < (layersQ q).length by omega) (mem_get! la.1) (mem_get! la.1)).1
  have eb := (layer_same k hc hb (mem_get! lb.1) (mem_get! lb.1)).1
  have en := (layer_same k hc (show a + 1 < (layersQ q).length by omega) (mem_get! ln.1) (mem_get! ln.1)).1
  have hla := lay_line k hc (show a < (layersQ q).length by omega) (mem_get! la.1)
  have hlb := lay_line k hc hb (mem_get! lb.1)
  obtain ⟨x, hx⟩ : ∃ j, (layersQ q)[a]![0]! = q.length + j := ⟨(layersQ q)[a]![0]! - q.length, by omega⟩
  obtain ⟨y, hy⟩ : ∃ j, (layersQ q)[b]![0]! = q.length + j := ⟨(layersQ q)[b]![0]! - q.length, by omega⟩
  rw [hx] at ea hla
  rw [hy] at eb hlb
  rw [hx, hy, Nat.add_sub_cancel_left, Nat.add_sub_cancel_left]
  have hxw : x < q[0]!.length := by omega
  have hyw : y < q[0]!.length := by omega
  refine cnt_lt (x := (layersQ q)[a + 1]![0]!) (fun i hi z => ?_) kn ?_ ?_
  · rw [free_cell k hc hi hxw, ea] at z
    rw [free_cell k hc hi hyw, eb]
    have := of_decide_eq_true z
    exact decide_eq_true (by omega)
  · rw [free_cell k hc kn hxw, ea, en]; exact decide_eq_false (by omega)
  · rw [free_cell k hc kn hyw, eb, en]; exact decide_eq_true (by omega)
theorem set_num {xs ys : List Nat} (nd : ys.Nodup) (h : ∀ x, x ∈ xs ↔ x ∈ ys) (hb : ∀ x ∈ xs, x < 60) : (setN xs).length = ys.length := by
  have n2 : (setN xs).Nodup := asc_nodup (setN_asc xs)
  exact ((List.perm_ext_iff_of_nodup n2 nd).mpr fun x => (mem_setN hb).trans (h x)).length_eq
theorem fil_two {α : Type} (p : α → Bool) : ∀ L : List α, (L.filter p).length + (L.filter fun x => !p x).length = L.length
  | [] => rfl
  | x :: L => by
    have ih := fil_two p L
    cases h : p x
    · rw [List.filter_cons_of_neg (p := p) (by rw [h]; decide), List.filter_cons_of_pos (p := fun x => !p x) (by rw [h]; rfl), List.length_cons, List.length_cons]; omega
    · rw [List.filter_cons_of_pos (p := p) h, List.filter_cons_of_neg (p := fun x => !p x) (by rw [h]; decide), List.length_cons, List.length_cons]; omega
/-- the sum of a line -/
def lineS (q : Pic) (l : Nat) : Nat := if l < q.length then (q[l]!).count true else ((List.range q.length).filter fun i => (q[i]!)[l - q.length]!).length
theorem line_same (k : PicP q) (hc : coreQ q = []) {n l : Nat} (hn : n < (layersQ q).length) (hl : l ∈ (layersQ q)[n]!) : lineS q l = lineS q ((layersQ q)[n]![0]!) := by
  obtain ⟨l0, kd⟩ := lay_kindA k hc hn
  obtain ⟨e1, e2⟩ := layer_same k hc hn hl (mem_get! l0)
  have kd := decide_eq_decide.mp (kd l hl)
  unfold lineS
  by_cases z : l < q.length
  · have z2 := kd.mp z
    rw [if_pos z, if_pos z2]
    have a := row_le k hc z z2 (by omega)
    have b := row_le k hc z2 z (by omega)
    omega
  · have z2 : ¬(layersQ q)[n]![0]! < q.length := fun y => z (kd.mpr y)
    rw [if_neg z, if_neg z2]
    have h1 := lay_line k hc hn hl
    have h2 := lay_line k hc hn (mem_get! l0)
    have a1 : q.length + (l - q.length) = l := by omega
    have a2 : q.length + ((layersQ q)[n]![0]! - q.length) = (layersQ q)[n]![0]! := by omega
    have a := col_le k hc (j := l - q.length) (j' := (layersQ q)[n]![0]! - q.length) (by omega) (by omega) (by rw [a1, a2, e1, e2]; exact Nat.le_refl _)
    have b := col_le k hc (j' := l - q.length) (j := (layersQ q)[n]![0]! - q.length) (by omega) (by omega) (by rw [a1, a2, e1, e2]; exact Nat.le_refl _)
    omega
/-- the layers of a kind are as many as the kind's sums -/
theorem kinds_num (k : PicP q) (hc : coreQ q = []) {rs cs : List Nat} (hr : rs = (List.range q.length).map (lineS q)) (hcs : cs = (List.range q[0]!.length).map fun j => lineS q (q.length + j)) (b1 : ∀ x ∈ rs, x < 60) (b2 : ∀ x ∈ cs, x < 60) : (setN rs).length + (setN cs).length = (layersQ q).length := by
  have pm := (free_lays k hc).perm
  have inl : ∀ l, l < q.length + q[0]!.length → ∃ n, n < (layersQ q).length ∧ l ∈ (layersQ q)[n]! := fun l hl => mem_flat (pm.mem_iff.mpr (List.mem_range.mpr hl))
  have pw : (layersQ q).Pairwise fun s t => (s[0]! < q.length → t[0]! < q.length → lineS q s[0]! ≠ lineS q t[0]!) ∧ (¬s[0]! < q.length → ¬t[0]! < q.length → lineS q s[0]! ≠ lineS q t[0]!) := by
    rw [List.pairwise_iff_getElem]
    intro a b ha hb ab
    rw [← getElem!_pos (layersQ q) a ha, ← getElem!_pos (layersQ q) b hb]
    refine ⟨fun x y e => ?_, fun x y e => ?_⟩
    · have := rows_fall k hc ab hb x y
      unfold lineS at e
      rw [if_pos x, if_pos y] at e
      omega
    · have := cols_rise k hc ab hb x y
      unfold lineS at e
      rw [if_neg x, if_neg y] at e
      omega
  have n1 : (((layersQ q).filter fun s => decide (s[0]! < q.length)).map fun s => lineS q s[0]!).Nodup := by
    refine List.pairwise_map.mpr ((pw.sublist List.filter_sublist).imp_of_mem fun {s t} hs ht h => ?_)
    exact h.1 (of_decide_eq_true (List.mem_filter.mp hs).2) (of_decide_eq_true (List.mem_filter.mp ht).2)
  have n2 : (((layersQ q).filter fun s => !decide (s[0]! < q.length)).map fun s => lineS q s[0]!).Nodup := by
    refine List.pairwise_map.mpr ((pw.sublist List.filter_sublist).imp_of_mem fun {s t} hs ht h => ?_)
    have a : (!decide (s[0]! < q.length)) = true := (List.mem_filter.mp hs).2
    have b : (!decide (t[0]! < q.length)) = true := (List.mem_filter.mp ht).2
    refine h.2 (fun z => ?_) (fun z => ?_)
    · rw [decide_eq_true z] at a; cases a
    · rw [decide_eq_true z] at b; cases b
  rw [set_num n1 (fun x => ?_) b1, set_num n2 (fun x => ?_) b2, List.length_map, List.length_map]
  · exact fil_two (fun s : List Nat => decide (s[0]! < q.length)) (layersQ q)
  · rw [hcs, List.mem_map, List.mem_map]
    constructor
    · rintro ⟨j, hj, rfl⟩
      have hj := List.mem_range.mp hj
      obtain ⟨n, hn, hl⟩ := inl (q.length + j) (by omega)
      have kd := decide_eq_decide.mp ((lay_kindA k hc hn).2 _ hl)
      refine ⟨(layersQ q)[n]!, List.mem_filter.mpr ⟨mem_get! hn, ?_⟩, (line_same k hc hn hl).symm⟩
      rw [decide_eq_false (fun z => by have := kd.mpr z; omega)]; rfl
    · rintro ⟨s, hs, rfl⟩
      obtain ⟨h1, h2⟩ := List.mem_filter.mp hs
      obtain ⟨n, hn, e⟩ := List.getElem_of_mem h1
      rw [← getElem!_pos (layersQ q) n hn] at e
      subst e
      have z : ¬(layersQ q)[n]![0]! < q.length := fun z => by rw [decide_eq_true z] at h2; cases h2
      have ll := lay_line k hc hn (mem_get! (lay_kindA k hc hn).1)
      exact ⟨(layersQ q)[n]![0]! - q.length, List.mem_range.mpr (by omega), by rw [show q.length + ((layersQ q)[n]![0]! - q.length) = (layersQ q)[n]![0]! by omega]⟩
  · rw [hr, List.mem_map, List.mem_map]
    constructor
    · rintro ⟨i, hi, rfl⟩
      have hi := List.mem_range.mp hi
      obtain ⟨n, hn, hl⟩ := inl i (by omega)
      have kd := decide_eq_decide.mp ((lay_kindA k hc hn).2 _ hl)
      exact ⟨(layersQ q)[n]!, List.mem_filter.mpr ⟨mem_get! hn, decide_eq_true (kd.mp hi)⟩, (line_same k hc hn hl).symm⟩
    · rintro ⟨s, hs, rfl⟩
      obtain ⟨h1, h2⟩ := List.mem_filter.mp hs
      exact ⟨s[0]!, List.mem_range.mpr (of_decide_eq_true h2), rfl⟩
theorem ixS_mono (ms : List Nat) {i i' : Nat} (h : i ≤ i') : ixS true ms i ≤ ixS true ms i' ∧ ixS false ms i ≤ ixS false ms i' := by
  induction h with
  | refl => exact ⟨Nat.le_refl _, Nat.le_refl _⟩
  | step _ ih =>
    have := ixS_up ms
    exact ⟨Nat.le_trans ih.1 (this _).1, Nat.le_trans ih.2 (this _).2⟩
theorem first_fall {h w : Nat} {v : Bool × List Nat} (h1 : 1 ≤ h) (h30 : h ≤ 30) (w1 : 1 ≤ w) (w30 : w ≤ 30) (k : ShapeOk h w v) : (sortN ((firstP h w v).map fun r => r.count true)).reverse = (firstP h w v).map fun r => r.count true := by
  obtain ⟨f1, f2, f3, _, _⟩ := first_ok h1 h30 w1 w30 k
  have e : ((firstP h w v).map fun r => r.count true).reverse.Pairwise (· ≤ ·) := by
    rw [List.pairwise_reverse, mr_get (firstP h w v), f2, List.pairwise_map]
    refine List.pairwise_lt_range.imp_of_mem fun {a b} ha hb ab => ?_
    have ha := List.mem_range.mp ha
    have hb := List.mem_range.mp hb
    have c1 := row_count f1 (i := a) (by omega)
    have c2 := row_count f1 (i := b) (by omega)
    rw [c1, c2, f3, ← List.countP_eq_length_filter, ← List.countP_eq_length_filter]
    refine List.countP_mono_left fun j hj z => ?_
    have hj := List.mem_range.mp hj
    rw [first_cell h1 h30 w1 w30 k hb hj] at z
    rw [first_cell h1 h30 w1 w30 k ha hj]
    have z := of_decide_eq_true z
    have m := ixS_mono v.2 (Nat.le_of_lt ab)
    refine decide_eq_true ?_
    cases e : v.1 with
    | true => rw [e] at z; exact Nat.lt_of_le_of_lt m.1 z
    | false => rw [e] at z; exact Nat.lt_of_le_of_lt m.2 z
  rw [sortN_of_perm (List.reverse_perm _).symm e, List.reverse_reverse]
theorem first_black (k : PicP q) (hc : coreQ q = []) : ((firstP q.length q[0]!.length (shapeV q)).map fun r => r.count true).sum = (q.map fun r => r.count true).sum := by
  rw [← stairs_eq k hc]
  obtain ⟨l1, l2, m1, m2⟩ := orders_ok k hc
  have nd : (layersQ q).flatten.Nodup := (free_lays k hc).perm.nodup_iff.mpr List.nodup_range
  have pr : (rowsO q).Perm (List.range q.length) := by
    have n := nd.sublist (List.filter_sublist (p := fun l => decide (l < q.length)))
    exact (List.perm_ext_iff_of_nodup n List.nodup_range).mpr fun x => ⟨fun h => List.mem_range.mpr (m1 x h), same_mem n (fun y hy => List.mem_range.mpr (m1 y hy)) (by rw [List.length_range]; exact Nat.le_of_eq l1.symm) x⟩
  have pc : (colsO q).Perm (List.range q[0]!.length) := by
    have n : (colsO q).Nodup := List.pairwise_map.mpr ((nd.sublist (List.filter_sublist (p := fun l => decide (l ≥ q.length)))).imp_of_mem fun {a b} ha hb h e => by
      have a1 := of_decide_eq_true (List.mem_filter.mp ha).2
      have b1 := of_decide_eq_true (List.mem_filter.mp hb).2
      omega)
    exact (List.perm_ext_iff_of_nodup n List.nodup_range).mpr fun x => ⟨fun h => List.mem_range.mpr (m2 x h), same_mem n (fun y hy => List.mem_range.mpr (m2 y hy)) (by rw [List.length_range]; exact Nat.le_of_eq l2.symm) x⟩
  rw [List.map_map, (pr.map _).sum_nat, mr_get q]
  congr 1
  refine List.map_congr_left fun i hi => ?_
  have hi := List.mem_range.mp hi
  show ((colsO q).map fun j => (q[i]!)[j]!).count true = (q[i]!).count true
  rw [(pc.map _).count_eq]
  congr 1
  have := map_get (q[i]!)
  rw [k.get hi] at this
  exact this
end
end W
set_option maxHeartbeats 1000000
namespace W
open PySem L2 G T
def V_is_int (value : Nat) (Q : Bool → Prop) : Prop := Q (decide (True ∧ (¬False)))
theorem snd_is_int (value : Nat) {Q : Bool → Prop} (h : V_is_int value Q) (tp : List D) : ∃ r : Bool, Q r ∧ m_is_int [eN value] tp = .ok (eB r) tp := by
  obtain ⟨d, t, e1, rfl, r, rfl, q⟩ := T.wp_def (n := 1) (s := b_is_int) (ds := [eN value]) (tp := tp) (Q := fun d t => t = tp ∧ ∃ r : Bool, d = eB r ∧ Q r) (by
    unfold V_is_int at h
    change WP _ _ _ _ (b_is_int [some (eN value)] _)
    unfold b_is_int
    exact T.wp_ret (T.ev_andE (P := True) (Q := (¬False)) (T.ev_isi (d := eN value) (T.ev_v rfl) rfl kb_int_int) (fun hp => (T.ev_notE (P := False) (T.ev_isi (d := eN value) (T.ev_v rfl) rfl kb_int_bool)))) ⟨rfl, (decide (True ∧ (¬False))), rfl, h⟩)
  exact ⟨r, q, e1⟩
abbrev F_is_int (_ : Nat) : Bool := true
theorem ok_is_int (v : Nat) : V_is_int v (· = F_is_int v) := by simp [V_is_int]
theorem t_is_int {value : Nat} (_ : True) (tp : List D) : m_is_int [eN value] tp = .ok (eB (F_is_int value)) tp := by
  obtain ⟨r, rfl, e⟩ := snd_is_int value (ok_is_int value) tp
  exact e
end W
set_option maxHeartbeats 1000000
namespace W
open PySem L2 G T
def V_is_picture (value : (List Row)) (Q : Bool → Prop) : Prop := ((((¬True) ∨ (¬(1 ≤ value.length ∧ value.length ≤ 30))) → Q false) ∧ (¬((¬True) ∨ (¬(1 ≤ value.length ∧ value.length ≤ 30))) → (value.length ≤ 1000000) ∧ (¬(¬(∀ x1 ∈ value, True)) → (0 < value.length) ∧ ((value[0]!).length ≤ 1000000)) ∧ ((((¬(∀ x1 ∈ value, True)) ∨ (¬(1 ≤ (value[0]!).length ∧ (value[0]!).length ≤ 30))) → Q false) ∧ (¬((¬(∀ x1 ∈ value, True)) ∨ (¬(1 ≤ (value[0]!).length ∧ (value[0]!).length ≤ 30))) → (value.length ≤ 1000000) ∧ (∀ x6, x6 ∈ value → (x6.length ≤ 1000000) ∧ (0 < value.length) ∧ ((value[0]!).length ≤ 1000000) ∧ ((x6.length = (value[0]!).length) → (x6.length ≤ 1000000))) ∧ Q (decide (∀ x6 ∈ value, ((x6.length = (value[0]!).length) ∧ (∀ x11 ∈ x6, (x11 ∈ [true, false])))))))))
theorem snd_is_picture (value : (List Row)) {Q : Bool → Prop} (h : V_is_picture value Q) (tp : List D) : ∃ r : Bool, Q r ∧ m_is_picture [(eT eR) value] tp = .ok (eB r) tp := by
  obtain ⟨d, t, e1, rfl, r, rfl, q⟩ := T.wp_def (n := 3) (s := b_is_picture) (ds := [(eT eR) value]) (tp := tp) (Q := fun d t => t = tp ∧ ∃ r : Bool, d = eB r ∧ Q r) (by
    unfold V_is_picture at h
    change WP _ _ _ _ (b_is_picture [some ((eT eR) value), none, none] _)
    unfold b_is_picture
    refine T.wp_seq (T.wp_if (P := ((¬True) ∨ (¬(1 ≤ value.length ∧ value.length ≤ 30)))) (T.ev_orT (P := (¬True)) (Q := (¬(1 ≤ value.length ∧ value.length ≤ 30))) (T.ev_notT (P := True) (T.ev_bool (T.ev_isi (d := (eT eR) value) (T.ev_v rfl) rfl kb_tuple_tuple))) (fun hp => (T.ev_notT (P := (1 ≤ value.length ∧ value.length ≤ 30)) (T.ev_bool (T.ev_chLeLe (x := 1) (y := value.length) (z := 30) (T.ev_cN 1) (T.ev_lenT (e := eR) (xs := value) (T.ev_v rfl)) (T.ev_cN 30)))))) (fun hp => ?_) (fun hn => ?_))
    · replace h := h.1 hp
      exact T.wp_ret (T.ev_c rfl) ⟨rfl, false, rfl, h⟩
    · replace h := h.2 hn
      refine T.wp_skip ?_
      change WP _ _ _ _ (At _ [some ((eT eR) value), none, none] _)
      obtain ⟨c2, h⟩ := h
      obtain ⟨c5, h⟩ := h
      refine T.wp_seq (T.wp_if (P := ((¬(∀ x1 ∈ value, True)) ∨ (¬(1 ≤ (value[0]!).length ∧ (value[0]!).length ≤ 30)))) (T.ev_orT (P := (¬(∀ x1 ∈ value, True))) (Q := (¬(1 ≤ (value[0]!).length ∧ (value[0]!).length ≤ 30))) (T.ev_notT (P := (∀ x1 ∈ value, True)) (T.ev_bool (T.ev_allY (xs := value) (R := fun x1 => True) (T.ev_compY (e := eR) (e1 := eB) (xs := value) (ds := fun x1 => [eR x1]) (g := fun x1 => (decide True)) (T.it_T (e := eR) (xs := value) (T.ev_v rfl)) c2 (fun _ => rfl) (fun x1 hx => (T.ev_isi (d := eR x1) (T.ev_v rfl) rfl kb_str_str)))))) (fun hp => match c5 hp with | ⟨c3, c4⟩ => (T.ev_notT (P := (1 ≤ (value[0]!).length ∧ (value[0]!).length ≤ 30)) (T.ev_bool (T.ev_chLeLe (x := 1) (y := (value[0]!).length) (z := 30) (T.ev_cN 1) (T.ev_lenR (r := value[0]!) c4 (T.ev_ixT (e := eR) (xs := value) (i := 0) c3 (T.ev_v rfl) (T.ev_cN 0))) (T.ev_cN 30)))))) (fun hp => ?_) (fun hn => ?_))
      · replace h := h.1 hp
        exact T.wp_ret (T.ev_c rfl) ⟨rfl, false, rfl, h⟩
      · replace h := h.2 hn
        refine T.wp_skip ?_
        change WP _ _ _ _ (At _ [some ((eT eR) value), none, none] _)
        obtain ⟨c7, h⟩ := h
        obtain ⟨c14, h⟩ := h
        exact T.wp_ret (T.ev_allY (xs := value) (R := fun x6 => ((x6.length = (value[0]!).length) ∧ (∀ x11 ∈ x6, (x11 ∈ [true, false])))) (T.ev_compY (e := eR) (e1 := eB) (xs := value) (ds := fun x6 => [eR x6]) (g := fun x6 => (decide ((x6.length = (value[0]!).length) ∧ (∀ x11 ∈ x6, (x11 ∈ [true, false]))))) (T.it_T (e := eR) (xs := value) (T.ev_v rfl)) c7 (fun _ => rfl) (fun x6 hx => match c14 x6 hx with | ⟨c8, c9, c10, c13⟩ => (T.ev_andE (P := (x6.length = (value[0]!).length)) (Q := (∀ x11 ∈ x6, (x11 ∈ [true, false]))) (T.ev_eq (x := x6.length) (y := (value[0]!).length) qN rfl (T.ev_lenR (r := x6) c8 (T.ev_v rfl)) (T.ev_lenR (r := value[0]!) c10 (T.ev_ixT (e := eR) (xs := value) (i := 0) c9 (T.ev_v rfl) (T.ev_cN 0)))) (fun hp => have c12 := c13 hp; (T.ev_allY (xs := x6) (R := fun x11 => (x11 ∈ [true, false])) (T.ev_compY (e := eG) (e1 := eB) (xs := x6) (ds := fun x11 => [eG x11]) (g := fun x11 => (decide (x11 ∈ [true, false]))) (T.it_R (r := x6) (T.ev_v rfl)) c12 (fun _ => rfl) (fun x11 hx => (T.ev_inT (x := x11) (xs := [true, false]) qG rfl (T.ev_v rfl) (T.ev_tup (ds := [eG true, eG false]) (T.ev_cons (T.ev_c (congrArg D.str str_black)) (T.ev_cons (T.ev_c (congrArg D.str str_white)) T.ev_nil)) rfl)))))))))) ⟨rfl, (decide (∀ x6 ∈ value, ((x6.length = (value[0]!).length) ∧ (∀ x11 ∈ x6, (x11 ∈ [true, false]))))), rfl, h⟩)
  exact ⟨r, q, e1⟩
abbrev P_is_picture (p : Pic) : Prop := PicP p
abbrev F_is_picture (_ : Pic) : Bool := true
theorem ok_is_picture {p : Pic} (k : P_is_picture p) : V_is_picture p (· = F_is_picture p) := by
  have h1 := k.h1; have h30 := k.h30; have w1 := k.w1; have w30 := k.w30
  unfold V_is_picture
  refine ⟨fun h => ?_, fun _ => ⟨by omega, fun _ => ⟨by omega, by omega⟩, fun h => ?_, fun _ => ⟨by omega, fun r hr => ?_, ?_⟩⟩⟩
  · rcases h with h | h
    · exact (h trivial).elim
    · exact (h ⟨h1, h30⟩).elim
  · rcases h with h | h
    · exact (h fun _ _ => trivial).elim
    · exact (h ⟨w1, w30⟩).elim
  · have := k.row r hr
    exact ⟨by omega, by omega, by omega, fun _ => by omega⟩
  · refine decide_eq_true fun r hr => ⟨k.row r hr, fun b _ => ?_⟩
    cases b <;> simp
theorem t_is_picture {value : (List Row)} (hP : P_is_picture value) (tp : List D) : m_is_picture [(eT eR) value] tp = .ok (eB (F_is_picture value)) tp := by
  obtain ⟨r, rfl, e⟩ := snd_is_picture value (ok_is_picture hP) tp
  exact e
end W
set_option maxHeartbeats 1000000
namespace W
open PySem L2 G T
def V_lines_of (picture : (List Row)) (Q : Nat → Prop) : Prop := (0 < picture.length) ∧ ((picture[0]!).length ≤ 1000000) ∧ Q (picture.length + (picture[0]!).length)
theorem snd_lines_of (picture : (List Row)) {Q : Nat → Prop} (h : V_lines_of picture Q) (tp : List D) : ∃ r : Nat, Q r ∧ m_lines_of [(eT eR) picture] tp = .ok (eN r) tp := by
  obtain ⟨d, t, e1, rfl, r, rfl, q⟩ := T.wp_def (n := 1) (s := b_lines_of) (ds := [(eT eR) picture]) (tp := tp) (Q := fun d t => t = tp ∧ ∃ r : Nat, d = eN r ∧ Q r) (by
    unfold V_lines_of at h
    change WP _ _ _ _ (b_lines_of [some ((eT eR) picture)] _)
    unfold b_lines_of
    obtain ⟨c1, h⟩ := h
    obtain ⟨c2, h⟩ := h
    exact T.wp_ret (T.ev_add (x := picture.length) (y := (picture[0]!).length) (T.ev_lenT (e := eR) (xs := picture) (T.ev_v rfl)) (T.ev_lenR (r := picture[0]!) c2 (T.ev_ixT (e := eR) (xs := picture) (i := 0) c1 (T.ev_v rfl) (T.ev_cN 0)))) ⟨rfl, (picture.length + (picture[0]!).length), rfl, h⟩)
  exact ⟨r, q, e1⟩
abbrev P_lines_of (p : Pic) : Prop := PicP p
def F_lines_of (p : Pic) : Nat := p.length + p[0]!.length
theorem ok_lines_of {p : Pic} (k : P_lines_of p) : V_lines_of p (· = F_lines_of p) := ⟨k.h1, by have := k.w30; omega, rfl⟩
theorem t_lines_of {picture : (List Row)} (hP : P_lines_of picture) (tp : List D) : m_lines_of [(eT eR) picture] tp = .ok (eN (F_lines_of picture)) tp := by
  obtain ⟨r, rfl, e⟩ := snd_lines_of picture (ok_lines_of hP) tp
  exact e
end W
set_option maxHeartbeats 1000000
namespace W
open PySem L2 G T
def V_black_of (picture : (List Row)) (Q : Nat → Prop) : Prop := (picture.length ≤ 1000000) ∧ (∀ x1, x1 ∈ picture → (x1.length ≤ 1000000)) ∧ Q ((picture.map fun x1 => ((x1.filter fun x3 => decide (x3 = true)).map fun x3 => 1).length).sum)
theorem snd_black_of (picture : (List Row)) {Q : Nat → Prop} (h : V_black_of picture Q) (tp : List D) : ∃ r : Nat, Q r ∧ m_black_of [(eT eR) picture] tp = .ok (eN r) tp := by
  obtain ⟨d, t, e1, rfl, r, rfl, q⟩ := T.wp_def (n := 3) (s := b_black_of) (ds := [(eT eR) picture]) (tp := tp) (Q := fun d t => t = tp ∧ ∃ r : Nat, d = eN r ∧ Q r) (by
    unfold V_black_of at h
    change WP _ _ _ _ (b_black_of [some ((eT eR) picture), none, none] _)
    unfold b_black_of
    obtain ⟨c2, h⟩ := h
    obtain ⟨c5, h⟩ := h
    exact T.wp_ret (T.ev_sumL (xs := (picture.map fun x1 => ((x1.filter fun x3 => decide (x3 = true)).map fun x3 => 1).length)) (T.ev_compY (e := eR) (e1 := eN) (xs := picture) (ds := fun x1 => [eR x1]) (g := fun x1 => ((x1.filter fun x3 => decide (x3 = true)).map fun x3 => 1).length) (T.it_T (e := eR) (xs := picture) (T.ev_v rfl)) c2 (fun _ => rfl) (fun x1 hx => have c4 := c5 x1 hx; (T.ev_lenL (e := eN) (xs := ((x1.filter fun x3 => decide (x3 = true)).map fun x3 => 1)) (T.ev_comp (e := eG) (e1 := eN) (xs := x1) (ds := fun x3 => [eG x3]) (g := fun x3 => 1) (P := fun x3 => (x3 = true)) (T.it_R (r := x1) (T.ev_v rfl)) c4 (fun _ => rfl) (fun x3 hx => (T.ev_bool (T.ev_eq (x := x3) (y := true) qG rfl (T.ev_v rfl) (T.ev_c (congrArg D.str str_black))))) (fun x3 hx hq => (T.ev_cN 1))))))) ⟨rfl, (picture.map fun x1 => ((x1.filter fun x3 => decide (x3 = true)).map fun x3 => 1).length).sum, rfl, h⟩)
  exact ⟨r, q, e1⟩
abbrev P_black_of (p : Pic) : Prop := PicP p
def F_black_of (p : Pic) : Nat := (p.map fun r => r.count true).sum
theorem len_ones (r : Row) : ((r.filter fun x => decide (x = true)).map fun _ => 1).length = r.count true := by
  rw [List.length_map, List.count, List.countP_eq_length_filter]
  congr 1
theorem ok_black_of {p : Pic} (k : P_black_of p) : V_black_of p (· = F_black_of p) := by
  refine ⟨by have := k.h30; omega, fun r hr => by rw [k.row r hr]; have := k.w30; omega, ?_⟩
  unfold F_black_of
  exact congrArg List.sum (List.map_congr_left fun r _ => len_ones r)
theorem t_black_of {picture : (List Row)} (hP : P_black_of picture) (tp : List D) : m_black_of [(eT eR) picture] tp = .ok (eN (F_black_of picture)) tp := by
  obtain ⟨r, rfl, e⟩ := snd_black_of picture (ok_black_of hP) tp
  exact e
end W
set_option maxHeartbeats 1000000
namespace W
open PySem L2 G T
def V_row_sums_of (picture : (List Row)) (Q : (List Nat) → Prop) : Prop := (picture.length ≤ 1000000) ∧ (∀ x1, x1 ∈ picture → (x1.length ≤ 1000000)) ∧ Q (picture.map fun x1 => ((x1.filter fun x3 => decide (x3 = true)).map fun x3 => 1).length)
theorem snd_row_sums_of (picture : (List Row)) {Q : (List Nat) → Prop} (h : V_row_sums_of picture Q) (tp : List D) : ∃ r : (List Nat), Q r ∧ m_row_sums_of [(eT eR) picture] tp = .ok ((eT eN) r) tp := by
  obtain ⟨d, t, e1, rfl, r, rfl, q⟩ := T.wp_def (n := 3) (s := b_row_sums_of) (ds := [(eT eR) picture]) (tp := tp) (Q := fun d t => t = tp ∧ ∃ r : (List Nat), d = (eT eN) r ∧ Q r) (by
    unfold V_row_sums_of at h
    change WP _ _ _ _ (b_row_sums_of [some ((eT eR) picture), none, none] _)
    unfold b_row_sums_of
    obtain ⟨c2, h⟩ := h
    obtain ⟨c5, h⟩ := h
    exact T.wp_ret (T.ev_tupleL (e := eN) (xs := (picture.map fun x1 => ((x1.filter fun x3 => decide (x3 = true)).map fun x3 => 1).length)) (T.ev_compY (e := eR) (e1 := eN) (xs := picture) (ds := fun x1 => [eR x1]) (g := fun x1 => ((x1.filter fun x3 => decide (x3 = true)).map fun x3 => 1).length) (T.it_T (e := eR) (xs := picture) (T.ev_v rfl)) c2 (fun _ => rfl) (fun x1 hx => have c4 := c5 x1 hx; (T.ev_lenL (e := eN) (xs := ((x1.filter fun x3 => decide (x3 = true)).map fun x3 => 1)) (T.ev_comp (e := eG) (e1 := eN) (xs := x1) (ds := fun x3 => [eG x3]) (g := fun x3 => 1) (P := fun x3 => (x3 = true)) (T.it_R (r := x1) (T.ev_v rfl)) c4 (fun _ => rfl) (fun x3 hx => (T.ev_bool (T.ev_eq (x := x3) (y := true) qG rfl (T.ev_v rfl) (T.ev_c (congrArg D.str str_black))))) (fun x3 hx hq => (T.ev_cN 1))))))) ⟨rfl, (picture.map fun x1 => ((x1.filter fun x3 => decide (x3 = true)).map fun x3 => 1).length), rfl, h⟩)
  exact ⟨r, q, e1⟩
abbrev P_row_sums_of (p : Pic) : Prop := PicP p
def F_row_sums_of (p : Pic) : List Nat := p.map fun r => r.count true
theorem ok_row_sums_of {p : Pic} (k : P_row_sums_of p) : V_row_sums_of p (· = F_row_sums_of p) := by
  refine ⟨by have := k.h30; omega, fun r hr => by rw [k.row r hr]; have := k.w30; omega, ?_⟩
  unfold F_row_sums_of
  refine List.map_congr_left fun r _ => ?_
  rw [List.length_map, List.count, List.countP_eq_length_filter]
  congr 1
theorem t_row_sums_of {picture : (List Row)} (hP : P_row_sums_of picture) (tp : List D) : m_row_sums_of [(eT eR) picture] tp = .ok ((eT eN) (F_row_sums_of picture)) tp := by
  obtain ⟨r, rfl, e⟩ := snd_row_sums_of picture (ok_row_sums_of hP) tp
  exact e
end W
set_option maxHeartbeats 1000000
namespace W
open PySem L2 G T
def V_column_sums_of (picture : (List Row)) (Q : (List Nat) → Prop) : Prop := (0 < picture.length) ∧ ((picture[0]!).length ≤ 1000000) ∧ ((picture[0]!).length ≤ 1073741824) ∧ ((List.range ((picture[0]!).length)).length ≤ 1000000) ∧ (∀ x4, x4 ∈ (List.range ((picture[0]!).length)) → (picture.length ≤ 1000000) ∧ (∀ x6, x6 ∈ picture → (x6.length ≤ 1000000 ∧ x4 < x6.length))) ∧ Q ((List.range ((picture[0]!).length)).map fun x4 => ((picture.filter fun x6 => decide (x6[x4]! = true)).map fun x6 => 1).length)
theorem snd_column_sums_of (picture : (List Row)) {Q : (List Nat) → Prop} (h : V_column_sums_of picture Q) (tp : List D) : ∃ r : (List Nat), Q r ∧ m_column_sums_of [(eT eR) picture] tp = .ok ((eT eN) r) tp := by
  obtain ⟨d, t, e1, rfl, r, rfl, q⟩ := T.wp_def (n := 3) (s := b_column_sums_of) (ds := [(eT eR) picture]) (tp := tp) (Q := fun d t => t = tp ∧ ∃ r : (List Nat), d = (eT eN) r ∧ Q r) (by
    unfold V_column_sums_of at h
    change WP _ _ _ _ (b_column_sums_of [some ((eT eR) picture), none, none] _)
    unfold b_column_sums_of
    obtain ⟨c1, h⟩ := h
    obtain ⟨c2, h⟩ := h
    obtain ⟨c3, h⟩ := h
    obtain ⟨c5, h⟩ := h
    obtain ⟨c10, h⟩ := h
    exact T.wp_ret (T.ev_tupleL (e := eN) (xs := ((List.range ((picture[0]!).length)).map fun x4 => ((picture.filter fun x6 => decide (x6[x4]! = true)).map fun x6 => 1).length)) (T.ev_compY (e := eN) (e1 := eN) (xs := (List.range ((picture[0]!).length))) (ds := fun x4 => [eN x4]) (g := fun x4 => ((picture.filter fun x6 => decide (x6[x4]! = true)).map fun x6 => 1).length) (T.it_range (n := (picture[0]!).length) c3 (T.ev_lenR (r := picture[0]!) c2 (T.ev_ixT (e := eR) (xs := picture) (i := 0) c1 (T.ev_v rfl) (T.ev_cN 0)))) c5 (fun _ => rfl) (fun x4 hx => match c10 x4 hx with | ⟨c7, c9⟩ => (T.ev_lenL (e := eN) (xs := ((picture.filter fun x6 => decide (x6[x4]! = true)).map fun x6 => 1)) (T.ev_comp (e := eR) (e1 := eN) (xs := picture) (ds := fun x6 => [eR x6]) (g := fun x6 => 1) (P := fun x6 => (x6[x4]! = true)) (T.it_T (e := eR) (xs := picture) (T.ev_v rfl)) c7 (fun _ => rfl) (fun x6 hx => have c8 := c9 x6 hx; (T.ev_bool (T.ev_eq (x := x6[x4]!) (y := true) qG rfl (T.ev_ixR (r := x6) (i := x4) c8 (T.ev_v rfl) (T.ev_v rfl)) (T.ev_c (congrArg D.str str_black))))) (fun x6 hx hq => (T.ev_cN 1))))))) ⟨rfl, ((List.range ((picture[0]!).length)).map fun x4 => ((picture.filter fun x6 => decide (x6[x4]! = true)).map fun x6 => 1).length), rfl, h⟩)
  exact ⟨r, q, e1⟩
abbrev P_column_sums_of (p : Pic) : Prop := PicP p
def F_column_sums_of (p : Pic) : List Nat := (List.range p[0]!.length).map fun j => (p.filter fun r => decide (r[j]! = true)).length
theorem ok_column_sums_of {p : Pic} (k : P_column_sums_of p) : V_column_sums_of p (· = F_column_sums_of p) := by
  have h1 := k.h1; have h30 := k.h30; have w1 := k.w1; have w30 := k.w30
  refine ⟨by omega, by omega, by omega, by rw [List.length_range]; omega, fun j hj => ⟨by omega, fun r hr => ?_⟩, ?_⟩
  · have := k.row r hr
    have := List.mem_range.mp hj
    omega
  · unfold F_column_sums_of
    exact List.map_congr_left fun j _ => by rw [List.length_map]
theorem t_column_sums_of {picture : (List Row)} (hP : P_column_sums_of picture) (tp : List D) : m_column_sums_of [(eT eR) picture] tp = .ok ((eT eN) (F_column_sums_of picture)) tp := by
  obtain ⟨r, rfl, e⟩ := snd_column_sums_of picture (ok_column_sums_of hP) tp
  exact e
end W
set_option maxHeartbeats 1000000
namespace W
open PySem L2 G T
def V_part_of (picture : (List Row)) (rows : (List Nat)) (columns : (List Nat)) (Q : (List Row) → Prop) : Prop := (rows.length ≤ 1000000) ∧ (∀ x1, x1 ∈ rows → (columns.length ≤ 1000000) ∧ (∀ x3, x3 ∈ columns → (x1 < picture.length) ∧ ((picture[x1]!).length ≤ 1000000 ∧ x3 < (picture[x1]!).length)) ∧ ((columns.map fun x3 => (picture[x1]!)[x3]!).length ≤ 16777216)) ∧ Q (rows.map fun x1 => (columns.map fun x3 => (picture[x1]!)[x3]!))
theorem snd_part_of (picture : (List Row)) (rows : (List Nat)) (columns : (List Nat)) {Q : (List Row) → Prop} (h : V_part_of picture rows columns Q) (tp : List D) : ∃ r : (List Row), Q r ∧ m_part_of [(eT eR) picture, (eL eN) rows, (eL eN) columns] tp = .ok ((eT eR) r) tp := by
  obtain ⟨d, t, e1, rfl, r, rfl, q⟩ := T.wp_def (n := 5) (s := b_part_of) (ds := [(eT eR) picture, (eL eN) rows, (eL eN) columns]) (tp := tp) (Q := fun d t => t = tp ∧ ∃ r : (List Row), d = (eT eR) r ∧ Q r) (by
    unfold V_part_of at h
    change WP _ _ _ _ (b_part_of [some ((eT eR) picture), some ((eL eN) rows), some ((eL eN) columns), none, none] _)
    unfold b_part_of
    obtain ⟨c2, h⟩ := h
    obtain ⟨c9, h⟩ := h
    exact T.wp_ret (T.ev_tupleL (e := eR) (xs := (rows.map fun x1 => (columns.map fun x3 => (picture[x1]!)[x3]!))) (T.ev_compY (e := eN) (e1 := eR) (xs := rows) (ds := fun x1 => [eN x1]) (g := fun x1 => (columns.map fun x3 => (picture[x1]!)[x3]!)) (T.it_L (e := eN) (xs := rows) (T.ev_v rfl)) c2 (fun _ => rfl) (fun x1 hx => match c9 x1 hx with | ⟨c4, c7, c8⟩ => (T.ev_joinG (bs := (columns.map fun x3 => (picture[x1]!)[x3]!)) c8 (T.ev_compY (e := eN) (e1 := eG) (xs := columns) (ds := fun x3 => [eN x3]) (g := fun x3 => (picture[x1]!)[x3]!) (T.it_L (e := eN) (xs := columns) (T.ev_v rfl)) c4 (fun _ => rfl) (fun x3 hx => match c7 x3 hx with | ⟨c5, c6⟩ => (T.ev_ixR (r := picture[x1]!) (i := x3) c6 (T.ev_ixT (e := eR) (xs := picture) (i := x1) c5 (T.ev_v rfl) (T.ev_v rfl)) (T.ev_v rfl)))))))) ⟨rfl, (rows.map fun x1 => (columns.map fun x3 => (picture[x1]!)[x3]!)), rfl, h⟩)
  exact ⟨r, q, e1⟩
abbrev P_part_of (p : Pic) (rs cs : List Nat) : Prop := PicP p ∧ rs.length ≤ 1000 ∧ cs.length ≤ 1000 ∧ (∀ i ∈ rs, i < p.length) ∧ ∀ j ∈ cs, j < p[0]!.length
abbrev F_part_of (p : Pic) (rs cs : List Nat) : Pic := rs.map fun i => cs.map fun j => (p[i]!)[j]!
theorem ok_part_of {p : Pic} {rs cs : List Nat} (h : P_part_of p rs cs) : V_part_of p rs cs (· = F_part_of p rs cs) := by
  obtain ⟨k, l1, l2, h1, h2⟩ := h
  have := k.h1; have := k.h30; have := k.w1; have := k.w30
  refine ⟨by omega, fun i hi => ⟨by omega, fun j hj => ?_, by rw [List.length_map]; omega⟩, rfl⟩
  have hi := h1 i hi
  have hj := h2 j hj
  have := k.get hi
  omega
theorem t_part_of {picture : (List Row)} {rows : (List Nat)} {columns : (List Nat)} (hP : P_part_of picture rows columns) (tp : List D) : m_part_of [(eT eR) picture, (eL eN) rows, (eL eN) columns] tp = .ok ((eT eR) (F_part_of picture rows columns)) tp := by
  obtain ⟨r, rfl, e⟩ := snd_part_of picture rows columns (ok_part_of hP) tp
  exact e
end W
set_option maxHeartbeats 1000000
namespace W
open PySem L2 G T
def V_leads_to (picture : (List Row)) (line : Nat) (Q : (List Nat) → Prop) : Prop := (((line < picture.length) → (line < picture.length) ∧ ((enumP (picture[line]!)).length ≤ 1000000) ∧ Q (((enumP (picture[line]!)).filter fun x2 => decide (x2.2 ≠ true)).map fun x2 => (picture.length + x2.1))) ∧ (¬(line < picture.length) → ((enumP picture).length ≤ 1000000) ∧ (∀ x4, x4 ∈ (enumP picture) → (picture.length ≤ line) ∧ (x4.2.length ≤ 1000000 ∧ (line - picture.length) < x4.2.length)) ∧ Q (((enumP picture).filter fun x4 => decide (x4.2[(line - picture.length)]! = true)).map fun x4 => x4.1)))
theorem snd_leads_to (picture : (List Row)) (line : Nat) {Q : (List Nat) → Prop} (h : V_leads_to picture line Q) (tp : List D) : ∃ r : (List Nat), Q r ∧ m_leads_to [(eT eR) picture, eN line] tp = .ok ((eL eN) r) tp := by
  obtain ⟨d, t, e1, rfl, r, rfl, q⟩ := T.wp_def (n := 6) (s := b_leads_to) (ds := [(eT eR) picture, eN line]) (tp := tp) (Q := fun d t => t = tp ∧ ∃ r : (List Nat), d = (eL eN) r ∧ Q r) (by
    unfold V_leads_to at h
    change WP _ _ _ _ (b_leads_to [some ((eT eR) picture), some (eN line), none, none, none, none] _)
    unfold b_leads_to
    refine T.wp_seq (T.wp_set (T.ev_lenT (e := eR) (xs := picture) (T.ev_v rfl)) ?_)
    change WP _ _ _ _ (At _ [some ((eT eR) picture), some (eN line), some (eN picture.length), none, none, none] _)
    refine T.wp_seq (T.wp_if (P := (line < picture.length)) (T.ev_bool (T.ev_lt (x := line) (y := picture.length) (T.ev_v rfl) (T.ev_v rfl))) (fun hp => ?_) (fun hn => ?_))
    · replace h := h.1 hp
      obtain ⟨c1, h⟩ := h
      obtain ⟨c3, h⟩ := h
      exact T.wp_ret (T.ev_comp (e := (eP eN eG)) (e1 := eN) (xs := (enumP (picture[line]!))) (ds := fun x2 => [eN x2.1, eG x2.2]) (g := fun x2 => (picture.length + x2.1)) (P := fun x2 => (x2.2 ≠ true)) (T.it_enumR (xs := picture[line]!) (T.ev_ixT (e := eR) (xs := picture) (i := line) c1 (T.ev_v rfl) (T.ev_v rfl))) c3 (fun _ => rfl) (fun x2 hx => (T.ev_bool (T.ev_ne (x := x2.2) (y := true) qG rfl (T.ev_v rfl) (T.ev_c (congrArg D.str str_black))))) (fun x2 hx hq => (T.ev_add (x := picture.length) (y := x2.1) (T.ev_v rfl) (T.ev_v rfl)))) ⟨rfl, (((enumP (picture[line]!)).filter fun x2 => decide (x2.2 ≠ true)).map fun x2 => (picture.length + x2.1)), rfl, h⟩
    · replace h := h.2 hn
      refine T.wp_skip ?_
      change WP _ _ _ _ (At _ [some ((eT eR) picture), some (eN line), some (eN picture.length), none, none, none] _)
      obtain ⟨c5, h⟩ := h
      obtain ⟨c8, h⟩ := h
      exact T.wp_ret (T.ev_comp (e := (eP eN eR)) (e1 := eN) (xs := (enumP picture)) (ds := fun x4 => [eN x4.1, eR x4.2]) (g := fun x4 => x4.1) (P := fun x4 => (x4.2[(line - picture.length)]! = true)) (T.it_enumT (e := eR) (xs := picture) (T.ev_v rfl)) c5 (fun _ => rfl) (fun x4 hx => match c8 x4 hx with | ⟨c6, c7⟩ => (T.ev_bool (T.ev_eq (x := x4.2[(line - picture.length)]!) (y := true) qG rfl (T.ev_ixR (r := x4.2) (i := (line - picture.length)) c7 (T.ev_v rfl) (T.ev_sub (x := line) (y := picture.length) c6 (T.ev_v rfl) (T.ev_v rfl))) (T.ev_c (congrArg D.str str_black))))) (fun x4 hx hq => (T.ev_v rfl))) ⟨rfl, (((enumP picture).filter fun x4 => decide (x4.2[(line - picture.length)]! = true)).map fun x4 => x4.1), rfl, h⟩)
  exact ⟨r, q, e1⟩
abbrev P_leads_to (p : Pic) (l : Nat) : Prop := PicP p ∧ l < p.length + p[0]!.length
abbrev F_leads_to (p : Pic) (l : Nat) : List Nat := leadsQ p l
theorem ok_leads_to {p : Pic} {l : Nat} (h : P_leads_to p l) : V_leads_to p l (· = F_leads_to p l) := by
  obtain ⟨k, hl⟩ := h
  have h1 := k.h1; have h30 := k.h30; have w1 := k.w1; have w30 := k.w30
  refine ⟨fun q => ⟨q, ?_, ?_⟩, fun q => ⟨?_, fun x hx => ⟨by omega, ?_⟩, ?_⟩⟩
  · rw [enumP_eq, List.length_map, List.length_range, k.get q]; omega
  · unfold F_leads_to leadsQ
    rw [if_pos q, enumP_eq, List.filter_map, List.map_map, k.get q]
    have : ((fun x : Nat × Bool => decide (x.2 ≠ true)) ∘ fun j => (j, (p[l]!)[j]!)) = fun j => decide ((p[l]!)[j]! = false) := by
      funext j
      show decide ((p[l]!)[j]! ≠ true) = _
      cases (p[l]!)[j]! <;> rfl
    rw [this]; rfl
  · rw [enumP_eq, List.length_map, List.length_range]; omega
  · obtain ⟨a, b⟩ := mem_enumP hx
    have := k.get a
    rw [b]
    omega
  · unfold F_leads_to leadsQ
    rw [if_neg q, enumP_eq, List.filter_map, List.map_map]
    exact List.map_id _
theorem t_leads_to {picture : (List Row)} {line : Nat} (hP : P_leads_to picture line) (tp : List D) : m_leads_to [(eT eR) picture, eN line] tp = .ok ((eL eN) (F_leads_to picture line)) tp := by
  obtain ⟨r, rfl, e⟩ := snd_leads_to picture line (ok_leads_to hP) tp
  exact e
end W
set_option maxHeartbeats 1000000
namespace W
open PySem L2 G T
def V_chosen (many : Nat) (some_ : Nat) (Q : Nat → Prop) : Prop := (some_ ≤ 1073741824) ∧ ∃ I3 : Nat → Nat → Prop, I3 0 1 ∧ (∀ (i7 : Nat) (x8 : Nat), (List.range some_)[i7]? = some x8 → ∀ found : Nat, I3 i7 found → (x8 ≤ many) ∧ (cMul ((found : Nat) : Int) (((many - x8) : Nat) : Int) = true) ∧ (cDiv (((x8 + 1) : Nat) : Int) = true) ∧ ∀ found_1 : Nat, found_1 = ((found * (many - x8)) / (x8 + 1)) → I3 (i7 + 1) found_1) ∧ (∀ found : Nat, I3 (List.range some_).length found → Q found)
theorem snd_chosen (many : Nat) (some_ : Nat) {Q : Nat → Prop} (h : V_chosen many some_ Q) (tp : List D) : ∃ r : Nat, Q r ∧ m_chosen [eN many, eN some_] tp = .ok (eN r) tp := by
  obtain ⟨d, t, e1, rfl, r, rfl, q⟩ := T.wp_def (n := 4) (s := b_chosen) (ds := [eN many, eN some_]) (tp := tp) (Q := fun d t => t = tp ∧ ∃ r : Nat, d = eN r ∧ Q r) (by
    unfold V_chosen at h
    change WP _ _ _ _ (b_chosen [some (eN many), some (eN some_), none, none] _)
    unfold b_chosen
    refine T.wp_seq (T.wp_set (T.ev_cN 1) ?_)
    change WP _ _ _ _ (At _ [some (eN many), some (eN some_), some (eN 1), none] _)
    obtain ⟨c1, h⟩ := h
    obtain ⟨I3, h4, h5, h6⟩ := h
    refine T.wp_seq (T.wp_for (e := eN) (xs := (List.range some_)) (ds := fun x8 => [eN x8]) (fun k env tz => tp = tz ∧ ∃ found : Nat, ∃ g2 : Option D, env = [some (eN many), some (eN some_), some (eN found), g2] ∧ I3 k found) (T.it_range (n := some_) c1 (T.ev_v rfl)) (fun _ => rfl) ⟨rfl, 1, _, rfl, h4⟩ ?_ ?_)
    · intro i7 x8 env t hk hI
      obtain ⟨rfl, found, g2, rfl, h⟩ := hI
      replace h := h5 i7 x8 hk found h
      change WP _ _ _ _ (At _ [some (eN many), some (eN some_), some (eN found), some (eN x8)] _)
      obtain ⟨c11, h⟩ := h
      obtain ⟨c12, h⟩ := h
      obtain ⟨c13, h⟩ := h
      obtain ⟨found_1, d14⟩ : ∃ found_1 : Nat, found_1 = ((found * (many - x8)) / (x8 + 1)) := ⟨_, rfl⟩
      replace h := h found_1 d14
      refine T.wp_set (T.ev_as d14 (e := eN) (T.ev_fdiv (x := (found * (many - x8))) (y := (x8 + 1)) c13 (T.ev_mul (x := found) (y := (many - x8)) c12 (T.ev_v rfl) (T.ev_sub (x := many) (y := x8) c11 (T.ev_v rfl) (T.ev_v rfl))) (T.ev_add (x := x8) (y := 1) (T.ev_v rfl) (T.ev_cN 1)))) ?_
      exact ⟨rfl, found_1, _, rfl, h⟩
    rintro _ _ ⟨rfl, found, g2, rfl, h⟩
    replace h := h6 found h
    change WP _ _ _ _ (At _ [some (eN many), some (eN some_), some (eN found), g2] _)
    exact T.wp_ret (T.ev_v rfl) ⟨rfl, found, rfl, h⟩)
  exact ⟨r, q, e1⟩
abbrev P_chosen (m s : Nat) : Prop := s ≤ m ∧ m ≤ 60
abbrev F_chosen (m s : Nat) : Nat := ch m s
theorem ok_chosen {m s : Nat} (h : P_chosen m s) : V_chosen m s (· = F_chosen m s) := by
  obtain ⟨h1, h2⟩ := h
  refine ⟨by omega, fun i f => f = ch m i, (ch_zero m).symm, fun i x hx f hf => ?_, fun f hf => ?_⟩
  · obtain ⟨e, hi⟩ := range_get hx
    subst e hf
    have cw : ch m x < 2 ^ 61 := Nat.lt_of_le_of_lt (ch_le m x) (Nat.pow_lt_pow_right (by decide) (by omega))
    refine ⟨by omega, cMul_nat cw (show m - x < 2 ^ 7 by omega) (by omega) (by omega) (by omega), cDiv_lg (n := 7) (by omega) (Lg.nat (by omega)) (by omega) (by omega), fun g hg => ?_⟩
    rw [hg]; exact ch_div m x
  · rw [List.length_range] at hf; exact hf
theorem t_chosen {many : Nat} {some_ : Nat} (hP : P_chosen many some_) (tp : List D) : m_chosen [eN many, eN some_] tp = .ok (eN (F_chosen many some_)) tp := by
  obtain ⟨r, rfl, e⟩ := snd_chosen many some_ (ok_chosen hP) tp
  exact e
end W
set_option maxHeartbeats 1000000
namespace W
open PySem L2 G T
def V_by_layers2 (rows : Nat) (columns : Nat) (told : (List (List Nat))) (Q : (List Row) → Prop) : Prop := ∃ I4 : Nat → (List (Nat × Nat)) → Prop, I4 0 [] ∧ (∀ (i8 : Nat) (x9 : (Nat × (List Nat))), (enumP told)[i8]? = some x9 → ∀ later : (List (Nat × Nat)), I4 i8 later → ∃ I13 : Nat → (List (Nat × Nat)) → Prop, I13 0 later ∧ (∀ (i17 : Nat) (x18 : Nat), x9.2[i17]? = some x18 → ∀ later_1 : (List (Nat × Nat)), I13 i17 later_1 → (later_1.length < 1000000) ∧ ∀ later_2 : (List (Nat × Nat)), later_2 = (dput later_1 x18 x9.1) → I13 (i17 + 1) later_2) ∧ (∀ later_1 : (List (Nat × Nat)), I13 x9.2.length later_1 → I4 (i8 + 1) later_1)) ∧ (∀ later : (List (Nat × Nat)), I4 (enumP told).length later → (rows ≤ 1073741824) ∧ ∃ I29 : Nat → (List Row) → Prop, I29 0 [] ∧ (∀ (i33 : Nat) (x34 : Nat), (List.range rows)[i33]? = some x34 → ∀ found : (List Row), I29 i33 found → (columns ≤ 1073741824) ∧ ((List.range columns).length ≤ 1000000) ∧ (∀ x38, x38 ∈ (List.range columns) → (x34 ∈ dkeys later) ∧ ((rows + x38) ∈ dkeys later)) ∧ (((List.range columns).map fun x38 => (if (((dget later x34).getD default) < ((dget later (rows + x38)).getD default)) then true else false)).length ≤ 16777216) ∧ (found.length < 1000000) ∧ ∀ found_1 : (List Row), found_1 = (found ++ [((List.range columns).map fun x38 => (if (((dget later x34).getD default) < ((dget later (rows + x38)).getD default)) then true else false))]) → I29 (i33 + 1) found_1) ∧ (∀ found : (List Row), I29 (List.range rows).length found → Q found))
theorem snd_by_layers2 (rows : Nat) (columns : Nat) (told : (List (List Nat))) {Q : (List Row) → Prop} (h : V_by_layers2 rows columns told Q) (tp : List D) : ∃ r : (List Row), Q r ∧ m_by_layers [eN rows, eN columns, (eT (eT eN)) told] tp = .ok ((eT eR) r) tp := by
  obtain ⟨d, t, e1, rfl, r, rfl, q⟩ := T.wp_def (n := 10) (s := b_by_layers) (ds := [eN rows, eN columns, (eT (eT eN)) told]) (tp := tp) (Q := fun d t => t = tp ∧ ∃ r : (List Row), d = (eT eR) r ∧ Q r) (by
    unfold V_by_layers2 at h
    change WP _ _ _ _ (b_by_layers [some (eN rows), some (eN columns), some ((eT (eT eN)) told), none, none, none, none, none, none, none] _)
    unfold b_by_layers
    refine T.wp_seq (T.wp_setF (T.ev_c rfl) rfl ?_)
    change WP _ _ _ _ (At _ [some (eN rows), some (eN columns), some ((eT (eT eN)) told), some ((eD eN) []), none, none, none, none, none, none] _)
    obtain ⟨I4, h5, h6, h7⟩ := h
    refine T.wp_seq (T.wp_for (e := (eP eN (eT eN))) (xs := (enumP told)) (ds := fun x9 => [eN x9.1, (eT eN) x9.2]) (fun k env tz => tp = tz ∧ ∃ later : (List (Nat × Nat)), ∃ g1 : Option D, ∃ g2 : Option D, ∃ g3 : Option D, env = [some (eN rows), some (eN columns), some ((eT (eT eN)) told), some ((eD eN) later), g1, g2, g3, none, none, none] ∧ I4 k later) (T.it_enumT (e := (eT eN)) (xs := told) (T.ev_v rfl)) (fun _ => rfl) ⟨rfl, [], _, _, _, rfl, h5⟩ ?_ ?_)
    · intro i8 x9 env t hk hI
      obtain ⟨rfl, later, g1, g2, g3, rfl, h⟩ := hI
      replace h := h6 i8 x9 hk later h
      change WP _ _ _ _ (At _ [some (eN rows), some (eN columns), some ((eT (eT eN)) told), some ((eD eN) later), some (eN x9.1), some ((eT eN) x9.2), g3, none, none, none] _)
      obtain ⟨I13, h14, h15, h16⟩ := h
      refine T.wp_for (e := eN) (xs := x9.2) (ds := fun x18 => [eN x18]) (fun k env tz => tp = tz ∧ ∃ later_1 : (List (Nat × Nat)), ∃ g12 : Option D, env = [some (eN rows), some (eN columns), some ((eT (eT eN)) told), some ((eD eN) later_1), some (eN x9.1), some ((eT eN) x9.2), g12, none, none, none] ∧ I13 k later_1) (T.it_T (e := eN) (xs := x9.2) (T.ev_v rfl)) (fun _ => rfl) ⟨rfl, later, _, rfl, h14⟩ ?_ ?_
      · intro i17 x18 env t hk hI
        obtain ⟨rfl, later_1, g12, rfl, h⟩ := hI
        replace h := h15 i17 x18 hk later_1 h
        change WP _ _ _ _ (At _ [some (eN rows), some (eN columns), some ((eT (eT eN)) told), some ((eD eN) later_1), some (eN x9.1), some ((eT eN) x9.2), some (eN x18), none, none, none] _)
        obtain ⟨c21, h⟩ := h
        obtain ⟨later_2, d22⟩ : ∃ later_2 : (List (Nat × Nat)), later_2 = (dput later_1 x18 x9.1) := ⟨_, rfl⟩
        replace h := h later_2 d22
        refine T.wp_dset (e := eN) (d := later_1) (k := x18) (v := x9.1) rfl (T.ev_v rfl) (T.ev_v rfl) c21 ?_
        rw [← d22]
        exact ⟨rfl, later_2, _, rfl, h⟩
      rintro _ _ ⟨rfl, later_1, g12, rfl, h⟩
      replace h := h16 later_1 h
      exact ⟨rfl, later_1, _, _, _, rfl, h⟩
    rintro _ _ ⟨rfl, later, g1, g2, g3, rfl, h⟩
    replace h := h7 later h
    change WP _ _ _ _ (At _ [some (eN rows), some (eN columns), some ((eT (eT eN)) told), some ((eD eN) later), g1, g2, g3, none, none, none] _)
    refine T.wp_seq (T.wp_setF (T.ev_lst (ds := []) T.ev_nil rfl) rfl ?_)
    change WP _ _ _ _ (At _ [some (eN rows), some (eN columns), some ((eT (eT eN)) told), some ((eD eN) later), g1, g2, g3, some ((eL eR) []), none, none] _)
    obtain ⟨c27, h⟩ := h
    obtain ⟨I29, h30, h31, h32⟩ := h
    refine T.wp_seq (T.wp_for (e := eN) (xs := (List.range rows)) (ds := fun x34 => [eN x34]) (fun k env tz => tp = tz ∧ ∃ found : (List Row), ∃ g28 : Option D, env = [some (eN rows), some (eN columns), some ((eT (eT eN)) told), some ((eD eN) later), g1, g2, g3, some ((eL eR) found), g28, none] ∧ I29 k found) (T.it_range (n := rows) c27 (T.ev_v rfl)) (fun _ => rfl) ⟨rfl, [], _, rfl, h30⟩ ?_ ?_)
    · intro i33 x34 env t hk hI
      obtain ⟨rfl, found, g28, rfl, h⟩ := hI
      replace h := h31 i33 x34 hk found h
      change WP _ _ _ _ (At _ [some (eN rows), some (eN columns), some ((eT (eT eN)) told), some ((eD eN) later), g1, g2, g3, some ((eL eR) found), some (eN x34), none] _)
      obtain ⟨c37, h⟩ := h
      obtain ⟨c39, h⟩ := h
      obtain ⟨c42, h⟩ := h
      obtain ⟨c43, h⟩ := h
      obtain ⟨c44, h⟩ := h
      obtain ⟨found_1, d45⟩ : ∃ found_1 : (List Row), found_1 = (found ++ [((List.range columns).map fun x38 => (if (((dget later x34).getD default) < ((dget later (rows + x38)).getD default)) then true else false))]) := ⟨_, rfl⟩
      replace h := h found_1 d45
      refine T.wp_app (e := eR) (xs := found) (x := ((List.range columns).map fun x38 => (if (((dget later x34).getD default) < ((dget later (rows + x38)).getD default)) then true else false))) rfl (T.ev_joinG (bs := ((List.range columns).map fun x38 => (if (((dget later x34).getD default) < ((dget later (rows + x38)).getD default)) then true else false))) c43 (T.ev_compY (e := eN) (e1 := eG) (xs := (List.range columns)) (ds := fun x38 => [eN x38]) (g := fun x38 => (if (((dget later x34).getD default) < ((dget later (rows + x38)).getD default)) then true else false)) (T.it_range (n := columns) c37 (T.ev_v rfl)) c39 (fun _ => rfl) (fun x38 hx => match c42 x38 hx with | ⟨c40, c41⟩ => (T.ev_ifE (P := (((dget later x34).getD default) < ((dget later (rows + x38)).getD default))) (e := eG) (x := true) (y := false) (T.ev_bool (T.ev_lt (x := ((dget later x34).getD default)) (y := ((dget later (rows + x38)).getD default)) (T.ev_ixK (e := eN) (x := x34) (d := later) c40 (T.ev_v rfl) (T.ev_v rfl)) (T.ev_ixK (e := eN) (x := (rows + x38)) (d := later) c41 (T.ev_v rfl) (T.ev_add (x := rows) (y := x38) (T.ev_v rfl) (T.ev_v rfl))))) (fun hp => (T.ev_c (congrArg D.str str_black))) (fun hp => (T.ev_c (congrArg D.str str_white))))))) c44 ?_
      rw [← d45]
      exact ⟨rfl, found_1, _, rfl, h⟩
    rintro _ _ ⟨rfl, found, g28, rfl, h⟩
    replace h := h32 found h
    change WP _ _ _ _ (At _ [some (eN rows), some (eN columns), some ((eT (eT eN)) told), some ((eD eN) later), g1, g2, g3, some ((eL eR) found), g28, none] _)
    exact T.wp_ret (T.ev_tupleL (e := eR) (xs := found) (T.ev_v rfl)) ⟨rfl, found, rfl, h⟩)
  exact ⟨r, q, e1⟩
abbrev P_by_layers2 (h w : Nat) (told : List (List Nat)) : Prop := (h ≤ 30 ∧ w ≤ 30) ∧ told.flatten.Perm (List.range (h + w))
abbrev F_by_layers2 (h w : Nat) (told : List (List Nat)) : Pic := layP h w told
theorem ok_by_layers2 {h w : Nat} {told : List (List Nat)} (k : P_by_layers2 h w told) : V_by_layers2 h w told (· = F_by_layers2 h w told) := by
  obtain ⟨⟨h30, w30⟩, pm⟩ := k
  have nd : told.flatten.Nodup := pm.nodup_iff.mpr List.nodup_range
  have tl : told.flatten.length ≤ 60 := by rw [pm.length_eq, List.length_range]; omega
  refine ⟨fun i d => d.length ≤ (told.take i).flatten.length ∧ ∀ j, j < i → ∀ l ∈ told[j]!, dget d l = some j, ⟨by simp, fun j hj => by omega⟩, fun i x hx d hd => ?_, fun d hd => ?_⟩
  · obtain ⟨ex, _, hi⟩ := enumP_get hx
    have hi : i < told.length := hi
    subst ex
    obtain ⟨d1, d2⟩ := hd
    have tk := take_snoc (get!_get? hi)
    have tl2 := flat_take_le (i + 1) told
    rw [tk, List.flatten_append, List.length_append, show ([told[i]!].flatten) = told[i]! by simp] at tl2
    refine ⟨fun t d => d.length ≤ (told.take i).flatten.length + t ∧ (∀ j, j < i → ∀ l ∈ told[j]!, dget d l = some j) ∧ ∀ s, s < t → dget d ((told[i]!)[s]!) = some i, ⟨by omega, d2, fun s hs => by omega⟩, fun t x hx d hd => ?_, fun d hd => ?_⟩
    · obtain ⟨ex, ht⟩ := get?_get! hx
      have ht : t < (told[i]!).length := ht
      have ex : x = (told[i]!)[t]! := ex
      obtain ⟨f1, f2, f3⟩ := hd
      have xm : x ∈ told[i]! := by rw [ex]; exact mem_get! ht
      refine ⟨by omega, fun d2 hd2 => ?_⟩
      have e : ∀ l, dget d2 l = if l = x then some i else dget d l := fun l => by rw [hd2]; exact dget_dput d x i l
      have ll : d2.length ≤ d.length + 1 := by rw [hd2]; exact len_dput d x i
      refine ⟨by omega, fun j hj l hl => ?_, fun s hs => ?_⟩
      · rw [e, if_neg fun z => by
          subst z
          have := flat_uniq nd (show j < told.length by omega) hi hl xm
          omega]
        exact f2 j hj l hl
      · rw [e]
        by_cases z : (told[i]!)[s]! = x
        · rw [if_pos z]
        · rw [if_neg z]
          refine f3 s ?_
          rcases Nat.lt_or_ge s t with y | y
          · exact y
          · have : s = t := by omega
            subst this
            exact (z ex.symm).elim
    · obtain ⟨f1, f2, f3⟩ := hd
      have f1 : d.length ≤ (told.take i).flatten.length + (told[i]!).length := f1
      have f3 : ∀ s, s < (told[i]!).length → dget d ((told[i]!)[s]!) = some i := f3
      refine ⟨?_, fun j hj l hl => ?_⟩
      · show d.length ≤ (told.take (i + 1)).flatten.length
        rw [tk, List.flatten_append, List.length_append, show ([told[i]!].flatten) = told[i]! by simp]
        exact f1
      · rcases Nat.lt_or_ge j i with y | y
        · exact f2 j y l hl
        · have : j = i := by omega
          subst this
          obtain ⟨s, hs, e⟩ := List.getElem_of_mem hl
          have := f3 s hs
          rwa [getElem!_pos _ s hs, e] at this
  · have hd : d.length ≤ (told.take (enumP told).length).flatten.length ∧ ∀ j, j < (enumP told).length → ∀ l ∈ told[j]!, dget d l = some j := hd
    have el : (enumP told).length = told.length := by unfold enumP; rw [List.length_mapIdx]
    rw [el] at hd
    obtain ⟨_, hd⟩ := hd
    have at_ : ∀ l, l < h + w → dget d l = some (atL told l) := fun l hl => by
      obtain ⟨j, hj, hlj⟩ := mem_flat (pm.mem_iff.mpr (List.mem_range.mpr hl))
      rw [atL_eq nd hj hlj]
      exact hd j hj l hlj
    have key : ∀ l, l < h + w → l ∈ dkeys d := fun l hl => Classical.byContradiction fun z => by
      have := at_ l hl
      rw [dget_none z] at this; cases this
    refine ⟨by omega, fun i f => f = (List.range i).map fun a => (List.range w).map fun b => decide (atL told a < atL told (h + b)), rfl, fun i x hx f hf => ?_, fun f hf => ?_⟩
    · obtain ⟨ex, hi⟩ := range_get hx
      subst ex
      refine ⟨by omega, by rw [List.length_range]; omega, fun b hb => ⟨key _ (by omega), key _ (by have := List.mem_range.mp hb; omega)⟩, by rw [List.length_map, List.length_range]; omega, by rw [hf, List.length_map, List.length_range]; omega, fun g hg => ?_⟩
      show g = (List.range (x + 1)).map fun a => (List.range w).map fun b => decide (atL told a < atL told (h + b))
      rw [hg, hf, List.range_succ, List.map_append]
      congr 1
      show [_] = [_]
      congr 1
      refine List.map_congr_left fun b hb => ?_
      have hb := List.mem_range.mp hb
      rw [at_ x (by omega), at_ (h + b) (by omega)]
      show (if atL told x < atL told (h + b) then true else false) = _
      split
      · rename_i z; exact (decide_eq_true z).symm
      · rename_i z; exact (decide_eq_false z).symm
    · have hf : f = (List.range (List.range h).length).map fun a => (List.range w).map fun b => decide (atL told a < atL told (h + b)) := hf
      rw [List.length_range] at hf
      exact hf
theorem t_by_layers2 {rows : Nat} {columns : Nat} {told : (List (List Nat))} (hP : P_by_layers2 rows columns told) (tp : List D) : m_by_layers [eN rows, eN columns, (eT (eT eN)) told] tp = .ok ((eT eR) (F_by_layers2 rows columns told)) tp := by
  obtain ⟨r, rfl, e⟩ := snd_by_layers2 rows columns told (ok_by_layers2 hP) tp
  exact e
end W
set_option maxHeartbeats 1000000
namespace W
open PySem L2 G T
def V_is_in (value : Nat) (least : Nat) (most : Nat) (Q : Bool → Prop) : Prop := Q (decide (((F_is_int value) = true) ∧ (least ≤ value ∧ value ≤ most)))
theorem snd_is_in (value : Nat) (least : Nat) (most : Nat) {Q : Bool → Prop} (h : V_is_in value least most Q) (tp : List D) : ∃ r : Bool, Q r ∧ m_is_in [eN value, eN least, eN most] tp = .ok (eB r) tp := by
  obtain ⟨d, t, e1, rfl, r, rfl, q⟩ := T.wp_def (n := 3) (s := b_is_in) (ds := [eN value, eN least, eN most]) (tp := tp) (Q := fun d t => t = tp ∧ ∃ r : Bool, d = eB r ∧ Q r) (by
    unfold V_is_in at h
    change WP _ _ _ _ (b_is_in [some (eN value), some (eN least), some (eN most)] _)
    unfold b_is_in
    exact T.wp_ret (T.ev_andE (P := ((F_is_int value) = true)) (Q := (least ≤ value ∧ value ≤ most)) (T.ev_decB (F_is_int value) (T.ev_call (T.ev_cons (T.ev_v rfl) T.ev_nil) rfl (t_is_int True.intro _))) (fun hp => (T.ev_chLeLe (x := least) (y := value) (z := most) (T.ev_v rfl) (T.ev_v rfl) (T.ev_v rfl)))) ⟨rfl, (decide (((F_is_int value) = true) ∧ (least ≤ value ∧ value ≤ most))), rfl, h⟩)
  exact ⟨r, q, e1⟩
def F_is_in (v l m : Nat) : Bool := decide (l ≤ v ∧ v ≤ m)
theorem ok_is_in (v l m : Nat) : V_is_in v l m (· = F_is_in v l m) := by simp [V_is_in, F_is_in]
theorem t_is_in {value : Nat} {least : Nat} {most : Nat} (_ : True) (tp : List D) : m_is_in [eN value, eN least, eN most] tp = .ok (eB (F_is_in value least most)) tp := by
  obtain ⟨r, rfl, e⟩ := snd_is_in value least most (ok_is_in value least most) tp
  exact e
end W
set_option maxHeartbeats 1000000
namespace W
open PySem L2 G T
def V_need_picture (value : (List Row)) (Q : Unit → Prop) : Prop := (P_is_picture value) ∧ ((F_is_picture value) = true) ∧ Q ()
theorem snd_need_picture (value : (List Row)) {Q : Unit → Prop} (h : V_need_picture value Q) (tp : List D) : ∃ r : Unit, Q r ∧ m_need_picture [(eT eR) value] tp = .ok (eU r) tp := by
  obtain ⟨d, t, e1, rfl, r, rfl, q⟩ := T.wp_def (n := 1) (s := b_need_picture) (ds := [(eT eR) value]) (tp := tp) (Q := fun d t => t = tp ∧ ∃ r : Unit, d = eU r ∧ Q r) (by
    unfold V_need_picture at h
    change WP _ _ _ _ (b_need_picture [some ((eT eR) value)] _)
    unfold b_need_picture
    obtain ⟨c1, h⟩ := h
    obtain ⟨hf, h⟩ := h
    refine T.wp_if (P := (¬((F_is_picture value) = true))) (T.ev_notT (P := ((F_is_picture value) = true)) (T.ev_dec (F_is_picture value) (T.ev_call (T.ev_cons (T.ev_v rfl) T.ev_nil) rfl (t_is_picture c1 _)))) (fun hp => ?_) (fun hn => ?_)
    · exact absurd hp ((fun h0 => h0 (hf)))
    · refine T.wp_skip ?_
      exact ⟨rfl, (), rfl, h⟩)
  exact ⟨r, q, e1⟩
abbrev P_need_picture (p : Pic) : Prop := PicP p
abbrev F_need_picture (_ : Pic) : Unit := ()
theorem ok_need_picture {p : Pic} (k : P_need_picture p) : V_need_picture p (· = F_need_picture p) := ⟨k, rfl, rfl⟩
theorem t_need_picture {value : (List Row)} (hP : P_need_picture value) (tp : List D) : m_need_picture [(eT eR) value] tp = .ok (eU (F_need_picture value)) tp := by
  obtain ⟨r, rfl, e⟩ := snd_need_picture value (ok_need_picture hP) tp
  exact e
end W
set_option maxHeartbeats 1000000
namespace W
open PySem L2 G T
def V_layers_of (picture : (List Row)) (Q : (List (List Nat)) → Prop) : Prop := (P_lines_of picture) ∧ ((F_lines_of picture) ≤ 16777216) ∧ ∀ left : (List Nat), left = (List.range (F_lines_of picture)) → (left.length ≤ 1000000) ∧ (∀ x4, x4 ∈ left → (P_leads_to picture x4)) ∧ ∀ ways : (List (List Nat)), ways = (left.map fun x4 => (F_leads_to picture x4)) → ∃ (I12 : (List Nat) → (List (List Nat)) → Prop) (M13 : (List Nat) → (List (List Nat)) → Nat), I12 left [] ∧ M13 left [] < 1000000 ∧ (∀ left_1 : (List Nat), ∀ found : (List (List Nat)), I12 left_1 found → (left_1.length ≤ 1000000) ∧ ∀ told : (List (Nat × Bool)), told = (dictOf (left_1.map fun x19 => (x19, true))) → (left_1.length ≤ 1000000) ∧ (∀ x22, x22 ∈ left_1 → (x22 < ways.length) ∧ ((ways[x22]!).length ≤ 1000000)) ∧ ∀ some_ : (List Nat), some_ = (left_1.filter fun x22 => decide (¬(∃ x25 ∈ ways[x22]!, (x25 ∈ dkeys told)))) → (((some_ = []) → Q found) ∧ (¬(some_ = []) → (found.length < 1000000) ∧ ∀ found_1 : (List (List Nat)), found_1 = (found ++ [some_]) → (some_.length ≤ 1000000) ∧ ∀ gone : (List (Nat × Bool)), gone = (dictOf (some_.map fun x31 => (x31, true))) → (left_1.length ≤ 1000000) ∧ ∀ left_2 : (List Nat), left_2 = (left_1.filter fun x34 => decide (x34 ∉ dkeys gone)) → (I12 left_2 found_1 ∧ M13 left_2 found_1 < M13 left_1 found))))
theorem snd_layers_of (picture : (List Row)) {Q : (List (List Nat)) → Prop} (h : V_layers_of picture Q) (tp : List D) : ∃ r : (List (List Nat)), Q r ∧ m_layers_of [(eT eR) picture] tp = .ok ((eL (eL eN)) r) tp := by
  obtain ⟨d, t, e1, rfl, r, rfl, q⟩ := T.wp_def (n := 9) (s := b_layers_of) (ds := [(eT eR) picture]) (tp := tp) (Q := fun d t => t = tp ∧ ∃ r : (List (List Nat)), d = (eL (eL eN)) r ∧ Q r) (by
    unfold V_layers_of at h
    change WP _ _ _ _ (b_layers_of [some ((eT eR) picture), none, none, none, none, none, none, none, none] _)
    unfold b_layers_of
    obtain ⟨c1, h⟩ := h
    obtain ⟨c2, h⟩ := h
    obtain ⟨left, d3⟩ : ∃ left : (List Nat), left = (List.range (F_lines_of picture)) := ⟨_, rfl⟩
    replace h := h left d3
    refine T.wp_seq (T.wp_par (T.ev_cons (T.ev_as d3 (e := (eL eN)) (T.ev_rg1L (n := (F_lines_of picture)) c2 (T.ev_call (T.ev_cons (T.ev_v rfl) T.ev_nil) rfl (t_lines_of c1 _)))) (T.ev_cons (T.ev_lst (ds := []) T.ev_nil rfl) T.ev_nil)) rfl ?_)
    change WP _ _ _ _ (At _ [some ((eT eR) picture), some ((eL eN) left), some ((eL (eL eN)) []), none, none, none, none, none, none] _)
    obtain ⟨c5, h⟩ := h
    obtain ⟨c7, h⟩ := h
    obtain ⟨ways, d8⟩ : ∃ ways : (List (List Nat)), ways = (left.map fun x4 => (F_leads_to picture x4)) := ⟨_, rfl⟩
    replace h := h ways d8
    refine T.wp_seq (T.wp_set (T.ev_as d8 (e := (eL (eL eN))) (T.ev_compY (e := eN) (e1 := (eL eN)) (xs := left) (ds := fun x4 => [eN x4]) (g := fun x4 => (F_leads_to picture x4)) (T.it_L (e := eN) (xs := left) (T.ev_v rfl)) c5 (fun _ => rfl) (fun x4 hx => have c6 := c7 x4 hx; (T.ev_call (T.ev_cons (T.ev_v rfl) (T.ev_cons (T.ev_v rfl) T.ev_nil)) rfl (t_leads_to c6 _))))) ?_)
    change WP _ _ _ _ (At _ [some ((eT eR) picture), some ((eL eN) left), some ((eL (eL eN)) []), some ((eL (eL eN)) ways), none, none, none, none, none] _)
    obtain ⟨I12, M13, h14, h15, h16⟩ := h
    refine T.wp_while (fun n env tz => tp = tz ∧ ∃ left_1 : (List Nat), ∃ found : (List (List Nat)), ∃ g9 : Option D, ∃ g10 : Option D, ∃ g11 : Option D, env = [some ((eT eR) picture), some ((eL eN) left_1), some ((eL (eL eN)) found), some ((eL (eL eN)) ways), none, g9, g10, none, g11] ∧ I12 left_1 found ∧ M13 left_1 found = n) ⟨_, h15, rfl, left, [], _, _, _, rfl, h14, rfl⟩ ?_
    intro n17 env t hI
    obtain ⟨rfl, left_1, found, g9, g10, g11, rfl, h, rfl⟩ := hI
    replace h := h16 left_1 found h
    refine ⟨(true = true), inferInstance, (T.ev_dec true (T.ev_c rfl)), fun hp => ?_, fun hn => ?_⟩
    · obtain ⟨c20, h⟩ := h
      obtain ⟨told, d21⟩ : ∃ told : (List (Nat × Bool)), told = (dictOf (left_1.map fun x19 => (x19, true))) := ⟨_, rfl⟩
      replace h := h told d21
      refine T.wp_seq (T.wp_set (T.ev_as d21 (e := (eD eB)) (T.ev_dc (e := eB) (e1 := eN) (xs := left_1) (ds := fun x19 => [eN x19]) (k := fun x19 => x19) (v := fun x19 => true) (T.it_L (e := eN) (xs := left_1) (T.ev_v rfl)) c20 (fun _ => rfl) (fun x19 hx => (T.ev_v rfl)) (fun x19 hx => (T.ev_c rfl)))) ?_)
      change WP _ _ _ _ (At _ [some ((eT eR) picture), some ((eL eN) left_1), some ((eL (eL eN)) found), some ((eL (eL eN)) ways), none, some ((eD eB) told), g10, none, g11] _)
      obtain ⟨c23, h⟩ := h
      obtain ⟨c27, h⟩ := h
      obtain ⟨some_, d28⟩ : ∃ some_ : (List Nat), some_ = (left_1.filter fun x22 => decide (¬(∃ x25 ∈ ways[x22]!, (x25 ∈ dkeys told)))) := ⟨_, rfl⟩
      replace h := h some_ d28
      refine T.wp_seq (T.wp_set (T.ev_as d28 (e := (eL eN)) (T.ev_compI (e := eN) (xs := left_1) (ds := fun x22 => [eN x22]) (P := fun x22 => (¬(∃ x25 ∈ ways[x22]!, (x25 ∈ dkeys told)))) (T.it_L (e := eN) (xs := left_1) (T.ev_v rfl)) c23 (fun _ => rfl) (fun x22 hx => match c27 x22 hx with | ⟨c24, c26⟩ => (T.ev_notT (P := (∃ x25 ∈ ways[x22]!, (x25 ∈ dkeys told))) (T.ev_bool (T.ev_anyY (xs := ways[x22]!) (R := fun x25 => (x25 ∈ dkeys told)) (T.ev_compY (e := eN) (e1 := eB) (xs := ways[x22]!) (ds := fun x25 => [eN x25]) (g := fun x25 => (decide (x25 ∈ dkeys told))) (T.it_L (e := eN) (xs := ways[x22]!) (T.ev_ixL (e := (eL eN)) (xs := ways) (i := x22) c24 (T.ev_v rfl) (T.ev_v rfl))) c26 (fun _ => rfl) (fun x25 hx => (T.ev_inK (x := x25) (d := told) (T.ev_v rfl) (T.ev_v rfl)))))))) (fun x22 hx hq => (T.ev_v rfl)))) ?_)
      change WP _ _ _ _ (At _ [some ((eT eR) picture), some ((eL eN) left_1), some ((eL (eL eN)) found), some ((eL (eL eN)) ways), none, some ((eD eB) told), some ((eL eN) some_), none, g11] _)
      refine T.wp_seq (T.wp_if (P := (some_ = [])) (T.ev_bool (T.ev_eq (x := some_) (y := []) (qL qN) rfl (T.ev_v rfl) (T.ev_lst (ds := []) T.ev_nil rfl))) (fun hp => ?_) (fun hn => ?_))
      · replace h := h.1 hp
        exact T.wp_ret (T.ev_v rfl) ⟨rfl, found, rfl, h⟩
      · replace h := h.2 hn
        refine T.wp_skip ?_
        change WP _ _ _ _ (At _ [some ((eT eR) picture), some ((eL eN) left_1), some ((eL (eL eN)) found), some ((eL (eL eN)) ways), none, some ((eD eB) told), some ((eL eN) some_), none, g11] _)
        obtain ⟨c29, h⟩ := h
        obtain ⟨found_1, d30⟩ : ∃ found_1 : (List (List Nat)), found_1 = (found ++ [some_]) := ⟨_, rfl⟩
        replace h := h found_1 d30
        refine T.wp_seq (T.wp_app (e := (eL eN)) (xs := found) (x := some_) rfl (T.ev_v rfl) c29 ?_)
        rw [← d30]
        change WP _ _ _ _ (At _ [some ((eT eR) picture), some ((eL eN) left_1), some ((eL (eL eN)) found_1), some ((eL (eL eN)) ways), none, some ((eD eB) told), some ((eL eN) some_), none, g11] _)
        obtain ⟨c32, h⟩ := h
        obtain ⟨gone, d33⟩ : ∃ gone : (List (Nat × Bool)), gone = (dictOf (some_.map fun x31 => (x31, true))) := ⟨_, rfl⟩
        replace h := h gone d33
        refine T.wp_seq (T.wp_set (T.ev_as d33 (e := (eD eB)) (T.ev_dc (e := eB) (e1 := eN) (xs := some_) (ds := fun x31 => [eN x31]) (k := fun x31 => x31) (v := fun x31 => true) (T.it_L (e := eN) (xs := some_) (T.ev_v rfl)) c32 (fun _ => rfl) (fun x31 hx => (T.ev_v rfl)) (fun x31 hx => (T.ev_c rfl)))) ?_)
        change WP _ _ _ _ (At _ [some ((eT eR) picture), some ((eL eN) left_1), some ((eL (eL eN)) found_1), some ((eL (eL eN)) ways), none, some ((eD eB) told), some ((eL eN) some_), none, some ((eD eB) gone)] _)
        obtain ⟨c35, h⟩ := h
        obtain ⟨left_2, d36⟩ : ∃ left_2 : (List Nat), left_2 = (left_1.filter fun x34 => decide (x34 ∉ dkeys gone)) := ⟨_, rfl⟩
        replace h := h left_2 d36
        refine T.wp_set (T.ev_as d36 (e := (eL eN)) (T.ev_compI (e := eN) (xs := left_1) (ds := fun x34 => [eN x34]) (P := fun x34 => (x34 ∉ dkeys gone)) (T.it_L (e := eN) (xs := left_1) (T.ev_v rfl)) c35 (fun _ => rfl) (fun x34 hx => (T.ev_bool (T.ev_ninK (x := x34) (d := gone) (T.ev_v rfl) (T.ev_v rfl)))) (fun x34 hx hq => (T.ev_v rfl)))) ?_
        exact ⟨_, h.2, rfl, left_2, found_1, _, _, _, rfl, h.1, rfl⟩
    · exact (hn rfl).elim)
  exact ⟨r, q, e1⟩
abbrev P_layers_of (p : Pic) : Prop := PicP p
abbrev F_layers_of (p : Pic) : List (List Nat) := layersQ p
theorem ok_layers_of {p : Pic} (k : P_layers_of p) : V_layers_of p (· = F_layers_of p) := by
  have h1 := k.h1; have h30 := k.h30; have w1 := k.w1; have w30 := k.w30
  have e0 : F_lines_of p = p.length + p[0]!.length := rfl
  rw [V_layers_of, e0]
  refine ⟨k, by omega, fun left hleft => ⟨by rw [hleft, List.length_range]; omega, fun x hx => ⟨k, by rw [hleft] at hx; exact List.mem_range.mp hx⟩, fun ways hw => ?_⟩⟩
  have wl : ways.length = p.length + p[0]!.length := by rw [hw, List.length_map, hleft, List.length_range]
  have wg : ∀ l, l < p.length + p[0]!.length → ways[l]! = leadsQ p l := fun l hl => by
    rw [hw, get!_map' _ (by rw [hleft, List.length_range]; exact hl), hleft, get!_range hl]
  refine ⟨fun l f => ∃ n, f = (liter p n).1 ∧ l = lv p (liter p n) ∧ l.length + n ≤ p.length + p[0]!.length, fun l f => l.length, ⟨0, rfl, ?_, ?_⟩, ?_, fun l f hI => ?_⟩
  · rw [hleft]
    show _ = List.range p.length ++ (List.range p[0]!.length).map fun j => p.length + j
    rw [List.range_add]
  · rw [hleft, List.length_range]; omega
  · show left.length < _
    rw [hleft, List.length_range]; omega
  · obtain ⟨n, rfl, rfl, hn⟩ := hI
    have hr : ∀ i ∈ (liter p n).2.1, i < p.length := fun i hi => liter_row hi
    have hc : ∀ j ∈ (liter p n).2.2, j < p[0]!.length := fun j hj => liter_col hj
    have lt : ∀ l ∈ lv p (liter p n), l < p.length + p[0]!.length := fun l hl => by
      rcases (mem_lv hr l).mp hl with ⟨a, _⟩ | ⟨_, b⟩
      · omega
      · have := hc _ b; omega
    refine ⟨by omega, fun told ht => ⟨by omega, fun x hx => ⟨by rw [wl]; exact lt x hx, ?_⟩, fun some_ hs => ?_⟩⟩
    · rw [wg x (lt x hx)]
      unfold leadsQ
      split
      · rw [List.length_map]
        have := len_filter_le (fun j => decide ((p[x]!)[j]! = false)) (List.range p[0]!.length)
        rw [List.length_range] at this
        omega
      · have := len_filter_le (fun i => decide ((p[i]!)[x - p.length]! = true)) (List.range p.length)
        rw [List.length_range] at this
        omega
    · have es : some_ = freeQ p (liter p n) := by
        rw [hs]
        unfold freeQ
        refine List.filter_congr fun x hx => decide_eq_decide.mpr (not_congr ?_)
        rw [wg x (lt x hx)]
        refine exists_congr fun o => and_congr_right fun _ => ?_
        rw [ht, keys_true]
      refine ⟨fun q => ?_, fun q => ?_⟩
      · rw [es] at q
        have hn2 : n ≤ p.length + p[0]!.length := by omega
        obtain ⟨m, hm⟩ : ∃ m, p.length + p[0]!.length = n + m := ⟨_, (Nat.add_sub_cancel' hn2).symm⟩
        show (liter p n).1 = (liter p (p.length + p[0]!.length)).1
        rw [hm, liter_stop q m]
      · rw [es] at q
        obtain ⟨s1, s2⟩ := lstep_free hr hc q
        have sl : (freeQ p (liter p n)).length ≤ (lv p (liter p n)).length := len_filter_le _ _
        refine ⟨?_, fun f2 hf => ⟨by rw [es]; omega, fun gone hg => ⟨by omega, fun l2 hl2 => ?_⟩⟩⟩
        · have := (liter_sub p n).2.2; omega
        · have e2 : l2 = lv p (liter p (n + 1)) := by
            show l2 = lv p (lstep p (liter p n))
            rw [s2, hl2]
            refine List.filter_congr fun x _ => decide_eq_decide.mpr (not_congr ?_)
            rw [hg, keys_true, es]
          have less : l2.length < (lv p (liter p n)).length := by
            rw [e2]
            show (lv p (lstep p (liter p n))).length < _
            rw [s2]
            obtain ⟨z, hz⟩ := List.exists_mem_of_ne_nil _ q
            have hz2 : z ∈ lv p (liter p n) := (List.mem_filter.mp hz).1
            refine Nat.lt_of_le_of_ne (len_filter_le _ _) fun e => ?_
            have := List.length_filter_eq_length_iff.mp e z hz2
            exact of_decide_eq_true this hz
          refine ⟨⟨n + 1, ?_, e2, by omega⟩, less⟩
          rw [hf, es]
          exact s1.symm
theorem t_layers_of {picture : (List Row)} (hP : P_layers_of picture) (tp : List D) : m_layers_of [(eT eR) picture] tp = .ok ((eL (eL eN)) (F_layers_of picture)) tp := by
  obtain ⟨r, rfl, e⟩ := snd_layers_of picture (ok_layers_of hP) tp
  exact e
end W
set_option maxHeartbeats 1000000
namespace W
open PySem L2 G T
theorem rng1 {n i x : Nat} (h : (List.range' 1 n)[i]? = some x) : x = i + 1 ∧ i < n := by
  obtain ⟨a, b⟩ := List.getElem?_eq_some_iff.mp h
  rw [List.length_range'] at a
  rw [List.getElem_range'] at b
  omega
abbrev P_ways_left (_ : Unit) (r c : Nat) (_ : Bool) : Prop := r ≤ 30 ∧ c ≤ 30
abbrev F_ways_left (_ : Unit) (r c : Nat) (b : Bool) : Nat := wv r c b
abbrev mu_ways_left (_ : Unit) (r c : Nat) (_ : Bool) : Nat := r + c
theorem mu_lt_ways_left {u : Unit} {r c : Nat} {b : Bool} (h : P_ways_left u r c b) : mu_ways_left u r c b < 62 := by
  obtain ⟨h1, h2⟩ := h
  show r + c < 62; omega
theorem wv_lt {r c : Nat} (b : Bool) (h1 : r ≤ 30) (h2 : c ≤ 30) : wv r c b < 2 ^ 2200 := Nat.lt_of_le_of_lt (wv_small 60 r c b h1 h2 (by omega)) (Nat.pow_lt_pow_right (by decide) (by omega))
theorem ch_lt {r x : Nat} (h : r ≤ 30) : ch r x < 2 ^ 31 := Nat.lt_of_le_of_lt (ch_le r x) (Nat.pow_lt_pow_right (by decide) (by omega))
def V_ways_left (known : Unit) (rows : Nat) (columns : Nat) (is_rows : Bool) (Q : Nat → Prop) : Prop := ((((rows + columns) = 0) → Q 1) ∧ (¬((rows + columns) = 0) → ∀ key : (Nat × Nat × Bool), key = (rows, columns, is_rows) → ∃ J3 : Nat → Prop, ((is_rows = true) → (1 ≤ 1073741824 ∧ (rows + 1) ≤ 1073741824) ∧ ∃ I9 : Nat → Nat → Prop, I9 0 0 ∧ (∀ (i13 : Nat) (x14 : Nat), (List.range' 1 ((rows + 1) - 1))[i13]? = some x14 → ∀ found_1 : Nat, I9 i13 found_1 → (P_chosen rows x14) ∧ (x14 ≤ rows) ∧ (P_ways_left known (rows - x14) columns false ∧ mu_ways_left known (rows - x14) columns false < mu_ways_left known rows columns is_rows) ∧ (cMul (((F_chosen rows x14) : Nat) : Int) (((F_ways_left known (rows - x14) columns false) : Nat) : Int) = true) ∧ ∀ found_2 : Nat, found_2 = (found_1 + ((F_chosen rows x14) * (F_ways_left known (rows - x14) columns false))) → I9 (i13 + 1) found_2) ∧ (∀ found_1 : Nat, I9 (List.range' 1 ((rows + 1) - 1)).length found_1 → J3 found_1)) ∧ (¬(is_rows = true) → (1 ≤ 1073741824 ∧ (columns + 1) ≤ 1073741824) ∧ ∃ I26 : Nat → Nat → Prop, I26 0 0 ∧ (∀ (i30 : Nat) (x31 : Nat), (List.range' 1 ((columns + 1) - 1))[i30]? = some x31 → ∀ found_3 : Nat, I26 i30 found_3 → (P_chosen columns x31) ∧ (x31 ≤ columns) ∧ (P_ways_left known rows (columns - x31) true ∧ mu_ways_left known rows (columns - x31) true < mu_ways_left known rows columns is_rows) ∧ (cMul (((F_chosen columns x31) : Nat) : Int) (((F_ways_left known rows (columns - x31) true) : Nat) : Int) = true) ∧ ∀ found_4 : Nat, found_4 = (found_3 + ((F_chosen columns x31) * (F_ways_left known rows (columns - x31) true))) → I26 (i30 + 1) found_4) ∧ (∀ found_3 : Nat, I26 (List.range' 1 ((columns + 1) - 1)).length found_3 → J3 found_3)) ∧ (∀ found : Nat, J3 found → (tellsF 0 [((key.1 : Nat) : Int), ((key.2.1 : Nat) : Int), (if key.2.2 = true then 1 else 0)] = some ((found : Nat) : Int)) ∧ Q found)))
theorem snd_ways_left (n : Nat) (ih : ∀ (known : Unit) (rows : Nat) (columns : Nat) (is_rows : Bool), P_ways_left known rows columns is_rows → mu_ways_left known rows columns is_rows < n → ∀ tp, m_ways_left n [eM known, eN rows, eN columns, eB is_rows] tp = .ok (eN (F_ways_left known rows columns is_rows)) tp) (known : Unit) (rows : Nat) (columns : Nat) (is_rows : Bool) {Q : Nat → Prop} (h : V_ways_left known rows columns is_rows Q) (hmu : mu_ways_left known rows columns is_rows < n + 1) (tp : List D) : ∃ r : Nat, Q r ∧ m_ways_left (n + 1) [eM known, eN rows, eN columns, eB is_rows] tp = .ok (eN r) tp := by
  obtain ⟨d, t, e1, rfl, r, rfl, q⟩ := T.wp_def (n := 7) (s := b_ways_left (m_ways_left n)) (ds := [eM known, eN rows, eN columns, eB is_rows]) (tp := tp) (Q := fun d t => t = tp ∧ ∃ r : Nat, d = eN r ∧ Q r) (by
    unfold V_ways_left at h
    change WP _ _ _ _ (b_ways_left (m_ways_left n) [some (eM known), some (eN rows), some (eN columns), some (eB is_rows), none, none, none] _)
    unfold b_ways_left
    refine T.wp_seq (T.wp_if (P := ((rows + columns) = 0)) (T.ev_bool (T.ev_eq (x := (rows + columns)) (y := 0) qN rfl (T.ev_add (x := rows) (y := columns) (T.ev_v rfl) (T.ev_v rfl)) (T.ev_cN 0))) (fun hp => ?_) (fun hn => ?_))
    · replace h := h.1 hp
      exact T.wp_ret (T.ev_cN 1) ⟨rfl, 1, rfl, h⟩
    · replace h := h.2 hn
      refine T.wp_skip ?_
      change WP _ _ _ _ (At _ [some (eM known), some (eN rows), some (eN columns), some (eB is_rows), none, none, none] _)
      obtain ⟨key, d1⟩ : ∃ key : (Nat × Nat × Bool), key = (rows, columns, is_rows) := ⟨_, rfl⟩
      replace h := h key d1
      refine T.wp_seq (T.wp_set (T.ev_as d1 (e := (eP3 eN eN eB)) (T.ev_tup (ds := [eN rows, eN columns, eB is_rows]) (T.ev_cons (T.ev_v rfl) (T.ev_cons (T.ev_v rfl) (T.ev_cons (T.ev_v rfl) T.ev_nil))) rfl)) ?_)
      change WP _ _ _ _ (At _ [some (eM known), some (eN rows), some (eN columns), some (eB is_rows), some ((eP3 eN eN eB) key), none, none] _)
      refine T.wp_memo (n := 0) (ks := [((key.1 : Nat) : Int), ((key.2.1 : Nat) : Int), (if key.2.2 = true then 1 else 0)]) rfl rfl rfl ?_
      refine T.wp_seq (T.wp_set (T.ev_cN 0) ?_)
      change WP _ _ _ _ (At _ [some (eM known), some (eN rows), some (eN columns), some (eB is_rows), some ((eP3 eN eN eB) key), some (eN 0), none] _)
      obtain ⟨J3, h4, h5, h6⟩ := h
      refine T.wp_ifJ (P := (is_rows = true)) (J := fun env tz => tp = tz ∧ ∃ found : Nat, ∃ g2 : Option D, env = [some (eM known), some (eN rows), some (eN columns), some (eB is_rows), some ((eP3 eN eN eB) key), some (eN found), g2] ∧ J3 found) (T.ev_dec is_rows (T.ev_v rfl)) (fun hp => ?_) (fun hn => ?_) ?_
      · replace h := h4 hp
        obtain ⟨c7, h⟩ := h
        obtain ⟨I9, h10, h11, h12⟩ := h
        refine T.wp_for (e := eN) (xs := (List.range' 1 ((rows + 1) - 1))) (ds := fun x14 => [eN x14]) (fun k env tz => tp = tz ∧ ∃ found_1 : Nat, ∃ g8 : Option D, env = [some (eM known), some (eN rows), some (eN columns), some (eB is_rows), some ((eP3 eN eN eB) key), some (eN found_1), g8] ∧ I9 k found_1) (T.it_range2 (a := 1) (n := (rows + 1)) c7 (T.ev_cN 1) (T.ev_add (x := rows) (y := 1) (T.ev_v rfl) (T.ev_cN 1))) (fun _ => rfl) ⟨rfl, 0, _, rfl, h10⟩ ?_ ?_
        · intro i13 x14 env t hk hI
          obtain ⟨rfl, found_1, g8, rfl, h⟩ := hI
          replace h := h11 i13 x14 hk found_1 h
          change WP _ _ _ _ (At _ [some (eM known), some (eN rows), some (eN columns), some (eB is_rows), some ((eP3 eN eN eB) key), some (eN found_1), some (eN x14)] _)
          obtain ⟨c17, h⟩ := h
          obtain ⟨c18, h⟩ := h
          obtain ⟨c19, h⟩ := h
          obtain ⟨c20, h⟩ := h
          obtain ⟨found_2, d21⟩ : ∃ found_2 : Nat, found_2 = (found_1 + ((F_chosen rows x14) * (F_ways_left known (rows - x14) columns false))) := ⟨_, rfl⟩
          replace h := h found_2 d21
          refine T.wp_augN (x := found_1) (y := ((F_chosen rows x14) * (F_ways_left known (rows - x14) columns false))) rfl (T.ev_mul (x := (F_chosen rows x14)) (y := (F_ways_left known (rows - x14) columns false)) c20 (T.ev_call (T.ev_cons (T.ev_v rfl) (T.ev_cons (T.ev_v rfl) T.ev_nil)) rfl (t_chosen c17 _)) (T.ev_call (T.ev_cons (T.ev_v rfl) (T.ev_cons (T.ev_sub (x := rows) (y := x14) c18 (T.ev_v rfl) (T.ev_v rfl)) (T.ev_cons (T.ev_v rfl) (T.ev_cons (T.ev_c rfl) T.ev_nil)))) rfl (ih known (rows - x14) columns false (c19).1 (Nat.lt_of_lt_of_le (c19).2 (Nat.le_of_lt_succ hmu)) _))) ?_
          rw [← d21]
          exact ⟨rfl, found_2, _, rfl, h⟩
        rintro _ _ ⟨rfl, found_1, g8, rfl, h⟩
        replace h := h12 found_1 h
        exact ⟨rfl, found_1, _, rfl, h⟩
      · replace h := h5 hn
        obtain ⟨c24, h⟩ := h
        obtain ⟨I26, h27, h28, h29⟩ := h
        refine T.wp_for (e := eN) (xs := (List.range' 1 ((columns + 1) - 1))) (ds := fun x31 => [eN x31]) (fun k env tz => tp = tz ∧ ∃ found_3 : Nat, ∃ g25 : Option D, env = [some (eM known), some (eN rows), some (eN columns), some (eB is_rows), some ((eP3 eN eN eB) key), some (eN found_3), g25] ∧ I26 k found_3) (T.it_range2 (a := 1) (n := (columns + 1)) c24 (T.ev_cN 1) (T.ev_add (x := columns) (y := 1) (T.ev_v rfl) (T.ev_cN 1))) (fun _ => rfl) ⟨rfl, 0, _, rfl, h27⟩ ?_ ?_
        · intro i30 x31 env t hk hI
          obtain ⟨rfl, found_3, g25, rfl, h⟩ := hI
          replace h := h28 i30 x31 hk found_3 h
          change WP _ _ _ _ (At _ [some (eM known), some (eN rows), some (eN columns), some (eB is_rows), some ((eP3 eN eN eB) key), some (eN found_3), some (eN x31)] _)
          obtain ⟨c34, h⟩ := h
          obtain ⟨c35, h⟩ := h
          obtain ⟨c36, h⟩ := h
          obtain ⟨c37, h⟩ := h
          obtain ⟨found_4, d38⟩ : ∃ found_4 : Nat, found_4 = (found_3 + ((F_chosen columns x31) * (F_ways_left known rows (columns - x31) true))) := ⟨_, rfl⟩
          replace h := h found_4 d38
          refine T.wp_augN (x := found_3) (y := ((F_chosen columns x31) * (F_ways_left known rows (columns - x31) true))) rfl (T.ev_mul (x := (F_chosen columns x31)) (y := (F_ways_left known rows (columns - x31) true)) c37 (T.ev_call (T.ev_cons (T.ev_v rfl) (T.ev_cons (T.ev_v rfl) T.ev_nil)) rfl (t_chosen c34 _)) (T.ev_call (T.ev_cons (T.ev_v rfl) (T.ev_cons (T.ev_v rfl) (T.ev_cons (T.ev_sub (x := columns) (y := x31) c35 (T.ev_v rfl) (T.ev_v rfl)) (T.ev_cons (T.ev_c rfl) T.ev_nil)))) rfl (ih known rows (columns - x31) true (c36).1 (Nat.lt_of_lt_of_le (c36).2 (Nat.le_of_lt_succ hmu)) _))) ?_
          rw [← d38]
          exact ⟨rfl, found_4, _, rfl, h⟩
        rintro _ _ ⟨rfl, found_3, g25, rfl, h⟩
        replace h := h29 found_3 h
        exact ⟨rfl, found_3, _, rfl, h⟩
      rintro _ _ ⟨rfl, found, g2, rfl, h⟩
      replace h := h6 found h
      exact ⟨rfl, rfl, rfl, _, rfl, h.1, rfl, found, rfl, h.2⟩)
  exact ⟨r, q, e1⟩
theorem ok_ways_left {u : Unit} {r c : Nat} {b : Bool} (k : P_ways_left u r c b) : V_ways_left u r c b (· = F_ways_left u r c b) := by
  obtain ⟨h1, h2⟩ := k
  refine ⟨fun z => ?_, fun z key hk => ⟨fun f => f = wv r c b, fun hb => ⟨⟨by omega, by omega⟩, fun n f => f = su (fun m => ch r (m + 1) * wv (r - (m + 1)) c false) n, rfl, fun i x hx f hf => ?_, fun f hf => ?_⟩, fun hb => ⟨⟨by omega, by omega⟩, fun n f => f = su (fun m => ch c (m + 1) * wv r (c - (m + 1)) true) n, rfl, fun i x hx f hf => ?_, fun f hf => ?_⟩, fun f hf => ⟨?_, hf⟩⟩⟩
  · have : r = 0 ∧ c = 0 := by omega
    obtain ⟨rfl, rfl⟩ := this
    rfl
  · obtain ⟨rfl, hi⟩ := rng1 hx
    refine ⟨⟨by omega, by omega⟩, by omega, ⟨⟨by omega, h2⟩, by show r - (i + 1) + c < r + c; omega⟩, cMul_nat (ch_lt h1) (wv_lt false (by omega) h2) (by omega) (by omega) (by omega), fun g hg => ?_⟩
    show g = su _ i + _
    have hf : f = su (fun m => ch r (m + 1) * wv (r - (m + 1)) c false) i := hf
    rw [hg, hf]
  · have hf : f = su (fun m => ch r (m + 1) * wv (r - (m + 1)) c false) (List.range' 1 ((r + 1) - 1)).length := hf
    rw [List.length_range', show r + 1 - 1 = r by omega] at hf
    rw [hf, hb, wv_true z]
  · obtain ⟨rfl, hi⟩ := rng1 hx
    refine ⟨⟨by omega, by omega⟩, by omega, ⟨⟨h1, by omega⟩, by show r + (c - (i + 1)) < r + c; omega⟩, cMul_nat (ch_lt h2) (wv_lt true h1 (by omega)) (by omega) (by omega) (by omega), fun g hg => ?_⟩
    show g = su _ i + _
    have hf : f = su (fun m => ch c (m + 1) * wv r (c - (m + 1)) true) i := hf
    rw [hg, hf]
  · have hf : f = su (fun m => ch c (m + 1) * wv r (c - (m + 1)) true) (List.range' 1 ((c + 1) - 1)).length := hf
    rw [List.length_range', show c + 1 - 1 = c by omega] at hf
    have hb : b = false := by cases b with
      | false => rfl
      | true => exact (hb rfl).elim
    rw [hf, hb, wv_false z]
  · subst hk
    have hf : f = wv r c b := hf
    subst hf
    show G.tellsF 0 [((r : Nat) : Int), ((c : Nat) : Int), (if b = true then 1 else 0)] = some ((wv r c b : Nat) : Int)
    cases b with
    | true =>
      show (if 0 ≤ ((r : Nat) : Int) ∧ ((r : Nat) : Int) ≤ 30 ∧ 0 ≤ ((c : Nat) : Int) ∧ ((c : Nat) : Int) ≤ 30 ∧ (0 : Int) ≤ 1 ∧ (1 : Int) ≤ 1 then some (((G.waysN (((r : Nat) : Int).toNat + ((c : Nat) : Int).toNat) ((r : Nat) : Int).toNat ((c : Nat) : Int).toNat (decide ((1 : Int) = 1)) : Nat)) : Int) else none) = _
      rw [if_pos ⟨by omega, by omega, by omega, by omega, by omega, by omega⟩, Int.toNat_natCast, Int.toNat_natCast]
      rfl
    | false =>
      show (if 0 ≤ ((r : Nat) : Int) ∧ ((r : Nat) : Int) ≤ 30 ∧ 0 ≤ ((c : Nat) : Int) ∧ ((c : Nat) : Int) ≤ 30 ∧ (0 : Int) ≤ 0 ∧ (0 : Int) ≤ 1 then some (((G.waysN (((r : Nat) : Int).toNat + ((c : Nat) : Int).toNat) ((r : Nat) : Int).toNat ((c : Nat) : Int).toNat (decide ((0 : Int) = 1)) : Nat)) : Int) else none) = _
      rw [if_pos ⟨by omega, by omega, by omega, by omega, by omega, by omega⟩, Int.toNat_natCast, Int.toNat_natCast]
      rfl
theorem t_ways_left_n : ∀ (n : Nat) (known : Unit) (rows : Nat) (columns : Nat) (is_rows : Bool), P_ways_left known rows columns is_rows → mu_ways_left known rows columns is_rows < n → ∀ tp, m_ways_left n [eM known, eN rows, eN columns, eB is_rows] tp = .ok (eN (F_ways_left known rows columns is_rows)) tp := fun n => by
  induction n with
  | zero => intro known rows columns is_rows _ h; exact absurd h (Nat.not_lt_zero _)
  | succ n ih =>
    intro known rows columns is_rows hP hm tp
    obtain ⟨r, rfl, e⟩ := snd_ways_left n ih known rows columns is_rows (ok_ways_left hP) hm tp
    exact e
theorem t_ways_left {known : Unit} {rows : Nat} {columns : Nat} {is_rows : Bool} (hP : P_ways_left known rows columns is_rows) (tp : List D) : m_ways_left 62 [eM known, eN rows, eN columns, eB is_rows] tp = .ok (eN (F_ways_left known rows columns is_rows)) tp := t_ways_left_n 62 known rows columns is_rows hP (mu_lt_ways_left hP) tp
end W
set_option maxHeartbeats 1000000
namespace W
open PySem L2 G T
def V_subset_number (some_ : (List Nat)) (told : (List Nat)) (Q : Nat → Prop) : Prop := ∃ I3 : Nat → Nat → Nat → Prop, I3 0 0 0 ∧ (∀ (i7 : Nat) (x8 : (Nat × Nat)), (enumP some_)[i7]? = some x8 → ∀ found : Nat, ∀ at_ : Nat, I3 i7 found at_ → ∃ J11 : Nat → Nat → Prop, ((at_ < told.length) → (at_ < told.length) ∧ (¬(told[at_]! = x8.2) → (x8.1 ≤ some_.length) ∧ (1 ≤ (some_.length - x8.1)) ∧ (at_ ≤ told.length) ∧ (1 ≤ (told.length - at_)) ∧ (P_chosen ((some_.length - x8.1) - 1) ((told.length - at_) - 1))) ∧ ∀ found_2 : Nat, found_2 = (if (told[at_]! = x8.2) then found else (found + (F_chosen ((some_.length - x8.1) - 1) ((told.length - at_) - 1)))) → ∀ at__2 : Nat, at__2 = (if (told[at_]! = x8.2) then (at_ + 1) else at_) → J11 found_2 at__2) ∧ (¬(at_ < told.length) → J11 found at_) ∧ (∀ found_1 : Nat, ∀ at__1 : Nat, J11 found_1 at__1 → I3 (i7 + 1) found_1 at__1)) ∧ (∀ found : Nat, ∀ at_ : Nat, I3 (enumP some_).length found at_ → Q found)
theorem snd_subset_number (some_ : (List Nat)) (told : (List Nat)) {Q : Nat → Prop} (h : V_subset_number some_ told Q) (tp : List D) : ∃ r : Nat, Q r ∧ m_subset_number [(eL eN) some_, (eL eN) told] tp = .ok (eN r) tp := by
  obtain ⟨d, t, e1, rfl, r, rfl, q⟩ := T.wp_def (n := 6) (s := b_subset_number) (ds := [(eL eN) some_, (eL eN) told]) (tp := tp) (Q := fun d t => t = tp ∧ ∃ r : Nat, d = eN r ∧ Q r) (by
    unfold V_subset_number at h
    change WP _ _ _ _ (b_subset_number [some ((eL eN) some_), some ((eL eN) told), none, none, none, none] _)
    unfold b_subset_number
    refine T.wp_seq (T.wp_par (T.ev_cons (T.ev_cN 0) (T.ev_cons (T.ev_cN 0) T.ev_nil)) rfl ?_)
    change WP _ _ _ _ (At _ [some ((eL eN) some_), some ((eL eN) told), some (eN 0), some (eN 0), none, none] _)
    obtain ⟨I3, h4, h5, h6⟩ := h
    refine T.wp_seq (T.wp_for (e := (eP eN eN)) (xs := (enumP some_)) (ds := fun x8 => [eN x8.1, eN x8.2]) (fun k env tz => tp = tz ∧ ∃ found : Nat, ∃ at_ : Nat, ∃ g1 : Option D, ∃ g2 : Option D, env = [some ((eL eN) some_), some ((eL eN) told), some (eN found), some (eN at_), g1, g2] ∧ I3 k found at_) (T.it_enumL (e := eN) (xs := some_) (T.ev_v rfl)) (fun _ => rfl) ⟨rfl, 0, 0, _, _, rfl, h4⟩ ?_ ?_)
    · intro i7 x8 env t hk hI
      obtain ⟨rfl, found, at_, g1, g2, rfl, h⟩ := hI
      replace h := h5 i7 x8 hk found at_ h
      change WP _ _ _ _ (At _ [some ((eL eN) some_), some ((eL eN) told), some (eN found), some (eN at_), some (eN x8.1), some (eN x8.2)] _)
      obtain ⟨J11, h12, h13, h14⟩ := h
      refine T.wp_ifJ (P := (at_ < told.length)) (J := fun env tz => tp = tz ∧ ∃ found_1 : Nat, ∃ at__1 : Nat, env = [some ((eL eN) some_), some ((eL eN) told), some (eN found_1), some (eN at__1), some (eN x8.1), some (eN x8.2)] ∧ J11 found_1 at__1) (T.ev_bool (T.ev_lt (x := at_) (y := told.length) (T.ev_v rfl) (T.ev_lenL (e := eN) (xs := told) (T.ev_v rfl)))) (fun hp => ?_) (fun hn => ?_) ?_
      · replace h := h12 hp
        obtain ⟨c15, h⟩ := h
        obtain ⟨c21, h⟩ := h
        refine T.wp_ifJ (P := (told[at_]! = x8.2)) (J := fun env tz => tp = tz ∧ ∃ found_2 : Nat, ∃ at__2 : Nat, env = [some ((eL eN) some_), some ((eL eN) told), some (eN found_2), some (eN at__2), some (eN x8.1), some (eN x8.2)] ∧ found_2 = (if (told[at_]! = x8.2) then found else (found + (F_chosen ((some_.length - x8.1) - 1) ((told.length - at_) - 1)))) ∧ at__2 = (if (told[at_]! = x8.2) then (at_ + 1) else at_)) (T.ev_bool (T.ev_eq (x := told[at_]!) (y := x8.2) qN rfl (T.ev_ixL (e := eN) (xs := told) (i := at_) c15 (T.ev_v rfl) (T.ev_v rfl)) (T.ev_v rfl))) (fun hq => ?_) (fun hq => ?_) ?_
        · refine T.wp_augN (x := at_) (y := 1) rfl (T.ev_cN 1) ?_
          exact ⟨rfl, found, (at_ + 1), rfl, (if_pos hq).symm, (if_pos hq).symm⟩
        · obtain ⟨c16, c17, c18, c19, c20⟩ := c21 hq
          refine T.wp_augN (x := found) (y := (F_chosen ((some_.length - x8.1) - 1) ((told.length - at_) - 1))) rfl (T.ev_call (T.ev_cons (T.ev_sub (x := (some_.length - x8.1)) (y := 1) c17 (T.ev_sub (x := some_.length) (y := x8.1) c16 (T.ev_lenL (e := eN) (xs := some_) (T.ev_v rfl)) (T.ev_v rfl)) (T.ev_cN 1)) (T.ev_cons (T.ev_sub (x := (told.length - at_)) (y := 1) c19 (T.ev_sub (x := told.length) (y := at_) c18 (T.ev_lenL (e := eN) (xs := told) (T.ev_v rfl)) (T.ev_v rfl)) (T.ev_cN 1)) T.ev_nil)) rfl (t_chosen c20 _)) ?_
          exact ⟨rfl, (found + (F_chosen ((some_.length - x8.1) - 1) ((told.length - at_) - 1))), at_, rfl, (if_neg hq).symm, (if_neg hq).symm⟩
        rintro _ _ ⟨rfl, found_2, at__2, rfl, d22, d23⟩
        replace h := h found_2 d22
        replace h := h at__2 d23
        exact ⟨rfl, found_2, at__2, rfl, h⟩
      · replace h := h13 hn
        refine T.wp_skip ?_
        exact ⟨rfl, found, at_, rfl, h⟩
      rintro _ _ ⟨rfl, found_1, at__1, rfl, h⟩
      replace h := h14 found_1 at__1 h
      exact ⟨rfl, found_1, at__1, _, _, rfl, h⟩
    rintro _ _ ⟨rfl, found, at_, g1, g2, rfl, h⟩
    replace h := h6 found at_ h
    change WP _ _ _ _ (At _ [some ((eL eN) some_), some ((eL eN) told), some (eN found), some (eN at_), g1, g2] _)
    exact T.wp_ret (T.ev_v rfl) ⟨rfl, found, rfl, h⟩)
  exact ⟨r, q, e1⟩
abbrev P_subset_number (C t : List Nat) : Prop := C.length ≤ 30 ∧ t.Sublist C
abbrev F_subset_number (C t : List Nat) : Nat := numC C t
theorem drop_consS {xs : List Nat} {i : Nat} (h : i < xs.length) : xs.drop i = xs[i]! :: xs.drop (i + 1) := by
  rw [List.drop_eq_getElem_cons h, getElem!_pos xs i h]
theorem ok_subset_number {C t : List Nat} (k : P_subset_number C t) : V_subset_number C t (· = F_subset_number C t) := by
  obtain ⟨h30, hs⟩ := k
  have el : (enumP C).length = C.length := by rw [enumP_eq, List.length_map, List.length_range]
  refine ⟨fun i f a => a ≤ t.length ∧ (t.drop a).Sublist (C.drop i) ∧ f + numC (C.drop i) (t.drop a) = numC C t, ⟨Nat.zero_le _, hs, Nat.zero_add _⟩, fun i x hx f a hI => ?_, fun f a hI => ?_⟩
  · obtain ⟨ex, _, hi⟩ := enumP_get hx
    have hi : i < C.length := hi
    subst ex
    obtain ⟨b1, b2, b3⟩ := hI
    rw [drop_consS hi] at b2 b3
    refine ⟨fun f a => a ≤ t.length ∧ (t.drop a).Sublist (C.drop (i + 1)) ∧ f + numC (C.drop (i + 1)) (t.drop a) = numC C t, fun ha => ?_, fun ha => ?_, fun f a h => h⟩
    · rw [drop_consS ha] at b2 b3
      have b3 : f + (if t[a]! = C[i]! then numC (C.drop (i + 1)) (t.drop (a + 1)) else ch (C.drop (i + 1)).length (t.drop (a + 1)).length + numC (C.drop (i + 1)) (t[a]! :: t.drop (a + 1))) = numC C t := b3
      refine ⟨ha, fun z => ?_, fun f2 ef a2 ea => ?_⟩
      · have hsub : (t[a]! :: t.drop (a + 1)).Sublist (C.drop (i + 1)) := by
          rcases List.sublist_cons_iff.mp b2 with y | ⟨r, e, y⟩
          · exact y
          · have e1 := (List.cons.inj e).1
            first | exact (z e1).elim | exact (z e1.symm).elim
        have := hsub.length_le
        rw [List.length_cons, List.length_drop, List.length_drop] at this
        exact ⟨by show i ≤ C.length; omega, by show 1 ≤ C.length - i; omega, by omega, by omega, by show t.length - a - 1 ≤ C.length - i - 1; omega, by show C.length - i - 1 ≤ 60; omega⟩
      · by_cases z : t[a]! = C[i]!
        · rw [if_pos z] at b3
          have ef : f2 = f := by rw [ef]; exact if_pos z
          have ea : a2 = a + 1 := by rw [ea]; exact if_pos z
          subst ef ea
          refine ⟨by omega, ?_, b3⟩
          rw [z] at b2
          exact List.cons_sublist_cons.mp b2
        · rw [if_neg z] at b3
          have ef : f2 = f + ch ((C.length - i) - 1) ((t.length - a) - 1) := by rw [ef]; exact if_neg z
          have ea : a2 = a := by rw [ea]; exact if_neg z
          subst ef ea
          have hsub : (t[a2]! :: t.drop (a2 + 1)).Sublist (C.drop (i + 1)) := by
            rcases List.sublist_cons_iff.mp b2 with y | ⟨r, e, y⟩
            · exact y
            · have e1 := (List.cons.inj e).1
              first | exact (z e1).elim | exact (z e1.symm).elim
          refine ⟨b1, by rw [drop_consS ha]; exact hsub, ?_⟩
          rw [drop_consS ha]
          rw [List.length_drop, List.length_drop, show C.length - (i + 1) = C.length - i - 1 by omega, show t.length - (a2 + 1) = t.length - a2 - 1 by omega] at b3
          omega
    · have e : t.drop a = [] := List.drop_eq_nil_of_le (by omega)
      rw [e, numC_nil] at b3
      refine ⟨b1, by rw [e]; exact List.nil_sublist _, by rw [e, numC_nil]; exact b3⟩
  · obtain ⟨b1, b2, b3⟩ := hI
    rw [el] at b2 b3
    rw [List.drop_length] at b2 b3
    rw [List.sublist_nil.mp b2] at b3
    exact b3
theorem t_subset_number {some_ : (List Nat)} {told : (List Nat)} (hP : P_subset_number some_ told) (tp : List D) : m_subset_number [(eL eN) some_, (eL eN) told] tp = .ok (eN (F_subset_number some_ told)) tp := by
  obtain ⟨r, rfl, e⟩ := snd_subset_number some_ told (ok_subset_number hP) tp
  exact e
end W
set_option maxHeartbeats 1000000
namespace W
open PySem L2 G T
def V_need_number (value : Nat) (least : Nat) (most : Nat) (Q : Unit → Prop) : Prop := ((F_is_in value least most) = true) ∧ Q ()
theorem snd_need_number (value : Nat) (least : Nat) (most : Nat) {Q : Unit → Prop} (h : V_need_number value least most Q) (tp : List D) : ∃ r : Unit, Q r ∧ m_need_number [eN value, eN least, eN most] tp = .ok (eU r) tp := by
  obtain ⟨d, t, e1, rfl, r, rfl, q⟩ := T.wp_def (n := 3) (s := b_need_number) (ds := [eN value, eN least, eN most]) (tp := tp) (Q := fun d t => t = tp ∧ ∃ r : Unit, d = eU r ∧ Q r) (by
    unfold V_need_number at h
    change WP _ _ _ _ (b_need_number [some (eN value), some (eN least), some (eN most)] _)
    unfold b_need_number
    obtain ⟨hf, h⟩ := h
    refine T.wp_if (P := (¬((F_is_in value least most) = true))) (T.ev_notT (P := ((F_is_in value least most) = true)) (T.ev_dec (F_is_in value least most) (T.ev_call (T.ev_cons (T.ev_v rfl) (T.ev_cons (T.ev_v rfl) (T.ev_cons (T.ev_v rfl) T.ev_nil))) rfl (t_is_in True.intro _)))) (fun hp => ?_) (fun hn => ?_)
    · exact absurd hp ((fun h0 => h0 (hf)))
    · refine T.wp_skip ?_
      exact ⟨rfl, (), rfl, h⟩)
  exact ⟨r, q, e1⟩
abbrev P_need_number (v l m : Nat) : Prop := l ≤ v ∧ v ≤ m
abbrev F_need_number (_ _ _ : Nat) : Unit := ()
theorem ok_need_number {v l m : Nat} (h : P_need_number v l m) : V_need_number v l m (· = F_need_number v l m) := by
  unfold V_need_number
  exact ⟨by unfold F_is_in; exact decide_eq_true h, rfl⟩
theorem t_need_number {value : Nat} {least : Nat} {most : Nat} (hP : P_need_number value least most) (tp : List D) : m_need_number [eN value, eN least, eN most] tp = .ok (eU (F_need_number value least most)) tp := by
  obtain ⟨r, rfl, e⟩ := snd_need_number value least most (ok_need_number hP) tp
  exact e
end W
set_option maxHeartbeats 1000000
namespace W
open PySem L2 G T
def V_black_cells (picture : (List Row)) (Q : Nat → Prop) : Prop := (P_need_picture picture) ∧ (P_black_of picture) ∧ Q (F_black_of picture)
theorem snd_black_cells (picture : (List Row)) {Q : Nat → Prop} (h : V_black_cells picture Q) (tp : List D) : ∃ r : Nat, Q r ∧ m_black_cells [(eT eR) picture] tp = .ok (eN r) tp := by
  obtain ⟨d, t, e1, rfl, r, rfl, q⟩ := T.wp_def (n := 1) (s := b_black_cells) (ds := [(eT eR) picture]) (tp := tp) (Q := fun d t => t = tp ∧ ∃ r : Nat, d = eN r ∧ Q r) (by
    unfold V_black_cells at h
    change WP _ _ _ _ (b_black_cells [some ((eT eR) picture)] _)
    unfold b_black_cells
    obtain ⟨c1, h⟩ := h
    refine T.wp_seq (T.wp_drop (T.ev_call (T.ev_cons (T.ev_v rfl) T.ev_nil) rfl (t_need_picture c1 _)) ?_)
    change WP _ _ _ _ (At _ [some ((eT eR) picture)] _)
    obtain ⟨c2, h⟩ := h
    exact T.wp_ret (T.ev_call (T.ev_cons (T.ev_v rfl) T.ev_nil) rfl (t_black_of c2 _)) ⟨rfl, (F_black_of picture), rfl, h⟩)
  exact ⟨r, q, e1⟩
abbrev P_black_cells (p : Pic) : Prop := PicP p
abbrev F_black_cells (p : Pic) : Nat := F_black_of p
theorem ok_black_cells {p : Pic} (k : P_black_cells p) : V_black_cells p (· = F_black_cells p) := ⟨k, k, rfl⟩
theorem t_black_cells {picture : (List Row)} (hP : P_black_cells picture) (tp : List D) : m_black_cells [(eT eR) picture] tp = .ok (eN (F_black_cells picture)) tp := by
  obtain ⟨r, rfl, e⟩ := snd_black_cells picture (ok_black_cells hP) tp
  exact e
end W
set_option maxHeartbeats 1000000
namespace W
open PySem L2 G T
def V_sums (picture : (List Row)) (Q : ((List Nat) × (List Nat)) → Prop) : Prop := (P_need_picture picture) ∧ (P_row_sums_of picture) ∧ (P_column_sums_of picture) ∧ Q ((F_row_sums_of picture), (F_column_sums_of picture))
theorem snd_sums (picture : (List Row)) {Q : ((List Nat) × (List Nat)) → Prop} (h : V_sums picture Q) (tp : List D) : ∃ r : ((List Nat) × (List Nat)), Q r ∧ m_sums [(eT eR) picture] tp = .ok ((eP (eT eN) (eT eN)) r) tp := by
  obtain ⟨d, t, e1, rfl, r, rfl, q⟩ := T.wp_def (n := 1) (s := b_sums) (ds := [(eT eR) picture]) (tp := tp) (Q := fun d t => t = tp ∧ ∃ r : ((List Nat) × (List Nat)), d = (eP (eT eN) (eT eN)) r ∧ Q r) (by
    unfold V_sums at h
    change WP _ _ _ _ (b_sums [some ((eT eR) picture)] _)
    unfold b_sums
    obtain ⟨c1, h⟩ := h
    refine T.wp_seq (T.wp_drop (T.ev_call (T.ev_cons (T.ev_v rfl) T.ev_nil) rfl (t_need_picture c1 _)) ?_)
    change WP _ _ _ _ (At _ [some ((eT eR) picture)] _)
    obtain ⟨c2, h⟩ := h
    obtain ⟨c3, h⟩ := h
    exact T.wp_ret (T.ev_tup (ds := [(eT eN) (F_row_sums_of picture), (eT eN) (F_column_sums_of picture)]) (T.ev_cons (T.ev_call (T.ev_cons (T.ev_v rfl) T.ev_nil) rfl (t_row_sums_of c2 _)) (T.ev_cons (T.ev_call (T.ev_cons (T.ev_v rfl) T.ev_nil) rfl (t_column_sums_of c3 _)) T.ev_nil)) rfl) ⟨rfl, ((F_row_sums_of picture), (F_column_sums_of picture)), rfl, h⟩)
  exact ⟨r, q, e1⟩
abbrev P_sums (p : Pic) : Prop := PicP p
abbrev F_sums (p : Pic) : List Nat × List Nat := (F_row_sums_of p, F_column_sums_of p)
theorem ok_sums {p : Pic} (k : P_sums p) : V_sums p (· = F_sums p) := ⟨k, k, k, rfl⟩
theorem t_sums {picture : (List Row)} (hP : P_sums picture) (tp : List D) : m_sums [(eT eR) picture] tp = .ok ((eP (eT eN) (eT eN)) (F_sums picture)) tp := by
  obtain ⟨r, rfl, e⟩ := snd_sums picture (ok_sums hP) tp
  exact e
end W
set_option maxHeartbeats 1000000
namespace W
open PySem L2 G T
def V_layers (picture : (List Row)) (Q : (List (List Nat)) → Prop) : Prop := (P_need_picture picture) ∧ (P_layers_of picture) ∧ ((F_layers_of picture).length ≤ 1000000) ∧ Q ((F_layers_of picture).map fun x3 => x3)
theorem snd_layers (picture : (List Row)) {Q : (List (List Nat)) → Prop} (h : V_layers picture Q) (tp : List D) : ∃ r : (List (List Nat)), Q r ∧ m_layers [(eT eR) picture] tp = .ok ((eT (eT eN)) r) tp := by
  obtain ⟨d, t, e1, rfl, r, rfl, q⟩ := T.wp_def (n := 2) (s := b_layers) (ds := [(eT eR) picture]) (tp := tp) (Q := fun d t => t = tp ∧ ∃ r : (List (List Nat)), d = (eT (eT eN)) r ∧ Q r) (by
    unfold V_layers at h
    change WP _ _ _ _ (b_layers [some ((eT eR) picture), none] _)
    unfold b_layers
    obtain ⟨c1, h⟩ := h
    refine T.wp_seq (T.wp_drop (T.ev_call (T.ev_cons (T.ev_v rfl) T.ev_nil) rfl (t_need_picture c1 _)) ?_)
    change WP _ _ _ _ (At _ [some ((eT eR) picture), none] _)
    obtain ⟨c2, h⟩ := h
    obtain ⟨c4, h⟩ := h
    exact T.wp_ret (T.ev_tupleL (e := (eT eN)) (xs := ((F_layers_of picture).map fun x3 => x3)) (T.ev_compY (e := (eL eN)) (e1 := (eT eN)) (xs := (F_layers_of picture)) (ds := fun x3 => [(eL eN) x3]) (g := fun x3 => x3) (T.it_L (e := (eL eN)) (xs := (F_layers_of picture)) (T.ev_call (T.ev_cons (T.ev_v rfl) T.ev_nil) rfl (t_layers_of c2 _))) c4 (fun _ => rfl) (fun x3 hx => (T.ev_tupleL (e := eN) (xs := x3) (T.ev_v rfl))))) ⟨rfl, ((F_layers_of picture).map fun x3 => x3), rfl, h⟩)
  exact ⟨r, q, e1⟩
abbrev P_layers (p : Pic) : Prop := PicP p
abbrev F_layers (p : Pic) : List (List Nat) := layersQ p
theorem ok_layers {p : Pic} (k : P_layers p) : V_layers p (· = F_layers p) :=
  ⟨k, k, by have := (layersQ_len k).1; show (layersQ p).length ≤ _; omega, List.map_id' _⟩
theorem t_layers {picture : (List Row)} (hP : P_layers picture) (tp : List D) : m_layers [(eT eR) picture] tp = .ok ((eT (eT eN)) (F_layers picture)) tp := by
  obtain ⟨r, rfl, e⟩ := snd_layers picture (ok_layers hP) tp
  exact e
end W
set_option maxHeartbeats 1000000
namespace W
open PySem L2 G T
def V_core_of (picture : (List Row)) (Q : (List Nat) → Prop) : Prop := (P_layers_of picture) ∧ (((F_layers_of picture).flatMap fun x2 => x2).length ≤ 1000000) ∧ ∀ told : (List (Nat × Bool)), told = (dictOf ((F_layers_of picture).flatMap fun x2 => x2.map fun y3 => (y3, true))) → (P_lines_of picture) ∧ ((F_lines_of picture) ≤ 1073741824) ∧ ((List.range (F_lines_of picture)).length ≤ 1000000) ∧ Q ((List.range (F_lines_of picture)).filter fun x8 => decide (x8 ∉ dkeys told))
theorem snd_core_of (picture : (List Row)) {Q : (List Nat) → Prop} (h : V_core_of picture Q) (tp : List D) : ∃ r : (List Nat), Q r ∧ m_core_of [(eT eR) picture] tp = .ok ((eL eN) r) tp := by
  obtain ⟨d, t, e1, rfl, r, rfl, q⟩ := T.wp_def (n := 4) (s := b_core_of) (ds := [(eT eR) picture]) (tp := tp) (Q := fun d t => t = tp ∧ ∃ r : (List Nat), d = (eL eN) r ∧ Q r) (by
    unfold V_core_of at h
    change WP _ _ _ _ (b_core_of [some ((eT eR) picture), none, none, none] _)
    unfold b_core_of
    obtain ⟨c1, h⟩ := h
    obtain ⟨c4, h⟩ := h
    obtain ⟨told, d5⟩ : ∃ told : (List (Nat × Bool)), told = (dictOf ((F_layers_of picture).flatMap fun x2 => x2.map fun y3 => (y3, true))) := ⟨_, rfl⟩
    replace h := h told d5
    refine T.wp_seq (T.wp_set (T.ev_as d5 (e := (eD eB)) (T.ev_dc2 (e := eB) (e1 := (eL eN)) (e2 := eN) (xs := (F_layers_of picture)) (ds := fun x2 => [(eL eN) x2]) (ys := fun x2 => x2) (ds1 := fun y3 => [eN y3]) (k := fun x2 y3 => y3) (v := fun x2 y3 => true) (T.it_L (e := (eL eN)) (xs := (F_layers_of picture)) (T.ev_call (T.ev_cons (T.ev_v rfl) T.ev_nil) rfl (t_layers_of c1 _))) (fun _ => rfl) (fun x2 hx => (T.it_L (e := eN) (xs := x2) (T.ev_v rfl))) (fun _ => rfl) (fun x2 hx y3 hy => (T.ev_v rfl)) (fun x2 hx y3 hy => (T.ev_c rfl)) c4)) ?_)
    change WP _ _ _ _ (At _ [some ((eT eR) picture), some ((eD eB) told), none, none] _)
    obtain ⟨c6, h⟩ := h
    obtain ⟨c7, h⟩ := h
    obtain ⟨c9, h⟩ := h
    exact T.wp_ret (T.ev_compI (e := eN) (xs := (List.range (F_lines_of picture))) (ds := fun x8 => [eN x8]) (P := fun x8 => (x8 ∉ dkeys told)) (T.it_range (n := (F_lines_of picture)) c7 (T.ev_call (T.ev_cons (T.ev_v rfl) T.ev_nil) rfl (t_lines_of c6 _))) c9 (fun _ => rfl) (fun x8 hx => (T.ev_bool (T.ev_ninK (x := x8) (d := told) (T.ev_v rfl) (T.ev_v rfl)))) (fun x8 hx hq => (T.ev_v rfl))) ⟨rfl, ((List.range (F_lines_of picture)).filter fun x8 => decide (x8 ∉ dkeys told)), rfl, h⟩)
  exact ⟨r, q, e1⟩
abbrev P_core_of (p : Pic) : Prop := PicP p
abbrev F_core_of (p : Pic) : List Nat := coreQ p
theorem ok_core_of {p : Pic} (k : P_core_of p) : V_core_of p (· = F_core_of p) := by
  have h1 := k.h1; have h30 := k.h30; have w1 := k.w1; have w30 := k.w30
  have e0 : F_lines_of p = p.length + p[0]!.length := rfl
  have fl : ((layersQ p).flatMap fun x => x).length ≤ 1800 := by
    have := layersQ_flat k
    rwa [show (layersQ p).flatMap (fun x => x) = (layersQ p).flatten from List.flatMap_id']
  rw [V_core_of, e0]
  refine ⟨k, by show ((layersQ p).flatMap fun x => x).length ≤ _; omega, fun told ht => ⟨k, by omega, by rw [List.length_range]; omega, ?_⟩⟩
  unfold F_core_of coreQ
  refine List.filter_congr fun l _ => decide_eq_decide.mpr (not_congr ?_)
  rw [ht]; exact keys_flat _ _
theorem t_core_of {picture : (List Row)} (hP : P_core_of picture) (tp : List D) : m_core_of [(eT eR) picture] tp = .ok ((eL eN) (F_core_of picture)) tp := by
  obtain ⟨r, rfl, e⟩ := snd_core_of picture (ok_core_of hP) tp
  exact e
end W
set_option maxHeartbeats 1000000
namespace W
open PySem L2 G T
def V_are_layers (rows : Nat) (columns : Nat) (value : (List (List Nat))) (Q : Bool → Prop) : Prop := (value.length ≤ 1000000) ∧ ((((¬True) ∨ (¬(∀ x1 ∈ value, (True ∧ (x1 ≠ []))))) → Q false) ∧ (¬((¬True) ∨ (¬(∀ x1 ∈ value, (True ∧ (x1 ≠ []))))) → (∀ x3, x3 ∈ value → ∀ y4, y4 ∈ x3 → (1 ≤ (rows + columns))) ∧ ((value.flatMap fun x3 => x3.map fun y4 => (F_is_in y4 0 ((rows + columns) - 1))).length ≤ 1000000) ∧ (((¬(((value.flatMap fun x3 => x3.map fun y4 => (F_is_in y4 0 ((rows + columns) - 1))).all id) = true)) → Q false) ∧ (¬(¬(((value.flatMap fun x3 => x3.map fun y4 => (F_is_in y4 0 ((rows + columns) - 1))).all id) = true)) → ((value.flatMap fun x8 => x8.map fun y9 => y9).length ≤ 1000000) ∧ ((rows + columns) ≤ 16777216) ∧ ((((sortN (value.flatMap fun x8 => x8.map fun y9 => y9)) ≠ (List.range (rows + columns))) → Q false) ∧ (¬((sortN (value.flatMap fun x8 => x8.map fun y9 => y9)) ≠ (List.range (rows + columns))) → (value.length ≤ 1000000) ∧ (∀ x12, x12 ∈ value → (0 < x12.length)) ∧ ∀ sorts : (List Bool), sorts = (value.map fun x12 => (decide (x12[0]! < rows))) → (((value.zip sorts).flatMap fun x17 => x17.1.map fun y18 => (decide ((decide (y18 < rows)) = x17.2))).length ≤ 1000000) ∧ (((¬((((value.zip sorts).flatMap fun x17 => x17.1.map fun y18 => (decide ((decide (y18 < rows)) = x17.2))).all id) = true)) → Q false) ∧ (¬(¬((((value.zip sorts).flatMap fun x17 => x17.1.map fun y18 => (decide ((decide (y18 < rows)) = x17.2))).all id) = true)) → ((sorts.zip (sorts.drop 1)).length ≤ 1000000) ∧ (((¬(∀ x20 ∈ (sorts.zip (sorts.drop 1)), (x20.1 ≠ x20.2))) → Q false) ∧ (¬(¬(∀ x20 ∈ (sorts.zip (sorts.drop 1)), (x20.1 ≠ x20.2))) → (value.length ≤ 1000000) ∧ Q (decide (∀ x22 ∈ value, (x22 = (sortN x22))))))))))))))
theorem snd_are_layers (rows : Nat) (columns : Nat) (value : (List (List Nat))) {Q : Bool → Prop} (h : V_are_layers rows columns value Q) (tp : List D) : ∃ r : Bool, Q r ∧ m_are_layers [eN rows, eN columns, (eT (eT eN)) value] tp = .ok (eB r) tp := by
  obtain ⟨d, t, e1, rfl, r, rfl, q⟩ := T.wp_def (n := 9) (s := b_are_layers) (ds := [eN rows, eN columns, (eT (eT eN)) value]) (tp := tp) (Q := fun d t => t = tp ∧ ∃ r : Bool, d = eB r ∧ Q r) (by
    unfold V_are_layers at h
    change WP _ _ _ _ (b_are_layers [some (eN rows), some (eN columns), some ((eT (eT eN)) value), none, none, none, none, none, none] _)
    unfold b_are_layers
    obtain ⟨c2, h⟩ := h
    refine T.wp_seq (T.wp_if (P := ((¬True) ∨ (¬(∀ x1 ∈ value, (True ∧ (x1 ≠ [])))))) (T.ev_orT (P := (¬True)) (Q := (¬(∀ x1 ∈ value, (True ∧ (x1 ≠ []))))) (T.ev_notT (P := True) (T.ev_bool (T.ev_isi (d := (eT (eT eN)) value) (T.ev_v rfl) rfl kb_tuple_tuple))) (fun hp => (T.ev_notT (P := (∀ x1 ∈ value, (True ∧ (x1 ≠ [])))) (T.ev_bool (T.ev_allY (xs := value) (R := fun x1 => (True ∧ (x1 ≠ []))) (T.ev_compY (e := (eT eN)) (e1 := eB) (xs := value) (ds := fun x1 => [(eT eN) x1]) (g := fun x1 => (decide (True ∧ (x1 ≠ [])))) (T.it_T (e := (eT eN)) (xs := value) (T.ev_v rfl)) c2 (fun _ => rfl) (fun x1 hx => (T.ev_andE (P := True) (Q := (x1 ≠ [])) (T.ev_isi (d := (eT eN) x1) (T.ev_v rfl) rfl kb_tuple_tuple) (fun hp => (T.ev_ne (x := x1) (y := []) (qT qN) rfl (T.ev_v rfl) (T.ev_tup (ds := []) T.ev_nil rfl))))))))))) (fun hp => ?_) (fun hn => ?_))
    · replace h := h.1 hp
      exact T.wp_ret (T.ev_c rfl) ⟨rfl, false, rfl, h⟩
    · replace h := h.2 hn
      refine T.wp_skip ?_
      change WP _ _ _ _ (At _ [some (eN rows), some (eN columns), some ((eT (eT eN)) value), none, none, none, none, none, none] _)
      obtain ⟨c6, h⟩ := h
      obtain ⟨c7, h⟩ := h
      refine T.wp_seq (T.wp_if (P := (¬(((value.flatMap fun x3 => x3.map fun y4 => (F_is_in y4 0 ((rows + columns) - 1))).all id) = true))) (T.ev_notT (P := (((value.flatMap fun x3 => x3.map fun y4 => (F_is_in y4 0 ((rows + columns) - 1))).all id) = true)) (T.ev_dec ((value.flatMap fun x3 => x3.map fun y4 => (F_is_in y4 0 ((rows + columns) - 1))).all id) (T.ev_allB (xs := (value.flatMap fun x3 => x3.map fun y4 => (F_is_in y4 0 ((rows + columns) - 1)))) (T.ev_comp2Y (e := (eT eN)) (e1 := eN) (e2 := eB) (xs := value) (ds := fun x3 => [(eT eN) x3]) (ys := fun x3 => x3) (ds1 := fun y4 => [eN y4]) (g := fun x3 y4 => (F_is_in y4 0 ((rows + columns) - 1))) (T.it_T (e := (eT eN)) (xs := value) (T.ev_v rfl)) (fun _ => rfl) (fun x3 hx => (T.it_T (e := eN) (xs := x3) (T.ev_v rfl))) (fun _ => rfl) (fun x3 hx y4 hy => have c5 := c6 x3 hx y4 hy; (T.ev_call (ds := [eN y4, eN 0, eN ((rows + columns) - 1)]) (T.ev_cons (T.ev_v rfl) (T.ev_cons (T.ev_cN 0) (T.ev_cons (T.ev_sub (x := (rows + columns)) (y := 1) c5 (T.ev_add (x := rows) (y := columns) (T.ev_v rfl) (T.ev_v rfl)) (T.ev_cN 1)) T.ev_nil))) rfl (t_is_in True.intro _))) c7)))) (fun hp => ?_) (fun hn => ?_))
      · replace h := h.1 hp
        exact T.wp_ret (T.ev_c rfl) ⟨rfl, false, rfl, h⟩
      · replace h := h.2 hn
        refine T.wp_skip ?_
        change WP _ _ _ _ (At _ [some (eN rows), some (eN columns), some ((eT (eT eN)) value), none, none, none, none, none, none] _)
        obtain ⟨c10, h⟩ := h
        obtain ⟨c11, h⟩ := h
        refine T.wp_seq (T.wp_if (P := ((sortN (value.flatMap fun x8 => x8.map fun y9 => y9)) ≠ (List.range (rows + columns)))) (T.ev_bool (T.ev_ne (x := (sortN (value.flatMap fun x8 => x8.map fun y9 => y9))) (y := (List.range (rows + columns))) (qL qN) rfl (T.ev_sortL (xs := (value.flatMap fun x8 => x8.map fun y9 => y9)) (T.ev_comp2Y (e := (eT eN)) (e1 := eN) (e2 := eN) (xs := value) (ds := fun x8 => [(eT eN) x8]) (ys := fun x8 => x8) (ds1 := fun y9 => [eN y9]) (g := fun x8 y9 => y9) (T.it_T (e := (eT eN)) (xs := value) (T.ev_v rfl)) (fun _ => rfl) (fun x8 hx => (T.it_T (e := eN) (xs := x8) (T.ev_v rfl))) (fun _ => rfl) (fun x8 hx y9 hy => (T.ev_v rfl)) c10)) (T.ev_rg1L (n := (rows + columns)) c11 (T.ev_add (x := rows) (y := columns) (T.ev_v rfl) (T.ev_v rfl))))) (fun hp => ?_) (fun hn => ?_))
        · replace h := h.1 hp
          exact T.wp_ret (T.ev_c rfl) ⟨rfl, false, rfl, h⟩
        · replace h := h.2 hn
          refine T.wp_skip ?_
          change WP _ _ _ _ (At _ [some (eN rows), some (eN columns), some ((eT (eT eN)) value), none, none, none, none, none, none] _)
          obtain ⟨c13, h⟩ := h
          obtain ⟨c15, h⟩ := h
          obtain ⟨sorts, d16⟩ : ∃ sorts : (List Bool), sorts = (value.map fun x12 => (decide (x12[0]! < rows))) := ⟨_, rfl⟩
          replace h := h sorts d16
          refine T.wp_seq (T.wp_set (T.ev_as d16 (e := (eL eB)) (T.ev_compY (e := (eT eN)) (e1 := eB) (xs := value) (ds := fun x12 => [(eT eN) x12]) (g := fun x12 => (decide (x12[0]! < rows))) (T.it_T (e := (eT eN)) (xs := value) (T.ev_v rfl)) c13 (fun _ => rfl) (fun x12 hx => have c14 := c15 x12 hx; (T.ev_lt (x := x12[0]!) (y := rows) (T.ev_ixT (e := eN) (xs := x12) (i := 0) c14 (T.ev_v rfl) (T.ev_cN 0)) (T.ev_v rfl))))) ?_)
          change WP _ _ _ _ (At _ [some (eN rows), some (eN columns), some ((eT (eT eN)) value), none, none, some ((eL eB) sorts), none, none, none] _)
          obtain ⟨c19, h⟩ := h
          refine T.wp_seq (T.wp_if (P := (¬((((value.zip sorts).flatMap fun x17 => x17.1.map fun y18 => (decide ((decide (y18 < rows)) = x17.2))).all id) = true))) (T.ev_notT (P := ((((value.zip sorts).flatMap fun x17 => x17.1.map fun y18 => (decide ((decide (y18 < rows)) = x17.2))).all id) = true)) (T.ev_dec (((value.zip sorts).flatMap fun x17 => x17.1.map fun y18 => (decide ((decide (y18 < rows)) = x17.2))).all id) (T.ev_allB (xs := ((value.zip sorts).flatMap fun x17 => x17.1.map fun y18 => (decide ((decide (y18 < rows)) = x17.2)))) (T.ev_comp2Y (e := (eP (eT eN) eB)) (e1 := eN) (e2 := eB) (xs := (value.zip sorts)) (ds := fun x17 => [(eT eN) x17.1, eB x17.2]) (ys := fun x17 => x17.1) (ds1 := fun y18 => [eN y18]) (g := fun x17 y18 => (decide ((decide (y18 < rows)) = x17.2))) (T.it_zipTL (e := (eT eN)) (e1 := eB) (xs := value) (ys := sorts) (T.ev_v rfl) (T.ev_v rfl)) (fun _ => rfl) (fun x17 hx => (T.it_T (e := eN) (xs := x17.1) (T.ev_v rfl))) (fun _ => rfl) (fun x17 hx y18 hy => (T.ev_eq (x := (decide (y18 < rows))) (y := x17.2) qB rfl (T.ev_lt (x := y18) (y := rows) (T.ev_v rfl) (T.ev_v rfl)) (T.ev_v rfl))) c19)))) (fun hp => ?_) (fun hn => ?_))
          · replace h := h.1 hp
            exact T.wp_ret (T.ev_c rfl) ⟨rfl, false, rfl, h⟩
          · replace h := h.2 hn
            refine T.wp_skip ?_
            change WP _ _ _ _ (At _ [some (eN rows), some (eN columns), some ((eT (eT eN)) value), none, none, some ((eL eB) sorts), none, none, none] _)
            obtain ⟨c21, h⟩ := h
            refine T.wp_seq (T.wp_if (P := (¬(∀ x20 ∈ (sorts.zip (sorts.drop 1)), (x20.1 ≠ x20.2)))) (T.ev_notT (P := (∀ x20 ∈ (sorts.zip (sorts.drop 1)), (x20.1 ≠ x20.2))) (T.ev_bool (T.ev_allY (xs := (sorts.zip (sorts.drop 1))) (R := fun x20 => (x20.1 ≠ x20.2)) (T.ev_compY (e := (eP eB eB)) (e1 := eB) (xs := (sorts.zip (sorts.drop 1))) (ds := fun x20 => [eB x20.1, eB x20.2]) (g := fun x20 => (decide (x20.1 ≠ x20.2))) (T.it_zipLL (e := eB) (e1 := eB) (xs := sorts) (ys := (sorts.drop 1)) (T.ev_v rfl) (T.ev_fromL (e := eB) (xs := sorts) (k := 1) (T.ev_v rfl) (T.ev_cN 1))) c21 (fun _ => rfl) (fun x20 hx => (T.ev_ne (x := x20.1) (y := x20.2) qB rfl (T.ev_v rfl) (T.ev_v rfl))))))) (fun hp => ?_) (fun hn => ?_))
            · replace h := h.1 hp
              exact T.wp_ret (T.ev_c rfl) ⟨rfl, false, rfl, h⟩
            · replace h := h.2 hn
              refine T.wp_skip ?_
              change WP _ _ _ _ (At _ [some (eN rows), some (eN columns), some ((eT (eT eN)) value), none, none, some ((eL eB) sorts), none, none, none] _)
              obtain ⟨c23, h⟩ := h
              exact T.wp_ret (T.ev_allY (xs := value) (R := fun x22 => (x22 = (sortN x22))) (T.ev_compY (e := (eT eN)) (e1 := eB) (xs := value) (ds := fun x22 => [(eT eN) x22]) (g := fun x22 => (decide (x22 = (sortN x22)))) (T.it_T (e := (eT eN)) (xs := value) (T.ev_v rfl)) c23 (fun _ => rfl) (fun x22 hx => (T.ev_eq (x := x22) (y := (sortN x22)) (qT qN) rfl (T.ev_v rfl) (T.ev_tupleL (e := eN) (xs := (sortN x22)) (T.ev_sortT (xs := x22) (T.ev_v rfl))))))) ⟨rfl, (decide (∀ x22 ∈ value, (x22 = (sortN x22)))), rfl, h⟩)
  exact ⟨r, q, e1⟩
/-- rows of layers of all lines -/
structure LayOk (h w : Nat) (L : List (List Nat)) : Prop where
  hh : h ≤ 30
  ww : w ≤ 30
  h1 : 1 ≤ h
  ne : ∀ s ∈ L, s ≠ []
  perm : L.flatten.Perm (List.range (h + w))
  kind : ∀ s ∈ L, (∀ l ∈ s, l < h) ∨ ∀ l ∈ s, h ≤ l
  alt : ∀ i, i + 1 < L.length → decide ((L[i]!)[0]! < h) ≠ decide ((L[i + 1]!)[0]! < h)
  asc : ∀ s ∈ L, s.Pairwise (· < ·)
abbrev P_are_layers (h w : Nat) (L : List (List Nat)) : Prop := LayOk h w L
abbrev F_are_layers (_ _ : Nat) (_ : List (List Nat)) : Bool := true
theorem flat_lenG {α β : Type} (g : α → List β) : ∀ L : List α, (L.flatMap g).length = (L.map fun x => (g x).length).sum := fun L => List.length_flatMap
theorem ok_are_layers {h w : Nat} {L : List (List Nat)} (k : P_are_layers h w L) : V_are_layers h w L (· = F_are_layers h w L) := by
  have hh := k.hh
  have ww := k.ww
  have h1 := k.h1
  have fl : L.flatten.length = h + w := by rw [k.perm.length_eq, List.length_range]
  have ll : L.length ≤ L.flatten.length := by
    have : ∀ M : List (List Nat), (∀ s ∈ M, s ≠ []) → M.length ≤ M.flatten.length := fun M => by
      induction M with
      | nil => intro _; exact Nat.le_refl _
      | cons s M ih =>
        intro hM
        have a := List.length_pos_iff.mpr (hM s List.mem_cons_self)
        have b := ih fun t ht => hM t (List.mem_cons_of_mem _ ht)
        rw [List.length_cons, List.flatten_cons, List.length_append]; omega
    exact this L k.ne
  have mem : ∀ s ∈ L, ∀ l ∈ s, l < h + w := fun s hs l hl => List.mem_range.mp (k.perm.mem_iff.mp (List.mem_flatten.mpr ⟨s, hs, hl⟩))
  have sl : (L.map fun x => x.length).sum = h + w := by rw [← List.length_flatten]; exact fl
  have c1 : (L.flatMap fun x3 => x3.map fun y4 => (F_is_in y4 0 ((h + w) - 1))).length = h + w := by
    rw [flat_lenG, ← sl]
    congr 1
    exact List.map_congr_left fun x _ => List.length_map _
  have a1 : (L.flatMap fun x3 => x3.map fun y4 => (F_is_in y4 0 ((h + w) - 1))).all id = true := by
    refine List.all_eq_true.mpr fun b hb => ?_
    obtain ⟨s, hs, hb⟩ := List.mem_flatMap.mp hb
    obtain ⟨l, hl, rfl⟩ := List.mem_map.mp hb
    have := mem s hs l hl
    exact decide_eq_true ⟨Nat.zero_le _, by omega⟩
  have fe : (L.flatMap fun x8 => x8.map fun y9 => y9) = L.flatten := by
    rw [List.flatMap_def]
    congr 1
    exact (List.map_congr_left fun x _ => List.map_id' x).trans (List.map_id L)
  have so : sortN L.flatten = List.range (h + w) := T.sorted_unique ((sortN_perm _).trans k.perm) (sortN_le _) (List.pairwise_lt_range.imp Nat.le_of_lt)
  refine ⟨by omega, fun z => ?_, fun _ => ⟨fun _ _ _ _ => by omega, by rw [c1]; omega, fun z => (z a1).elim, fun _ => ⟨by rw [fe]; omega, by omega, fun z => ?_, fun _ => ⟨by omega, fun s hs => List.length_pos_iff.mpr (k.ne s hs), fun sorts hso => ?_⟩⟩⟩⟩
  · rcases z with z | z
    · exact (z trivial).elim
    · exact (z fun s hs => ⟨trivial, k.ne s hs⟩).elim
  · rw [fe] at z; exact (z so).elim
  have hso : sorts = L.map fun x => decide (x[0]! < h) := hso
  subst hso
  rw [zip_self]
  have c2 : ((L.map fun x => (x, decide (x[0]! < h))).flatMap fun x17 => x17.1.map fun y18 => (decide ((decide (y18 < h)) = x17.2))).length = h + w := by
    rw [flat_lenG, List.map_map, ← sl]
    congr 1
    exact List.map_congr_left fun x _ => List.length_map _
  have a2 : (((L.map fun x => (x, decide (x[0]! < h))).flatMap fun x17 => x17.1.map fun y18 => (decide ((decide (y18 < h)) = x17.2))).all id) = true := by
    refine List.all_eq_true.mpr fun b hb => ?_
    obtain ⟨z, hz, hb⟩ := List.mem_flatMap.mp hb
    obtain ⟨s, hs, rfl⟩ := List.mem_map.mp hz
    obtain ⟨l, hl, rfl⟩ := List.mem_map.mp hb
    have s0 : s[0]! ∈ s := mem_get! (List.length_pos_iff.mpr (k.ne s hs))
    refine decide_eq_true ?_
    refine decide_eq_decide.mpr ?_
    rcases k.kind s hs with q | q
    · exact ⟨fun _ => q _ s0, fun _ => q l hl⟩
    · have a := q _ s0
      have b := q l hl
      exact ⟨fun y => by omega, fun y => by have y : s[0]! < h := y; omega⟩
  have zl : ((L.map fun x => decide (x[0]! < h)).zip ((L.map fun x => decide (x[0]! < h)).drop 1)).length ≤ 60 := by
    rw [List.length_zip, List.length_map]; omega
  have a3 : ∀ x20 ∈ ((L.map fun x => decide (x[0]! < h)).zip ((L.map fun x => decide (x[0]! < h)).drop 1)), x20.1 ≠ x20.2 := fun x hx => by
    obtain ⟨i, hi, e⟩ := List.getElem_of_mem hx
    have hi2 := hi
    rw [List.length_zip, List.length_map, List.length_drop, List.length_map] at hi2
    rw [List.getElem_zip, List.getElem_map, List.getElem_drop, List.getElem_map] at e
    rw [← e]
    show decide (L[i][0]! < h) ≠ decide (L[1 + i][0]! < h)
    have a := k.alt i (by omega)
    rw [getElem!_pos L i (by omega), getElem!_pos L (i + 1) (by omega)] at a
    have e2 : L[1 + i] = L[i + 1] := by congr 1; omega
    rw [e2]; exact a
  refine ⟨by rw [c2]; omega, fun z => (z a2).elim, fun _ => ⟨by omega, fun z => (z a3).elim, fun _ => ⟨by omega, ?_⟩⟩⟩
  refine decide_eq_true fun s hs => ?_
  exact (T.sorted_unique (sortN_perm s).symm ((k.asc s hs).imp Nat.le_of_lt) (sortN_le s))
theorem t_are_layers {rows : Nat} {columns : Nat} {value : (List (List Nat))} (hP : P_are_layers rows columns value) (tp : List D) : m_are_layers [eN rows, eN columns, (eT (eT eN)) value] tp = .ok (eB (F_are_layers rows columns value)) tp := by
  obtain ⟨r, rfl, e⟩ := snd_are_layers rows columns value (ok_are_layers hP) tp
  exact e
end W
set_option maxHeartbeats 1000000
namespace W
open PySem L2 G T
def V_are_sums (value : (List Nat)) (most : Nat) (Q : Bool → Prop) : Prop := ((1 ≤ value.length ∧ value.length ≤ 30) → (value.length ≤ 1000000)) ∧ Q (decide (True ∧ ((1 ≤ value.length ∧ value.length ≤ 30) ∧ (∀ x1 ∈ value, ((F_is_in x1 0 most) = true)))))
theorem snd_are_sums (value : (List Nat)) (most : Nat) {Q : Bool → Prop} (h : V_are_sums value most Q) (tp : List D) : ∃ r : Bool, Q r ∧ m_are_sums [(eT eN) value, eN most] tp = .ok (eB r) tp := by
  obtain ⟨d, t, e1, rfl, r, rfl, q⟩ := T.wp_def (n := 3) (s := b_are_sums) (ds := [(eT eN) value, eN most]) (tp := tp) (Q := fun d t => t = tp ∧ ∃ r : Bool, d = eB r ∧ Q r) (by
    unfold V_are_sums at h
    change WP _ _ _ _ (b_are_sums [some ((eT eN) value), some (eN most), none] _)
    unfold b_are_sums
    obtain ⟨c3, h⟩ := h
    exact T.wp_ret (T.ev_andE (P := True) (Q := ((1 ≤ value.length ∧ value.length ≤ 30) ∧ (∀ x1 ∈ value, ((F_is_in x1 0 most) = true)))) (T.ev_isi (d := (eT eN) value) (T.ev_v rfl) rfl kb_tuple_tuple) (fun hp => (T.ev_andE (P := (1 ≤ value.length ∧ value.length ≤ 30)) (Q := (∀ x1 ∈ value, ((F_is_in x1 0 most) = true))) (T.ev_chLeLe (x := 1) (y := value.length) (z := 30) (T.ev_cN 1) (T.ev_lenT (e := eN) (xs := value) (T.ev_v rfl)) (T.ev_cN 30)) (fun hp => have c2 := c3 hp; (T.ev_allY (xs := value) (R := fun x1 => ((F_is_in x1 0 most) = true)) (T.ev_compY (e := eN) (e1 := eB) (xs := value) (ds := fun x1 => [eN x1]) (g := fun x1 => (decide ((F_is_in x1 0 most) = true))) (T.it_T (e := eN) (xs := value) (T.ev_v rfl)) c2 (fun _ => rfl) (fun x1 hx => (T.ev_decB (F_is_in x1 0 most) (T.ev_call (T.ev_cons (T.ev_v rfl) (T.ev_cons (T.ev_cN 0) (T.ev_cons (T.ev_v rfl) T.ev_nil))) rfl (t_is_in True.intro _)))))))))) ⟨rfl, (decide (True ∧ ((1 ≤ value.length ∧ value.length ≤ 30) ∧ (∀ x1 ∈ value, ((F_is_in x1 0 most) = true))))), rfl, h⟩)
  exact ⟨r, q, e1⟩
abbrev P_are_sums (_ : List Nat) (_ : Nat) : Prop := True
def F_are_sums (v : List Nat) (m : Nat) : Bool := decide ((1 ≤ v.length ∧ v.length ≤ 30) ∧ ∀ x ∈ v, x ≤ m)
theorem ok_are_sums {v : List Nat} {m : Nat} (_ : P_are_sums v m) : V_are_sums v m (· = F_are_sums v m) := by
  refine ⟨fun h => by omega, ?_⟩
  show decide _ = F_are_sums v m
  unfold F_are_sums
  refine decide_eq_decide.mpr ?_
  simp [F_is_in]
theorem t_are_sums {value : (List Nat)} {most : Nat} (hP : P_are_sums value most) (tp : List D) : m_are_sums [(eT eN) value, eN most] tp = .ok (eB (F_are_sums value most)) tp := by
  obtain ⟨r, rfl, e⟩ := snd_are_sums value most (ok_are_sums hP) tp
  exact e
end W
set_option maxHeartbeats 1000000
namespace W
open PySem L2 G T
def V_sizes_of (picture : (List Row)) (Q : (Bool × (List Nat)) → Prop) : Prop := (P_layers_of picture) ∧ ∀ told : (List (List Nat)), told = (F_layers_of picture) → (0 < told.length) ∧ (0 < (told[0]!).length) ∧ (told.length ≤ 1000000) ∧ Q ((decide ((told[0]!)[0]! < picture.length)), (told.map fun x5 => x5.length))
theorem snd_sizes_of (picture : (List Row)) {Q : (Bool × (List Nat)) → Prop} (h : V_sizes_of picture Q) (tp : List D) : ∃ r : (Bool × (List Nat)), Q r ∧ m_sizes_of [(eT eR) picture] tp = .ok ((eP eB (eT eN)) r) tp := by
  obtain ⟨d, t, e1, rfl, r, rfl, q⟩ := T.wp_def (n := 3) (s := b_sizes_of) (ds := [(eT eR) picture]) (tp := tp) (Q := fun d t => t = tp ∧ ∃ r : (Bool × (List Nat)), d = (eP eB (eT eN)) r ∧ Q r) (by
    unfold V_sizes_of at h
    change WP _ _ _ _ (b_sizes_of [some ((eT eR) picture), none, none] _)
    unfold b_sizes_of
    obtain ⟨c1, h⟩ := h
    obtain ⟨told, d2⟩ : ∃ told : (List (List Nat)), told = (F_layers_of picture) := ⟨_, rfl⟩
    replace h := h told d2
    refine T.wp_seq (T.wp_set (T.ev_as d2 (e := (eL (eL eN))) (T.ev_call (T.ev_cons (T.ev_v rfl) T.ev_nil) rfl (t_layers_of c1 _))) ?_)
    change WP _ _ _ _ (At _ [some ((eT eR) picture), some ((eL (eL eN)) told), none] _)
    obtain ⟨c3, h⟩ := h
    obtain ⟨c4, h⟩ := h
    obtain ⟨c6, h⟩ := h
    exact T.wp_ret (T.ev_tup (ds := [eB (decide ((told[0]!)[0]! < picture.length)), (eT eN) (told.map fun x5 => x5.length)]) (T.ev_cons (T.ev_lt (x := (told[0]!)[0]!) (y := picture.length) (T.ev_ixL (e := eN) (xs := told[0]!) (i := 0) c4 (T.ev_ixL (e := (eL eN)) (xs := told) (i := 0) c3 (T.ev_v rfl) (T.ev_cN 0)) (T.ev_cN 0)) (T.ev_lenT (e := eR) (xs := picture) (T.ev_v rfl))) (T.ev_cons (T.ev_tupleL (e := eN) (xs := (told.map fun x5 => x5.length)) (T.ev_compY (e := (eL eN)) (e1 := eN) (xs := told) (ds := fun x5 => [(eL eN) x5]) (g := fun x5 => x5.length) (T.it_L (e := (eL eN)) (xs := told) (T.ev_v rfl)) c6 (fun _ => rfl) (fun x5 hx => (T.ev_lenL (e := eN) (xs := x5) (T.ev_v rfl))))) T.ev_nil)) rfl) ⟨rfl, ((decide ((told[0]!)[0]! < picture.length)), (told.map fun x5 => x5.length)), rfl, h⟩)
  exact ⟨r, q, e1⟩
abbrev P_sizes_of (p : Pic) : Prop := PicP p ∧ coreQ p = []
abbrev F_sizes_of (p : Pic) : Bool × List Nat := (decide (((layersQ p)[0]!)[0]! < p.length), (layersQ p).map fun s => s.length)
theorem ok_sizes_of {p : Pic} (h : P_sizes_of p) : V_sizes_of p (· = F_sizes_of p) := by
  obtain ⟨k, hc⟩ := h
  have h1 := k.h1; have h30 := k.h30; have w30 := k.w30
  have pl : 0 < (layersQ p).length := List.length_pos_iff.mpr fun e => by
    have := (free_perm hc).length_eq
    rw [e, List.length_range] at this
    have : 0 = p.length + p[0]!.length := this
    omega
  have ll := (layersQ_len k).1
  refine ⟨k, fun told ht => ?_⟩
  have ht : told = layersQ p := ht
  subst ht
  exact ⟨pl, List.length_pos_iff.mpr (layersQ_layer _ (mem_get! pl)).1, by omega, rfl⟩
theorem t_sizes_of {picture : (List Row)} (hP : P_sizes_of picture) (tp : List D) : m_sizes_of [(eT eR) picture] tp = .ok ((eP eB (eT eN)) (F_sizes_of picture)) tp := by
  obtain ⟨r, rfl, e⟩ := snd_sizes_of picture (ok_sizes_of hP) tp
  exact e
end W
set_option maxHeartbeats 1000000
namespace W
open PySem L2 G T
def V_stairs_of (picture : (List Row)) (Q : (List Row) → Prop) : Prop := (P_layers_of picture) ∧ ∀ told : (List (List Nat)), told = (F_layers_of picture) → ((told.flatMap fun x3 => (x3.filter fun y4 => decide (y4 < picture.length)).map fun y4 => y4).length ≤ 1000000) ∧ ∀ rows : (List Nat), rows = (told.flatMap fun x3 => (x3.filter fun y4 => decide (y4 < picture.length)).map fun y4 => y4) → (∀ x7, x7 ∈ told → ∀ y8, y8 ∈ x7 → (y8 ≥ picture.length) → (picture.length ≤ y8)) ∧ ((told.flatMap fun x7 => (x7.filter fun y8 => decide (y8 ≥ picture.length)).map fun y8 => (y8 - picture.length)).length ≤ 1000000) ∧ ∀ columns : (List Nat), columns = (told.flatMap fun x7 => (x7.filter fun y8 => decide (y8 ≥ picture.length)).map fun y8 => (y8 - picture.length)) → (P_part_of picture rows columns) ∧ Q (F_part_of picture rows columns)
theorem snd_stairs_of (picture : (List Row)) {Q : (List Row) → Prop} (h : V_stairs_of picture Q) (tp : List D) : ∃ r : (List Row), Q r ∧ m_stairs_of [(eT eR) picture] tp = .ok ((eT eR) r) tp := by
  obtain ⟨d, t, e1, rfl, r, rfl, q⟩ := T.wp_def (n := 7) (s := b_stairs_of) (ds := [(eT eR) picture]) (tp := tp) (Q := fun d t => t = tp ∧ ∃ r : (List Row), d = (eT eR) r ∧ Q r) (by
    unfold V_stairs_of at h
    change WP _ _ _ _ (b_stairs_of [some ((eT eR) picture), none, none, none, none, none, none] _)
    unfold b_stairs_of
    obtain ⟨c1, h⟩ := h
    obtain ⟨told, d2⟩ : ∃ told : (List (List Nat)), told = (F_layers_of picture) := ⟨_, rfl⟩
    replace h := h told d2
    refine T.wp_seq (T.wp_par (T.ev_cons (T.ev_as d2 (e := (eL (eL eN))) (T.ev_call (T.ev_cons (T.ev_v rfl) T.ev_nil) rfl (t_layers_of c1 _))) (T.ev_cons (T.ev_lenT (e := eR) (xs := picture) (T.ev_v rfl)) T.ev_nil)) rfl ?_)
    change WP _ _ _ _ (At _ [some ((eT eR) picture), some ((eL (eL eN)) told), some (eN picture.length), none, none, none, none] _)
    obtain ⟨c5, h⟩ := h
    obtain ⟨rows, d6⟩ : ∃ rows : (List Nat), rows = (told.flatMap fun x3 => (x3.filter fun y4 => decide (y4 < picture.length)).map fun y4 => y4) := ⟨_, rfl⟩
    replace h := h rows d6
    refine T.wp_seq (T.wp_set (T.ev_as d6 (e := (eL eN)) (T.ev_comp2 (e := (eL eN)) (e1 := eN) (e2 := eN) (xs := told) (ds := fun x3 => [(eL eN) x3]) (ys := fun x3 => x3) (ds1 := fun y4 => [eN y4]) (g := fun x3 y4 => y4) (P := fun x3 y4 => (y4 < picture.length)) (T.it_L (e := (eL eN)) (xs := told) (T.ev_v rfl)) (fun _ => rfl) (fun x3 hx => (T.it_L (e := eN) (xs := x3) (T.ev_v rfl))) (fun _ => rfl) (fun x3 hx y4 hy => (T.ev_bool (T.ev_lt (x := y4) (y := picture.length) (T.ev_v rfl) (T.ev_v rfl)))) (fun x3 hx y4 hy hq => (T.ev_v rfl)) c5)) ?_)
    change WP _ _ _ _ (At _ [some ((eT eR) picture), some ((eL (eL eN)) told), some (eN picture.length), some ((eL eN) rows), none, none, none] _)
    obtain ⟨c10, h⟩ := h
    obtain ⟨c11, h⟩ := h
    obtain ⟨columns, d12⟩ : ∃ columns : (List Nat), columns = (told.flatMap fun x7 => (x7.filter fun y8 => decide (y8 ≥ picture.length)).map fun y8 => (y8 - picture.length)) := ⟨_, rfl⟩
    replace h := h columns d12
    refine T.wp_seq (T.wp_set (T.ev_as d12 (e := (eL eN)) (T.ev_comp2 (e := (eL eN)) (e1 := eN) (e2 := eN) (xs := told) (ds := fun x7 => [(eL eN) x7]) (ys := fun x7 => x7) (ds1 := fun y8 => [eN y8]) (g := fun x7 y8 => (y8 - picture.length)) (P := fun x7 y8 => (y8 ≥ picture.length)) (T.it_L (e := (eL eN)) (xs := told) (T.ev_v rfl)) (fun _ => rfl) (fun x7 hx => (T.it_L (e := eN) (xs := x7) (T.ev_v rfl))) (fun _ => rfl) (fun x7 hx y8 hy => (T.ev_bool (T.ev_ge (x := y8) (y := picture.length) (T.ev_v rfl) (T.ev_v rfl)))) (fun x7 hx y8 hy hq => have c9 := c10 x7 hx y8 hy hq; (T.ev_sub (x := y8) (y := picture.length) c9 (T.ev_v rfl) (T.ev_v rfl))) c11)) ?_)
    change WP _ _ _ _ (At _ [some ((eT eR) picture), some ((eL (eL eN)) told), some (eN picture.length), some ((eL eN) rows), none, none, some ((eL eN) columns)] _)
    obtain ⟨c13, h⟩ := h
    exact T.wp_ret (T.ev_call (T.ev_cons (T.ev_v rfl) (T.ev_cons (T.ev_v rfl) (T.ev_cons (T.ev_v rfl) T.ev_nil))) rfl (t_part_of c13 _)) ⟨rfl, (F_part_of picture rows columns), rfl, h⟩)
  exact ⟨r, q, e1⟩
abbrev P_stairs_of (p : Pic) : Prop := PicP p ∧ coreQ p = []
abbrev F_stairs_of (p : Pic) : Pic := firstP p.length p[0]!.length (shapeV p)
theorem flat_fil {α : Type} (P : α → Bool) : ∀ L : List (List α), (L.flatMap fun x => (x.filter P).map fun y => y) = L.flatten.filter P
  | [] => rfl
  | x :: L => by rw [List.flatMap_cons, flat_fil P L, List.flatten_cons, List.filter_append, List.map_id']
theorem flat_fim {α β : Type} (P : α → Bool) (f : α → β) : ∀ L : List (List α), (L.flatMap fun x => (x.filter P).map f) = (L.flatten.filter P).map f
  | [] => rfl
  | x :: L => by rw [List.flatMap_cons, flat_fim P f L, List.flatten_cons, List.filter_append, List.map_append]
theorem ok_stairs_of {p : Pic} (h : P_stairs_of p) : V_stairs_of p (· = F_stairs_of p) := by
  obtain ⟨k, hc⟩ := h
  have h30 := k.h30; have w30 := k.w30
  obtain ⟨l1, l2, m1, m2⟩ := orders_ok k hc
  refine ⟨k, fun told et => ?_⟩
  have et : told = layersQ p := et
  subst et
  rw [flat_fil, flat_fim]
  refine ⟨by show (rowsO p).length ≤ _; omega, fun rows er => ⟨fun _ _ y _ hy => hy, by show (colsO p).length ≤ _; omega, fun cols ec => ?_⟩⟩
  have er : rows = rowsO p := er
  have ec : cols = colsO p := ec
  subst er ec
  exact ⟨⟨k, by omega, by omega, m1, m2⟩, stairs_eq k hc⟩
theorem t_stairs_of {picture : (List Row)} (hP : P_stairs_of picture) (tp : List D) : m_stairs_of [(eT eR) picture] tp = .ok ((eT eR) (F_stairs_of picture)) tp := by
  obtain ⟨r, rfl, e⟩ := snd_stairs_of picture (ok_stairs_of hP) tp
  exact e
end W
set_option maxHeartbeats 1000000
namespace W
open PySem L2 G T
def V_is_free_of (picture : (List Row)) (Q : Bool → Prop) : Prop := (P_core_of picture) ∧ Q (decide ((F_core_of picture) = []))
theorem snd_is_free_of (picture : (List Row)) {Q : Bool → Prop} (h : V_is_free_of picture Q) (tp : List D) : ∃ r : Bool, Q r ∧ m_is_free_of [(eT eR) picture] tp = .ok (eB r) tp := by
  obtain ⟨d, t, e1, rfl, r, rfl, q⟩ := T.wp_def (n := 1) (s := b_is_free_of) (ds := [(eT eR) picture]) (tp := tp) (Q := fun d t => t = tp ∧ ∃ r : Bool, d = eB r ∧ Q r) (by
    unfold V_is_free_of at h
    change WP _ _ _ _ (b_is_free_of [some ((eT eR) picture)] _)
    unfold b_is_free_of
    obtain ⟨c1, h⟩ := h
    exact T.wp_ret (T.ev_eq (x := (F_core_of picture)) (y := []) (qL qN) rfl (T.ev_call (T.ev_cons (T.ev_v rfl) T.ev_nil) rfl (t_core_of c1 _)) (T.ev_lst (ds := []) T.ev_nil rfl)) ⟨rfl, (decide ((F_core_of picture) = [])), rfl, h⟩)
  exact ⟨r, q, e1⟩
abbrev P_is_free_of (p : Pic) : Prop := PicP p
abbrev F_is_free_of (p : Pic) : Bool := decide (coreQ p = [])
theorem ok_is_free_of {p : Pic} (k : P_is_free_of p) : V_is_free_of p (· = F_is_free_of p) := ⟨k, rfl⟩
theorem t_is_free_of {picture : (List Row)} (hP : P_is_free_of picture) (tp : List D) : m_is_free_of [(eT eR) picture] tp = .ok (eB (F_is_free_of picture)) tp := by
  obtain ⟨r, rfl, e⟩ := snd_is_free_of picture (ok_is_free_of hP) tp
  exact e
end W
set_option maxHeartbeats 1000000
namespace W
open PySem L2 G T
def V_need_sides (rows : Nat) (columns : Nat) (Q : Unit → Prop) : Prop := (P_need_number rows 1 30) ∧ (P_need_number columns 1 30) ∧ Q ()
theorem snd_need_sides (rows : Nat) (columns : Nat) {Q : Unit → Prop} (h : V_need_sides rows columns Q) (tp : List D) : ∃ r : Unit, Q r ∧ m_need_sides [eN rows, eN columns] tp = .ok (eU r) tp := by
  obtain ⟨d, t, e1, rfl, r, rfl, q⟩ := T.wp_def (n := 2) (s := b_need_sides) (ds := [eN rows, eN columns]) (tp := tp) (Q := fun d t => t = tp ∧ ∃ r : Unit, d = eU r ∧ Q r) (by
    unfold V_need_sides at h
    change WP _ _ _ _ (b_need_sides [some (eN rows), some (eN columns)] _)
    unfold b_need_sides
    obtain ⟨c1, h⟩ := h
    refine T.wp_seq (T.wp_drop (T.ev_call (T.ev_cons (T.ev_v rfl) (T.ev_cons (T.ev_cN 1) (T.ev_cons (T.ev_cN 30) T.ev_nil))) rfl (t_need_number c1 _)) ?_)
    change WP _ _ _ _ (At _ [some (eN rows), some (eN columns)] _)
    obtain ⟨c2, h⟩ := h
    refine T.wp_drop (T.ev_call (T.ev_cons (T.ev_v rfl) (T.ev_cons (T.ev_cN 1) (T.ev_cons (T.ev_cN 30) T.ev_nil))) rfl (t_need_number c2 _)) ?_
    exact ⟨rfl, (), rfl, h⟩)
  exact ⟨r, q, e1⟩
abbrev P_need_sides (h w : Nat) : Prop := (1 ≤ h ∧ h ≤ 30) ∧ 1 ≤ w ∧ w ≤ 30
abbrev F_need_sides (_ _ : Nat) : Unit := ()
theorem ok_need_sides {h w : Nat} (k : P_need_sides h w) : V_need_sides h w (· = F_need_sides h w) := ⟨k.1, k.2, rfl⟩
theorem t_need_sides {rows : Nat} {columns : Nat} (hP : P_need_sides rows columns) (tp : List D) : m_need_sides [eN rows, eN columns] tp = .ok (eU (F_need_sides rows columns)) tp := by
  obtain ⟨r, rfl, e⟩ := snd_need_sides rows columns (ok_need_sides hP) tp
  exact e
end W
set_option maxHeartbeats 1000000
namespace W
open PySem L2 G T
def V_need_sums (rows : (List Nat)) (columns : (List Nat)) (Q : Unit → Prop) : Prop := (P_are_sums rows 30) ∧ ((F_are_sums rows 30) = true) ∧ (P_are_sums columns rows.length) ∧ (¬(¬((F_are_sums columns rows.length) = true)) → (rows ≠ [])) ∧ (((F_are_sums columns rows.length) = true) ∧ (¬((rows.max?.getD 0) > columns.length))) ∧ Q ()
theorem snd_need_sums (rows : (List Nat)) (columns : (List Nat)) {Q : Unit → Prop} (h : V_need_sums rows columns Q) (tp : List D) : ∃ r : Unit, Q r ∧ m_need_sums [(eT eN) rows, (eT eN) columns] tp = .ok (eU r) tp := by
  obtain ⟨d, t, e1, rfl, r, rfl, q⟩ := T.wp_def (n := 2) (s := b_need_sums) (ds := [(eT eN) rows, (eT eN) columns]) (tp := tp) (Q := fun d t => t = tp ∧ ∃ r : Unit, d = eU r ∧ Q r) (by
    unfold V_need_sums at h
    change WP _ _ _ _ (b_need_sums [some ((eT eN) rows), some ((eT eN) columns)] _)
    unfold b_need_sums
    obtain ⟨c1, h⟩ := h
    obtain ⟨hf, h⟩ := h
    refine T.wp_seq (T.wp_if (P := (¬((F_are_sums rows 30) = true))) (T.ev_notT (P := ((F_are_sums rows 30) = true)) (T.ev_dec (F_are_sums rows 30) (T.ev_call (T.ev_cons (T.ev_v rfl) (T.ev_cons (T.ev_cN 30) T.ev_nil)) rfl (t_are_sums c1 _)))) (fun hp => ?_) (fun hn => ?_))
    · exact absurd hp ((fun h0 => h0 (hf)))
    · refine T.wp_skip ?_
      change WP _ _ _ _ (At _ [some ((eT eN) rows), some ((eT eN) columns)] _)
      obtain ⟨c2, h⟩ := h
      obtain ⟨c4, h⟩ := h
      obtain ⟨hf, h⟩ := h
      refine T.wp_if (P := ((¬((F_are_sums columns rows.length) = true)) ∨ ((rows.max?.getD 0) > columns.length))) (T.ev_orT (P := (¬((F_are_sums columns rows.length) = true))) (Q := ((rows.max?.getD 0) > columns.length)) (T.ev_notT (P := ((F_are_sums columns rows.length) = true)) (T.ev_dec (F_are_sums columns rows.length) (T.ev_call (T.ev_cons (T.ev_v rfl) (T.ev_cons (T.ev_lenT (e := eN) (xs := rows) (T.ev_v rfl)) T.ev_nil)) rfl (t_are_sums c2 _)))) (fun hp => have c3 := c4 hp; (T.ev_bool (T.ev_gt (x := (rows.max?.getD 0)) (y := columns.length) (T.ev_maxT (xs := rows) c3 (T.ev_v rfl)) (T.ev_lenT (e := eN) (xs := columns) (T.ev_v rfl)))))) (fun hp => ?_) (fun hn => ?_)
      · exact absurd hp ((fun h0 => h0.elim ((fun h0 => h0 ((hf).1))) ((hf).2)))
      · refine T.wp_skip ?_
        exact ⟨rfl, (), rfl, h⟩)
  exact ⟨r, q, e1⟩
structure SumsP (r c : List Nat) : Prop where
  r1 : 1 ≤ r.length
  r30 : r.length ≤ 30
  c1 : 1 ≤ c.length
  c30 : c.length ≤ 30
  rc : ∀ x ∈ r, x ≤ c.length
  cr : ∀ x ∈ c, x ≤ r.length
abbrev P_need_sums (r c : List Nat) : Prop := SumsP r c
abbrev F_need_sums (_ _ : List Nat) : Unit := ()
theorem ok_need_sums {r c : List Nat} (k : P_need_sums r c) : V_need_sums r c (· = F_need_sums r c) := by
  have h1 := k.r1; have h2 := k.r30; have h3 := k.c1; have h4 := k.c30
  have a2 : F_are_sums c r.length = true := decide_eq_true ⟨⟨h3, h4⟩, k.cr⟩
  have ne : r ≠ [] := List.ne_nil_of_length_pos h1
  refine ⟨trivial, decide_eq_true ⟨⟨h1, h2⟩, fun x hx => Nat.le_trans (k.rc x hx) h4⟩, trivial, fun _ => ne, ⟨a2, fun z => ?_⟩, rfl⟩
  cases q : r.max? with
  | none => exact ne (List.max?_eq_none_iff.mp q)
  | some a =>
    rw [q] at z
    have := k.rc a (List.max?_eq_some_iff.mp q).1
    have z : a > c.length := z
    omega
theorem t_need_sums {rows : (List Nat)} {columns : (List Nat)} (hP : P_need_sums rows columns) (tp : List D) : m_need_sums [(eT eN) rows, (eT eN) columns] tp = .ok (eU (F_need_sums rows columns)) tp := by
  obtain ⟨r, rfl, e⟩ := snd_need_sums rows columns (ok_need_sums hP) tp
  exact e
end W
set_option maxHeartbeats 1000000
namespace W
open PySem L2 G T
def V_is_free (picture : (List Row)) (Q : Bool → Prop) : Prop := (P_need_picture picture) ∧ (P_is_free_of picture) ∧ Q (F_is_free_of picture)
theorem snd_is_free (picture : (List Row)) {Q : Bool → Prop} (h : V_is_free picture Q) (tp : List D) : ∃ r : Bool, Q r ∧ m_is_free [(eT eR) picture] tp = .ok (eB r) tp := by
  obtain ⟨d, t, e1, rfl, r, rfl, q⟩ := T.wp_def (n := 1) (s := b_is_free) (ds := [(eT eR) picture]) (tp := tp) (Q := fun d t => t = tp ∧ ∃ r : Bool, d = eB r ∧ Q r) (by
    unfold V_is_free at h
    change WP _ _ _ _ (b_is_free [some ((eT eR) picture)] _)
    unfold b_is_free
    obtain ⟨c1, h⟩ := h
    refine T.wp_seq (T.wp_drop (T.ev_call (T.ev_cons (T.ev_v rfl) T.ev_nil) rfl (t_need_picture c1 _)) ?_)
    change WP _ _ _ _ (At _ [some ((eT eR) picture)] _)
    obtain ⟨c2, h⟩ := h
    exact T.wp_ret (T.ev_call (T.ev_cons (T.ev_v rfl) T.ev_nil) rfl (t_is_free_of c2 _)) ⟨rfl, (F_is_free_of picture), rfl, h⟩)
  exact ⟨r, q, e1⟩
abbrev P_is_free (p : Pic) : Prop := PicP p
abbrev F_is_free (p : Pic) : Bool := decide (coreQ p = [])
theorem ok_is_free {p : Pic} (k : P_is_free p) : V_is_free p (· = F_is_free p) := ⟨k, k, rfl⟩
theorem t_is_free {picture : (List Row)} (hP : P_is_free picture) (tp : List D) : m_is_free [(eT eR) picture] tp = .ok (eB (F_is_free picture)) tp := by
  obtain ⟨r, rfl, e⟩ := snd_is_free picture (ok_is_free hP) tp
  exact e
end W
set_option maxHeartbeats 1000000
namespace W
open PySem L2 G T
def V_need_free (picture : (List Row)) (Q : Unit → Prop) : Prop := (P_need_picture picture) ∧ (P_is_free_of picture) ∧ ((F_is_free_of picture) = true) ∧ Q ()
theorem snd_need_free (picture : (List Row)) {Q : Unit → Prop} (h : V_need_free picture Q) (tp : List D) : ∃ r : Unit, Q r ∧ m_need_free [(eT eR) picture] tp = .ok (eU r) tp := by
  obtain ⟨d, t, e1, rfl, r, rfl, q⟩ := T.wp_def (n := 1) (s := b_need_free) (ds := [(eT eR) picture]) (tp := tp) (Q := fun d t => t = tp ∧ ∃ r : Unit, d = eU r ∧ Q r) (by
    unfold V_need_free at h
    change WP _ _ _ _ (b_need_free [some ((eT eR) picture)] _)
    unfold b_need_free
    obtain ⟨c1, h⟩ := h
    refine T.wp_seq (T.wp_drop (T.ev_call (T.ev_cons (T.ev_v rfl) T.ev_nil) rfl (t_need_picture c1 _)) ?_)
    change WP _ _ _ _ (At _ [some ((eT eR) picture)] _)
    obtain ⟨c2, h⟩ := h
    obtain ⟨hf, h⟩ := h
    refine T.wp_if (P := (¬((F_is_free_of picture) = true))) (T.ev_notT (P := ((F_is_free_of picture) = true)) (T.ev_dec (F_is_free_of picture) (T.ev_call (T.ev_cons (T.ev_v rfl) T.ev_nil) rfl (t_is_free_of c2 _)))) (fun hp => ?_) (fun hn => ?_)
    · exact absurd hp ((fun h0 => h0 (hf)))
    · refine T.wp_skip ?_
      exact ⟨rfl, (), rfl, h⟩)
  exact ⟨r, q, e1⟩
abbrev P_need_free (p : Pic) : Prop := PicP p ∧ coreQ p = []
abbrev F_need_free (_ : Pic) : Unit := ()
theorem ok_need_free {p : Pic} (k : P_need_free p) : V_need_free p (· = F_need_free p) := ⟨k.1, k.1, decide_eq_true k.2, rfl⟩
theorem t_need_free {picture : (List Row)} (hP : P_need_free picture) (tp : List D) : m_need_free [(eT eR) picture] tp = .ok (eU (F_need_free picture)) tp := by
  obtain ⟨r, rfl, e⟩ := snd_need_free picture (ok_need_free hP) tp
  exact e
end W
set_option maxHeartbeats 1000000
namespace W
open PySem L2 G T
def V_free_by_layers (rows : Nat) (columns : Nat) (value : (List (List Nat))) (Q : (List Row) → Prop) : Prop := (P_need_sides rows columns) ∧ (P_are_layers rows columns value) ∧ ((F_are_layers rows columns value) = true) ∧ (P_by_layers2 rows columns value) ∧ Q (F_by_layers2 rows columns value)
theorem snd_free_by_layers (rows : Nat) (columns : Nat) (value : (List (List Nat))) {Q : (List Row) → Prop} (h : V_free_by_layers rows columns value Q) (tp : List D) : ∃ r : (List Row), Q r ∧ m_free_by_layers [eN rows, eN columns, (eT (eT eN)) value] tp = .ok ((eT eR) r) tp := by
  obtain ⟨d, t, e1, rfl, r, rfl, q⟩ := T.wp_def (n := 3) (s := b_free_by_layers) (ds := [eN rows, eN columns, (eT (eT eN)) value]) (tp := tp) (Q := fun d t => t = tp ∧ ∃ r : (List Row), d = (eT eR) r ∧ Q r) (by
    unfold V_free_by_layers at h
    change WP _ _ _ _ (b_free_by_layers [some (eN rows), some (eN columns), some ((eT (eT eN)) value)] _)
    unfold b_free_by_layers
    obtain ⟨c1, h⟩ := h
    refine T.wp_seq (T.wp_drop (T.ev_call (T.ev_cons (T.ev_v rfl) (T.ev_cons (T.ev_v rfl) T.ev_nil)) rfl (t_need_sides c1 _)) ?_)
    change WP _ _ _ _ (At _ [some (eN rows), some (eN columns), some ((eT (eT eN)) value)] _)
    obtain ⟨c2, h⟩ := h
    obtain ⟨hf, h⟩ := h
    refine T.wp_seq (T.wp_if (P := (¬((F_are_layers rows columns value) = true))) (T.ev_notT (P := ((F_are_layers rows columns value) = true)) (T.ev_dec (F_are_layers rows columns value) (T.ev_call (T.ev_cons (T.ev_v rfl) (T.ev_cons (T.ev_v rfl) (T.ev_cons (T.ev_v rfl) T.ev_nil))) rfl (t_are_layers c2 _)))) (fun hp => ?_) (fun hn => ?_))
    · exact absurd hp ((fun h0 => h0 (hf)))
    · refine T.wp_skip ?_
      change WP _ _ _ _ (At _ [some (eN rows), some (eN columns), some ((eT (eT eN)) value)] _)
      obtain ⟨c3, h⟩ := h
      exact T.wp_ret (T.ev_call (T.ev_cons (T.ev_v rfl) (T.ev_cons (T.ev_v rfl) (T.ev_cons (T.ev_v rfl) T.ev_nil))) rfl (t_by_layers2 c3 _)) ⟨rfl, (F_by_layers2 rows columns value), rfl, h⟩)
  exact ⟨r, q, e1⟩
abbrev P_free_by_layers (h w : Nat) (L : List (List Nat)) : Prop := ((1 ≤ h ∧ h ≤ 30) ∧ 1 ≤ w ∧ w ≤ 30) ∧ LayOk h w L
abbrev F_free_by_layers (h w : Nat) (L : List (List Nat)) : Pic := layP h w L
theorem ok_free_by_layers {h w : Nat} {L : List (List Nat)} (k : P_free_by_layers h w L) : V_free_by_layers h w L (· = F_free_by_layers h w L) := ⟨k.1, k.2, rfl, ⟨⟨k.2.hh, k.2.ww⟩, k.2.perm⟩, rfl⟩
theorem t_free_by_layers {rows : Nat} {columns : Nat} {value : (List (List Nat))} (hP : P_free_by_layers rows columns value) (tp : List D) : m_free_by_layers [eN rows, eN columns, (eT (eT eN)) value] tp = .ok ((eT eR) (F_free_by_layers rows columns value)) tp := by
  obtain ⟨r, rfl, e⟩ := snd_free_by_layers rows columns value (ok_free_by_layers hP) tp
  exact e
end W
set_option maxHeartbeats 1000000
namespace W
open PySem L2 G T
def V_free_by_sums (rows : (List Nat)) (columns : (List Nat)) (Q : (Option (List Row)) → Prop) : Prop := (P_need_sums rows columns) ∧ ((enumP columns).length ≤ 1000000) ∧ ((srtBy (eP eZ eN) ((enumP columns).map fun x2 => ((-((x2.2 : Nat) : Int)), x2.1))).length ≤ 1000000) ∧ ∀ order : (List Nat), order = ((srtBy (eP eZ eN) ((enumP columns).map fun x2 => ((-((x2.2 : Nat) : Int)), x2.1))).map fun x4 => x4.2) → ∃ I9 : Nat → (List Row) → Prop, I9 0 [] ∧ (∀ (i13 : Nat) (x14 : Nat), rows[i13]? = some x14 → ∀ found : (List Row), I9 i13 found → ((order.take x14).length ≤ 1000000) ∧ ∀ black : (List (Nat × Bool)), black = (dictOf ((order.take x14).map fun x17 => (x17, true))) → (columns.length ≤ 1073741824) ∧ ((List.range columns.length).length ≤ 1000000) ∧ (((List.range columns.length).map fun x21 => (if (x21 ∈ dkeys black) then true else false)).length ≤ 16777216) ∧ (found.length < 1000000) ∧ ∀ found_1 : (List Row), found_1 = (found ++ [((List.range columns.length).map fun x21 => (if (x21 ∈ dkeys black) then true else false))]) → I9 (i13 + 1) found_1) ∧ (∀ found : (List Row), I9 rows.length found → (P_column_sums_of found) ∧ Q (if ((F_column_sums_of found) = columns) then (some found) else none))
theorem snd_free_by_sums (rows : (List Nat)) (columns : (List Nat)) {Q : (Option (List Row)) → Prop} (h : V_free_by_sums rows columns Q) (tp : List D) : ∃ r : (Option (List Row)), Q r ∧ m_free_by_sums [(eT eN) rows, (eT eN) columns] tp = .ok ((eO (eT eR)) r) tp := by
  obtain ⟨d, t, e1, rfl, r, rfl, q⟩ := T.wp_def (n := 8) (s := b_free_by_sums) (ds := [(eT eN) rows, (eT eN) columns]) (tp := tp) (Q := fun d t => t = tp ∧ ∃ r : (Option (List Row)), d = (eO (eT eR)) r ∧ Q r) (by
    unfold V_free_by_sums at h
    change WP _ _ _ _ (b_free_by_sums [some ((eT eN) rows), some ((eT eN) columns), none, none, none, none, none, none] _)
    unfold b_free_by_sums
    obtain ⟨c1, h⟩ := h
    refine T.wp_seq (T.wp_drop (T.ev_call (T.ev_cons (T.ev_v rfl) (T.ev_cons (T.ev_v rfl) T.ev_nil)) rfl (t_need_sums c1 _)) ?_)
    change WP _ _ _ _ (At _ [some ((eT eN) rows), some ((eT eN) columns), none, none, none, none, none, none] _)
    obtain ⟨c3, h⟩ := h
    obtain ⟨c5, h⟩ := h
    obtain ⟨order, d6⟩ : ∃ order : (List Nat), order = ((srtBy (eP eZ eN) ((enumP columns).map fun x2 => ((-((x2.2 : Nat) : Int)), x2.1))).map fun x4 => x4.2) := ⟨_, rfl⟩
    replace h := h order d6
    refine T.wp_seq (T.wp_set (T.ev_as d6 (e := (eL eN)) (T.ev_compY (e := (eP eZ eN)) (e1 := eN) (xs := (srtBy (eP eZ eN) ((enumP columns).map fun x2 => ((-((x2.2 : Nat) : Int)), x2.1)))) (ds := fun x4 => [eZ x4.1, eN x4.2]) (g := fun x4 => x4.2) (T.it_L (e := (eP eZ eN)) (xs := (srtBy (eP eZ eN) ((enumP columns).map fun x2 => ((-((x2.2 : Nat) : Int)), x2.1)))) (T.ev_sortDat (e := (eP eZ eN)) (xs := ((enumP columns).map fun x2 => ((-((x2.2 : Nat) : Int)), x2.1))) srt_ZN (T.ev_compY (e := (eP eN eN)) (e1 := (eP eZ eN)) (xs := (enumP columns)) (ds := fun x2 => [eN x2.1, eN x2.2]) (g := fun x2 => ((-((x2.2 : Nat) : Int)), x2.1)) (T.it_enumT (e := eN) (xs := columns) (T.ev_v rfl)) c3 (fun _ => rfl) (fun x2 hx => (T.ev_tup (ds := [eZ (-((x2.2 : Nat) : Int)), eN x2.1]) (T.ev_cons (T.ev_negZ (x := ((x2.2 : Nat) : Int)) (T.ev_v rfl)) (T.ev_cons (T.ev_v rfl) T.ev_nil)) rfl))))) c5 (fun _ => rfl) (fun x4 hx => (T.ev_v rfl)))) ?_)
    change WP _ _ _ _ (At _ [some ((eT eN) rows), some ((eT eN) columns), some ((eL eN) order), none, none, none, none, none] _)
    refine T.wp_seq (T.wp_setF (T.ev_lst (ds := []) T.ev_nil rfl) rfl ?_)
    change WP _ _ _ _ (At _ [some ((eT eN) rows), some ((eT eN) columns), some ((eL eN) order), none, none, some ((eL eR) []), none, none] _)
    obtain ⟨I9, h10, h11, h12⟩ := h
    refine T.wp_seq (T.wp_for (e := eN) (xs := rows) (ds := fun x14 => [eN x14]) (fun k env tz => tp = tz ∧ ∃ found : (List Row), ∃ g7 : Option D, ∃ g8 : Option D, env = [some ((eT eN) rows), some ((eT eN) columns), some ((eL eN) order), g7, none, some ((eL eR) found), g8, none] ∧ I9 k found) (T.it_T (e := eN) (xs := rows) (T.ev_v rfl)) (fun _ => rfl) ⟨rfl, [], _, _, rfl, h10⟩ ?_ ?_)
    · intro i13 x14 env t hk hI
      obtain ⟨rfl, found, g7, g8, rfl, h⟩ := hI
      replace h := h11 i13 x14 hk found h
      change WP _ _ _ _ (At _ [some ((eT eN) rows), some ((eT eN) columns), some ((eL eN) order), some (eN x14), none, some ((eL eR) found), g8, none] _)
      obtain ⟨c18, h⟩ := h
      obtain ⟨black, d19⟩ : ∃ black : (List (Nat × Bool)), black = (dictOf ((order.take x14).map fun x17 => (x17, true))) := ⟨_, rfl⟩
      replace h := h black d19
      refine T.wp_seq (T.wp_set (T.ev_as d19 (e := (eD eB)) (T.ev_dc (e := eB) (e1 := eN) (xs := (order.take x14)) (ds := fun x17 => [eN x17]) (k := fun x17 => x17) (v := fun x17 => true) (T.it_L (e := eN) (xs := (order.take x14)) (T.ev_toL (e := eN) (xs := order) (k := x14) (T.ev_v rfl) (T.ev_v rfl))) c18 (fun _ => rfl) (fun x17 hx => (T.ev_v rfl)) (fun x17 hx => (T.ev_c rfl)))) ?_)
      change WP _ _ _ _ (At _ [some ((eT eN) rows), some ((eT eN) columns), some ((eL eN) order), some (eN x14), none, some ((eL eR) found), some ((eD eB) black), none] _)
      obtain ⟨c20, h⟩ := h
      obtain ⟨c22, h⟩ := h
      obtain ⟨c23, h⟩ := h
      obtain ⟨c24, h⟩ := h
      obtain ⟨found_1, d25⟩ : ∃ found_1 : (List Row), found_1 = (found ++ [((List.range columns.length).map fun x21 => (if (x21 ∈ dkeys black) then true else false))]) := ⟨_, rfl⟩
      replace h := h found_1 d25
      refine T.wp_app (e := eR) (xs := found) (x := ((List.range columns.length).map fun x21 => (if (x21 ∈ dkeys black) then true else false))) rfl (T.ev_joinG (bs := ((List.range columns.length).map fun x21 => (if (x21 ∈ dkeys black) then true else false))) c23 (T.ev_compY (e := eN) (e1 := eG) (xs := (List.range columns.length)) (ds := fun x21 => [eN x21]) (g := fun x21 => (if (x21 ∈ dkeys black) then true else false)) (T.it_range (n := columns.length) c20 (T.ev_lenT (e := eN) (xs := columns) (T.ev_v rfl))) c22 (fun _ => rfl) (fun x21 hx => (T.ev_ifE (P := (x21 ∈ dkeys black)) (e := eG) (x := true) (y := false) (T.ev_bool (T.ev_inK (x := x21) (d := black) (T.ev_v rfl) (T.ev_v rfl))) (fun hp => (T.ev_c (congrArg D.str str_black))) (fun hp => (T.ev_c (congrArg D.str str_white))))))) c24 ?_
      rw [← d25]
      exact ⟨rfl, found_1, _, _, rfl, h⟩
    rintro _ _ ⟨rfl, found, g7, g8, rfl, h⟩
    replace h := h12 found h
    change WP _ _ _ _ (At _ [some ((eT eN) rows), some ((eT eN) columns), some ((eL eN) order), g7, none, some ((eL eR) found), g8, none] _)
    refine T.wp_seq (T.wp_set (T.ev_tupleL (e := eR) (xs := found) (T.ev_v rfl)) ?_)
    change WP _ _ _ _ (At _ [some ((eT eN) rows), some ((eT eN) columns), some ((eL eN) order), g7, none, some ((eL eR) found), g8, some ((eT eR) found)] _)
    obtain ⟨c28, h⟩ := h
    exact T.wp_ret (T.ev_ifE (P := ((F_column_sums_of found) = columns)) (e := (eO (eT eR))) (x := (some found)) (y := none) (T.ev_bool (T.ev_eq (x := (F_column_sums_of found)) (y := columns) (qT qN) rfl (T.ev_call (T.ev_cons (T.ev_v rfl) T.ev_nil) rfl (t_column_sums_of c28 _)) (T.ev_v rfl))) (fun hp => (T.ev_v rfl)) (fun hp => (T.ev_c rfl))) ⟨rfl, (if ((F_column_sums_of found) = columns) then (some found) else none), rfl, h⟩)
  exact ⟨r, q, e1⟩
abbrev P_free_by_sums (r c : List Nat) : Prop := SumsP r c
def F_free_by_sums (r c : List Nat) : Option Pic := if F_column_sums_of (bltQ r c) = c then some (bltQ r c) else none
theorem ok_free_by_sums {r c : List Nat} (k : P_free_by_sums r c) : V_free_by_sums r c (· = F_free_by_sums r c) := by
  have h1 := k.r1; have h30 := k.r30; have w1 := k.c1; have w30 := k.c30
  have el : (enumP c).length = c.length := by unfold enumP; rw [List.length_mapIdx]
  refine ⟨k, by omega, ?_, fun order ho => ?_⟩
  · rw [(srtBy_perm _ _).length_eq, List.length_map]; omega
  · have ho : order = ordC c := ho
    subst ho
    have ol := ordC_len c
    refine ⟨fun n f => f = (r.take n).map fun m => (List.range c.length).map fun x => decide (x ∈ (ordC c).take m), rfl, fun i m hm f hf => ⟨by rw [List.length_take]; omega, fun b hb => ?_⟩, fun f hf => ?_⟩
    · have hi := (List.getElem?_eq_some_iff.mp hm).1
      have fl : f.length = min i r.length := by rw [hf, List.length_map, List.length_take]
      refine ⟨by omega, by rw [List.length_range]; omega, by rw [List.length_map, List.length_range]; omega, by omega, fun g hg => ?_⟩
      show g = _
      rw [hg, hf, take_snoc hm, List.map_append, List.map_singleton]
      congr 2
      refine List.map_congr_left fun x _ => ?_
      rw [hb]
      by_cases z : x ∈ (ordC c).take m
      · rw [if_pos ((keys_true _ _).mpr z), decide_eq_true z]
      · rw [if_neg fun y => z ((keys_true _ _).mp y), decide_eq_false z]
    · have hf : f = (r.take r.length).map fun m => (List.range c.length).map fun x => decide (x ∈ (ordC c).take m) := hf
      rw [List.take_length] at hf
      have hf : f = bltQ r c := hf
      subst hf
      exact ⟨blt_pp h1 h30 w1 w30, rfl⟩
theorem t_free_by_sums {rows : (List Nat)} {columns : (List Nat)} (hP : P_free_by_sums rows columns) (tp : List D) : m_free_by_sums [(eT eN) rows, (eT eN) columns] tp = .ok ((eO (eT eR)) (F_free_by_sums rows columns)) tp := by
  obtain ⟨r, rfl, e⟩ := snd_free_by_sums rows columns (ok_free_by_sums hP) tp
  exact e
end W
set_option maxHeartbeats 1000000
namespace W
open PySem L2 G T
def V_shape (picture : (List Row)) (Q : (Bool × (List Nat)) → Prop) : Prop := (P_need_free picture) ∧ (P_sizes_of picture) ∧ Q (F_sizes_of picture)
theorem snd_shape (picture : (List Row)) {Q : (Bool × (List Nat)) → Prop} (h : V_shape picture Q) (tp : List D) : ∃ r : (Bool × (List Nat)), Q r ∧ m_shape [(eT eR) picture] tp = .ok ((eP eB (eT eN)) r) tp := by
  obtain ⟨d, t, e1, rfl, r, rfl, q⟩ := T.wp_def (n := 1) (s := b_shape) (ds := [(eT eR) picture]) (tp := tp) (Q := fun d t => t = tp ∧ ∃ r : (Bool × (List Nat)), d = (eP eB (eT eN)) r ∧ Q r) (by
    unfold V_shape at h
    change WP _ _ _ _ (b_shape [some ((eT eR) picture)] _)
    unfold b_shape
    obtain ⟨c1, h⟩ := h
    refine T.wp_seq (T.wp_drop (T.ev_call (T.ev_cons (T.ev_v rfl) T.ev_nil) rfl (t_need_free c1 _)) ?_)
    change WP _ _ _ _ (At _ [some ((eT eR) picture)] _)
    obtain ⟨c2, h⟩ := h
    exact T.wp_ret (T.ev_call (T.ev_cons (T.ev_v rfl) T.ev_nil) rfl (t_sizes_of c2 _)) ⟨rfl, (F_sizes_of picture), rfl, h⟩)
  exact ⟨r, q, e1⟩
abbrev P_shape (p : Pic) : Prop := PicP p ∧ coreQ p = []
abbrev F_shape (p : Pic) : Bool × List Nat := F_sizes_of p
theorem ok_shape {p : Pic} (h : P_shape p) : V_shape p (· = F_shape p) := ⟨h, h, rfl⟩
theorem t_shape {picture : (List Row)} (hP : P_shape picture) (tp : List D) : m_shape [(eT eR) picture] tp = .ok ((eP eB (eT eN)) (F_shape picture)) tp := by
  obtain ⟨r, rfl, e⟩ := snd_shape picture (ok_shape hP) tp
  exact e
end W
set_option maxHeartbeats 1000000
namespace W
open PySem L2 G T
def V_stairs (picture : (List Row)) (Q : (List Row) → Prop) : Prop := (P_need_free picture) ∧ (P_stairs_of picture) ∧ Q (F_stairs_of picture)
theorem snd_stairs (picture : (List Row)) {Q : (List Row) → Prop} (h : V_stairs picture Q) (tp : List D) : ∃ r : (List Row), Q r ∧ m_stairs [(eT eR) picture] tp = .ok ((eT eR) r) tp := by
  obtain ⟨d, t, e1, rfl, r, rfl, q⟩ := T.wp_def (n := 1) (s := b_stairs) (ds := [(eT eR) picture]) (tp := tp) (Q := fun d t => t = tp ∧ ∃ r : (List Row), d = (eT eR) r ∧ Q r) (by
    unfold V_stairs at h
    change WP _ _ _ _ (b_stairs [some ((eT eR) picture)] _)
    unfold b_stairs
    obtain ⟨c1, h⟩ := h
    refine T.wp_seq (T.wp_drop (T.ev_call (T.ev_cons (T.ev_v rfl) T.ev_nil) rfl (t_need_free c1 _)) ?_)
    change WP _ _ _ _ (At _ [some ((eT eR) picture)] _)
    obtain ⟨c2, h⟩ := h
    exact T.wp_ret (T.ev_call (T.ev_cons (T.ev_v rfl) T.ev_nil) rfl (t_stairs_of c2 _)) ⟨rfl, (F_stairs_of picture), rfl, h⟩)
  exact ⟨r, q, e1⟩
abbrev P_stairs (p : Pic) : Prop := PicP p ∧ coreQ p = []
abbrev F_stairs (p : Pic) : Pic := F_stairs_of p
theorem ok_stairs {p : Pic} (h : P_stairs p) : V_stairs p (· = F_stairs p) := ⟨h, h, rfl⟩
theorem t_stairs {picture : (List Row)} (hP : P_stairs picture) (tp : List D) : m_stairs [(eT eR) picture] tp = .ok ((eT eR) (F_stairs picture)) tp := by
  obtain ⟨r, rfl, e⟩ := snd_stairs picture (ok_stairs hP) tp
  exact e
end W
set_option maxHeartbeats 1000000
namespace W
open PySem L2 G T
def V_number_of (picture : (List Row)) (Q : Nat → Prop) : Prop := (0 < picture.length) ∧ ((picture[0]!).length ≤ 1000000) ∧ ∀ columns : Nat, columns = (picture[0]!).length → ∀ known : Unit, known = () → (picture.length ≤ 16777216) ∧ (picture.length ≤ 16777216 ∧ (picture.length + columns) ≤ 16777216) ∧ ∀ left : (List (List Nat)), left = [(List.range picture.length), (List.range' picture.length ((picture.length + columns) - picture.length))] → (P_layers_of picture) ∧ ∀ told : (List (List Nat)), told = (F_layers_of picture) → (0 < told.length) ∧ (0 < (told[0]!).length) ∧ ∀ sort : Nat, sort = (if ((told[0]!)[0]! < picture.length) then 0 else 1) → ((sort = 1) → (P_ways_left known picture.length columns true)) ∧ ∀ found : Nat, found = (if (sort = 1) then (F_ways_left known picture.length columns true) else 0) → ∃ I20 : Nat → Nat → (List (List Nat)) → Nat → Prop, I20 0 found left sort ∧ (∀ (i24 : Nat) (x25 : (List Nat)), told[i24]? = some x25 → ∀ found_1 : Nat, ∀ left_1 : (List (List Nat)), ∀ sort_1 : Nat, I20 i24 found_1 left_1 sort_1 → (1 ≤ 1073741824 ∧ (x25.length + 1) ≤ 1073741824) ∧ ∃ I32 : Nat → Nat → Prop, I32 0 found_1 ∧ (∀ (i36 : Nat) (x37 : Nat), (List.range' 1 ((x25.length + 1) - 1))[i36]? = some x37 → ∀ found_2 : Nat, I32 i36 found_2 → (0 < left_1.length) ∧ (1 < left_1.length) ∧ ∀ rest : (List Nat), rest = [(left_1[0]!).length, (left_1[1]!).length] → (sort_1 < rest.length ∧ x37 ≤ rest[sort_1]!) ∧ ∀ rest_1 : (List Nat), rest_1 = (rest.set sort_1 (rest[sort_1]! - x37)) → (0 < rest_1.length) ∧ (1 < rest_1.length) ∧ (P_ways_left known (rest_1[0]!) (rest_1[1]!) (decide (sort_1 = 1))) ∧ ∀ ways : Nat, ways = (F_ways_left known (rest_1[0]!) (rest_1[1]!) (decide (sort_1 = 1))) → ((x37 < x25.length) → (sort_1 < left_1.length) ∧ (P_chosen ((left_1[sort_1]!).length) x37) ∧ (cMul (((F_chosen ((left_1[sort_1]!).length) x37) : Nat) : Int) ((ways : Nat) : Int) = true)) ∧ (¬(x37 < x25.length) → (sort_1 < left_1.length) ∧ (P_subset_number (left_1[sort_1]!) x25) ∧ (cMul (((F_subset_number (left_1[sort_1]!) x25) : Nat) : Int) ((ways : Nat) : Int) = true)) ∧ ∀ found_3 : Nat, found_3 = (if (x37 < x25.length) then (found_2 + ((F_chosen ((left_1[sort_1]!).length) x37) * ways)) else (found_2 + ((F_subset_number (left_1[sort_1]!) x25) * ways))) → I32 (i36 + 1) found_3) ∧ (∀ found_2 : Nat, I32 (List.range' 1 ((x25.length + 1) - 1)).length found_2 → (sort_1 < left_1.length) ∧ ((left_1[sort_1]!).length ≤ 1000000) ∧ ∀ left_2 : (List (List Nat)), left_2 = (left_1.set sort_1 ((left_1[sort_1]!).filter fun x61 => decide (x61 ∉ x25))) → (sort_1 ≤ 1) ∧ ∀ sort_2 : Nat, sort_2 = (1 - sort_1) → I20 (i24 + 1) found_2 left_2 sort_2)) ∧ (∀ found_1 : Nat, ∀ left_1 : (List (List Nat)), ∀ sort_1 : Nat, I20 told.length found_1 left_1 sort_1 → Q found_1)
theorem snd_number_of (picture : (List Row)) {Q : Nat → Prop} (h : V_number_of picture Q) (tp : List D) : ∃ r : Nat, Q r ∧ m_number_of [(eT eR) picture] tp = .ok (eN r) tp := by
  obtain ⟨d, t, e1, rfl, r, rfl, q⟩ := T.wp_def (n := 13) (s := b_number_of) (ds := [(eT eR) picture]) (tp := tp) (Q := fun d t => t = tp ∧ ∃ r : Nat, d = eN r ∧ Q r) (by
    unfold V_number_of at h
    change WP _ _ _ _ (b_number_of [some ((eT eR) picture), none, none, none, none, none, none, none, none, none, none, none, none] _)
    unfold b_number_of
    obtain ⟨c1, h⟩ := h
    obtain ⟨c2, h⟩ := h
    obtain ⟨columns, d3⟩ : ∃ columns : Nat, columns = (picture[0]!).length := ⟨_, rfl⟩
    replace h := h columns d3
    obtain ⟨known, d4⟩ : ∃ known : Unit, known = () := ⟨_, rfl⟩
    replace h := h known d4
    refine T.wp_seq (T.wp_par (T.ev_cons (T.ev_lenT (e := eR) (xs := picture) (T.ev_v rfl)) (T.ev_cons (T.ev_as d3 (e := eN) (T.ev_lenR (r := picture[0]!) c2 (T.ev_ixT (e := eR) (xs := picture) (i := 0) c1 (T.ev_v rfl) (T.ev_cN 0)))) (T.ev_cons (T.ev_as d4 (e := eM) (T.ev_c rfl)) (T.ev_cons (T.ev_cN 0) T.ev_nil)))) rfl ?_)
    change WP _ _ _ _ (At _ [some ((eT eR) picture), some (eN picture.length), some (eN columns), some (eM known), some (eN 0), none, none, none, none, none, none, none, none] _)
    obtain ⟨c5, h⟩ := h
    obtain ⟨c6, h⟩ := h
    obtain ⟨left, d7⟩ : ∃ left : (List (List Nat)), left = [(List.range picture.length), (List.range' picture.length ((picture.length + columns) - picture.length))] := ⟨_, rfl⟩
    replace h := h left d7
    refine T.wp_seq (T.wp_setF (T.ev_as d7 (e := (eL (eL eN))) (T.ev_lst (ds := [(eL eN) (List.range picture.length), (eL eN) (List.range' picture.length ((picture.length + columns) - picture.length))]) (T.ev_cons (T.ev_rg1L (n := picture.length) c5 (T.ev_v rfl)) (T.ev_cons (T.ev_rg2L (a := picture.length) (n := (picture.length + columns)) c6 (T.ev_v rfl) (T.ev_add (x := picture.length) (y := columns) (T.ev_v rfl) (T.ev_v rfl))) T.ev_nil)) rfl)) rfl ?_)
    change WP _ _ _ _ (At _ [some ((eT eR) picture), some (eN picture.length), some (eN columns), some (eM known), some (eN 0), some ((eL (eL eN)) left), none, none, none, none, none, none, none] _)
    obtain ⟨c8, h⟩ := h
    obtain ⟨told, d9⟩ : ∃ told : (List (List Nat)), told = (F_layers_of picture) := ⟨_, rfl⟩
    replace h := h told d9
    refine T.wp_seq (T.wp_set (T.ev_as d9 (e := (eL (eL eN))) (T.ev_call (T.ev_cons (T.ev_v rfl) T.ev_nil) rfl (t_layers_of c8 _))) ?_)
    change WP _ _ _ _ (At _ [some ((eT eR) picture), some (eN picture.length), some (eN columns), some (eM known), some (eN 0), some ((eL (eL eN)) left), some ((eL (eL eN)) told), none, none, none, none, none, none] _)
    obtain ⟨c10, h⟩ := h
    obtain ⟨c11, h⟩ := h
    obtain ⟨sort, d12⟩ : ∃ sort : Nat, sort = (if ((told[0]!)[0]! < picture.length) then 0 else 1) := ⟨_, rfl⟩
    replace h := h sort d12
    refine T.wp_seq (T.wp_set (T.ev_as d12 (e := eN) (T.ev_ifE (P := ((told[0]!)[0]! < picture.length)) (e := eN) (x := 0) (y := 1) (T.ev_bool (T.ev_lt (x := (told[0]!)[0]!) (y := picture.length) (T.ev_ixL (e := eN) (xs := told[0]!) (i := 0) c11 (T.ev_ixL (e := (eL eN)) (xs := told) (i := 0) c10 (T.ev_v rfl) (T.ev_cN 0)) (T.ev_cN 0)) (T.ev_v rfl))) (fun hp => (T.ev_cN 0)) (fun hp => (T.ev_cN 1)))) ?_)
    change WP _ _ _ _ (At _ [some ((eT eR) picture), some (eN picture.length), some (eN columns), some (eM known), some (eN 0), some ((eL (eL eN)) left), some ((eL (eL eN)) told), some (eN sort), none, none, none, none, none] _)
    obtain ⟨c14, h⟩ := h
    refine T.wp_seq (T.wp_ifJ (P := (sort = 1)) (J := fun env tz => tp = tz ∧ ∃ found : Nat, env = [some ((eT eR) picture), some (eN picture.length), some (eN columns), some (eM known), some (eN found), some ((eL (eL eN)) left), some ((eL (eL eN)) told), some (eN sort), none, none, none, none, none] ∧ found = (if (sort = 1) then (F_ways_left known picture.length columns true) else 0)) (T.ev_bool (T.ev_eq (x := sort) (y := 1) qN rfl (T.ev_v rfl) (T.ev_cN 1))) (fun hq => ?_) (fun hq => ?_) ?_)
    · have c13 := c14 hq
      refine T.wp_set (T.ev_call (T.ev_cons (T.ev_v rfl) (T.ev_cons (T.ev_v rfl) (T.ev_cons (T.ev_v rfl) (T.ev_cons (T.ev_c rfl) T.ev_nil)))) rfl (t_ways_left c13 _)) ?_
      exact ⟨rfl, (F_ways_left known picture.length columns true), rfl, (if_pos hq).symm⟩
    · refine T.wp_skip ?_
      exact ⟨rfl, 0, rfl, (if_neg hq).symm⟩
    rintro _ _ ⟨rfl, found, rfl, d15⟩
    replace h := h found d15
    change WP _ _ _ _ (At _ [some ((eT eR) picture), some (eN picture.length), some (eN columns), some (eM known), some (eN found), some ((eL (eL eN)) left), some ((eL (eL eN)) told), some (eN sort), none, none, none, none, none] _)
    obtain ⟨I20, h21, h22, h23⟩ := h
    refine T.wp_seq (T.wp_for (e := (eL eN)) (xs := told) (ds := fun x25 => [(eL eN) x25]) (fun k env tz => tp = tz ∧ ∃ found_1 : Nat, ∃ left_1 : (List (List Nat)), ∃ sort_1 : Nat, ∃ g16 : Option D, ∃ g17 : Option D, ∃ g18 : Option D, ∃ g19 : Option D, env = [some ((eT eR) picture), some (eN picture.length), some (eN columns), some (eM known), some (eN found_1), some ((eL (eL eN)) left_1), some ((eL (eL eN)) told), some (eN sort_1), g16, g17, g18, g19, none] ∧ I20 k found_1 left_1 sort_1) (T.it_L (e := (eL eN)) (xs := told) (T.ev_v rfl)) (fun _ => rfl) ⟨rfl, found, left, sort, _, _, _, _, rfl, h21⟩ ?_ ?_)
    · intro i24 x25 env t hk hI
      obtain ⟨rfl, found_1, left_1, sort_1, g16, g17, g18, g19, rfl, h⟩ := hI
      replace h := h22 i24 x25 hk found_1 left_1 sort_1 h
      change WP _ _ _ _ (At _ [some ((eT eR) picture), some (eN picture.length), some (eN columns), some (eM known), some (eN found_1), some ((eL (eL eN)) left_1), some ((eL (eL eN)) told), some (eN sort_1), some ((eL eN) x25), g17, g18, g19, none] _)
      obtain ⟨c28, h⟩ := h
      obtain ⟨I32, h33, h34, h35⟩ := h
      refine T.wp_seq (T.wp_for (e := eN) (xs := (List.range' 1 ((x25.length + 1) - 1))) (ds := fun x37 => [eN x37]) (fun k env tz => tp = tz ∧ ∃ found_2 : Nat, ∃ g29 : Option D, ∃ g30 : Option D, ∃ g31 : Option D, env = [some ((eT eR) picture), some (eN picture.length), some (eN columns), some (eM known), some (eN found_2), some ((eL (eL eN)) left_1), some ((eL (eL eN)) told), some (eN sort_1), some ((eL eN) x25), g29, g30, g31, none] ∧ I32 k found_2) (T.it_range2 (a := 1) (n := (x25.length + 1)) c28 (T.ev_cN 1) (T.ev_add (x := x25.length) (y := 1) (T.ev_lenL (e := eN) (xs := x25) (T.ev_v rfl)) (T.ev_cN 1))) (fun _ => rfl) ⟨rfl, found_1, _, _, _, rfl, h33⟩ ?_ ?_)
      · intro i36 x37 env t hk hI
        obtain ⟨rfl, found_2, g29, g30, g31, rfl, h⟩ := hI
        replace h := h34 i36 x37 hk found_2 h
        change WP _ _ _ _ (At _ [some ((eT eR) picture), some (eN picture.length), some (eN columns), some (eM known), some (eN found_2), some ((eL (eL eN)) left_1), some ((eL (eL eN)) told), some (eN sort_1), some ((eL eN) x25), some (eN x37), g30, g31, none] _)
        obtain ⟨c40, h⟩ := h
        obtain ⟨c41, h⟩ := h
        obtain ⟨rest, d42⟩ : ∃ rest : (List Nat), rest = [(left_1[0]!).length, (left_1[1]!).length] := ⟨_, rfl⟩
        replace h := h rest d42
        refine T.wp_seq (T.wp_setF (T.ev_as d42 (e := (eL eN)) (T.ev_lst (ds := [eN ((left_1[0]!).length), eN ((left_1[1]!).length)]) (T.ev_cons (T.ev_lenL (e := eN) (xs := left_1[0]!) (T.ev_ixL (e := (eL eN)) (xs := left_1) (i := 0) c40 (T.ev_v rfl) (T.ev_cN 0))) (T.ev_cons (T.ev_lenL (e := eN) (xs := left_1[1]!) (T.ev_ixL (e := (eL eN)) (xs := left_1) (i := 1) c41 (T.ev_v rfl) (T.ev_cN 1))) T.ev_nil)) rfl)) rfl ?_)
        change WP _ _ _ _ (At _ [some ((eT eR) picture), some (eN picture.length), some (eN columns), some (eM known), some (eN found_2), some ((eL (eL eN)) left_1), some ((eL (eL eN)) told), some (eN sort_1), some ((eL eN) x25), some (eN x37), some ((eL eN) rest), g31, none] _)
        obtain ⟨c43, h⟩ := h
        obtain ⟨rest_1, d44⟩ : ∃ rest_1 : (List Nat), rest_1 = (rest.set sort_1 (rest[sort_1]! - x37)) := ⟨_, rfl⟩
        replace h := h rest_1 d44
        refine T.wp_seq (T.wp_laugSub (xs := rest) (k := sort_1) (v := x37) rfl (T.ev_v rfl) (T.ev_v rfl) c43 ?_)
        rw [← d44]
        change WP _ _ _ _ (At _ [some ((eT eR) picture), some (eN picture.length), some (eN columns), some (eM known), some (eN found_2), some ((eL (eL eN)) left_1), some ((eL (eL eN)) told), some (eN sort_1), some ((eL eN) x25), some (eN x37), some ((eL eN) rest_1), g31, none] _)
        obtain ⟨c45, h⟩ := h
        obtain ⟨c46, h⟩ := h
        obtain ⟨c47, h⟩ := h
        obtain ⟨ways, d48⟩ : ∃ ways : Nat, ways = (F_ways_left known (rest_1[0]!) (rest_1[1]!) (decide (sort_1 = 1))) := ⟨_, rfl⟩
        replace h := h ways d48
        refine T.wp_seq (T.wp_set (T.ev_as d48 (e := eN) (T.ev_call (T.ev_cons (T.ev_v rfl) (T.ev_cons (T.ev_ixL (e := eN) (xs := rest_1) (i := 0) c45 (T.ev_v rfl) (T.ev_cN 0)) (T.ev_cons (T.ev_ixL (e := eN) (xs := rest_1) (i := 1) c46 (T.ev_v rfl) (T.ev_cN 1)) (T.ev_cons (T.ev_eq (x := sort_1) (y := 1) qN rfl (T.ev_v rfl) (T.ev_cN 1)) T.ev_nil)))) rfl (t_ways_left c47 _))) ?_)
        change WP _ _ _ _ (At _ [some ((eT eR) picture), some (eN picture.length), some (eN columns), some (eM known), some (eN found_2), some ((eL (eL eN)) left_1), some ((eL (eL eN)) told), some (eN sort_1), some ((eL eN) x25), some (eN x37), some ((eL eN) rest_1), some (eN ways), none] _)
        obtain ⟨c55, h⟩ := h
        obtain ⟨c56, h⟩ := h
        refine T.wp_ifJ (P := (x37 < x25.length)) (J := fun env tz => tp = tz ∧ ∃ found_3 : Nat, env = [some ((eT eR) picture), some (eN picture.length), some (eN columns), some (eM known), some (eN found_3), some ((eL (eL eN)) left_1), some ((eL (eL eN)) told), some (eN sort_1), some ((eL eN) x25), some (eN x37), some ((eL eN) rest_1), some (eN ways), none] ∧ found_3 = (if (x37 < x25.length) then (found_2 + ((F_chosen ((left_1[sort_1]!).length) x37) * ways)) else (found_2 + ((F_subset_number (left_1[sort_1]!) x25) * ways)))) (T.ev_bool (T.ev_lt (x := x37) (y := x25.length) (T.ev_v rfl) (T.ev_lenL (e := eN) (xs := x25) (T.ev_v rfl)))) (fun hq => ?_) (fun hq => ?_) ?_
        · obtain ⟨c49, c50, c51⟩ := c55 hq
          refine T.wp_augN (x := found_2) (y := ((F_chosen ((left_1[sort_1]!).length) x37) * ways)) rfl (T.ev_mul (x := (F_chosen ((left_1[sort_1]!).length) x37)) (y := ways) c51 (T.ev_call (T.ev_cons (T.ev_lenL (e := eN) (xs := left_1[sort_1]!) (T.ev_ixL (e := (eL eN)) (xs := left_1) (i := sort_1) c49 (T.ev_v rfl) (T.ev_v rfl))) (T.ev_cons (T.ev_v rfl) T.ev_nil)) rfl (t_chosen c50 _)) (T.ev_v rfl)) ?_
          exact ⟨rfl, (found_2 + ((F_chosen ((left_1[sort_1]!).length) x37) * ways)), rfl, (if_pos hq).symm⟩
        · obtain ⟨c52, c53, c54⟩ := c56 hq
          refine T.wp_augN (x := found_2) (y := ((F_subset_number (left_1[sort_1]!) x25) * ways)) rfl (T.ev_mul (x := (F_subset_number (left_1[sort_1]!) x25)) (y := ways) c54 (T.ev_call (T.ev_cons (T.ev_ixL (e := (eL eN)) (xs := left_1) (i := sort_1) c52 (T.ev_v rfl) (T.ev_v rfl)) (T.ev_cons (T.ev_v rfl) T.ev_nil)) rfl (t_subset_number c53 _)) (T.ev_v rfl)) ?_
          exact ⟨rfl, (found_2 + ((F_subset_number (left_1[sort_1]!) x25) * ways)), rfl, (if_neg hq).symm⟩
        rintro _ _ ⟨rfl, found_3, rfl, d57⟩
        replace h := h found_3 d57
        exact ⟨rfl, found_3, _, _, _, rfl, h⟩
      rintro _ _ ⟨rfl, found_2, g29, g30, g31, rfl, h⟩
      replace h := h35 found_2 h
      change WP _ _ _ _ (At _ [some ((eT eR) picture), some (eN picture.length), some (eN columns), some (eM known), some (eN found_2), some ((eL (eL eN)) left_1), some ((eL (eL eN)) told), some (eN sort_1), some ((eL eN) x25), g29, g30, g31, none] _)
      obtain ⟨c60, h⟩ := h
      obtain ⟨c62, h⟩ := h
      obtain ⟨left_2, d63⟩ : ∃ left_2 : (List (List Nat)), left_2 = (left_1.set sort_1 ((left_1[sort_1]!).filter fun x61 => decide (x61 ∉ x25))) := ⟨_, rfl⟩
      replace h := h left_2 d63
      refine T.wp_seq (T.wp_lset (e := (eL eN)) (xs := left_1) (k := sort_1) (x := ((left_1[sort_1]!).filter fun x61 => decide (x61 ∉ x25))) rfl (T.ev_compI (e := eN) (xs := left_1[sort_1]!) (ds := fun x61 => [eN x61]) (P := fun x61 => (x61 ∉ x25)) (T.it_L (e := eN) (xs := left_1[sort_1]!) (T.ev_ixL (e := (eL eN)) (xs := left_1) (i := sort_1) c60 (T.ev_v rfl) (T.ev_v rfl))) c62 (fun _ => rfl) (fun x61 hx => (T.ev_bool (T.ev_ninL (x := x61) (xs := x25) qN rfl (T.ev_v rfl) (T.ev_v rfl)))) (fun x61 hx hq => (T.ev_v rfl))) (T.ev_v rfl) c60 ?_)
      rw [← d63]
      change WP _ _ _ _ (At _ [some ((eT eR) picture), some (eN picture.length), some (eN columns), some (eM known), some (eN found_2), some ((eL (eL eN)) left_2), some ((eL (eL eN)) told), some (eN sort_1), some ((eL eN) x25), g29, g30, g31, none] _)
      obtain ⟨c64, h⟩ := h
      obtain ⟨sort_2, d65⟩ : ∃ sort_2 : Nat, sort_2 = (1 - sort_1) := ⟨_, rfl⟩
      replace h := h sort_2 d65
      refine T.wp_set (T.ev_as d65 (e := eN) (T.ev_sub (x := 1) (y := sort_1) c64 (T.ev_cN 1) (T.ev_v rfl))) ?_
      exact ⟨rfl, found_2, left_2, sort_2, _, _, _, _, rfl, h⟩
    rintro _ _ ⟨rfl, found_1, left_1, sort_1, g16, g17, g18, g19, rfl, h⟩
    replace h := h23 found_1 left_1 sort_1 h
    change WP _ _ _ _ (At _ [some ((eT eR) picture), some (eN picture.length), some (eN columns), some (eM known), some (eN found_1), some ((eL (eL eN)) left_1), some ((eL (eL eN)) told), some (eN sort_1), g16, g17, g18, g19, none] _)
    exact T.wp_ret (T.ev_v rfl) ⟨rfl, found_1, rfl, h⟩)
  exact ⟨r, q, e1⟩
abbrev P_number_of (q : Pic) : Prop := PicP q ∧ coreQ q = []
abbrev F_number_of (q : Pic) : Nat := numQ q
def two (s : Nat) (A B : List Nat) : List (List Nat) := if s = 0 then [A, B] else [B, A]
theorem ok_number_of {q : Pic} (k : P_number_of q) : V_number_of q (· = F_number_of q) := by
  obtain ⟨k, hc⟩ := k
  have h1 := k.h1; have h30 := k.h30; have w1 := k.w1; have w30 := k.w30
  have lays := free_lays k hc
  have ll : (layersQ q).length ≤ 60 := (layersQ_len k).1
  have lne : layersQ q ≠ [] := fun e => by
    have := lays.perm.length_eq
    rw [e, List.length_range] at this
    have : 0 = q.length + q[0]!.length := this
    omega
  have l0 := List.length_pos_iff.mpr lne
  have t0 : 0 < ((layersQ q)[0]!).length := List.length_pos_iff.mpr (layersQ_layer _ (mem_get! l0)).1
  refine ⟨by omega, by omega, fun w ew _ _ => ⟨by omega, ⟨by omega, by omega⟩, fun left el => ⟨k, fun told et => ?_⟩⟩⟩
  have et : told = layersQ q := et
  subst et ew
  rw [show (q.length + q[0]!.length) - q.length = q[0]!.length by omega] at el
  refine ⟨l0, t0, fun sort es => ⟨fun _ => ⟨h30, w30⟩, fun found ef => ?_⟩⟩
  refine ⟨fun n f l s => ∃ A B, s ≤ 1 ∧ l = two s A B ∧ A.Pairwise (· < ·) ∧ B.Pairwise (· < ·) ∧ A.length ≤ 30 ∧ B.length ≤ 30 ∧ LayAB A B ((layersQ q).drop n) ∧ f + nuA A B ((layersQ q).drop n) = numQ q, ?_, fun n t ht f l s hI => ?_, fun f l s hI => ?_⟩
  · have li : (rowsL q.length).length = q.length := List.length_range
    have lc : (colsL q.length q[0]!.length).length = q[0]!.length := List.length_range' ..
    have nq : numQ q = if ((layersQ q)[0]!)[0]! < q.length then nuA (rowsL q.length) (colsL q.length q[0]!.length) (layersQ q) else wA q.length q[0]!.length + nuA (colsL q.length q[0]!.length) (rowsL q.length) (layersQ q) := rfl
    by_cases z : ((layersQ q)[0]!)[0]! < q.length
    · have es : sort = 0 := by rw [es]; exact if_pos z
      subst es
      have ef : found = 0 := by rw [ef]; exact if_neg (by decide)
      subst ef
      rw [if_pos z] at nq
      have ly : LayAB (rowsL q.length) (colsL q.length q[0]!.length) (layersQ q) := lays.elim id fun y => (lay_first' h1 y z).elim
      exact ⟨rowsL q.length, colsL q.length q[0]!.length, Nat.zero_le _, el, rows_asc _, cols_asc _ _, by omega, by omega, ly, by rw [nq]; exact Nat.zero_add _⟩
    · have es : sort = 1 := by rw [es]; exact if_neg z
      subst es
      have ef : found = wA q.length q[0]!.length := by rw [ef]; exact if_pos rfl
      subst ef
      rw [if_neg z] at nq
      have ly : LayAB (colsL q.length q[0]!.length) (rowsL q.length) (layersQ q) := lays.elim (fun y => (z (lay_first h1 y)).elim) id
      exact ⟨colsL q.length q[0]!.length, rowsL q.length, Nat.le_refl _, el, cols_asc _ _, rows_asc _, by omega, by omega, ly, by rw [nq]; rfl⟩
  · obtain ⟨A, B, s1, rfl, pa, pb, la, lb, ly, eq⟩ := hI
    have hn := (List.getElem?_eq_some_iff.mp ht).1
    have e1 : (layersQ q).drop n = t :: (layersQ q).drop (n + 1) := by
      rw [List.drop_eq_getElem_cons hn, (List.getElem?_eq_some_iff.mp ht).2]
    rw [e1] at ly eq
    obtain ⟨y1, y2, y3⟩ := ly
    have eq : f + (su (fA A.length B.length) (t.length - 1) + numC A t * wA B.length (A.length - t.length) + nuA B (outA A t) ((layersQ q).drop (n + 1))) = numQ q := eq
    have sc : s = 0 ∨ s = 1 := by omega
    have l2 : (two s A B).length = 2 := by rcases sc with rfl | rfl <;> rfl
    have ls : (two s A B)[s]! = A := by rcases sc with rfl | rfl <;> rfl
    have tl := y2.length_le
    have tp := List.length_pos_iff.mpr y1
    rw [ls]
    refine ⟨⟨by omega, by omega⟩, fun m g => g = f + (if m < t.length then su (fA A.length B.length) m else su (fA A.length B.length) (t.length - 1) + numC A t * wA B.length (A.length - t.length)), ?_, fun m x hx g hg => ?_, fun g hg => ?_⟩
    · show f = f + (if 0 < t.length then 0 else _)
      rw [if_pos tp]; rfl
    · obtain ⟨rfl, hm⟩ := rng1 hx
      have hm : m < t.length := by omega
      have hg : g = f + (if m < t.length then su (fA A.length B.length) m else _) := hg
      rw [if_pos hm] at hg
      refine ⟨by omega, by omega, fun rest er => ?_⟩
      have rs : rest[s]! = A.length ∧ rest.length = 2 := by
        rw [er]
        rcases sc with rfl | rfl <;> exact ⟨rfl, rfl⟩
      refine ⟨⟨by omega, by omega⟩, fun rest1 er1 => ?_⟩
      have r1l : rest1.length = 2 := by rw [er1, List.length_set]; exact rs.2
      have wy : F_ways_left () (rest1[0]!) (rest1[1]!) (decide (s = 1)) = wA B.length (A.length - (m + 1)) := by
        rw [er1, er]
        rcases sc with rfl | rfl
        · show wv (A.length - (m + 1)) B.length false = wv B.length (A.length - (m + 1)) true
          exact (wv_turn _ _).symm
        · rfl
      have pw : rest1[0]! ≤ 30 ∧ rest1[1]! ≤ 30 := by
        rw [er1, er]
        rcases sc with rfl | rfl
        · exact ⟨by show A.length - (m + 1) ≤ 30; omega, by show B.length ≤ 30; omega⟩
        · exact ⟨by show B.length ≤ 30; omega, by show A.length - (m + 1) ≤ 30; omega⟩
      refine ⟨by omega, by omega, pw, fun ways ey => ?_⟩
      have ey : ways = wA B.length (A.length - (m + 1)) := ey.trans wy
      have wl : ways < 2 ^ 2200 := by rw [ey]; exact wv_lt true lb (by omega)
      have nc := (at_numC A t (asc_nodup pa) y2).1
      refine ⟨fun _ => ⟨by omega, ⟨by omega, by omega⟩, cMul_nat (ch_lt la) wl (by omega) (by omega) (by omega)⟩, fun _ => ⟨by omega, ⟨la, y2⟩, cMul_nat (Nat.lt_trans nc (ch_lt la)) wl (by omega) (by omega) (by omega)⟩, fun g2 eg2 => ?_⟩
      show g2 = f + (if m + 1 < t.length then su (fA A.length B.length) m + fA A.length B.length m else _)
      by_cases z : m + 1 < t.length
      · have eg2 : g2 = g + ch A.length (m + 1) * ways := by rw [eg2]; exact if_pos z
        rw [if_pos z, eg2, hg, ey, Nat.add_assoc]
      · have eg2 : g2 = g + numC A t * ways := by rw [eg2]; exact if_neg z
        have em : m + 1 = t.length := by omega
        rw [if_neg z, eg2, hg, ey, em, Nat.add_assoc, show t.length - 1 = m by omega]
    · have hg : g = f + (if (List.range' 1 ((t.length + 1) - 1)).length < t.length then _ else su (fA A.length B.length) (t.length - 1) + numC A t * wA B.length (A.length - t.length)) := hg
      rw [List.length_range', if_neg (by omega)] at hg
      refine ⟨by omega, by omega, fun l3 el3 => ⟨s1, fun s2 es2 => ?_⟩⟩
      have le : l3 = two s2 B (outA A t) := by
        rw [el3, es2]
        rcases sc with rfl | rfl <;> rfl
      have ol := outA_len (asc_nodup pa) y2
      exact ⟨B, outA A t, by omega, le, pb, pa.sublist List.filter_sublist, lb, by omega, y3, by rw [hg]; omega⟩
  · obtain ⟨A, B, _, _, _, _, _, _, _, eq⟩ := hI
    rw [List.drop_length] at eq
    exact eq
theorem t_number_of {picture : (List Row)} (hP : P_number_of picture) (tp : List D) : m_number_of [(eT eR) picture] tp = .ok (eN (F_number_of picture)) tp := by
  obtain ⟨r, rfl, e⟩ := snd_number_of picture (ok_number_of hP) tp
  exact e
end W
set_option maxHeartbeats 1000000
namespace W
open PySem L2 G T
def V_free_number (picture : (List Row)) (Q : Nat → Prop) : Prop := (P_need_free picture) ∧ (P_number_of picture) ∧ Q (F_number_of picture)
theorem snd_free_number (picture : (List Row)) {Q : Nat → Prop} (h : V_free_number picture Q) (tp : List D) : ∃ r : Nat, Q r ∧ m_free_number [(eT eR) picture] tp = .ok (eN r) tp := by
  obtain ⟨d, t, e1, rfl, r, rfl, q⟩ := T.wp_def (n := 1) (s := b_free_number) (ds := [(eT eR) picture]) (tp := tp) (Q := fun d t => t = tp ∧ ∃ r : Nat, d = eN r ∧ Q r) (by
    unfold V_free_number at h
    change WP _ _ _ _ (b_free_number [some ((eT eR) picture)] _)
    unfold b_free_number
    obtain ⟨c1, h⟩ := h
    refine T.wp_seq (T.wp_drop (T.ev_call (T.ev_cons (T.ev_v rfl) T.ev_nil) rfl (t_need_free c1 _)) ?_)
    change WP _ _ _ _ (At _ [some ((eT eR) picture)] _)
    obtain ⟨c2, h⟩ := h
    exact T.wp_ret (T.ev_call (T.ev_cons (T.ev_v rfl) T.ev_nil) rfl (t_number_of c2 _)) ⟨rfl, (F_number_of picture), rfl, h⟩)
  exact ⟨r, q, e1⟩
abbrev P_free_number (q : Pic) : Prop := PicP q ∧ coreQ q = []
abbrev F_free_number (q : Pic) : Nat := numQ q
theorem ok_free_number {q : Pic} (k : P_free_number q) : V_free_number q (· = F_free_number q) := ⟨k, k, rfl⟩
theorem t_free_number {picture : (List Row)} (hP : P_free_number picture) (tp : List D) : m_free_number [(eT eR) picture] tp = .ok (eN (F_free_number picture)) tp := by
  obtain ⟨r, rfl, e⟩ := snd_free_number picture (ok_free_number hP) tp
  exact e
end W
set_option maxHeartbeats 1000000
namespace W
open PySem L2 G T
def V_law : Prop := (P_law_taken 20) ∧ ∀ drawn : Nat, (D_law_taken 20 drawn) → ∀ drawn_1 : Nat, (D_law_taken 20 drawn_1) → ∀ high : Nat, high = (1 + drawn) → ∀ wide : Nat, wide = (1 + drawn_1) → (high ≤ 1073741824) ∧ ((List.range high).length ≤ 1000000 ∧ P_law_taken (wide + 1)) ∧ ∀ drawn_2 : (List Nat), (drawn_2.length = (List.range high).length ∧ ∀ y ∈ drawn_2, ∃ z9, D_law_taken (wide + 1) z9 ∧ y ∈ [0, wide, z9]) → (wide ≤ 16777216) ∧ ((List.range wide).length ≤ 10000) ∧ ∀ mixed : (List Nat), (mixed.Perm (List.range wide)) → (wide ≤ 16777216) ∧ ∀ columns : (List Nat), columns = (List.replicate wide 0) → (wide ≤ 1073741824) ∧ ∃ I28 : Nat → (List Nat) → Prop, I28 0 columns ∧ (∀ (i32 : Nat) (x33 : Nat), (List.range wide)[i32]? = some x33 → ∀ columns_1 : (List Nat), I28 i32 columns_1 → (drawn_2.length ≤ 1000000) ∧ (x33 < mixed.length) ∧ (mixed[x33]! < columns_1.length) ∧ ∀ columns_2 : (List Nat), columns_2 = (columns_1.set (mixed[x33]!) ((drawn_2.filter fun x36 => decide (x36 > x33)).length)) → I28 (i32 + 1) columns_2) ∧ (∀ columns_1 : (List Nat), I28 (List.range wide).length columns_1 → (P_free_by_sums drawn_2 columns_1) ∧ ∀ picture : (Option (List Row)), picture = (F_free_by_sums drawn_2 columns_1) → (¬(picture = none) → (picture ≠ none) ∧ (P_is_free (picture.getD default))) ∧ ((¬(picture = none)) ∧ ((F_is_free (picture.getD default)) = true)) ∧ (picture ≠ none) ∧ (P_sums (picture.getD default)) ∧ (¬((F_sums (picture.getD default)) ≠ (drawn_2, columns_1)) → (picture ≠ none) ∧ (P_black_cells (picture.getD default))) ∧ (((F_sums (picture.getD default)) = (drawn_2, columns_1)) ∧ ((F_black_cells (picture.getD default)) = drawn_2.sum)) ∧ (high ≤ 1073741824) ∧ ∃ I55 : Nat → Prop, I55 0 ∧ (∀ (i59 : Nat) (x60 : Nat), (List.range high)[i59]? = some x60 → I55 i59 → (picture ≠ none) ∧ (x60 < (picture.getD default).length) ∧ (x60 < drawn_2.length) ∧ (¬((((picture.getD default)[x60]!).count true) ≠ drawn_2[x60]!) → (x60 < drawn_2.length) ∧ (drawn_2[x60]! ≤ 1073741824) ∧ ((List.range (drawn_2[x60]!)).length ≤ 1000000) ∧ (∀ x68, x68 ∈ (List.range (drawn_2[x60]!)) → (x68 < mixed.length) ∧ (mixed[x68]! < columns_1.length) ∧ ((columns_1[mixed[x68]!]! > 0) → (picture ≠ none) ∧ (x60 < (picture.getD default).length) ∧ (x68 < mixed.length) ∧ (((picture.getD default)[x60]!).length ≤ 1000000 ∧ mixed[x68]! < ((picture.getD default)[x60]!).length)))) ∧ (((((picture.getD default)[x60]!).count true) = drawn_2[x60]!) ∧ (((List.range (drawn_2[x60]!)).filter fun x68 => decide ((columns_1[mixed[x68]!]! > 0) ∧ (((picture.getD default)[x60]!)[mixed[x68]!]! = false))) = [])) ∧ I55 (i59 + 1)) ∧ (I55 (List.range high).length → (picture ≠ none) ∧ (P_layers (picture.getD default)) ∧ ∀ told : (List (List Nat)), told = (F_layers (picture.getD default)) → (P_free_by_layers high wide told) ∧ (¬((some (F_free_by_layers high wide told)) ≠ picture) → (picture ≠ none) ∧ (P_free_number (picture.getD default))) ∧ (((some (F_free_by_layers high wide told)) = picture) ∧ (¬((F_free_number (picture.getD default)) < 0))) ∧ ∃ I89 : Nat → Prop, I89 0 ∧ (∀ (i93 : Nat) (x94 : (List Nat)), told[i93]? = some x94 → I89 i93 → (x94.length ≤ 1000000) ∧ (∀ x97, x97 ∈ x94 → ((x97 < high) → (x97 < drawn_2.length)) ∧ (¬(x97 < high) → (high ≤ x97) ∧ ((x97 - high) < columns_1.length))) ∧ ((x94.map fun x97 => (if (x97 < high) then drawn_2[x97]! else columns_1[(x97 - high)]!)).length ≤ 4000) ∧ (∀ x ∈ (x94.map fun x97 => (if (x97 < high) then drawn_2[x97]! else columns_1[(x97 - high)]!)), x < 60) ∧ ((setN (x94.map fun x97 => (if (x97 < high) then drawn_2[x97]! else columns_1[(x97 - high)]!))).length = 1) ∧ I89 (i93 + 1)) ∧ (I89 told.length → (drawn_2.length ≤ 4000) ∧ (∀ x ∈ drawn_2, x < 60) ∧ (columns_1.length ≤ 4000) ∧ (∀ x ∈ columns_1, x < 60) ∧ ∀ kinds : Nat, kinds = ((setN drawn_2).length + (setN columns_1).length) → (¬(told.length ≠ kinds) → (picture ≠ none) ∧ (P_shape (picture.getD default))) ∧ ((told.length = kinds) ∧ (((F_shape (picture.getD default)).2).length = kinds)) ∧ (picture ≠ none) ∧ (P_stairs (picture.getD default)) ∧ ∀ best : (List Row), best = (F_stairs (picture.getD default)) → (best.length ≤ 1000000) ∧ ((sortN (best.map fun x120 => (x120.count true))).reverse = (best.map fun x122 => (x122.count true))) ∧ (P_black_cells best) ∧ ((F_black_cells best) = drawn_2.sum) ∧ (P_law_taken wide) ∧ ∀ drawn_3 : Nat, (D_law_taken wide drawn_3) → ∀ drawn_4 : Nat, (D_law_taken wide drawn_4) → (drawn_3 < columns_1.length) ∧ ((columns_1[drawn_3]! < high) → (drawn_4 < columns_1.length)) ∧ ∃ J137 : (List Nat) → Prop, (((columns_1[drawn_3]! < high) ∧ ((columns_1[drawn_4]! > 0) ∧ (drawn_3 ≠ drawn_4))) → (drawn_3 < columns_1.length) ∧ (drawn_4 < columns_1.length) ∧ (1 ≤ columns_1[drawn_4]!) ∧ ∀ columns_4 : (List Nat), columns_4 = ((columns_1.set drawn_3 (columns_1[drawn_3]! + 1)).set drawn_4 (columns_1[drawn_4]! - 1)) → (P_free_by_sums drawn_2 columns_4) ∧ ∀ there : (Option (List Row)), there = (F_free_by_sums drawn_2 columns_4) → (picture ≠ none) ∧ (P_sums (picture.getD default)) ∧ (((F_sums (picture.getD default)).2).length ≤ 1000000) ∧ ((decide (there ≠ none)) = (decide ((sortN columns_4) = (sortN (((F_sums (picture.getD default)).2).map fun x149 => x149))))) ∧ J137 columns_4) ∧ (¬((columns_1[drawn_3]! < high) ∧ ((columns_1[drawn_4]! > 0) ∧ (drawn_3 ≠ drawn_4))) → J137 columns_1) ∧ (∀ columns_3 : (List Nat), J137 columns_3 → (true = true)))))
theorem snd_law (h : V_law) (ns : List Int) (hns : ns.length ≤ 63) : ∃ tp', retR (b_law (some (.scr ns) :: some .tape :: List.replicate 15 none) [.scr ns, .int 0, .int 5387, .int 0]) = .ok (.bl true) tp' := by
  have ht := tape0 ns 5387 hns (by decide) (by decide)
  generalize [D.scr ns, D.int 0, D.int 5387, D.int 0] = tp at ht ⊢
  refine T.wp_law ?_
  unfold V_law at h
  change WP _ _ _ _ (b_law [some (.scr ns), some (.tape), none, none, none, none, none, none, none, none, none, none, none, none, none, none, none] _)
  unfold b_law
  obtain ⟨c1, h⟩ := h
  obtain ⟨drawn, t2, e3, k4, p5⟩ := t_law_taken ht c1
  replace h := h drawn p5
  obtain ⟨drawn_1, t6, e7, k8, p9⟩ := t_law_taken k4 c1
  replace h := h drawn_1 p9
  obtain ⟨high, d10⟩ : ∃ high : Nat, high = (1 + drawn) := ⟨_, rfl⟩
  replace h := h high d10
  obtain ⟨wide, d11⟩ : ∃ wide : Nat, wide = (1 + drawn_1) := ⟨_, rfl⟩
  replace h := h wide d11
  refine T.wp_seq (T.wp_par (T.ev_cons (T.ev_as d10 (e := eN) (T.ev_add (x := 1) (y := drawn) (T.ev_cN 1) (T.ev_call (T.ev_cons (T.ev_v rfl) (T.ev_cons (T.ev_cN 20) T.ev_nil)) rfl e3))) (T.ev_cons (T.ev_as d11 (e := eN) (T.ev_add (x := 1) (y := drawn_1) (T.ev_cN 1) (T.ev_call (T.ev_cons (T.ev_v rfl) (T.ev_cons (T.ev_cN 20) T.ev_nil)) rfl e7))) T.ev_nil)) rfl ?_)
  change WP _ _ _ _ (At _ [some (.scr ns), some (.tape), some (eN high), some (eN wide), none, none, none, none, none, none, none, none, none, none, none, none, none] _)
  obtain ⟨c12, h⟩ := h
  obtain ⟨c13, h⟩ := h
  obtain ⟨drawn_2, t14, e15, k16, p17⟩ := (fun (hT : Tape t6) (c9 : (List.range high).length ≤ 1000000 ∧ P_law_taken (wide + 1)) => (show ∃ (ys : List Nat) (t2 : List D), (compE (rangeI range1D (consA (vE 2) (nilA))) [5] t1 [5] (yesT) (callE 2 m_law_pick (consA (vE 1) (consA (lstE (consA (cE (.int 0)) (consA (vE 3) (consA (callE 2 m_law_taken (consA (vE 1) (consA (binE addD (vE 3) (cE (.int 1))) (nilA)))) (nilA))))) (nilA))))) [some (.scr ns), some (.tape), some (eN high), some (eN wide), none, none, none, none, none, none, none, none, none, none, none, none, none] t6 = .ok (eL eN ys) t2 ∧ Tape t2 ∧ (ys.length = (List.range high).length ∧ ∀ y ∈ ys, ∃ z9, D_law_taken (wide + 1) z9 ∧ y ∈ [0, wide, z9]) from comp_draw (e := eN) (xs := (List.range high)) (T.it_range (n := high) c12 (T.ev_v rfl)) hT c9.1 (fun x hx t ht => (match t_law_taken ht c9.2 with | ⟨r9, t9, a9, b9, d9⟩ => (match t_law_pickL (xs := [0, wide, r9]) (e := eN) b9 ⟨by simp, by simp⟩ with | ⟨r8, t8, a8, b8, d8⟩ => ⟨r8, t8, T.ev_call (T.ev_cons (T.ev_v rfl) (T.ev_cons (T.ev_lst (ds := [eN 0, eN wide, eN r9]) (T.ev_cons (T.ev_cN 0) (T.ev_cons (T.ev_v rfl) (T.ev_cons (T.ev_call (T.ev_cons (T.ev_v rfl) (T.ev_cons (T.ev_add (x := wide) (y := 1) (T.ev_v rfl) (T.ev_cN 1)) T.ev_nil)) rfl a9) T.ev_nil))) rfl) T.ev_nil)) rfl a8, b8, ⟨r9, d9, d8⟩⟩))))) k8 c13
  replace h := h drawn_2 p17
  refine T.wp_seq (T.wp_set e15 ?_)
  change WP _ _ _ _ (At _ [some (.scr ns), some (.tape), some (eN high), some (eN wide), some ((eL eN) drawn_2), none, none, none, none, none, none, none, none, none, none, none, none] _)
  obtain ⟨c18, h⟩ := h
  obtain ⟨c19, h⟩ := h
  obtain ⟨mixed, t20, e21, k22, p23⟩ := t_law_mixedL (xs := (List.range wide)) (e := eN) k16 c19
  replace h := h mixed p23
  refine T.wp_seq (T.wp_set (T.ev_call (T.ev_cons (T.ev_v rfl) (T.ev_cons (T.ev_rg1L (n := wide) c18 (T.ev_v rfl)) T.ev_nil)) rfl e21) ?_)
  change WP _ _ _ _ (At _ [some (.scr ns), some (.tape), some (eN high), some (eN wide), some ((eL eN) drawn_2), none, some ((eL eN) mixed), none, none, none, none, none, none, none, none, none, none] _)
  obtain ⟨c24, h⟩ := h
  obtain ⟨columns, d25⟩ : ∃ columns : (List Nat), columns = (List.replicate wide 0) := ⟨_, rfl⟩
  replace h := h columns d25
  refine T.wp_seq (T.wp_setF (T.ev_as d25 (e := (eL eN)) (T.ev_lrep1 (e := eN) (x := 0) (n := wide) c24 (T.ev_lst (ds := [eN 0]) (T.ev_cons (T.ev_cN 0) T.ev_nil) rfl) (T.ev_v rfl))) rfl ?_)
  change WP _ _ _ _ (At _ [some (.scr ns), some (.tape), some (eN high), some (eN wide), some ((eL eN) drawn_2), none, some ((eL eN) mixed), some ((eL eN) columns), none, none, none, none, none, none, none, none, none] _)
  obtain ⟨c26, h⟩ := h
  obtain ⟨I28, h29, h30, h31⟩ := h
  refine T.wp_seq (T.wp_for (e := eN) (xs := (List.range wide)) (ds := fun x33 => [eN x33]) (fun k env tz => Tape tz ∧ ∃ columns_1 : (List Nat), ∃ g27 : Option D, env = [some (.scr ns), some (.tape), some (eN high), some (eN wide), some ((eL eN) drawn_2), none, some ((eL eN) mixed), some ((eL eN) columns_1), g27, none, none, none, none, none, none, none, none] ∧ I28 k columns_1) (T.it_range (n := wide) c26 (T.ev_v rfl)) (fun _ => rfl) ⟨k22, columns, _, rfl, h29⟩ ?_ ?_)
  · intro i32 x33 env t hk hI
    obtain ⟨k35, columns_1, g27, rfl, h⟩ := hI
    replace h := h30 i32 x33 hk columns_1 h
    change WP _ _ _ _ (At _ [some (.scr ns), some (.tape), some (eN high), some (eN wide), some ((eL eN) drawn_2), none, some ((eL eN) mixed), some ((eL eN) columns_1), some (eN x33), none, none, none, none, none, none, none, none] _)
    obtain ⟨c37, h⟩ := h
    obtain ⟨c38, h⟩ := h
    obtain ⟨c39, h⟩ := h
    obtain ⟨columns_2, d40⟩ : ∃ columns_2 : (List Nat), columns_2 = (columns_1.set (mixed[x33]!) ((drawn_2.filter fun x36 => decide (x36 > x33)).length)) := ⟨_, rfl⟩
    replace h := h columns_2 d40
    refine T.wp_lset (e := eN) (xs := columns_1) (k := mixed[x33]!) (x := (drawn_2.filter fun x36 => decide (x36 > x33)).length) rfl (T.ev_lenL (e := eN) (xs := (drawn_2.filter fun x36 => decide (x36 > x33))) (T.ev_compI (e := eN) (xs := drawn_2) (ds := fun x36 => [eN x36]) (P := fun x36 => (x36 > x33)) (T.it_L (e := eN) (xs := drawn_2) (T.ev_v rfl)) c37 (fun _ => rfl) (fun x36 hx => (T.ev_bool (T.ev_gt (x := x36) (y := x33) (T.ev_v rfl) (T.ev_v rfl)))) (fun x36 hx hq => (T.ev_v rfl)))) (T.ev_ixL (e := eN) (xs := mixed) (i := x33) c38 (T.ev_v rfl) (T.ev_v rfl)) c39 ?_
    rw [← d40]
    exact ⟨k35, columns_2, _, rfl, h⟩
  rintro _ t41 ⟨k42, columns_1, g27, rfl, h⟩
  replace h := h31 columns_1 h
  change WP _ _ _ _ (At _ [some (.scr ns), some (.tape), some (eN high), some (eN wide), some ((eL eN) drawn_2), none, some ((eL eN) mixed), some ((eL eN) columns_1), g27, none, none, none, none, none, none, none, none] _)
  obtain ⟨c43, h⟩ := h
  obtain ⟨picture, d44⟩ : ∃ picture : (Option (List Row)), picture = (F_free_by_sums drawn_2 columns_1) := ⟨_, rfl⟩
  replace h := h picture d44
  refine T.wp_seq (T.wp_set (T.ev_as d44 (e := (eO (eT eR))) (T.ev_call (T.ev_cons (T.ev_tupleL (e := eN) (xs := drawn_2) (T.ev_v rfl)) (T.ev_cons (T.ev_tupleL (e := eN) (xs := columns_1) (T.ev_v rfl)) T.ev_nil)) rfl (t_free_by_sums c43 _))) ?_)
  change WP _ _ _ _ (At _ [some (.scr ns), some (.tape), some (eN high), some (eN wide), some ((eL eN) drawn_2), none, some ((eL eN) mixed), some ((eL eN) columns_1), g27, none, some ((eO (eT eR)) picture), none, none, none, none, none, none] _)
  obtain ⟨c47, h⟩ := h
  obtain ⟨hf, h⟩ := h
  refine T.wp_seq (T.wp_if (P := ((picture = none) ∨ ((F_is_free (picture.getD default)) ≠ true))) (T.ev_orT (P := (picture = none)) (Q := ((F_is_free (picture.getD default)) ≠ true)) (T.ev_bool (T.ev_isNon (x := picture) (fun _ => rfl) (T.ev_v rfl) (T.ev_c rfl))) (fun hp => match c47 hp with | ⟨c45, c46⟩ => (T.ev_bool (T.ev_isNotB (x := (F_is_free (picture.getD default))) (y := true) (T.ev_call (T.ev_cons (T.ev_get (e := (eT eR)) (x := picture) c45 (T.ev_v rfl)) T.ev_nil) rfl (t_is_free c46 _)) (T.ev_c rfl))))) (fun hp => ?_) (fun hn => ?_))
  · exact absurd hp ((fun h0 => h0.elim ((hf).1) ((fun h0 => h0 ((hf).2)))))
  · refine T.wp_skip ?_
    change WP _ _ _ _ (At _ [some (.scr ns), some (.tape), some (eN high), some (eN wide), some ((eL eN) drawn_2), none, some ((eL eN) mixed), some ((eL eN) columns_1), g27, none, some ((eO (eT eR)) picture), none, none, none, none, none, none] _)
    obtain ⟨c48, h⟩ := h
    obtain ⟨c49, h⟩ := h
    obtain ⟨c52, h⟩ := h
    obtain ⟨hf, h⟩ := h
    refine T.wp_seq (T.wp_if (P := (((F_sums (picture.getD default)) ≠ (drawn_2, columns_1)) ∨ ((F_black_cells (picture.getD default)) ≠ drawn_2.sum))) (T.ev_orT (P := ((F_sums (picture.getD default)) ≠ (drawn_2, columns_1))) (Q := ((F_black_cells (picture.getD default)) ≠ drawn_2.sum)) (T.ev_bool (T.ev_ne (x := (F_sums (picture.getD default))) (y := (drawn_2, columns_1)) (qP (qT qN) (qT qN)) rfl (T.ev_call (T.ev_cons (T.ev_get (e := (eT eR)) (x := picture) c48 (T.ev_v rfl)) T.ev_nil) rfl (t_sums c49 _)) (T.ev_tup (ds := [(eT eN) drawn_2, (eT eN) columns_1]) (T.ev_cons (T.ev_tupleL (e := eN) (xs := drawn_2) (T.ev_v rfl)) (T.ev_cons (T.ev_tupleL (e := eN) (xs := columns_1) (T.ev_v rfl)) T.ev_nil)) rfl))) (fun hp => match c52 hp with | ⟨c50, c51⟩ => (T.ev_bool (T.ev_ne (x := (F_black_cells (picture.getD default))) (y := drawn_2.sum) qN rfl (T.ev_call (T.ev_cons (T.ev_get (e := (eT eR)) (x := picture) c50 (T.ev_v rfl)) T.ev_nil) rfl (t_black_cells c51 _)) (T.ev_sumL (xs := drawn_2) (T.ev_v rfl)))))) (fun hp => ?_) (fun hn => ?_))
    · exact absurd hp ((fun h0 => h0.elim ((fun h0 => h0 ((hf).1))) ((fun h0 => h0 ((hf).2)))))
    · refine T.wp_skip ?_
      change WP _ _ _ _ (At _ [some (.scr ns), some (.tape), some (eN high), some (eN wide), some ((eL eN) drawn_2), none, some ((eL eN) mixed), some ((eL eN) columns_1), g27, none, some ((eO (eT eR)) picture), none, none, none, none, none, none] _)
      obtain ⟨c53, h⟩ := h
      obtain ⟨I55, h56, h57, h58⟩ := h
      refine T.wp_seq (T.wp_for (e := eN) (xs := (List.range high)) (ds := fun x60 => [eN x60]) (fun k env tz => Tape tz ∧ ∃ g54 : Option D, env = [some (.scr ns), some (.tape), some (eN high), some (eN wide), some ((eL eN) drawn_2), g54, some ((eL eN) mixed), some ((eL eN) columns_1), g27, none, some ((eO (eT eR)) picture), none, none, none, none, none, none] ∧ I55 k) (T.it_range (n := high) c53 (T.ev_v rfl)) (fun _ => rfl) ⟨k42, _, rfl, h56⟩ ?_ ?_)
      · intro i59 x60 env t hk hI
        obtain ⟨k62, g54, rfl, h⟩ := hI
        replace h := h57 i59 x60 hk h
        change WP _ _ _ _ (At _ [some (.scr ns), some (.tape), some (eN high), some (eN wide), some ((eL eN) drawn_2), some (eN x60), some ((eL eN) mixed), some ((eL eN) columns_1), g27, none, some ((eO (eT eR)) picture), none, none, none, none, none, none] _)
        obtain ⟨c63, h⟩ := h
        obtain ⟨c64, h⟩ := h
        obtain ⟨c65, h⟩ := h
        obtain ⟨c78, h⟩ := h
        obtain ⟨hf, h⟩ := h
        refine T.wp_if (P := (((((picture.getD default)[x60]!).count true) ≠ drawn_2[x60]!) ∨ (((List.range (drawn_2[x60]!)).filter fun x68 => decide ((columns_1[mixed[x68]!]! > 0) ∧ (((picture.getD default)[x60]!)[mixed[x68]!]! = false))) ≠ []))) (T.ev_orT (P := ((((picture.getD default)[x60]!).count true) ≠ drawn_2[x60]!)) (Q := (((List.range (drawn_2[x60]!)).filter fun x68 => decide ((columns_1[mixed[x68]!]! > 0) ∧ (((picture.getD default)[x60]!)[mixed[x68]!]! = false))) ≠ [])) (T.ev_bool (T.ev_ne (x := (((picture.getD default)[x60]!).count true)) (y := drawn_2[x60]!) qN rfl (T.ev_countG (r := (picture.getD default)[x60]!) (b := true) (T.ev_ixT (e := eR) (xs := (picture.getD default)) (i := x60) c64 (T.ev_get (e := (eT eR)) (x := picture) c63 (T.ev_v rfl)) (T.ev_v rfl)) (T.ev_c (congrArg D.str str_black))) (T.ev_ixL (e := eN) (xs := drawn_2) (i := x60) c65 (T.ev_v rfl) (T.ev_v rfl)))) (fun hp => match c78 hp with | ⟨c66, c67, c69, c77⟩ => (T.ev_bool (T.ev_ne (x := ((List.range (drawn_2[x60]!)).filter fun x68 => decide ((columns_1[mixed[x68]!]! > 0) ∧ (((picture.getD default)[x60]!)[mixed[x68]!]! = false)))) (y := []) (qL qN) rfl (T.ev_compI (e := eN) (xs := (List.range (drawn_2[x60]!))) (ds := fun x68 => [eN x68]) (P := fun x68 => ((columns_1[mixed[x68]!]! > 0) ∧ (((picture.getD default)[x60]!)[mixed[x68]!]! = false))) (T.it_range (n := drawn_2[x60]!) c67 (T.ev_ixL (e := eN) (xs := drawn_2) (i := x60) c66 (T.ev_v rfl) (T.ev_v rfl))) c69 (fun _ => rfl) (fun x68 hx => match c77 x68 hx with | ⟨c70, c71, c76⟩ => (T.ev_andT (P := (columns_1[mixed[x68]!]! > 0)) (Q := (((picture.getD default)[x60]!)[mixed[x68]!]! = false)) (T.ev_bool (T.ev_gt (x := columns_1[mixed[x68]!]!) (y := 0) (T.ev_ixL (e := eN) (xs := columns_1) (i := mixed[x68]!) c71 (T.ev_v rfl) (T.ev_ixL (e := eN) (xs := mixed) (i := x68) c70 (T.ev_v rfl) (T.ev_v rfl))) (T.ev_cN 0))) (fun hp => match c76 hp with | ⟨c72, c73, c74, c75⟩ => (T.ev_bool (T.ev_eq (x := ((picture.getD default)[x60]!)[mixed[x68]!]!) (y := false) qG rfl (T.ev_ixR (r := (picture.getD default)[x60]!) (i := mixed[x68]!) c75 (T.ev_ixT (e := eR) (xs := (picture.getD default)) (i := x60) c73 (T.ev_get (e := (eT eR)) (x := picture) c72 (T.ev_v rfl)) (T.ev_v rfl)) (T.ev_ixL (e := eN) (xs := mixed) (i := x68) c74 (T.ev_v rfl) (T.ev_v rfl))) (T.ev_c (congrArg D.str str_white))))))) (fun x68 hx hq => (T.ev_v rfl))) (T.ev_lst (ds := []) T.ev_nil rfl))))) (fun hp => ?_) (fun hn => ?_)
        · exact absurd hp ((fun h0 => h0.elim ((fun h0 => h0 ((hf).1))) ((fun h0 => h0 ((hf).2)))))
        · refine T.wp_skip ?_
          exact ⟨k62, _, rfl, h⟩
      rintro _ t79 ⟨k80, g54, rfl, h⟩
      replace h := h58 h
      change WP _ _ _ _ (At _ [some (.scr ns), some (.tape), some (eN high), some (eN wide), some ((eL eN) drawn_2), g54, some ((eL eN) mixed), some ((eL eN) columns_1), g27, none, some ((eO (eT eR)) picture), none, none, none, none, none, none] _)
      obtain ⟨c81, h⟩ := h
      obtain ⟨c82, h⟩ := h
      obtain ⟨told, d83⟩ : ∃ told : (List (List Nat)), told = (F_layers (picture.getD default)) := ⟨_, rfl⟩
      replace h := h told d83
      refine T.wp_seq (T.wp_set (T.ev_as d83 (e := (eT (eT eN))) (T.ev_call (T.ev_cons (T.ev_get (e := (eT eR)) (x := picture) c81 (T.ev_v rfl)) T.ev_nil) rfl (t_layers c82 _))) ?_)
      change WP _ _ _ _ (At _ [some (.scr ns), some (.tape), some (eN high), some (eN wide), some ((eL eN) drawn_2), g54, some ((eL eN) mixed), some ((eL eN) columns_1), g27, none, some ((eO (eT eR)) picture), some ((eT (eT eN)) told), none, none, none, none, none] _)
      obtain ⟨c84, h⟩ := h
      obtain ⟨c87, h⟩ := h
      obtain ⟨hf, h⟩ := h
      refine T.wp_seq (T.wp_if (P := (((some (F_free_by_layers high wide told)) ≠ picture) ∨ ((F_free_number (picture.getD default)) < 0))) (T.ev_orT (P := ((some (F_free_by_layers high wide told)) ≠ picture)) (Q := ((F_free_number (picture.getD default)) < 0)) (T.ev_bool (T.ev_ne (x := (some (F_free_by_layers high wide told))) (y := picture) (qO (qT qR) nnT) rfl (T.ev_call (T.ev_cons (T.ev_v rfl) (T.ev_cons (T.ev_v rfl) (T.ev_cons (T.ev_v rfl) T.ev_nil))) rfl (t_free_by_layers c84 _)) (T.ev_v rfl))) (fun hp => match c87 hp with | ⟨c85, c86⟩ => (T.ev_bool (T.ev_lt (x := (F_free_number (picture.getD default))) (y := 0) (T.ev_call (T.ev_cons (T.ev_get (e := (eT eR)) (x := picture) c85 (T.ev_v rfl)) T.ev_nil) rfl (t_free_number c86 _)) (T.ev_cN 0))))) (fun hp => ?_) (fun hn => ?_))
      · exact absurd hp ((fun h0 => h0.elim ((fun h0 => h0 ((hf).1))) ((hf).2)))
      · refine T.wp_skip ?_
        change WP _ _ _ _ (At _ [some (.scr ns), some (.tape), some (eN high), some (eN wide), some ((eL eN) drawn_2), g54, some ((eL eN) mixed), some ((eL eN) columns_1), g27, none, some ((eO (eT eR)) picture), some ((eT (eT eN)) told), none, none, none, none, none] _)
        obtain ⟨I89, h90, h91, h92⟩ := h
        refine T.wp_seq (T.wp_for (e := (eT eN)) (xs := told) (ds := fun x94 => [(eT eN) x94]) (fun k env tz => Tape tz ∧ ∃ g88 : Option D, env = [some (.scr ns), some (.tape), some (eN high), some (eN wide), some ((eL eN) drawn_2), g54, some ((eL eN) mixed), some ((eL eN) columns_1), g27, none, some ((eO (eT eR)) picture), some ((eT (eT eN)) told), g88, none, none, none, none] ∧ I89 k) (T.it_T (e := (eT eN)) (xs := told) (T.ev_v rfl)) (fun _ => rfl) ⟨k80, _, rfl, h90⟩ ?_ ?_)
        · intro i93 x94 env t hk hI
          obtain ⟨k96, g88, rfl, h⟩ := hI
          replace h := h91 i93 x94 hk h
          change WP _ _ _ _ (At _ [some (.scr ns), some (.tape), some (eN high), some (eN wide), some ((eL eN) drawn_2), g54, some ((eL eN) mixed), some ((eL eN) columns_1), g27, none, some ((eO (eT eR)) picture), some ((eT (eT eN)) told), some ((eT eN) x94), none, none, none, none] _)
          obtain ⟨c98, h⟩ := h
          obtain ⟨c104, h⟩ := h
          obtain ⟨c105, h⟩ := h
          obtain ⟨c106, h⟩ := h
          obtain ⟨hf, h⟩ := h
          refine T.wp_if (P := ((setN (x94.map fun x97 => (if (x97 < high) then drawn_2[x97]! else columns_1[(x97 - high)]!))).length ≠ 1)) (T.ev_bool (T.ev_ne (x := (setN (x94.map fun x97 => (if (x97 < high) then drawn_2[x97]! else columns_1[(x97 - high)]!))).length) (y := 1) qN rfl (T.ev_lenSet (xs := (x94.map fun x97 => (if (x97 < high) then drawn_2[x97]! else columns_1[(x97 - high)]!))) c105 c106 (T.ev_compY (e := eN) (e1 := eN) (xs := x94) (ds := fun x97 => [eN x97]) (g := fun x97 => (if (x97 < high) then drawn_2[x97]! else columns_1[(x97 - high)]!)) (T.it_T (e := eN) (xs := x94) (T.ev_v rfl)) c98 (fun _ => rfl) (fun x97 hx => match c104 x97 hx with | ⟨c102, c103⟩ => (T.ev_ifE (P := (x97 < high)) (e := eN) (x := drawn_2[x97]!) (y := columns_1[(x97 - high)]!) (T.ev_bool (T.ev_lt (x := x97) (y := high) (T.ev_v rfl) (T.ev_v rfl))) (fun hp => have c99 := c102 hp; (T.ev_ixL (e := eN) (xs := drawn_2) (i := x97) c99 (T.ev_v rfl) (T.ev_v rfl))) (fun hp => match c103 hp with | ⟨c100, c101⟩ => (T.ev_ixL (e := eN) (xs := columns_1) (i := (x97 - high)) c101 (T.ev_v rfl) (T.ev_sub (x := x97) (y := high) c100 (T.ev_v rfl) (T.ev_v rfl)))))))) (T.ev_cN 1))) (fun hp => ?_) (fun hn => ?_)
          · exact absurd hp ((fun h0 => h0 (hf)))
          · refine T.wp_skip ?_
            exact ⟨k96, _, rfl, h⟩
        rintro _ t107 ⟨k108, g88, rfl, h⟩
        replace h := h92 h
        change WP _ _ _ _ (At _ [some (.scr ns), some (.tape), some (eN high), some (eN wide), some ((eL eN) drawn_2), g54, some ((eL eN) mixed), some ((eL eN) columns_1), g27, none, some ((eO (eT eR)) picture), some ((eT (eT eN)) told), g88, none, none, none, none] _)
        obtain ⟨c109, h⟩ := h
        obtain ⟨c110, h⟩ := h
        obtain ⟨c111, h⟩ := h
        obtain ⟨c112, h⟩ := h
        obtain ⟨kinds, d113⟩ : ∃ kinds : Nat, kinds = ((setN drawn_2).length + (setN columns_1).length) := ⟨_, rfl⟩
        replace h := h kinds d113
        refine T.wp_seq (T.wp_set (T.ev_as d113 (e := eN) (T.ev_add (x := (setN drawn_2).length) (y := (setN columns_1).length) (T.ev_lenSet (xs := drawn_2) c109 c110 (T.ev_v rfl)) (T.ev_lenSet (xs := columns_1) c111 c112 (T.ev_v rfl)))) ?_)
        change WP _ _ _ _ (At _ [some (.scr ns), some (.tape), some (eN high), some (eN wide), some ((eL eN) drawn_2), g54, some ((eL eN) mixed), some ((eL eN) columns_1), g27, none, some ((eO (eT eR)) picture), some ((eT (eT eN)) told), g88, none, some (eN kinds), none, none] _)
        obtain ⟨c116, h⟩ := h
        obtain ⟨hf, h⟩ := h
        refine T.wp_seq (T.wp_if (P := ((told.length ≠ kinds) ∨ (((F_shape (picture.getD default)).2).length ≠ kinds))) (T.ev_orT (P := (told.length ≠ kinds)) (Q := (((F_shape (picture.getD default)).2).length ≠ kinds)) (T.ev_bool (T.ev_ne (x := told.length) (y := kinds) qN rfl (T.ev_lenT (e := (eT eN)) (xs := told) (T.ev_v rfl)) (T.ev_v rfl))) (fun hp => match c116 hp with | ⟨c114, c115⟩ => (T.ev_bool (T.ev_ne (x := ((F_shape (picture.getD default)).2).length) (y := kinds) qN rfl (T.ev_lenT (e := eN) (xs := (F_shape (picture.getD default)).2) (T.ev_snd (x := (F_shape (picture.getD default))) (T.ev_call (T.ev_cons (T.ev_get (e := (eT eR)) (x := picture) c114 (T.ev_v rfl)) T.ev_nil) rfl (t_shape c115 _)) rfl)) (T.ev_v rfl))))) (fun hp => ?_) (fun hn => ?_))
        · exact absurd hp ((fun h0 => h0.elim ((fun h0 => h0 ((hf).1))) ((fun h0 => h0 ((hf).2)))))
        · refine T.wp_skip ?_
          change WP _ _ _ _ (At _ [some (.scr ns), some (.tape), some (eN high), some (eN wide), some ((eL eN) drawn_2), g54, some ((eL eN) mixed), some ((eL eN) columns_1), g27, none, some ((eO (eT eR)) picture), some ((eT (eT eN)) told), g88, none, some (eN kinds), none, none] _)
          obtain ⟨c117, h⟩ := h
          obtain ⟨c118, h⟩ := h
          obtain ⟨best, d119⟩ : ∃ best : (List Row), best = (F_stairs (picture.getD default)) := ⟨_, rfl⟩
          replace h := h best d119
          refine T.wp_seq (T.wp_set (T.ev_as d119 (e := (eT eR)) (T.ev_call (T.ev_cons (T.ev_get (e := (eT eR)) (x := picture) c117 (T.ev_v rfl)) T.ev_nil) rfl (t_stairs c118 _))) ?_)
          change WP _ _ _ _ (At _ [some (.scr ns), some (.tape), some (eN high), some (eN wide), some ((eL eN) drawn_2), g54, some ((eL eN) mixed), some ((eL eN) columns_1), g27, none, some ((eO (eT eR)) picture), some ((eT (eT eN)) told), g88, none, some (eN kinds), some ((eT eR) best), none] _)
          obtain ⟨c121, h⟩ := h
          obtain ⟨hf, h⟩ := h
          refine T.wp_seq (T.wp_if (P := ((sortN (best.map fun x120 => (x120.count true))).reverse ≠ (best.map fun x122 => (x122.count true)))) (T.ev_bool (T.ev_ne (x := (sortN (best.map fun x120 => (x120.count true))).reverse) (y := (best.map fun x122 => (x122.count true))) (qL qN) rfl (T.ev_revL (e := eN) (xs := (sortN (best.map fun x120 => (x120.count true)))) (T.ev_sortL (xs := (best.map fun x120 => (x120.count true))) (T.ev_compY (e := eR) (e1 := eN) (xs := best) (ds := fun x120 => [eR x120]) (g := fun x120 => (x120.count true)) (T.it_T (e := eR) (xs := best) (T.ev_v rfl)) c121 (fun _ => rfl) (fun x120 hx => (T.ev_countG (r := x120) (b := true) (T.ev_v rfl) (T.ev_c (congrArg D.str str_black))))))) (T.ev_compY (e := eR) (e1 := eN) (xs := best) (ds := fun x122 => [eR x122]) (g := fun x122 => (x122.count true)) (T.it_T (e := eR) (xs := best) (T.ev_v rfl)) c121 (fun _ => rfl) (fun x122 hx => (T.ev_countG (r := x122) (b := true) (T.ev_v rfl) (T.ev_c (congrArg D.str str_black))))))) (fun hp => ?_) (fun hn => ?_))
          · exact absurd hp ((fun h0 => h0 (hf)))
          · refine T.wp_skip ?_
            change WP _ _ _ _ (At _ [some (.scr ns), some (.tape), some (eN high), some (eN wide), some ((eL eN) drawn_2), g54, some ((eL eN) mixed), some ((eL eN) columns_1), g27, none, some ((eO (eT eR)) picture), some ((eT (eT eN)) told), g88, none, some (eN kinds), some ((eT eR) best), none] _)
            obtain ⟨c123, h⟩ := h
            obtain ⟨hf, h⟩ := h
            refine T.wp_seq (T.wp_if (P := ((F_black_cells best) ≠ drawn_2.sum)) (T.ev_bool (T.ev_ne (x := (F_black_cells best)) (y := drawn_2.sum) qN rfl (T.ev_call (T.ev_cons (T.ev_v rfl) T.ev_nil) rfl (t_black_cells c123 _)) (T.ev_sumL (xs := drawn_2) (T.ev_v rfl)))) (fun hp => ?_) (fun hn => ?_))
            · exact absurd hp ((fun h0 => h0 (hf)))
            · refine T.wp_skip ?_
              change WP _ _ _ _ (At _ [some (.scr ns), some (.tape), some (eN high), some (eN wide), some ((eL eN) drawn_2), g54, some ((eL eN) mixed), some ((eL eN) columns_1), g27, none, some ((eO (eT eR)) picture), some ((eT (eT eN)) told), g88, none, some (eN kinds), some ((eT eR) best), none] _)
              obtain ⟨c124, h⟩ := h
              obtain ⟨drawn_3, t125, e126, k127, p128⟩ := t_law_taken k108 c124
              replace h := h drawn_3 p128
              obtain ⟨drawn_4, t129, e130, k131, p132⟩ := t_law_taken k127 c124
              replace h := h drawn_4 p132
              refine T.wp_seq (T.wp_par (T.ev_cons (T.ev_call (T.ev_cons (T.ev_v rfl) (T.ev_cons (T.ev_v rfl) T.ev_nil)) rfl e126) (T.ev_cons (T.ev_call (T.ev_cons (T.ev_v rfl) (T.ev_cons (T.ev_v rfl) T.ev_nil)) rfl e130) T.ev_nil)) rfl ?_)
              change WP _ _ _ _ (At _ [some (.scr ns), some (.tape), some (eN high), some (eN wide), some ((eL eN) drawn_2), some (eN drawn_3), some ((eL eN) mixed), some ((eL eN) columns_1), some (eN drawn_4), none, some ((eO (eT eR)) picture), some ((eT (eT eN)) told), g88, none, some (eN kinds), some ((eT eR) best), none] _)
              obtain ⟨c133, h⟩ := h
              obtain ⟨c135, h⟩ := h
              obtain ⟨J137, h138, h139, h140⟩ := h
              refine T.wp_seq (T.wp_ifJ (P := ((columns_1[drawn_3]! < high) ∧ ((columns_1[drawn_4]! > 0) ∧ (drawn_3 ≠ drawn_4)))) (J := fun env tz => Tape tz ∧ ∃ columns_3 : (List Nat), ∃ g136 : Option D, env = [some (.scr ns), some (.tape), some (eN high), some (eN wide), some ((eL eN) drawn_2), some (eN drawn_3), some ((eL eN) mixed), some ((eL eN) columns_3), some (eN drawn_4), none, some ((eO (eT eR)) picture), some ((eT (eT eN)) told), g88, none, some (eN kinds), some ((eT eR) best), g136] ∧ J137 columns_3) (T.ev_andT (P := (columns_1[drawn_3]! < high)) (Q := ((columns_1[drawn_4]! > 0) ∧ (drawn_3 ≠ drawn_4))) (T.ev_bool (T.ev_lt (x := columns_1[drawn_3]!) (y := high) (T.ev_ixL (e := eN) (xs := columns_1) (i := drawn_3) c133 (T.ev_v rfl) (T.ev_v rfl)) (T.ev_v rfl))) (fun hp => have c134 := c135 hp; (T.ev_andT (P := (columns_1[drawn_4]! > 0)) (Q := (drawn_3 ≠ drawn_4)) (T.ev_bool (T.ev_gt (x := columns_1[drawn_4]!) (y := 0) (T.ev_ixL (e := eN) (xs := columns_1) (i := drawn_4) c134 (T.ev_v rfl) (T.ev_v rfl)) (T.ev_cN 0))) (fun hp => (T.ev_bool (T.ev_ne (x := drawn_3) (y := drawn_4) qN rfl (T.ev_v rfl) (T.ev_v rfl))))))) (fun hp => ?_) (fun hn => ?_) ?_)
              · replace h := h138 hp
                obtain ⟨c141, h⟩ := h
                obtain ⟨c142, h⟩ := h
                obtain ⟨c143, h⟩ := h
                obtain ⟨columns_4, d144⟩ : ∃ columns_4 : (List Nat), columns_4 = ((columns_1.set drawn_3 (columns_1[drawn_3]! + 1)).set drawn_4 (columns_1[drawn_4]! - 1)) := ⟨_, rfl⟩
                replace h := h columns_4 d144
                refine T.wp_seq (T.wp_lset2 (xs := columns_1) (a := (columns_1[drawn_3]! + 1)) (b := (columns_1[drawn_4]! - 1)) (k1 := drawn_3) (k2 := drawn_4) rfl (T.ev_cons (T.ev_add (x := columns_1[drawn_3]!) (y := 1) (T.ev_ixL (e := eN) (xs := columns_1) (i := drawn_3) c141 (T.ev_v rfl) (T.ev_v rfl)) (T.ev_cN 1)) (T.ev_cons (T.ev_sub (x := columns_1[drawn_4]!) (y := 1) c143 (T.ev_ixL (e := eN) (xs := columns_1) (i := drawn_4) c142 (T.ev_v rfl) (T.ev_v rfl)) (T.ev_cN 1)) T.ev_nil)) (T.ev_v rfl) (T.ev_v rfl) c141 c142 ?_)
                rw [← d144]
                change WP _ _ _ _ (At _ [some (.scr ns), some (.tape), some (eN high), some (eN wide), some ((eL eN) drawn_2), some (eN drawn_3), some ((eL eN) mixed), some ((eL eN) columns_4), some (eN drawn_4), none, some ((eO (eT eR)) picture), some ((eT (eT eN)) told), g88, none, some (eN kinds), some ((eT eR) best), none] _)
                obtain ⟨c145, h⟩ := h
                obtain ⟨there, d146⟩ : ∃ there : (Option (List Row)), there = (F_free_by_sums drawn_2 columns_4) := ⟨_, rfl⟩
                replace h := h there d146
                refine T.wp_seq (T.wp_set (T.ev_as d146 (e := (eO (eT eR))) (T.ev_call (T.ev_cons (T.ev_tupleL (e := eN) (xs := drawn_2) (T.ev_v rfl)) (T.ev_cons (T.ev_tupleL (e := eN) (xs := columns_4) (T.ev_v rfl)) T.ev_nil)) rfl (t_free_by_sums c145 _))) ?_)
                change WP _ _ _ _ (At _ [some (.scr ns), some (.tape), some (eN high), some (eN wide), some ((eL eN) drawn_2), some (eN drawn_3), some ((eL eN) mixed), some ((eL eN) columns_4), some (eN drawn_4), none, some ((eO (eT eR)) picture), some ((eT (eT eN)) told), g88, none, some (eN kinds), some ((eT eR) best), some ((eO (eT eR)) there)] _)
                obtain ⟨c147, h⟩ := h
                obtain ⟨c148, h⟩ := h
                obtain ⟨c150, h⟩ := h
                obtain ⟨hf, h⟩ := h
                refine T.wp_if (P := ((decide (there ≠ none)) ≠ (decide ((sortN columns_4) = (sortN (((F_sums (picture.getD default)).2).map fun x149 => x149)))))) (T.ev_bool (T.ev_ne (x := (decide (there ≠ none))) (y := (decide ((sortN columns_4) = (sortN (((F_sums (picture.getD default)).2).map fun x149 => x149))))) qB rfl (T.ev_isNotNon (x := there) (fun _ => rfl) (T.ev_v rfl) (T.ev_c rfl)) (T.ev_eq (x := (sortN columns_4)) (y := (sortN (((F_sums (picture.getD default)).2).map fun x149 => x149))) (qL qN) rfl (T.ev_sortL (xs := columns_4) (T.ev_v rfl)) (T.ev_sortL (xs := (((F_sums (picture.getD default)).2).map fun x149 => x149)) (T.ev_compY (e := eN) (e1 := eN) (xs := (F_sums (picture.getD default)).2) (ds := fun x149 => [eN x149]) (g := fun x149 => x149) (T.it_T (e := eN) (xs := (F_sums (picture.getD default)).2) (T.ev_snd (x := (F_sums (picture.getD default))) (T.ev_call (T.ev_cons (T.ev_get (e := (eT eR)) (x := picture) c147 (T.ev_v rfl)) T.ev_nil) rfl (t_sums c148 _)) rfl)) c150 (fun _ => rfl) (fun x149 hx => (T.ev_v rfl))))))) (fun hp => ?_) (fun hn => ?_)
                · exact absurd hp ((fun h0 => h0 (hf)))
                · refine T.wp_skip ?_
                  exact ⟨k131, columns_4, _, rfl, h⟩
              · replace h := h139 hn
                refine T.wp_skip ?_
                exact ⟨k131, columns_1, _, rfl, h⟩
              rintro _ t151 ⟨k152, columns_3, g136, rfl, h⟩
              replace h := h140 columns_3 h
              change WP _ _ _ _ (At _ [some (.scr ns), some (.tape), some (eN high), some (eN wide), some ((eL eN) drawn_2), some (eN drawn_3), some ((eL eN) mixed), some ((eL eN) columns_3), some (eN drawn_4), none, some ((eO (eT eR)) picture), some ((eT (eT eN)) told), g88, none, some (eN kinds), some ((eT eR) best), g136] _)
              exact T.wp_ret (d := .bl true) (Eq.trans ((T.ev_decB true (T.ev_c rfl))) (T.ev_tt (P := (true = true)) (h))) rfl
end W
set_option maxHeartbeats 1000000
namespace W
open PySem L2 G T
theorem lay_okAll {q : Pic} (k : PicP q) (hc : coreQ q = []) : LayOk q.length q[0]!.length (layersQ q) := by
  have ly := free_lays k hc
  obtain ⟨s, al⟩ := ly.alt
  refine ⟨k.h30, k.w30, k.h1, fun t ht => (layersQ_layer t ht).1, ly.perm, fun t ht => (layersQ_layer t ht).2.2.imp id fun h l hl => (h l hl).1, fun i hi => ?_, ly.asc⟩
  obtain ⟨a1, c, a2, a3⟩ := kinds_at al i (by omega)
  have e1 := a2 _ (mem_get! (List.length_pos_iff.mpr a1))
  have b1 := (kinds_at al (i + 1) hi).1
  have e2 := a3 hi _ (mem_get! (List.length_pos_iff.mpr b1))
  rw [e1, e2]
  cases c <;> simp
theorem told_cols {r c : List Nat} (h1 : 1 ≤ r.length) : F_column_sums_of (bltQ r c) = colS c.length (bltQ r c) := by
  show colS (bltQ r c)[0]!.length (bltQ r c) = _
  rw [blt_wid h1]
theorem told_some {r c : List Nat} (h : c.Perm (conjR r c.length)) (h1 : 1 ≤ r.length) : F_free_by_sums r c = some (bltQ r c) := by
  unfold F_free_by_sums
  rw [if_pos ((told_cols h1).trans (blt_told h))]
theorem told_iff {r c : List Nat} (h1 : 1 ≤ r.length) : F_free_by_sums r c ≠ none ↔ c.Perm (conjR r c.length) := by
  constructor
  · intro h
    unfold F_free_by_sums at h
    by_cases e : F_column_sums_of (bltQ r c) = c
    · have := blt_perm r c
      rw [← told_cols h1, e] at this
      exact this
    · rw [if_neg e] at h; exact (h rfl).elim
  · intro h
    rw [told_some h h1]; simp
theorem ok_law : V_law := by
  refine ⟨⟨by omega, by omega⟩, fun d0 hd0 d1 hd1 h eh w ew => ?_⟩
  have hd0 : d0 < 20 := hd0
  have hd1 : d1 < 20 := hd1
  have h1 : 1 ≤ h := by omega
  have h20 : h ≤ 20 := by omega
  have w1 : 1 ≤ w := by omega
  have w20 : w ≤ 20 := by omega
  clear eh ew hd0 hd1
  have lrng : (List.range h).length = h := List.length_range
  refine ⟨by omega, ⟨by rw [lrng]; omega, by omega, by omega⟩, fun rs hrs => ?_⟩
  obtain ⟨rl, rb⟩ := hrs
  rw [lrng] at rl
  have rle : ∀ x ∈ rs, x ≤ w := fun x hx => by
    obtain ⟨z, hz, m⟩ := rb x hx
    have hz : z < w + 1 := hz
    rcases List.mem_cons.mp m with e | m
    · omega
    rcases List.mem_cons.mp m with e | m
    · omega
    have e := List.mem_singleton.mp m
    omega
  clear rb
  refine ⟨by omega, by rw [List.length_range]; omega, fun mx pm => ⟨by omega, fun cols0 e0 => ⟨by omega, ?_⟩⟩⟩
  have ml : mx.length = w := by rw [pm.length_eq, List.length_range]
  have mn : mx.Nodup := pm.nodup_iff.mpr List.nodup_range
  have mw : ∀ i, i < w → mx[i]! < w := fun i hi => List.mem_range.mp (pm.mem_iff.mp (mem_get! (by omega)))
  refine ⟨fun n c => c.length = w ∧ ∀ s, s < n → s < w → c[mx[s]!]! = numM rs s, ⟨by rw [e0]; exact List.length_replicate, fun s hs => by omega⟩, fun i x hx c hc => ?_, fun c hc => ?_⟩
  · obtain ⟨rfl, hi⟩ := range_get hx
    obtain ⟨c1, c2⟩ := hc
    refine ⟨by omega, by omega, by rw [c1]; exact mw x hi, fun c' ec => ⟨by rw [ec, List.length_set]; exact c1, fun s hs hw => ?_⟩⟩
    rw [ec, get!_set (by rw [c1]; exact mw s hw)]
    by_cases z : s = x
    · subst z
      rw [if_pos rfl]; rfl
    · rw [if_neg fun e => z (by
        have := congrArg mx.idxOf e
        rw [idx_at mn (by omega), idx_at mn (by omega)] at this
        exact this.symm)]
      exact c2 s (by omega) hw
  obtain ⟨cl, cv⟩ := hc
  rw [List.length_range] at cv
  have cp : c.Perm (conjR rs c.length) := by
    have a : ((List.range w).map fun x => c[x]!).Perm (mx.map fun x => c[x]!) := (pm.map _).symm
    have e1 : (List.range w).map (fun x => c[x]!) = c := by
      have := map_get c
      rw [cl] at this; exact this
    have e2 : mx.map (fun x => c[x]!) = conjR rs w := by
      rw [mr_get mx, ml]
      exact List.map_congr_left fun s hs => cv s (List.mem_range.mp hs) (List.mem_range.mp hs)
    rw [e1, e2] at a
    rw [cl]; exact a
  have ch_ : ∀ x ∈ c, x ≤ h := fun x hx => by
    obtain ⟨t, _, rfl⟩ := List.mem_map.mp (cp.mem_iff.mp hx)
    have := numM_le rs t
    omega
  have sp : SumsP rs c := ⟨by omega, by omega, by omega, by omega, fun x hx => by rw [cl]; exact rle x hx, fun x hx => by rw [rl]; exact ch_ x hx⟩
  have fs := told_some cp (by omega)
  have blk : ∀ i, i < h → ∀ s, s < rs[i]! → ((bltQ rs c)[i]!)[mx[s]!]! = true := fun i hi s hs => by
    have ri := rle _ (mem_get! (show i < rs.length by omega))
    have sw : s < w := by omega
    have mc : mx[s]! < c.length := by rw [cl]; exact mw s sw
    rw [blt_get (by omega) mc]
    refine decide_eq_true ?_
    have mo : mx[s]! ∈ ordC c := (ordC_perm c).mem_iff.mpr (List.mem_range.mpr mc)
    rw [mem_take_idx (ordC_nd c) mo]
    refine Classical.byContradiction fun z => ?_
    have a := numM_lt (r := rs) (a := s) (b := (ordC c).idxOf mx[s]!) (i := i) (by omega) hs (by omega)
    rw [← conj_at cp mc, cv s sw sw] at a
    exact Nat.lt_irrefl _ a
  have k : PicP (bltQ rs c) := blt_pp (by omega) (by omega) (by omega) (by omega)
  have ql : (bltQ rs c).length = h := by rw [blt_len]; exact rl
  have qw : (bltQ rs c)[0]!.length = w := by rw [blt_wid (by omega)]; exact cl
  have hc : coreQ (bltQ rs c) = [] := blt_free (by omega)
  have er : F_row_sums_of (bltQ rs c) = rs := blt_rows fun x hx => by rw [cl]; exact rle x hx
  have ec : F_column_sums_of (bltQ rs c) = c := (told_cols (by omega)).trans (blt_told cp)
  refine ⟨sp, fun pic ep => ?_⟩
  have ep : pic = some (bltQ rs c) := ep.trans fs
  generalize bltQ rs c = q at *
  subst ep
  have rows : ∀ i, i < h → rs[i]! = (q[i]!).count true := fun i hi => by
    have : (F_row_sums_of q)[i]! = (q[i]!).count true := get!_map' _ (by omega)
    rw [er] at this; exact this
  have cols : ∀ j, j < w → c[j]! = ((List.range q.length).filter fun i => (q[i]!)[j]!).length := fun j hj => by
    have : (F_column_sums_of q)[j]! = (q.filter fun r => decide (r[j]! = true)).length := by
      unfold F_column_sums_of
      rw [get!_map' _ (by rw [List.length_range]; omega), get!_range (by omega)]
    rw [ec, col_cntF] at this; exact this
  have fl : ∀ l, l < h + w → (if l < h then rs[l]! else c[l - h]!) = lineS q l := fun l hl => by
    unfold lineS
    rw [ql]
    by_cases z : l < h
    · rw [if_pos z, if_pos z]; exact rows l z
    · rw [if_neg z, if_neg z]
      have := cols (l - h) (by omega)
      rw [ql] at this; exact this
  refine ⟨fun _ => ⟨by simp, k⟩, ⟨by simp, decide_eq_true hc⟩, by simp, k, fun _ => ⟨by simp, k⟩, ⟨?_, ?_⟩, by omega, fun _ => True, trivial, fun i x hx _ => ?_, fun _ => ?_⟩
  · show (F_row_sums_of q, F_column_sums_of q) = (rs, c)
    rw [er, ec]
  · show (F_row_sums_of q).sum = _
    rw [er]
  · obtain ⟨rfl, hi⟩ := range_get hx
    have rx := rle _ (mem_get! (show x < rs.length by omega))
    have gx := k.get (i := x) (by omega)
    rw [qw] at gx
    refine ⟨by simp, by show x < q.length; omega, by omega, fun _ => ⟨by omega, by omega, by rw [List.length_range]; omega, fun s hs => ?_⟩, ⟨(rows x hi).symm, ?_⟩, trivial⟩
    · have hs := List.mem_range.mp hs
      have := mw s (by omega)
      exact ⟨by omega, by omega, fun _ => ⟨by simp, by show x < q.length; omega, by omega, by show (q[x]!).length ≤ _; omega, by show _ < (q[x]!).length; omega⟩⟩
    · refine List.filter_eq_nil_iff.mpr fun s hs z => ?_
      have hs := List.mem_range.mp hs
      have z := (of_decide_eq_true z).2
      have z : (q[x]!)[mx[s]!]! = false := z
      rw [blk x hi s hs] at z
      cases z
  have lo := lay_okAll k hc
  have lm := lays_made k hc
  rw [ql, qw] at lo lm
  have ll := (layersQ_len k).1
  refine ⟨by simp, k, fun told et => ?_⟩
  have et : told = layersQ q := et
  subst et
  refine ⟨⟨⟨⟨h1, by omega⟩, w1, by omega⟩, lo⟩, fun _ => ⟨by simp, k, hc⟩, ⟨congrArg some lm, Nat.not_lt_zero _⟩, fun _ => True, trivial, fun n t ht _ => ?_, fun _ => ?_⟩
  · obtain ⟨rfl, hn⟩ := get?_get! ht
    have tl := (layersQ_len k).2 _ (mem_get! hn)
    have lw : ∀ l ∈ (layersQ q)[n]!, l < h + w := fun l hl => by
      have := lay_line k hc hn hl
      rw [ql, qw] at this; exact this
    have em : ((layersQ q)[n]!.map fun x97 => (if x97 < h then rs[x97]! else c[x97 - h]!)) = (layersQ q)[n]!.map fun _ => lineS q ((layersQ q)[n]![0]!) := List.map_congr_left fun l hl => by rw [fl l (lw l hl), line_same k hc hn hl]
    obtain ⟨t0, _⟩ := lay_kindA k hc hn
    have vb : lineS q ((layersQ q)[n]![0]!) < 60 := by
      rw [← fl _ (lw _ (mem_get! t0))]
      have l0 := lw _ (mem_get! t0)
      split
      · have := rle _ (mem_get! (show (layersQ q)[n]![0]! < rs.length by omega)); omega
      · have := ch_ _ (mem_get! (show (layersQ q)[n]![0]! - h < c.length by omega)); omega
    refine ⟨by omega, fun l hl => ⟨fun z => by omega, fun z => ⟨by omega, by have := lw l hl; omega⟩⟩, by rw [List.length_map]; omega, fun x hx => ?_, ?_, trivial⟩
    · rw [em] at hx
      obtain ⟨_, _, rfl⟩ := List.mem_map.mp hx
      exact vb
    · rw [em]
      refine set_num (ys := [lineS q ((layersQ q)[n]![0]!)]) (by simp) (fun x => ?_) fun x hx => ?_
      · rw [List.mem_singleton, List.mem_map]
        constructor
        · rintro ⟨_, _, e⟩
          exact e.symm
        · intro e
          exact ⟨_, mem_get! t0, e.symm⟩
      · obtain ⟨_, _, rfl⟩ := List.mem_map.mp hx
        exact vb
  have r60 : ∀ x ∈ rs, x < 60 := fun x hx => by have := rle x hx; omega
  have c60 : ∀ x ∈ c, x < 60 := fun x hx => by have := ch_ x hx; omega
  have kn := kinds_num k hc (rs := rs) (cs := c) (by
    rw [ql]
    have := map_get rs
    rw [rl] at this
    conv => lhs; rw [← this]
    refine List.map_congr_left fun i hi => ?_
    have hi := List.mem_range.mp hi
    rw [← fl i (by omega), if_pos hi]) (by
    rw [qw, ql]
    have := map_get c
    rw [cl] at this
    conv => lhs; rw [← this]
    refine List.map_congr_left fun j hj => ?_
    have hj := List.mem_range.mp hj
    rw [← fl (h + j) (by omega), if_neg (by omega), Nat.add_sub_cancel_left]) r60 c60
  refine ⟨by omega, r60, by omega, c60, fun kinds ek => ?_⟩
  have ek : kinds = (layersQ q).length := ek.trans kn
  subst ek
  refine ⟨fun _ => ⟨by simp, k, hc⟩, ⟨rfl, List.length_map _⟩, by simp, ⟨k, hc⟩, fun best eb => ?_⟩
  have eb : best = firstP q.length q[0]!.length (shapeV q) := eb
  have so := shape_ok k hc
  obtain ⟨f1, f2, f3, _, _⟩ := first_ok k.h1 k.h30 k.w1 k.w30 so
  have fb := first_black k hc
  have ff := first_fall k.h1 k.h30 k.w1 k.w30 so
  rw [← eb] at f1 f2 f3 fb ff
  refine ⟨by omega, ff, f1, ?_, ⟨w1, by omega⟩, fun a ha b hb => ?_⟩
  · show (best.map fun r => r.count true).sum = _
    rw [fb]
    show (F_row_sums_of q).sum = _
    rw [er]
  have ha : a < w := ha
  have hb : b < w := hb
  refine ⟨by omega, fun _ => by omega, fun _ => True, fun cd => ⟨by omega, by omega, cd.2.1, fun c4 e4 => ?_⟩, fun _ => trivial, fun _ _ => rfl⟩
  have l4 : c4.length = w := by rw [e4, List.length_set, List.length_set]; exact cl
  have b4 : ∀ x ∈ c4, x ≤ h := fun x hx => by
    rw [e4] at hx
    rcases List.mem_or_eq_of_mem_set hx with hx | e
    · rcases List.mem_or_eq_of_mem_set hx with hx | e
      · exact ch_ x hx
      · have := cd.1; omega
    · have := ch_ _ (mem_get! (show b < c.length by omega)); omega
  refine ⟨⟨by omega, by omega, by omega, by omega, fun x hx => by rw [l4]; exact rle x hx, fun x hx => by rw [rl]; exact b4 x hx⟩, fun there et => ⟨by simp, k, ?_, ?_, trivial⟩⟩
  · show (F_column_sums_of q).length ≤ _
    rw [ec]; omega
  · refine decide_eq_decide.mpr ?_
    show there ≠ none ↔ sortN c4 = sortN ((F_column_sums_of q).map fun x => x)
    rw [List.map_id', ec, show there = F_free_by_sums rs c4 from et, told_iff (by omega), l4]
    rw [cl] at cp
    constructor
    · intro p
      exact sorted_unique ((sortN_perm c4).trans ((p.trans cp.symm).trans (sortN_perm c).symm)) (sortN_le _) (sortN_le _)
    · intro e
      have := (sortN_perm c4).symm
      rw [e] at this
      exact (this.trans (sortN_perm c)).trans cp
end W
namespace V
open PySem L2 G W
theorem hv : ∀ ns : List Int, ns.length ≤ 63 → ∃ tp', retR (b_law (some (.scr ns) :: some .tape :: List.replicate 15 none) [.scr ns, .int 0, .int 5387, .int 0]) = .ok (.bl true) tp' := fun ns hns => W.snd_law W.ok_law ns hns
end V
set_option maxHeartbeats 0
namespace Hd
open PySem PySem.Spec PyProof.Rows L2
theorem facts {P : Program} {w : World} {K : PySem.W.Frag} {h : Heap} {mg : Str → Option Value} {f : Addr} (X : K.In h) (hG : h.Ns mainGlobals mg) (hfa : mg ("law" : Str) = some (.ref f)) (c : He.SaysD fa fn K) :
    ∃ fd : FuncData, (∀ (s : Shared) (v : Value), BindsTo s fd ⟨[v], []⟩ [("_law_script", v)]) ∧ ∀ base : Heap, K.In base → base.Ns mainGlobals mg → FnOk P w K mg base CX0 67 f fd ["_law_script"] (_root_.G.spLaw K) := by
  obtain ⟨fd0, F0⟩ := c.def_ 0 (d := d_is_int) rfl
  obtain ⟨fd1, F1⟩ := c.def_ 1 (d := d_is_in) rfl
  obtain ⟨fd2, F2⟩ := c.def_ 2 (d := d_need_number) rfl
  obtain ⟨fd3, F3⟩ := c.def_ 3 (d := d_is_picture) rfl
  obtain ⟨fd4, F4⟩ := c.def_ 4 (d := d_need_picture) rfl
  obtain ⟨fd5, F5⟩ := c.def_ 5 (d := d_lines_of) rfl
  obtain ⟨fd6, F6⟩ := c.def_ 6 (d := d_black_of) rfl
  obtain ⟨fd7, F7⟩ := c.def_ 7 (d := d_black_cells) rfl
  obtain ⟨fd8, F8⟩ := c.def_ 8 (d := d_row_sums_of) rfl
  obtain ⟨fd9, F9⟩ := c.def_ 9 (d := d_column_sums_of) rfl
  obtain ⟨fd10, F10⟩ := c.def_ 10 (d := d_sums) rfl
  obtain ⟨fd11, F11⟩ := c.def_ 11 (d := d_part_of) rfl
  obtain ⟨fd12, F12⟩ := c.def_ 12 (d := d_leads_to) rfl
  obtain ⟨fd13, F13⟩ := c.def_ 13 (d := d_layers_of) rfl
  obtain ⟨fd14, F14⟩ := c.def_ 14 (d := d_layers) rfl
  obtain ⟨fd15, F15⟩ := c.def_ 15 (d := d_core_of) rfl
  obtain ⟨fd16, F16⟩ := c.def_ 16 (d := d_is_free_of) rfl
  obtain ⟨fd17, F17⟩ := c.def_ 17 (d := d_is_free) rfl
  obtain ⟨fd18, F18⟩ := c.def_ 18 (d := d_need_free) rfl
  obtain ⟨fd19, F19⟩ := c.def_ 19 (d := d_chosen) rfl
  obtain ⟨fd20, F20⟩ := c.def_ 20 (d := d_ways_left) rfl
  obtain ⟨fd21, F21⟩ := c.def_ 21 (d := d_need_sides) rfl
  obtain ⟨fd22, F22⟩ := c.def_ 22 (d := d_by_layers) rfl
  obtain ⟨fd23, F23⟩ := c.def_ 23 (d := d_are_layers) rfl
  obtain ⟨fd24, F24⟩ := c.def_ 24 (d := d_free_by_layers) rfl
  obtain ⟨fd25, F25⟩ := c.def_ 25 (d := d_subset_number) rfl
  obtain ⟨fd26, F26⟩ := c.def_ 26 (d := d_number_of) rfl
  obtain ⟨fd27, F27⟩ := c.def_ 27 (d := d_free_number) rfl
  obtain ⟨fd28, F28⟩ := c.def_ 28 (d := d_are_sums) rfl
  obtain ⟨fd29, F29⟩ := c.def_ 29 (d := d_need_sums) rfl
  obtain ⟨fd30, F30⟩ := c.def_ 30 (d := d_free_by_sums) rfl
  obtain ⟨fd31, F31⟩ := c.def_ 31 (d := d_sizes_of) rfl
  obtain ⟨fd32, F32⟩ := c.def_ 32 (d := d_shape) rfl
  obtain ⟨fd33, F33⟩ := c.def_ 33 (d := d_stairs_of) rfl
  obtain ⟨fd34, F34⟩ := c.def_ 34 (d := d_stairs) rfl
  obtain ⟨fd35, F35⟩ := c.def_ 35 (d := d_law_taken) rfl
  obtain ⟨fd36, F36⟩ := c.def_ 36 (d := d_law_pick) rfl
  obtain ⟨fd37, F37⟩ := c.def_ 37 (d := d_law_mixed) rfl
  obtain ⟨fd38, F38⟩ := c.def_ 38 (d := d_law) rfl
  have T : W.Tx K mg := {
    all := He.free_ok X hG (c.fact 39 (f := .free "all") rfl),
    any := He.free_ok X hG (c.fact 40 (f := .free "any") rfl),
    bool := He.free_ok X hG (c.fact 41 (f := .free "bool") rfl),
    enumerate := He.free_ok X hG (c.fact 42 (f := .free "enumerate") rfl),
    int := He.free_ok X hG (c.fact 43 (f := .free "int") rfl),
    isinstance := He.free_ok X hG (c.fact 44 (f := .free "isinstance") rfl),
    len := He.free_ok X hG (c.fact 45 (f := .free "len") rfl),
    list := He.free_ok X hG (c.fact 46 (f := .free "list") rfl),
    max := He.free_ok X hG (c.fact 47 (f := .free "max") rfl),
    range := He.free_ok X hG (c.fact 48 (f := .free "range") rfl),
    set := He.free_ok X hG (c.fact 49 (f := .free "set") rfl),
    sorted := He.free_ok X hG (c.fact 50 (f := .free "sorted") rfl),
    str := He.free_ok X hG (c.fact 51 (f := .free "str") rfl),
    sum := He.free_ok X hG (c.fact 52 (f := .free "sum") rfl),
    tuple := He.free_ok X hG (c.fact 53 (f := .free "tuple") rfl),
    zip := He.free_ok X hG (c.fact 54 (f := .free "zip") rfl),
    MOST_SIDE := He.int_ok X hG (c.fact 55 (f := .int "MOST_SIDE" 30) rfl),
    BLACK := He.str_ok X hG (c.fact 56 (f := .str "BLACK" "#") rfl),
    WHITE := He.str_ok X hG (c.fact 57 (f := .str "WHITE" ".") rfl),
    f_is_int := ⟨_, _, F0, He.glo_ok X hG (c.fact 0 (f := .glo "is_int") rfl)⟩,
    f_is_in := ⟨_, _, F1, He.glo_ok X hG (c.fact 1 (f := .glo "is_in") rfl)⟩,
    f_need_number := ⟨_, _, F2, He.glo_ok X hG (c.fact 2 (f := .glo "need_number") rfl)⟩,
    f_is_picture := ⟨_, _, F3, He.glo_ok X hG (c.fact 3 (f := .glo "is_picture") rfl)⟩,
    f_need_picture := ⟨_, _, F4, He.glo_ok X hG (c.fact 4 (f := .glo "need_picture") rfl)⟩,
    f_lines_of := ⟨_, _, F5, He.glo_ok X hG (c.fact 5 (f := .glo "lines_of") rfl)⟩,
    f_black_of := ⟨_, _, F6, He.glo_ok X hG (c.fact 6 (f := .glo "black_of") rfl)⟩,
    f_black_cells := ⟨_, _, F7, He.glo_ok X hG (c.fact 7 (f := .glo "black_cells") rfl)⟩,
    f_row_sums_of := ⟨_, _, F8, He.glo_ok X hG (c.fact 8 (f := .glo "row_sums_of") rfl)⟩,
    f_column_sums_of := ⟨_, _, F9, He.glo_ok X hG (c.fact 9 (f := .glo "column_sums_of") rfl)⟩,
    f_sums := ⟨_, _, F10, He.glo_ok X hG (c.fact 10 (f := .glo "sums") rfl)⟩,
    f_part_of := ⟨_, _, F11, He.glo_ok X hG (c.fact 11 (f := .glo "part_of") rfl)⟩,
    f_leads_to := ⟨_, _, F12, He.glo_ok X hG (c.fact 12 (f := .glo "leads_to") rfl)⟩,
    f_layers_of := ⟨_, _, F13, He.glo_ok X hG (c.fact 13 (f := .glo "layers_of") rfl)⟩,
    f_layers := ⟨_, _, F14, He.glo_ok X hG (c.fact 14 (f := .glo "layers") rfl)⟩,
    f_core_of := ⟨_, _, F15, He.glo_ok X hG (c.fact 15 (f := .glo "core_of") rfl)⟩,
    f_is_free_of := ⟨_, _, F16, He.glo_ok X hG (c.fact 16 (f := .glo "is_free_of") rfl)⟩,
    f_is_free := ⟨_, _, F17, He.glo_ok X hG (c.fact 17 (f := .glo "is_free") rfl)⟩,
    f_need_free := ⟨_, _, F18, He.glo_ok X hG (c.fact 18 (f := .glo "need_free") rfl)⟩,
    f_chosen := ⟨_, _, F19, He.glo_ok X hG (c.fact 19 (f := .glo "chosen") rfl)⟩,
    f_ways_left := ⟨_, _, F20, He.glo_ok X hG (c.fact 20 (f := .glo "ways_left") rfl)⟩,
    f_need_sides := ⟨_, _, F21, He.glo_ok X hG (c.fact 21 (f := .glo "need_sides") rfl)⟩,
    f_by_layers := ⟨_, _, F22, He.glo_ok X hG (c.fact 22 (f := .glo "by_layers") rfl)⟩,
    f_are_layers := ⟨_, _, F23, He.glo_ok X hG (c.fact 23 (f := .glo "are_layers") rfl)⟩,
    f_free_by_layers := ⟨_, _, F24, He.glo_ok X hG (c.fact 24 (f := .glo "free_by_layers") rfl)⟩,
    f_subset_number := ⟨_, _, F25, He.glo_ok X hG (c.fact 25 (f := .glo "subset_number") rfl)⟩,
    f_number_of := ⟨_, _, F26, He.glo_ok X hG (c.fact 26 (f := .glo "number_of") rfl)⟩,
    f_free_number := ⟨_, _, F27, He.glo_ok X hG (c.fact 27 (f := .glo "free_number") rfl)⟩,
    f_are_sums := ⟨_, _, F28, He.glo_ok X hG (c.fact 28 (f := .glo "are_sums") rfl)⟩,
    f_need_sums := ⟨_, _, F29, He.glo_ok X hG (c.fact 29 (f := .glo "need_sums") rfl)⟩,
    f_free_by_sums := ⟨_, _, F30, He.glo_ok X hG (c.fact 30 (f := .glo "free_by_sums") rfl)⟩,
    f_sizes_of := ⟨_, _, F31, He.glo_ok X hG (c.fact 31 (f := .glo "sizes_of") rfl)⟩,
    f_shape := ⟨_, _, F32, He.glo_ok X hG (c.fact 32 (f := .glo "shape") rfl)⟩,
    f_stairs_of := ⟨_, _, F33, He.glo_ok X hG (c.fact 33 (f := .glo "stairs_of") rfl)⟩,
    f_stairs := ⟨_, _, F34, He.glo_ok X hG (c.fact 34 (f := .glo "stairs") rfl)⟩,
    f_law_taken := ⟨_, _, F35, He.glo_ok X hG (c.fact 35 (f := .glo "_law_taken") rfl)⟩,
    f_law_pick := ⟨_, _, F36, He.glo_ok X hG (c.fact 36 (f := .glo "_law_pick") rfl)⟩,
    f_law_mixed := ⟨_, _, F37, He.glo_ok X hG (c.fact 37 (f := .glo "_law_mixed") rfl)⟩ }
  have e := hfa.symm.trans (He.glo_ok X hG (c.fact 38 (f := .glo "law") rfl))
  cases e
  have b := FunD.bindsA (ps := ["_law_script"]) F38 fun _ _ _ _ _ _ us hl => match us, hl with | [_], _ => rfl
  exact ⟨fd38, fun s v => b s [v] rfl, fun base _ _ => _root_.G.fn_law (k := 66) (N := ["_law_high", "_law_wide", "_law_rows", "_law_at", "_law_order", "_law_columns", "_law_spot", "_law_many", "_law_picture", "_law_told", "_law_some", "_law_line", "_law_kinds", "_law_best", "_law_there"]) F38 W.sc_law (by first | exact Or.inl rfl | exact Or.inr rfl) (by first | exact Or.inl rfl | exact Or.inr rfl) (by decide +kernel) (by decide +kernel) (m := W.b_law) (fun r cdv A outer s H E hr => W.law_body T r cdv A outer s H E hr) _root_.V.hv⟩
end Hd
open PySem PySem.W PySem.Calls PyProof.Rows
theorem PySem.Challenge.cw_linepainters_k87_free_parts_and_sums_holds : PySem.Challenge.rw_linepainters_k87_free_parts_and_sums.Holds := by
  w_on; o_law
  refine HandSHeadRun.head_any (r := OpenLaw.row PySem.Challenge.rw_linepainters_k87_free_parts_and_sums) (q := view (OpenLaw.row PySem.Challenge.rw_linepainters_k87_free_parts_and_sums).prog [54]) (H := Hd.hk) (ob := Hd.ob) (M := 8000) (loose := Hd.nms) (d := HandSHeadRun.topDef (OpenLaw.row PySem.Challenge.rw_linepainters_k87_free_parts_and_sums).prog 54) (kwd := []) Hd.ob_eq
    (by kernel_rfl) (fun s => by kernel_rfl) Hd.run (by kernel_rfl) (by kernel_rfl) (by kernel_rfl) (by rfl) (by first | assumption | decide +kernel) (by decide +kernel) ⟨rfl, rfl, rfl, rfl, rfl, by decide +kernel⟩ ?hw ?hc
  case hw => w_witness2
  case hc =>
    refine L2.walk_ofE (l := PySem.Challenge.rw_linepainters_k87_free_parts_and_sums) (n := 63) (k := 67) (x := "_law_script") (CX := L2.CX0) rfl (by decide) (by kernel_rfl) ⟨rfl, by decide, by decide⟩ ?F (fun _ _ _ _ z => z)
    intro w mg fa h Y hG hmg0
    obtain ⟨K, KX, c⟩ := Y
    have hmg : mg ("law" : PySem.Str) = some (.ref fa) := by
      have e : (HandSHeadRun.topDef (OpenLaw.row PySem.Challenge.rw_linepainters_k87_free_parts_and_sums).prog 54).name = ("law" : PySem.Str) := by kernel_rfl
      rw [← e]
      exact hmg0
    obtain ⟨fd, hb, hF⟩ := Hd.facts (P := (PySem.Challenge.rw_linepainters_k87_free_parts_and_sums).prog) (w := w) KX hG hmg c
    exact ⟨K, fd, _root_.G.spLaw K, KX, hb, fun H a ns hl hh hS => ⟨a, ns, rfl, hS, hl, fun _ => rfl⟩, hF⟩
