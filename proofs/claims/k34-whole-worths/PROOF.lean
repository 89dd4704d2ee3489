import PyProof.Rows.All
import Wide.All
import OpenK.AllK
import Wide.FinOn
import KE.KStateDown
import Lean
import HandS.Base
import HandS.Call
import HandS.Ends
import HandS.More
import HandS.Words
import HandS.WordsExc
import HandS.Defaults
import HandS.Head0
import HandS.Head1
import HandS.Head2
import HandS.HeadEnd
import HandS.HeadHook1
import HandS.HeadHook2
import KE.DataEq
import HandS.ForMost
import HandS.Exc
import HandS.Walk
import HandS.TupAny
import HandS.TupMul
import HandS.IsInst
import HandS.Wide
import HandS.StrMore
import HandS.TupLe
import HandS.Style
import HandS.Conv
import KE.GoesEnum
import HandS.SortInts
import HandS.Zip
import PyProof.WalksMore
import HandS.DictComp
import KE.KSortTupG
import HandS.Star
import HandS.Text
import KE.KDictSum
import HandS.DictEq
import HandS.Iter
import KE.KDictItemsList
import HandS.ListItems
import KE.DataMinMax
import KE.SortData
import KE.KDictWalk
import KE.KDictDisplayH
import PySem.Challenge.RW_linepainters_k34_whole_worths
set_option Elab.async false
set_option linter.all false
set_option maxRecDepth 100000
set_option maxHeartbeats 1000000
namespace W
open PySem L2
def top (i : Nat) : Stmt := PySem.Challenge.pw_linepainters_k34_whole_worths.main.body.getD i (.Pass ⟨0, 0, 0, 0⟩)
end W
set_option maxHeartbeats 0
namespace Hd
open PySem PySem.Spec PyProof.Rows L2
def d_is_int : He.DefD := ⟨("is_int", none), "is_int", "is_int", defArgs (W.top 9), defBody (W.top 9), defScope (W.top 9), [], []⟩
def d_is_in : He.DefD := ⟨("is_in", none), "is_in", "is_in", defArgs (W.top 10), defBody (W.top 10), defScope (W.top 10), [], []⟩
def d_is_picture : He.DefD := ⟨("is_picture", none), "is_picture", "is_picture", defArgs (W.top 11), defBody (W.top 11), defScope (W.top 11), [], []⟩
def d_need_picture : He.DefD := ⟨("need_picture", none), "need_picture", "need_picture", defArgs (W.top 12), defBody (W.top 12), defScope (W.top 12), [], []⟩
def d_lines_of : He.DefD := ⟨("lines_of", none), "lines_of", "lines_of", defArgs (W.top 13), defBody (W.top 13), defScope (W.top 13), [], []⟩
def d_leads_to : He.DefD := ⟨("leads_to", none), "leads_to", "leads_to", defArgs (W.top 15), defBody (W.top 15), defScope (W.top 15), [], []⟩
def d_layers_of : He.DefD := ⟨("layers_of", none), "layers_of", "layers_of", defArgs (W.top 16), defBody (W.top 16), defScope (W.top 16), [], []⟩
def d_core_of : He.DefD := ⟨("core_of", none), "core_of", "core_of", defArgs (W.top 17), defBody (W.top 17), defScope (W.top 17), [], []⟩
def d_is_free_of : He.DefD := ⟨("is_free_of", none), "is_free_of", "is_free_of", defArgs (W.top 18), defBody (W.top 18), defScope (W.top 18), [], []⟩
def d_by_layers : He.DefD := ⟨("by_layers", none), "by_layers", "by_layers", defArgs (W.top 20), defBody (W.top 20), defScope (W.top 20), [], []⟩
def d_masks : He.DefD := ⟨("masks", none), "masks", "masks", defArgs (W.top 22), defBody (W.top 22), defScope (W.top 22), [], []⟩
def d_layerings : He.DefD := ⟨("layerings", none), "layerings", "layerings", defArgs (W.top 23), defBody (W.top 23), defScope (W.top 23), [], []⟩
def d_is_table : He.DefD := ⟨("is_table", none), "is_table", "is_table", defArgs (W.top 27), defBody (W.top 27), defScope (W.top 27), [], []⟩
def d_need_table : He.DefD := ⟨("need_table", none), "need_table", "need_table", defArgs (W.top 28), defBody (W.top 28), defScope (W.top 28), [], []⟩
def d_worth_of : He.DefD := ⟨("worth_of", none), "worth_of", "worth_of", defArgs (W.top 29), defBody (W.top 29), defScope (W.top 29), [], []⟩
def d_worth : He.DefD := ⟨("worth", none), "worth", "worth", defArgs (W.top 30), defBody (W.top 30), defScope (W.top 30), [], []⟩
def d_free_pictures : He.DefD := ⟨("free_pictures", none), "free_pictures", "free_pictures", defArgs (W.top 31), defBody (W.top 31), defScope (W.top 31), [], []⟩
def d_need_small_table : He.DefD := ⟨("need_small_table", none), "need_small_table", "need_small_table", defArgs (W.top 32), defBody (W.top 32), defScope (W.top 32), [], []⟩
def d_best_free : He.DefD := ⟨("best_free", none), "best_free", "best_free", defArgs (W.top 33), defBody (W.top 33), defScope (W.top 33), [], []⟩
def d_shows_best_free : He.DefD := ⟨("shows_best_free", none), "shows_best_free", "shows_best_free", defArgs (W.top 34), defBody (W.top 34), defScope (W.top 34), [], []⟩
def d_free_worth_sum : He.DefD := ⟨("free_worth_sum", none), "free_worth_sum", "free_worth_sum", defArgs (W.top 35), defBody (W.top 35), defScope (W.top 35), [], []⟩
def d_best_numbers : He.DefD := ⟨("best_numbers", none), "best_numbers", "best_numbers", defArgs (W.top 36), defBody (W.top 36), defScope (W.top 36), [], []⟩
def d_best_last : He.DefD := ⟨("best_last", none), "best_last", "best_last", defArgs (W.top 37), defBody (W.top 37), defScope (W.top 37), [], []⟩
def d_law_taken : He.DefD := ⟨("_law_taken", none), "_law_taken", "_law_taken", defArgs (W.top 39), defBody (W.top 39), defScope (W.top 39), [], []⟩
def d_law_pick : He.DefD := ⟨("_law_pick", none), "_law_pick", "_law_pick", defArgs (W.top 40), defBody (W.top 40), defScope (W.top 40), [], []⟩
def d_law_alike : He.DefD := ⟨("_law_alike", none), "_law_alike", "_law_alike", defArgs (W.top 41), defBody (W.top 41), defScope (W.top 41), [], []⟩
def d_law_any : He.DefD := ⟨("_law_any", none), "_law_any", "_law_any", defArgs (W.top 42), defBody (W.top 42), defScope (W.top 42), [], []⟩
def d_law_paint : He.DefD := ⟨("_law_paint", none), "_law_paint", "_law_paint", defArgs (W.top 43), defBody (W.top 43), defScope (W.top 43), [], []⟩
def d_law_layers : He.DefD := ⟨("_law_layers", none), "_law_layers", "_law_layers", defArgs (W.top 44), defBody (W.top 44), defScope (W.top 44), [], []⟩
def d_law_core : He.DefD := ⟨("_law_core", none), "_law_core", "_law_core", defArgs (W.top 45), defBody (W.top 45), defScope (W.top 45), [], []⟩
def d_law_all : He.DefD := ⟨("_law_all", none), "_law_all", "_law_all", defArgs (W.top 46), defBody (W.top 46), defScope (W.top 46), [], []⟩
def d_law : He.DefD := ⟨("law", none), "law", "law", defArgs (W.top 47), defBody (W.top 47), defScope (W.top 47), [], []⟩
def fn : List He.DefD := [d_is_int, d_is_in, d_is_picture, d_need_picture, d_lines_of, d_leads_to, d_layers_of, d_core_of, d_is_free_of, d_by_layers, d_masks, d_layerings, d_is_table, d_need_table, d_worth_of, d_worth, d_free_pictures, d_need_small_table, d_best_free, d_shows_best_free, d_free_worth_sum, d_best_numbers, d_best_last, d_law_taken, d_law_pick, d_law_alike, d_law_any, d_law_paint, d_law_layers, d_law_core, d_law_all, d_law]
def fa0 : List He.Fa := [.glo "is_int", .glo "is_in", .glo "is_picture", .glo "need_picture", .glo "lines_of", .glo "leads_to", .glo "layers_of", .glo "core_of", .glo "is_free_of", .glo "by_layers", .glo "masks", .glo "layerings", .glo "is_table", .glo "need_table", .glo "worth_of", .glo "worth", .glo "free_pictures", .glo "need_small_table", .glo "best_free", .glo "shows_best_free", .glo "free_worth_sum", .glo "best_numbers", .glo "best_last", .glo "_law_taken", .glo "_law_pick", .glo "_law_alike", .glo "_law_any", .glo "_law_paint", .glo "_law_layers", .glo "_law_core"]
def fa1 : List He.Fa := [.glo "_law_all", .glo "law", .free "all", .free "any", .free "bool", .free "enumerate", .free "int", .free "isinstance", .free "len", .free "list", .free "max", .free "min", .free "range", .free "sorted", .free "str", .free "sum", .free "super", .free "tuple", .int "MOST_SIDE" 30, .str "BLACK" "#", .str "WHITE" ".", .int "MOST_WORTH" 1000000, .int "MOST_LINES" 8]
def fa : List He.Fa := fa0 ++ fa1
def nm0 : List Str := ["__name__", "PaintError", "BadPicture", "BadPrices", "TooGreat", "MOST_SIDE", "BLACK", "WHITE", "is_int", "is_in", "is_picture", "need_picture", "lines_of", "leads_to", "layers_of", "core_of", "is_free_of", "by_layers", "masks", "layerings", "MOST_WORTH", "MOST_LINES", "is_table", "need_table", "worth_of", "worth", "free_pictures", "need_small_table", "best_free", "shows_best_free"]
def nm1 : List Str := ["free_worth_sum", "best_numbers", "best_last", "_law_taken", "_law_pick", "_law_alike", "_law_any", "_law_paint", "_law_layers", "_law_core", "_law_all"]
abbrev nms : List Str := nm0 ++ nm1
abbrev R : PySem.W.OpenRow := PySem.W.OpenLaw.row PySem.Challenge.rw_linepainters_k34_whole_worths
abbrev hk : PySem.W.Hook := He.hookD 4 fa fn
def ob (s : PySem.W.SharedT) : He.AlD := He.obsDG 4 fa fn (HandSHeadRun.getT s)
theorem ob_eq (s : PySem.W.SharedT) : ob s = hk.obs s.abs := He.obsDG_eq (HandSHeadRun.getT_eq s)
open HandSHeadRun PySem.W PySem.Calls in
theorem runL (w : World) : ∀ os : OsState, (HandSHeadRun.endF (HandSHeadRun.stepQ (HandSHeadRun.denQ HandSHeadRun.tabQ) R.prog w) 8000 R.prog w os).map (fun s => looksF R.prog (boot_heap w.params) s.abs) = some true := by
  intro os
  kernel_rfl
open HandSHeadRun PySem.W PySem.Calls in
theorem runS (w : World) : ∀ os : OsState, (HandSHeadRun.endF (HandSHeadRun.stepQ (HandSHeadRun.denQ HandSHeadRun.tabQ) R.prog w) 8000 R.prog w os).map (fun s => seenQ (PySem.W.view R.prog [47]) nms (importedModules R.prog.main.body) (fun s => xlAt (PySem.W.view R.prog [47]) [] s && recOk R.toRowW.records s) s.abs) = some (openGood (PySem.W.view R.prog [47]) nms) := by
  intro os
  kernel_rfl
open HandSHeadRun PySem.W PySem.Calls in
theorem runO (w : World) : ∀ os : OsState, (HandSHeadRun.endF (HandSHeadRun.stepQ (HandSHeadRun.denQ HandSHeadRun.tabQ) R.prog w) 8000 R.prog w os).map ob = some (hk.val w) := by
  intro os
  kernel_rfl
theorem three {α β γ δ : Type} {x : Option α} {f : α → β} {g : α → γ} {h : α → δ} {b : β} {c : γ} {d : δ} (h1 : x.map f = some b) (h2 : x.map g = some c) (h3 : x.map h = some d) : x.map (fun s => (f s, g s, h s)) = some (b, c, d) := by
  cases x with
  | none => cases h1
  | some s =>
    have h1 := Option.some.inj h1
    have h2 := Option.some.inj h2
    have h3 := Option.some.inj h3
    show some (f s, g s, h s) = _
    rw [h1, h2, h3]
theorem run (w : World) : HandSHeadRun.RunEq R (PySem.W.view R.prog [47]) hk ob 8000 nms w := fun os => three (runL w os) (runS w os) (runO w os)
end Hd
set_option maxHeartbeats 1000000
set_option maxHeartbeats 1000000
namespace G
open PySem PySem.Spec PyProof.Rows L2
/-- pure data -/
inductive D where
  | non
  | bl (b : Bool)
  | int (i : Int)
  | str (s : Str)
  | tup (xs : List D)
  | lst (xs : List D)
  | dic (kvs : List (D × D))
  | dct (kvs : List (D × D))
  | scr (ns : List Int)
  | tape
  | fn (n : Str)
  | ty (n : String)
  | memo (n : Int)
  deriving Inhabited
mutual
def D.pd : D → PyData
  | .non => .none
  | .bl b => .bool b
  | .int i => .int i
  | .str s => .str s
  | .tup xs => .tuple (pdAll xs)
  | .lst xs => .list (pdAll xs)
  | .scr ns => .list (ns.map PyData.int)
  | .dic _ => .dict []
  | .dct _ => .dict []
  | .tape => .dict []
  | .fn _ => .dict []
  | .ty _ => .dict []
  | .memo _ => .dict []
def pdAll : List D → List PyData
  | [] => []
  | x :: xs => x.pd :: pdAll xs
end
theorem pdAll_map (xs : List D) : pdAll xs = xs.map D.pd := by
  induction xs with
  | nil => rfl
  | cons x xs ih => simp only [pdAll, List.map_cons, ih]
def keyD : Key → D
  | .inl i => .int i
  | .inr x => .str x
def keyT (ks : List Key) : D := .tup (ks.map keyD)
def isDic : HO → Bool
  | .dK _ => true
  | .dT _ => true
  | _ => false
def isSt : HO → Bool
  | .tup _ => true
  | .frz _ _ => true
  | _ => false
abbrev StU := {u : HO // isSt u = true}
theorem st_no {o : HO} (h : isSt o = false) (xs : StU) : o ≠ xs.1 := fun e => by
  rw [e, xs.2] at h; cases h
def bin : Nat → Nat → Nat
  | _, 0 => 1
  | 0, _ + 1 => 0
  | n + 1, k + 1 => bin n k + bin n (k + 1)
def waysN : Nat → Nat → Nat → Bool → Nat
  | 0, _, _, _ => 1
  | n + 1, r, c, b => if r + c = 0 then 1 else if b then ((List.range r).map fun m => bin r (m + 1) * waysN n (r - (m + 1)) c false).sum else ((List.range c).map fun m => bin c (m + 1) * waysN n r (c - (m + 1)) true).sum
def tellsF : Int → List Int → Option Int
  | 0, [r, c, b] => if 0 ≤ r ∧ r ≤ 30 ∧ 0 ≤ c ∧ c ≤ 30 ∧ 0 ≤ b ∧ b ≤ 1 then some (waysN (r.toNat + c.toNat) r.toNat c.toNat (decide (b = 1)) : Nat) else none
  | _, _ => none
def hI (ks : List Int) : Int := reduceHash (Builtin.Tuple.tupleHashOf (ks.map hashInt))
def memoP (b : Addr) (xs : List (List Int × Addr × Value)) : Heap → Prop := fun h => ∃ o es ep, h.get? b = some o ∧ o.ExactDict ∧ o.data = .dict es ep ∧ es.toList = xs.map (fun x => (⟨hI x.1, .ref x.2.1, x.2.2⟩ : DictEntry)) ∧ (xs.map (·.1)).Nodup
def vInt : V → Option Int
  | .int i => some i
  | .bl b => some (if b = true then 1 else 0)
  | _ => none
def EntOk (n : Int) (H : Hp) (x : List Int × Addr × Value) : Prop := (∃ vs, H x.2.1 = some (.tup vs) ∧ vs.map vInt = x.1.map some) ∧ ∃ d t, tellsF n x.1 = some d ∧ x.2.2 = .int d t
def MemoAt (n : Int) (H : Hp) (b : Addr) : Prop := ∃ xs, H b = some (.ext (memoP b xs)) ∧ (b == sysModules) = false ∧ ∀ x ∈ xs, EntOk n H x
/-- a mark that no object bears -/
abbrev markM (n : Int) : HO := .ins 0 0 (List.replicate 1001 (("" : Str), V.int n))
theorem MemoAt.keep {n : Int} {H H' : Hp} {b : Addr} (h : MemoAt n H b) (k : ∀ u, H b = some u → H' b = some u) (kt : ∀ a (xs : StU), H a = some xs.1 → H' a = some xs.1) : MemoAt n H' b := by
  obtain ⟨xs, h1, h2, h3⟩ := h
  refine ⟨xs, k _ h1, h2, fun x hx => ?_⟩
  obtain ⟨⟨vs, e1, e2⟩, e3⟩ := h3 x hx
  exact ⟨⟨vs, kt _ ⟨.tup vs, rfl⟩ e1, e2⟩, e3⟩
/-- as it stands; a dict perhaps locked; a dict of known answers where it is marked -/
def At (H : Hp) (b : Addr) (o : HO) : Prop := H b = some o ∨ (isDic o = true ∧ ∃ x, H b = some (.frz x o)) ∨ ∃ n, o = markM n ∧ MemoAt n H b
/-- what stands here stands there, a dict perhaps locked -/
def Same (H H' : Hp) : Prop := ∀ b o, H b = some o → At H' b o
section
variable {Hs Hs' H H' H1 H2 : Hp} {b p : Addr} {o u : HO}
theorem At.rd (h : At H b o) (m : ∀ n, o ≠ markM n) : Rd H b o := h.elim .inl fun h => h.elim (fun h => .inr h.2) fun ⟨n, e, _⟩ => (m n e).elim
theorem At.lst {vs : List V} (h : At H b (.lst vs)) : H b = some (.lst vs) := h.elim id fun h => h.elim (fun h => nomatch h.1) fun ⟨_, e, _⟩ => nomatch e
theorem At.tup {vs : List V} (h : At H b (.tup vs)) : H b = some (.tup vs) := h.elim id fun h => h.elim (fun h => nomatch h.1) fun ⟨_, e, _⟩ => nomatch e
theorem At.frz {x : Obj} {v : HO} (h : At H b (.frz x v)) : H b = some (.frz x v) := h.elim id fun h => h.elim (fun h => nomatch h.1) fun ⟨_, e, _⟩ => nomatch e
theorem At.ext {φ : Heap → Prop} (h : At H b (.ext φ)) : H b = some (.ext φ) := h.elim id fun h => h.elim (fun h => nomatch h.1) fun ⟨_, e, _⟩ => nomatch e
/-- a dict -/
theorem At.dic (h : At H b o) (d : isDic o = true) : H b = some o ∨ ∃ x, H b = some (.frz x o) := h.elim .inl fun h => h.elim (fun h => .inr h.2) fun ⟨_, e, _⟩ => by rw [e] at d; cases d
theorem At.st {u : HO} (h : At H b u) (s : isSt u = true) : H b = some u := by
  cases u with
  | tup vs => exact h.tup
  | frz x v => exact h.frz
  | _ => cases s
theorem At.keep (h : At H b o) (k : ∀ u, H b = some u → H' b = some u) (kt : ∀ a (xs : StU), H a = some xs.1 → H' a = some xs.1) : At H' b o := h.imp (k _) fun h => h.imp (fun ⟨a, x, e⟩ => ⟨a, x, k _ e⟩) fun ⟨n, e, m⟩ => ⟨n, e, m.keep k kt⟩
theorem At.there (h : At H b o) : ∃ u, H b = some u := h.elim (fun e => ⟨_, e⟩) fun h => h.elim (fun ⟨_, _, e⟩ => ⟨_, e⟩) fun ⟨_, _, xs, e, _⟩ => ⟨_, e⟩
theorem At.upd (h : At H b o) (n : b ≠ p) (nt : ∀ xs : StU, H p ≠ some xs.1) : At (upd H p u) b o := h.keep (fun v e => by rw [upd_ne n]; exact e) fun a xs e => by
  rw [upd_ne fun z => nt xs (by rw [← z]; exact e)]; exact e
theorem Same.refl (H : Hp) : Same H H := fun _ _ h => .inl h
theorem Same.trans (a : Same H H1) (b : Same H1 H2) : Same H H2 := fun c o h => by
  rcases a c o h with q | ⟨q, x, e⟩ | ⟨n, e, xs, h1, h2, h3⟩
  · exact b c o q
  · exact .inr (.inl ⟨q, x, (b c _ e).frz⟩)
  · refine .inr (.inr ⟨n, e, xs, (b c _ h1).ext, h2, fun x hx => ?_⟩)
    obtain ⟨⟨vs, e1, e2⟩, e3⟩ := h3 x hx
    exact ⟨⟨vs, (b _ _ e1).tup, e2⟩, e3⟩
theorem At.mono {n : Int} (e : Same H H') (h : At H b (markM n)) : At H' b (markM n) := by
  rcases h with q | ⟨q, _⟩ | ⟨m, em, xs, h1, h2, h3⟩
  · exact e b _ q
  · cases q
  · refine .inr (.inr ⟨m, em, xs, (e _ _ h1).ext, h2, fun x hx => ?_⟩)
    obtain ⟨⟨vs, e1, e2⟩, e3⟩ := h3 x hx
    exact ⟨⟨vs, (e _ _ e1).tup, e2⟩, e3⟩
theorem Same.of (a : ∀ b o, H b = some o → H' b = some o) : Same H H' := fun b o h => .inl (a b o h)
theorem Same.free (e : Same Hs H) {l : Addr} (h : H l = none) : Hs l = none := by
  cases z : Hs l with
  | none => rfl
  | some u =>
    obtain ⟨v, q⟩ := (e l u z).there
    rw [h] at q; cases q
theorem Same.rd (e : Same H H') (h : Rd H b o) (d : ∀ x v, o ≠ .frz x v := by intros; nofun) (m : ∀ n, o ≠ markM n := by intros; nofun) : Rd H' b o := by
  rcases h with h | ⟨x, h⟩
  · exact (e _ _ h).rd m
  · exact .inr ⟨x, (e _ _ h).frz⟩
theorem Same.seq {K : PySem.W.Frag} {a : Addr} {xs : List V} (e : Same Hs H) (h : SqL K Hs a xs) : SqL K H a xs := h.imp (fun h => e.rd h) id
theorem Same.sqt {K : PySem.W.Frag} {a : Addr} {xs : List V} (e : Same Hs H) (h : SqT K Hs a xs) : SqT K H a xs := h.imp (fun h => e.rd h) id
theorem upd_free (e : L2.upd H p u b = none) : H b = none := by
  by_cases q : b = p
  · subst q; rw [upd_same] at e; cases e
  · rwa [upd_ne q] at e
end
section
variable (K : PySem.W.Frag) (mg : Str → Option Value) (r : Addr)
mutual
/-- the value v stands for the data d, all its objects in Hs -/
inductive RepD (Hs : Hp) : V → D → Prop
  | non : RepD Hs .non .non
  | bl (b : Bool) : RepD Hs (.bl b) (.bl b)
  | int (i : Int) : RepD Hs (.int i) (.int i)
  | str (s : Str) : RepD Hs (.str s) (.str s)
  | tup {p : Addr} {vs : List V} {ds : List D} : Hs p = some (.tup vs) → RepDs Hs vs ds → RepD Hs (.ref p) (.tup ds)
  | lst {p : Addr} {vs : List V} {ds : List D} : Hs p = some (.lst vs) → RepDs Hs vs ds → RepD Hs (.ref p) (.lst ds)
  | dicK {p : Addr} {kvs : List (Key × V)} {ds : List (D × D)} : Rd Hs p (.dK kvs) → RepP Hs (kvs.map fun q => (keyD q.1, q.2)) ds → RepD Hs (.ref p) (.dic ds)
  | dicT {p : Addr} {kvs : List (List Key × V)} {ds : List (D × D)} : Rd Hs p (.dT kvs) → RepP Hs (kvs.map fun q => (keyT q.1, q.2)) ds → RepD Hs (.ref p) (.dct ds)
  | scr {p : Addr} {ns : List Int} : SqL K Hs p (ns.map V.int) → RepD Hs (.ref p) (.scr ns)
  | tape : RepD Hs (.ref r) .tape
  | fn {f : Addr} {n : Str} : mg n = some (.ref f) → RepD Hs (.ref f) (.fn n)
  | ty (n : String) : RepD Hs (.ty n) (.ty n)
  | memo {p : Addr} {n : Int} : At Hs p (markM n) → RepD Hs (.ref p) (.memo n)
inductive RepDs (Hs : Hp) : List V → List D → Prop
  | nil : RepDs Hs [] []
  | cons {v : V} {vs : List V} {d : D} {ds : List D} : RepD Hs v d → RepDs Hs vs ds → RepDs Hs (v :: vs) (d :: ds)
inductive RepP (Hs : Hp) : List (D × V) → List (D × D) → Prop
  | nil : RepP Hs [] []
  | cons {k : D} {v : V} {vs : List (D × V)} {d : D} {ds : List (D × D)} : RepD Hs v d → RepP Hs vs ds → RepP Hs ((k, v) :: vs) ((k, d) :: ds)
end
end
section
variable {K : PySem.W.Frag} {mg : Str → Option Value} {r : Addr} {Hs Hs' Hs1 Hs2 H H' H1 H2 : Hp}
mutual
theorem RepD.mono (e : Same Hs Hs') : ∀ {v : V} {d : D}, RepD K mg r Hs v d → RepD K mg r Hs' v d
  | _, _, .non => .non
  | _, _, .bl b => .bl b
  | _, _, .int i => .int i
  | _, _, .str s => .str s
  | _, _, .tup h q => .tup (e _ _ h).tup (RepDs.mono e q)
  | _, _, .lst h q => .lst (e _ _ h).lst (RepDs.mono e q)
  | _, _, .dicK h q => .dicK (e.rd h) (RepP.mono e q)
  | _, _, .dicT h q => .dicT (e.rd h) (RepP.mono e q)
  | _, _, .scr h => .scr (Same.seq e h)
  | _, _, .tape => .tape
  | _, _, .fn h => .fn h
  | _, _, .ty n => .ty n
  | _, _, .memo h => .memo (At.mono e h)
theorem RepDs.mono (e : Same Hs Hs') : ∀ {vs : List V} {ds : List D}, RepDs K mg r Hs vs ds → RepDs K mg r Hs' vs ds
  | _, _, .nil => .nil
  | _, _, .cons h q => .cons (RepD.mono e h) (RepDs.mono e q)
theorem RepP.mono (e : Same Hs Hs') : ∀ {vs : List (D × V)} {ds : List (D × D)}, RepP K mg r Hs vs ds → RepP K mg r Hs' vs ds
  | _, _, .nil => .nil
  | _, _, .cons h q => .cons (RepD.mono e h) (RepP.mono e q)
end
theorem RepDs.length : ∀ {vs : List V} {ds : List D}, RepDs K mg r Hs vs ds → vs.length = ds.length
  | _, _, .nil => rfl
  | _, _, .cons _ q => by simp only [List.length_cons, RepDs.length q]
theorem RepDs.get : ∀ {vs : List V} {ds : List D} {i : Nat} {v : V}, RepDs K mg r Hs vs ds → vs[i]? = some v → ∃ d, ds[i]? = some d ∧ RepD K mg r Hs v d
  | _, _, _, _, .nil, e => by simp at e
  | _, _, 0, _, .cons h _, e => by simp at e; subst e; exact ⟨_, rfl, h⟩
  | _, _, i + 1, _, .cons _ q, e => by
    obtain ⟨d, h1, h2⟩ := RepDs.get (i := i) q (by simpa using e)
    exact ⟨d, by simpa using h1, h2⟩
theorem RepDs.get' : ∀ {vs : List V} {ds : List D} {i : Nat} {d : D}, RepDs K mg r Hs vs ds → ds[i]? = some d → ∃ v, vs[i]? = some v ∧ RepD K mg r Hs v d
  | _, _, _, _, .nil, e => by simp at e
  | _, _, 0, _, .cons h _, e => by simp at e; subst e; exact ⟨_, rfl, h⟩
  | _, _, i + 1, _, .cons _ q, e => by
    obtain ⟨d, h1, h2⟩ := RepDs.get' (i := i) q (by simpa using e)
    exact ⟨d, by simpa using h1, h2⟩
theorem RepDs.append : ∀ {vs ws : List V} {ds es : List D}, RepDs K mg r Hs vs ds → RepDs K mg r Hs ws es → RepDs K mg r Hs (vs ++ ws) (ds ++ es)
  | _, _, _, _, .nil, q => q
  | _, _, _, _, .cons h p, q => .cons h (RepDs.append p q)
theorem RepDs.drop : ∀ {vs : List V} {ds : List D} (n : Nat), RepDs K mg r Hs vs ds → RepDs K mg r Hs (vs.drop n) (ds.drop n)
  | _, _, 0, q => q
  | _, _, _ + 1, .nil => .nil
  | _, _, n + 1, .cons _ q => RepDs.drop n q
theorem RepDs.take : ∀ {vs : List V} {ds : List D} (n : Nat), RepDs K mg r Hs vs ds → RepDs K mg r Hs (vs.take n) (ds.take n)
  | _, _, 0, _ => .nil
  | _, _, _ + 1, .nil => .nil
  | _, _, n + 1, .cons h q => .cons h (RepDs.take n q)
theorem RepDs.set : ∀ {vs : List V} {ds : List D} {v : V} {d : D} (n : Nat), RepDs K mg r Hs vs ds → RepD K mg r Hs v d → RepDs K mg r Hs (vs.set n v) (ds.set n d)
  | _, _, _, _, _, .nil, _ => .nil
  | _, _, _, _, 0, .cons _ q, h => .cons h q
  | _, _, _, _, n + 1, .cons g q, h => .cons g (RepDs.set n q h)
theorem RepDs.dropLast : ∀ {vs : List V} {ds : List D}, RepDs K mg r Hs vs ds → RepDs K mg r Hs vs.dropLast ds.dropLast := by
  intro vs ds h
  rw [List.dropLast_eq_take, List.dropLast_eq_take, h.length]
  exact h.take _
theorem RepDs.reverse {vs : List V} {ds : List D} (h : RepDs K mg r Hs vs ds) : RepDs K mg r Hs vs.reverse ds.reverse := by
  induction vs generalizing ds with
  | nil => cases h; exact .nil
  | cons v vs ih =>
    cases h with
    | cons a b => rw [List.reverse_cons, List.reverse_cons]; exact (ih b).append (.cons a .nil)
theorem RepDs.ints : ∀ (ns : List Int), RepDs K mg r Hs (ns.map V.int) (ns.map D.int)
  | [] => .nil
  | n :: ns => .cons (.int n) (RepDs.ints ns)
theorem RepDs.ints_of : ∀ {ns : List Int} {vs : List V}, RepDs K mg r Hs vs (ns.map D.int) → vs = ns.map V.int
  | [], _, .nil => rfl
  | n :: ns, _, .cons h q => by cases h; rw [RepDs.ints_of q]; rfl
theorem RepDs.strs_of : ∀ {ns : List Str} {vs : List V}, RepDs K mg r Hs vs (ns.map D.str) → vs = ns.map V.str
  | [], _, .nil => rfl
  | n :: ns, _, .cons h q => by cases h; rw [RepDs.strs_of q]; rfl
theorem RepDs.bls_of : ∀ {ns : List Bool} {vs : List V}, RepDs K mg r Hs vs (ns.map D.bl) → vs = ns.map V.bl
  | [], _, .nil => rfl
  | n :: ns, _, .cons h q => by cases h; rw [RepDs.bls_of q]; rfl
theorem upd_new {H : Hp} {p : Addr} {o : HO} (h : H p = none) (a : Addr) (u : HO) (e : H a = some u) : upd H p o a = some u := by
  rw [upd_ne (ne_of_none e h)]
  exact e
theorem same_new {H : Hp} {p : Addr} {o : HO} (h : H p = none) : Same H (upd H p o) := .of (upd_new h)
end
section
variable (K : PySem.W.Frag) (mg : Str → Option Value) (r : Addr)
/-- what stands still, the heap, the tape at r -/
structure Wd (Hs H : Hp) (tp : List D) : Prop where
  sub : Same Hs H
  tn : Hs r = none
  tH : ∃ vs, H r = some (.lst vs) ∧ RepDs K mg r Hs vs tp
  nx : ∀ b φ, Hs b ≠ some (.ext φ)
structure Grow (Hs H Hs' H' : Hp) : Prop where
  keep : ∀ b o, H b = some o → b ≠ r → Hs b = none → H' b = some o
  free : ∀ b, H' b = none → H b = none
  ex : Same Hs Hs'
  new : ∀ b o, b ≠ r → Hs' b = some o → (∃ u, Hs b = some u) ∨ H b = none ∨ ∃ xs : StU, H b = some xs.1
  tup : ∀ b (xs : StU), H b = some xs.1 → H' b = some xs.1
end
section
variable {K : PySem.W.Frag} {mg : Str → Option Value} {r : Addr} {Hs Hs' Hs1 Hs2 H H' H1 H2 : Hp} {tp tp' : List D}
theorem Grow.refl (Hs H : Hp) : Grow r Hs H Hs H := ⟨fun _ _ e _ _ => e, fun _ e => e, Same.refl _, fun _ _ _ e => .inl ⟨_, e⟩, fun _ _ e => e⟩
theorem Grow.trans (a : Grow r Hs H Hs1 H1) (b : Grow r Hs1 H1 Hs2 H2) : Grow r Hs H Hs2 H2 where
  keep := fun c o e n hs => by
    cases z : Hs1 c with
    | none => exact b.keep c o (a.keep c o e n hs) n z
    | some u =>
      rcases a.new c u n z with ⟨_, q⟩ | q | ⟨xs, q⟩
      · rw [hs] at q; cases q
      · rw [e] at q; cases q
      · rw [e] at q; cases q
        exact b.tup c xs (a.tup c xs e)
  free := fun c e => a.free c (b.free c e)
  ex := a.ex.trans b.ex
  new := fun c o n e => by
    rcases b.new c o n e with ⟨u, q⟩ | q | ⟨xs, q⟩
    · exact a.new c u n q
    · exact .inr (.inl (a.free c q))
    · cases z : H c with
      | none => exact .inr (.inl rfl)
      | some u =>
        cases y : Hs c with
        | some v => exact .inl ⟨v, rfl⟩
        | none =>
          have := a.keep c u z n y
          rw [q] at this; cases this
          exact .inr (.inr ⟨xs, rfl⟩)
  tup := fun c xs e => b.tup c xs (a.tup c xs e)
theorem Grow.no {c : Addr} {o : HO} (a : Grow r Hs H Hs1 H1) (hs : Hs c = none) (e : H c = some o) (n : c ≠ r) (t : isSt o = false := by rfl) : Hs1 c = none := by
  cases z : Hs1 c with
  | none => rfl
  | some u =>
    rcases a.new c u n z with ⟨_, q⟩ | q | ⟨xs, q⟩
    · rw [hs] at q; cases q
    · rw [e] at q; cases q
    · rw [e] at q; exact (st_no t xs (Option.some.inj q)).elim
theorem Wd.ne {p : Addr} {o : HO} (w : Wd K mg r Hs H tp) (h : Hs p = some o) : p ≠ r := fun e => by
  rw [e, w.tn] at h; cases h
theorem Wd.fresh {p : Addr} (w : Wd K mg r Hs H tp) (h : H p = none) : Hs p = none ∧ p ≠ r := by
  refine ⟨w.sub.free h, fun e => ?_⟩
  obtain ⟨vs, q, _⟩ := w.tH
  rw [e, q] at h; cases h
/-- a new object that stands still -/
theorem Wd.alloc {p : Addr} {o : HO} (w : Wd K mg r Hs H tp) (h : H p = none) (no : ∀ φ, o ≠ .ext φ := by intros; nofun) : Grow r Hs H (upd Hs p o) (upd H p o) ∧ Wd K mg r (upd Hs p o) (upd H p o) tp := by
  obtain ⟨hs, ne⟩ := w.fresh h
  refine ⟨⟨fun b u e _ _ => upd_new h b u e, fun b e => upd_free e, same_new hs, fun b u n e => ?_, fun b xs e => upd_new h b _ e⟩, ⟨fun b u e => ?_, ?_, ?_, fun b φ e => ?_⟩⟩
  · by_cases q : b = p
    · subst q; exact .inr (.inl h)
    · rw [upd_ne q] at e; exact .inl ⟨_, e⟩
  · by_cases q : b = p
    · subst q; rw [upd_same] at e; exact .inl (by rw [upd_same]; exact e)
    · rw [upd_ne q] at e; exact (w.sub b u e).upd q fun xs z => by rw [h] at z; first | exact st_no rfl xs (Option.some.inj z) | cases z
  · rw [upd_ne ne.symm]; exact w.tn
  · obtain ⟨vs, q, z⟩ := w.tH
    exact ⟨vs, by rw [upd_ne ne.symm]; exact q, z.mono (same_new hs)⟩
  · by_cases q : b = p
    · subst q; rw [upd_same] at e; exact no φ (Option.some.inj e)
    · rw [upd_ne q] at e; exact w.nx b φ e
/-- a new object that does not stand still (yet) -/
theorem Wd.lay {p : Addr} {o : HO} (w : Wd K mg r Hs H tp) (h : H p = none) : Grow r Hs H Hs (upd H p o) ∧ Wd K mg r Hs (upd H p o) tp := by
  obtain ⟨hs, ne⟩ := w.fresh h
  refine ⟨⟨fun b u e _ _ => upd_new h b u e, fun b e => upd_free e, Same.refl _, fun b u n e => .inl ⟨_, e⟩, fun b xs e => upd_new h b _ e⟩, ⟨fun b u e => (w.sub b u e).keep (fun v q => upd_new h b v q) fun a xs e => upd_new h a _ e, w.tn, ?_, w.nx⟩⟩
  obtain ⟨vs, q, z⟩ := w.tH
  exact ⟨vs, by rw [upd_ne ne.symm]; exact q, z⟩
/-- an object that is not in Hs is written -/
theorem Wd.write {p : Addr} {o : HO} (w : Wd K mg r Hs H tp) (h : Hs p = none) (ne : p ≠ r) (nt : ∀ xs : StU, H p ≠ some xs.1) : Wd K mg r Hs (upd H p o) tp := by
  refine ⟨fun b u e => ?_, w.tn, ?_, w.nx⟩
  · exact (w.sub b u e).upd (ne_of_none e h) nt
  · obtain ⟨vs, q, z⟩ := w.tH
    exact ⟨vs, by rw [upd_ne ne.symm]; exact q, z⟩
end
inductive RE (α : Type) where
  | ok (a : α) (tp : List D)
  | exn (c : Str) (fs : List (Str × D)) (tp : List D)
  | stuck
def RE.bind {α β : Type} (x : RE α) (k : α → List D → RE β) : RE β := match x with
  | .ok a tp => k a tp
  | .exn c fs tp => .exn c fs tp
  | .stuck => .stuck
@[simp] theorem RE.bind_ok {α β : Type} (a : α) (tp : List D) (k : α → List D → RE β) : (RE.ok a tp).bind k = k a tp := rfl
@[simp] theorem RE.bind_exn {α β : Type} (c : Str) (fs : List (Str × D)) (tp : List D) (k : α → List D → RE β) : (RE.exn c fs tp : RE α).bind k = .exn c fs tp := rfl
@[simp] theorem RE.bind_stuck {α β : Type} (k : α → List D → RE β) : (RE.stuck : RE α).bind k = .stuck := rfl
def RE.of {α : Type} (o : Option α) (tp : List D) : RE α := match o with
  | some a => .ok a tp
  | none => .stuck
@[simp] theorem RE.of_some {α : Type} (a : α) (tp : List D) : RE.of (some a) tp = .ok a tp := rfl
@[simp] theorem RE.of_none {α : Type} (tp : List D) : (RE.of (none : Option α) tp) = .stuck := rfl
section
variable (K : PySem.W.Frag) (mg : Str → Option Value) (r : Addr)
/-- the dict of an exception: its fields -/
def ExD (Hs : Hp) (fs : List (Str × D)) (dx : Option Addr) : Prop :=
  (fs = [] ∧ dx = none) ∨ ∃ a gs, dx = some a ∧ Hs a = some (.xd gs) ∧ ∀ f, match fs.lookup f with
    | some d => ∃ v, gs.lookup f = some v ∧ RepD K mg r Hs v d
    | none => gs.lookup f = none
def Post {β α : Type} (Rp : Hp → Hp → β → α → Prop) (E : XK) (Hs H : Hp) (res : RE α) (Q : β → Hp → Prop) : Prop := match res with
  | .ok d tp' => ∀ v Hs' H', Grow r Hs H Hs' H' → Wd K mg r Hs' H' tp' → Rp Hs' H' v d → Q v H'
  | .exn c fs tp' => ∀ cv dx Hs' H', Grow r Hs H Hs' H' → Wd K mg r Hs' H' tp' → mg c = some cv → ExD K mg r Hs' fs dx → E cv dx H'
  | .stuck => False
end
section
variable {K : PySem.W.Frag} {mg : Str → Option Value} {r : Addr} {Hs Hs' Hs1 Hs2 H H' H1 H2 : Hp} {tp tp' : List D} {α β γ δ : Type} {R1 : Hp → Hp → β → α → Prop} {R2 : Hp → Hp → δ → γ → Prop} {E : XK}
theorem Post.shift {res : RE α} {Q : β → Hp → Prop} (g : Grow r Hs H Hs1 H1) (h : Post K mg r R1 E Hs H res Q) : Post K mg r R1 E Hs1 H1 res Q := by
  cases res with
  | ok d tp' => exact fun v Hs' H' g' w q => h v Hs' H' (g.trans g') w q
  | exn c fs tp' => exact fun cv dx Hs' H' g' w m x => h cv dx Hs' H' (g.trans g') w m x
  | stuck => exact h
theorem Post.imp {res : RE α} {Q Q' : β → Hp → Prop} (h : Post K mg r R1 E Hs H res Q) (k : ∀ v H', Q v H' → Q' v H') : Post K mg r R1 E Hs H res Q' := by
  cases res with
  | ok d tp' => exact fun v Hs' H' g' w q => k _ _ (h v Hs' H' g' w q)
  | exn c fs tp' => exact h
  | stuck => exact h
/-- one thing, then another -/
theorem Post.bind {res : RE α} {k : α → List D → RE γ} {Q : δ → Hp → Prop} {Q1 : β → Hp → Prop} (h : Post K mg r R2 E Hs H (res.bind k) Q)
    (step : ∀ v Hs1 H1 d tp1, res = .ok d tp1 → Grow r Hs H Hs1 H1 → Wd K mg r Hs1 H1 tp1 → R1 Hs1 H1 v d → Post K mg r R2 E Hs1 H1 (k d tp1) Q → Q1 v H1) : Post K mg r R1 E Hs H res Q1 := by
  cases res with
  | ok d tp' => exact fun v Hs' H' g' w q => step v Hs' H' d tp' rfl g' w q (Post.shift g' h)
  | exn c fs tp' => exact h
  | stuck => exact h
theorem Post.ok_of {o : Option α} {Q : β → Hp → Prop} (h : Post K mg r R1 E Hs H (RE.of o tp) Q) : ∃ d, o = some d ∧ ∀ v Hs' H', Grow r Hs H Hs' H' → Wd K mg r Hs' H' tp → R1 Hs' H' v d → Q v H' := by
  cases o with
  | none => exact h.elim
  | some d => exact ⟨d, rfl, h⟩
end
end G
set_option maxHeartbeats 1000000
namespace G
open PySem PySem.Spec PyProof.Rows L2
abbrev DEnv := List (Option D)
abbrev SE (α : Type) := DEnv → List D → RE α
section
variable (K : PySem.W.Frag) (mg : Str → Option Value) (r : Addr)
/-- the object at p (its own slot's alone) holds d, its items stand still -/
def OwnAt (Hs H : Hp) (p : Addr) : D → Prop
  | .lst ds => ∃ vs, H p = some (.lst vs) ∧ RepDs K mg r Hs vs ds
  | .dic ds => ∃ kvs : List (Key × V), H p = some (.dK kvs) ∧ RepP K mg r Hs (kvs.map fun q => (keyD q.1, q.2)) ds
  | .dct ds => ∃ kvs : List (List Key × V), H p = some (.dT kvs) ∧ RepP K mg r Hs (kvs.map fun q => (keyT q.1, q.2)) ds
  | _ => False
/-- as RepD; the topmost object may be one that changes -/
def RepT (Hs H : Hp) (v : V) (d : D) : Prop := RepD K mg r Hs v d ∨ ∃ p, v = .ref p ∧ (p ≠ r ∧ Hs p = none) ∧ OwnAt K mg r Hs H p d
structure Rel (O : List Nat) (Hs0 H0 Hs H : Hp) (σ : L2.St) (env : DEnv) (tp : List D) : Prop where
  wd : Wd K mg r Hs H tp
  gr : Grow r Hs0 H0 Hs H
  len : σ.length = env.length
  vars : ∀ i d, env[i]? = some (some d) → i ∉ O → ∃ v, σ[i]? = some (some v) ∧ RepD K mg r Hs v d
  own : ∀ i, i ∈ O → ∃ d p, env[i]? = some (some d) ∧ σ[i]? = some (some (.ref p)) ∧ Hs p = none ∧ H0 p = none ∧ p ≠ r ∧ OwnAt K mg r Hs H p d
  dis : ∀ i j p, i ∈ O → j ∈ O → σ[i]? = some (some (.ref p)) → σ[j]? = some (some (.ref p)) → i = j
end
section
variable {K : PySem.W.Frag} {mg : Str → Option Value} {r : Addr} {Hs0 H0 Hs Hs' H H' : Hp} {O : List Nat} {σ : L2.St} {env : DEnv} {tp tp' : List D} {p : Addr} {d : D} {v : V}
theorem OwnAt.grow (h : OwnAt K mg r Hs H p d) (e : Same Hs Hs') (k : ∀ o, H p = some o → H' p = some o) : OwnAt K mg r Hs' H' p d := by
  cases d with
  | lst ds => obtain ⟨vs, a, b⟩ := h; exact ⟨vs, k _ a, b.mono e⟩
  | dic ds => obtain ⟨kvs, a, b⟩ := h; exact ⟨kvs, k _ a, RepP.mono e b⟩
  | dct ds => obtain ⟨kvs, a, b⟩ := h; exact ⟨kvs, k _ a, RepP.mono e b⟩
  | _ => exact h.elim
theorem OwnAt.ntup (h : OwnAt K mg r Hs H p d) : ∀ o, H p = some o → isSt o = false := fun o e => by
  cases d with
  | lst ds => obtain ⟨vs, a, b⟩ := h; rw [e] at a; cases a; rfl
  | dic ds => obtain ⟨kvs, a, b⟩ := h; rw [e] at a; cases a; rfl
  | dct ds => obtain ⟨kvs, a, b⟩ := h; rw [e] at a; cases a; rfl
  | _ => exact h.elim
theorem OwnAt.next (h : OwnAt K mg r Hs H p d) : ∀ φ, H p ≠ some (.ext φ) := fun φ e => by
  cases d with
  | lst ds => obtain ⟨vs, a, b⟩ := h; rw [e] at a; cases a
  | dic ds => obtain ⟨kvs, a, b⟩ := h; rw [e] at a; cases a
  | dct ds => obtain ⟨kvs, a, b⟩ := h; rw [e] at a; cases a
  | _ => exact h.elim
theorem OwnAt.there (h : OwnAt K mg r Hs H p d) : ∃ o, H p = some o := by
  cases d with
  | lst ds => obtain ⟨vs, a, b⟩ := h; exact ⟨_, a⟩
  | dic ds => obtain ⟨kvs, a, b⟩ := h; exact ⟨_, a⟩
  | dct ds => obtain ⟨kvs, a, b⟩ := h; exact ⟨_, a⟩
  | _ => exact h.elim
/-- an owned object comes to stand still -/
theorem OwnAt.rep (h : OwnAt K mg r Hs H p d) (e : Same Hs Hs') (k : ∀ o, H p = some o → Hs' p = some o) : RepD K mg r Hs' (.ref p) d := by
  cases d with
  | lst ds => obtain ⟨vs, a, b⟩ := h; exact .lst (k _ a) (b.mono e)
  | dic ds => obtain ⟨kvs, a, b⟩ := h; exact .dicK (.of (k _ a)) (RepP.mono e b)
  | dct ds => obtain ⟨kvs, a, b⟩ := h; exact .dicT (.of (k _ a)) (RepP.mono e b)
  | _ => exact h.elim
theorem RepT.grow (h : RepT K mg r Hs H v d) (g : Grow r Hs H Hs' H') : RepT K mg r Hs' H' v d := by
  rcases h with h | ⟨p, e, ⟨n, hs⟩, h⟩
  · exact .inl (h.mono g.ex)
  · obtain ⟨o, q⟩ := h.there
    exact .inr ⟨p, e, ⟨n, g.no hs q n (h.ntup o q)⟩, h.grow g.ex fun o q => g.keep p o q n hs⟩
theorem RepD.top (h : RepD K mg r Hs v d) : RepT K mg r Hs H v d := .inl h
theorem Rel.grow (R : Rel K mg r O Hs0 H0 Hs H σ env tp) (g : Grow r Hs H Hs' H') (w : Wd K mg r Hs' H' tp') : Rel K mg r O Hs0 H0 Hs' H' σ env tp' where
  wd := w
  gr := R.gr.trans g
  len := R.len
  vars := fun i d e n => by
    obtain ⟨v, a, b⟩ := R.vars i d e n
    exact ⟨v, a, b.mono g.ex⟩
  own := fun i hi => by
    obtain ⟨d, p, a, b, c, c0, n, o⟩ := R.own i hi
    refine ⟨d, p, a, b, ?_, c0, n, o.grow g.ex fun u q => g.keep p u q n c⟩
    obtain ⟨u', q'⟩ := o.there
    exact g.no c q' n (o.ntup u' q')
  dis := R.dis
end
section
variable (K : PySem.W.Frag) (mg : Str → Option Value) (r : Addr) (X : Cx) (O : List Nat) (E : XK)
abbrev PostE : Hp → Hp → RE D → VK → Prop := Post K mg r (fun Hs _ v d => RepD K mg r Hs v d) E
abbrev PostO : Hp → Hp → RE D → VK → Prop := Post K mg r (fun Hs H v d => RepT K mg r Hs H v d) E
abbrev PostB : Hp → Hp → RE Bool → (Bool → Hp → Prop) → Prop := Post K mg r (fun _ _ (a b : Bool) => a = b) E
abbrev PostA : Hp → Hp → RE (List D) → (List V → Hp → Prop) → Prop := Post K mg r (fun Hs _ v d => RepDs K mg r Hs v d) E
abbrev PostAO : Hp → Hp → RE (List D) → (List V → Hp → Prop) → Prop := Post K mg r (fun Hs H v d => Paired (RepT K mg r Hs H) v d) E
/-- the expression e gives what m says -/
structure GE (e : Expr) (t : TE) (m : SE D) : Prop where
  pe : PE X e t
  snd : ∀ Hs0 H0 Hs H σ env tp Q, Rel K mg r O Hs0 H0 Hs H σ env tp → PostE K mg r E Hs H (m env tp) Q → t σ H Q
/-- as GE, the value may be a slot's own object -/
structure GO (e : Expr) (t : TE) (m : SE D) : Prop where
  pe : PE X e t
  snd : ∀ Hs0 H0 Hs H σ env tp Q, Rel K mg r O Hs0 H0 Hs H σ env tp → PostO K mg r E Hs H (m env tp) Q → t σ H Q
structure GT (e : Expr) (t : TT) (m : SE Bool) : Prop where
  pe : PT X e t
  snd : ∀ Hs0 H0 Hs H σ env tp Q, Rel K mg r O Hs0 H0 Hs H σ env tp → PostB K mg r E Hs H (m env tp) Q → t σ H Q
structure GW (e : Expr) (t : TT) (m : SE Bool) : Prop where
  pe : PW X e t
  snd : ∀ Hs0 H0 Hs H σ env tp Q, Rel K mg r O Hs0 H0 Hs H σ env tp → PostB K mg r E Hs H (m env tp) Q → t σ H Q
structure GA (es : List Expr) (t : TA) (m : SE (List D)) : Prop where
  pe : PA X es t
  snd : ∀ Hs0 H0 Hs H σ env tp Q, Rel K mg r O Hs0 H0 Hs H σ env tp → PostA K mg r E Hs H (m env tp) Q → t σ H Q
structure GAO (es : List Expr) (t : TA) (m : SE (List D)) : Prop where
  pe : PA X es t
  snd : ∀ Hs0 H0 Hs H σ env tp Q, Rel K mg r O Hs0 H0 Hs H σ env tp → PostAO K mg r E Hs H (m env tp) Q → t σ H Q
end
section
variable {K : PySem.W.Frag} {mg : Str → Option Value} {r : Addr} {X : Cx} {O : List Nat} {E : XK} {e a b c : Expr} {es : List Expr} {pos : Pos} {t ta tb tc : TE} {tt tu : TT} {ts : TA}
theorem GE.go {m : SE D} (h : GE K mg r X O E e t m) : GO K mg r X O E e t m := by
  obtain ⟨ht, hs⟩ := h
  refine ⟨ht, fun Hs0 H0 Hs H σ env tp Q R P => hs _ _ _ _ _ _ _ _ R ?_⟩
  unfold PostO at P
  cases q : m env tp with
  | ok d tp' =>
    rw [q] at P
    exact fun v Hs' H' g w x => P v Hs' H' g w (.inl x)
  | exn c fs tp' => rw [q] at P; exact P
  | stuck => rw [q] at P; exact P
def vE (i : Nat) : SE D := fun env tp => match env[i]? with
  | some (some d) => .ok d tp
  | _ => .stuck
def cE (d : D) : SE D := fun _ tp => .ok d tp
theorem ge_var (i : Nat) {x : Str} (hO : i ∉ O := by decide) (hN : X.N[i]? = some x := by rfl) (hv : Vis X.env.scope x := by first | exact Or.inl rfl | exact Or.inr (Or.inl rfl) | exact Or.inr (Or.inr rfl)) (hd : (x == ("__debug__" : Str)) = false := by decide)
    (hcd : (x == ("__classdict__" : Str)) = false := by decide) : GE K mg r X O E (.Name x pos) (tVar i) (vE i) := by
  refine ⟨pe_var hN hv hd hcd, fun Hs0 H0 Hs H σ env tp Q R P => ?_⟩
  unfold vE at P
  split at P
  · rename_i d q
    obtain ⟨v, h1, h2⟩ := R.vars i d q hO
    exact ⟨v, h1, P v Hs H (Grow.refl _ _) R.wd h2⟩
  · exact P.elim
theorem go_own (i : Nat) {x : Str} (hO : i ∈ O := by decide) (hN : X.N[i]? = some x := by rfl) (hv : Vis X.env.scope x := by first | exact Or.inl rfl | exact Or.inr (Or.inl rfl) | exact Or.inr (Or.inr rfl)) (hd : (x == ("__debug__" : Str)) = false := by decide)
    (hcd : (x == ("__classdict__" : Str)) = false := by decide) : GO K mg r X O E (.Name x pos) (tVar i) (vE i) := by
  refine ⟨pe_var hN hv hd hcd, fun Hs0 H0 Hs H σ env tp Q R P => ?_⟩
  obtain ⟨d, p, h1, h2, h3, h4, h5, h6⟩ := R.own i hO
  unfold vE at P
  rw [h1] at P
  exact ⟨_, h2, P _ Hs H (Grow.refl _ _) R.wd (.inr ⟨p, rfl, ⟨h5, h3⟩, h6⟩)⟩
theorem ge_c {e : Expr} {v : V} {d : D} (h : PE X e (tC v)) (hr : ∀ Hs, RepD K mg r Hs v d) : GE K mg r X O E e (tC v) (cE d) :=
  ⟨h, fun Hs0 H0 Hs H σ env tp Q R P => P v Hs H (Grow.refl _ _) R.wd (hr Hs)⟩
theorem ge_int {i j pos} : GE K mg r X O E (.Constant (.int i) j pos) (tC (.int i)) (cE (.int i)) := ge_c pe_int fun _ => .int i
theorem ge_bl {i j pos} : GE K mg r X O E (.Constant (.bool i) j pos) (tC (.bl i)) (cE (.bl i)) := ge_c pe_bl fun _ => .bl i
theorem ge_non {j pos} : GE K mg r X O E (.Constant .none j pos) (tC .non) (cE .non) := ge_c pe_non fun _ => .non
theorem ge_str {i j pos} : GE K mg r X O E (.Constant (.str i) j pos) (tC (.str i)) (cE (.str i)) := ge_c pe_str fun _ => .str i
theorem ge_gint {x : Str} {i : Int} (hm : ∃ t, X.mg x = some (.int i t)) (hg : Gl X x := by rfl) (hd : (x == ("__debug__" : Str)) = false := by decide) : GE K mg r X O E (.Name x pos) (tC (.int i)) (cE (.int i)) := by
  obtain ⟨t, hm⟩ := hm
  exact ge_c (v := .int i) (pe_glob hg hm ⟨t, rfl⟩ hd) fun _ => .int i
theorem ge_gstr {x : Str} {i : Str} (hm : ∃ t, X.mg x = some (.str i t)) (hg : Gl X x := by rfl) (hd : (x == ("__debug__" : Str)) = false := by decide) : GE K mg r X O E (.Name x pos) (tC (.str i)) (cE (.str i)) := by
  obtain ⟨t, hm⟩ := hm
  exact ge_c (v := .str i) (pe_glob hg hm ⟨t, rfl⟩ hd) fun _ => .str i
def nilA : SE (List D) := fun _ tp => .ok [] tp
def consA (m : SE D) (ms : SE (List D)) : SE (List D) := fun env tp => (m env tp).bind fun d tp1 => (ms env tp1).bind fun ds tp2 => .ok (d :: ds) tp2
theorem ga_nil : GA K mg r X O E [] tNil nilA := ⟨pa_nil, fun Hs0 H0 Hs H σ env tp Q R P => P [] Hs H (Grow.refl _ _) R.wd .nil⟩
theorem gao_nil : GAO K mg r X O E [] tNil nilA := ⟨pa_nil, fun Hs0 H0 Hs H σ env tp Q R P => P [] Hs H (Grow.refl _ _) R.wd .nil⟩
theorem ga_cons {m : SE D} {ms : SE (List D)} (h : GE K mg r X O E e t m) (hs : GA K mg r X O E es ts ms) (hst : starEach (e :: es) X.env = (false, eval e X.env) :: starEach es X.env := by rfl) : GA K mg r X O E (e :: es) (tCons t ts) (consA m ms) := by
  obtain ⟨ht, h1⟩ := h
  obtain ⟨hts, h2⟩ := hs
  refine ⟨pa_cons ht hts hst, fun Hs0 H0 Hs H σ env tp Q R P => ?_⟩
  refine h1 _ _ _ _ _ _ _ _ R (Post.bind P fun v Hs1 H1 d tp1 _ g w rv P1 => ?_)
  refine h2 _ _ _ _ _ _ _ _ (R.grow g w) (Post.bind P1 fun vs Hs2 H2 ds tp2 _ g2 w2 rs P2 => ?_)
  exact P2 _ Hs2 H2 (Grow.refl _ _) w2 (.cons (rv.mono g2.ex) rs)
theorem gao_cons {m : SE D} {ms : SE (List D)} (h : GO K mg r X O E e t m) (hs : GAO K mg r X O E es ts ms) (hst : starEach (e :: es) X.env = (false, eval e X.env) :: starEach es X.env := by rfl) : GAO K mg r X O E (e :: es) (tCons t ts) (consA m ms) := by
  obtain ⟨ht, h1⟩ := h
  obtain ⟨hts, h2⟩ := hs
  refine ⟨pa_cons ht hts hst, fun Hs0 H0 Hs H σ env tp Q R P => ?_⟩
  refine h1 _ _ _ _ _ _ _ _ R (Post.bind P fun v Hs1 H1 d tp1 _ g w rv P1 => ?_)
  refine h2 _ _ _ _ _ _ _ _ (R.grow g w) (Post.bind P1 fun vs Hs2 H2 ds tp2 _ g2 w2 rs P2 => ?_)
  exact P2 _ Hs2 H2 (Grow.refl _ _) w2 (.cons (rv.grow g2) rs)
def Fresh (K : PySem.W.Frag) (mg : Str → Option Value) (r : Addr) (Hb : Hp) (Hs H : Hp) (v : V) (d : D) : Prop := ∃ p, v = .ref p ∧ Hb p = none ∧ Hs p = none ∧ p ≠ r ∧ OwnAt K mg r Hs H p d
structure GF (K : PySem.W.Frag) (mg : Str → Option Value) (r : Addr) (X : Cx) (O : List Nat) (E : XK) (e : Expr) (t : TE) (m : SE D) : Prop where
  pe : PE X e t
  snd : ∀ Hs0 H0 Hs H σ env tp Q, Rel K mg r O Hs0 H0 Hs H σ env tp → Post K mg r (Fresh K mg r H) E Hs H (m env tp) Q → t σ H Q
/-- it comes to stand still -/
theorem freeze_fresh {Hb Hs H : Hp} {tp : List D} {v : V} {d : D} (w : Wd K mg r Hs H tp) (h : Fresh K mg r Hb Hs H v d) : ∃ Hs', Same Hs Hs' ∧ Wd K mg r Hs' H tp ∧ RepD K mg r Hs' v d ∧ (∀ b o, Hs' b = some o → (∃ u, Hs b = some u) ∨ Hb b = none) := by
  obtain ⟨p, rfl, hb, hs, ne, oa⟩ := h
  obtain ⟨o, ho⟩ := oa.there
  have e : Same Hs (upd Hs p o) := same_new hs
  refine ⟨upd Hs p o, e, ⟨fun b u q => ?_, by rw [upd_ne ne.symm]; exact w.tn, ?_, fun b φ q => ?_⟩, oa.rep e (fun u q => ?_), fun b u q => ?_⟩
  · by_cases z : b = p
    · subst z; rw [upd_same] at q; exact .inl (ho.trans q)
    · rw [upd_ne z] at q; exact w.sub b u q
  · obtain ⟨vs, a, b⟩ := w.tH
    exact ⟨vs, a, b.mono e⟩
  · by_cases z : b = p
    · subst z; rw [upd_same] at q; exact oa.next φ (ho.trans q)
    · rw [upd_ne z] at q; exact w.nx b φ q
  · rw [ho] at q; cases q; exact upd_same
  · by_cases z : b = p
    · subst z; exact .inr hb
    · rw [upd_ne z] at q; exact .inl ⟨_, q⟩
theorem GF.ge {m : SE D} (h : GF K mg r X O E e t m) : GE K mg r X O E e t m := by
  obtain ⟨ht, hs⟩ := h
  refine ⟨ht, fun Hs0 H0 Hs H σ env tp Q R P => hs _ _ _ _ _ _ _ _ R ?_⟩
  unfold PostE at P
  cases q : m env tp with
  | ok d tp' =>
    rw [q] at P
    intro v Hs' H' g w x
    obtain ⟨Hs2, e, w2, rv, nw⟩ := freeze_fresh w x
    refine P v Hs2 H' ⟨g.keep, g.free, g.ex.trans e, fun b o n z => ?_, g.tup⟩ w2 rv
    rcases nw b o z with ⟨u, z⟩ | z
    · exact g.new b u n z
    · exact .inr (.inl z)
  | exn c fs tp' => rw [q] at P; exact P
  | stuck => rw [q] at P; exact P
def tupE (ms : SE (List D)) : SE D := fun env tp => (ms env tp).bind fun ds tp1 => if ds.length ≤ sizeLine then .ok (.tup ds) tp1 else .stuck
def lstE (ms : SE (List D)) : SE D := fun env tp => (ms env tp).bind fun ds tp1 => if ds.length ≤ sizeLine then .ok (.lst ds) tp1 else .stuck
theorem ge_tup {ms : SE (List D)} {x1} (hs : GA K mg r X O E es ts ms) : GE K mg r X O E (.Tuple es x1 pos) (tTup ts) (tupE ms) := by
  obtain ⟨hts, h2⟩ := hs
  refine ⟨pe_tup hts, fun Hs0 H0 Hs H σ env tp Q R P => ?_⟩
  refine h2 _ _ _ _ _ _ _ _ R (Post.bind P fun vs Hs1 H1 ds tp1 _ g w rs P1 => ?_)
  by_cases q : ds.length ≤ sizeLine
  · rw [if_pos q] at P1
    refine ⟨by rw [rs.length]; exact q, fun p hp => ?_⟩
    obtain ⟨g2, w2⟩ := w.alloc (o := .tup vs) hp
    exact P1 _ _ _ g2 w2 (.tup upd_same (rs.mono g2.ex))
  · rw [if_neg q] at P1; exact P1.elim
/-- what a new object at p gives to a wish of a fresh one -/
theorem fresh_new {Hs H Hs1 H1 : Hp} {p : Addr} {o : HO} {tp : List D} {d : D} (g : Grow r Hs H Hs1 H1) (w : Wd K mg r Hs1 H1 tp) (hp : H1 p = none) (ho : OwnAt K mg r Hs1 (upd H1 p o) p d) :
    Grow r Hs H Hs1 (upd H1 p o) ∧ Wd K mg r Hs1 (upd H1 p o) tp ∧ Fresh K mg r H Hs1 (upd H1 p o) (.ref p) d := by
  obtain ⟨g2, w2⟩ := w.lay (o := o) hp
  obtain ⟨f1, f2⟩ := w.fresh hp
  refine ⟨g.trans g2, w2, p, rfl, ?_, f1, f2, ho⟩
  exact g.free p hp
theorem gf_lst {ms : SE (List D)} (hs : GA K mg r X O E es ts ms) : GF K mg r X O E (.List es pos) (tLst ts) (lstE ms) := by
  obtain ⟨hts, h2⟩ := hs
  refine ⟨pe_lst hts, fun Hs0 H0 Hs H σ env tp Q R P => ?_⟩
  unfold lstE at P
  refine h2 _ _ _ _ _ _ _ _ R ?_
  cases q : ms env tp with
  | ok ds tp1 =>
    rw [q] at P
    intro vs Hs1 H1 g w rs
    by_cases q : ds.length ≤ sizeLine
    · simp only [RE.bind_ok, if_pos q] at P
      refine ⟨by rw [rs.length]; exact q, fun p hp => ?_⟩
      obtain ⟨a, b, c⟩ := fresh_new (o := .lst vs) (d := .lst ds) g w hp ⟨vs, upd_same, rs⟩
      exact P _ _ _ a b c
    · simp only [RE.bind_ok, if_neg q] at P; exact P.elim
  | exn c fs tp1 => rw [q] at P; exact P
  | stuck => rw [q] at P; exact P
def OpS (K : PySem.W.Frag) (mg : Str → Option Value) (r : Addr) (R : R2) (f : D → D → Option D) : Prop := ∀ Hs H tp x y d e z Q, Wd K mg r Hs H tp → RepT K mg r Hs H x d → RepT K mg r Hs H y e → f d e = some z →
  (∀ v Hs' H', Grow r Hs H Hs' H' → Wd K mg r Hs' H' tp → RepD K mg r Hs' v z → Q v H') → R x y H Q
def binE (f : D → D → Option D) (ma mb : SE D) : SE D := fun env tp => (ma env tp).bind fun d tp1 => (mb env tp1).bind fun e tp2 => RE.of (f d e) tp2
theorem bin_sound {R : R2} {f : D → D → Option D} {ma mb : SE D} {ta tb : TE} (hf : OpS K mg r R f) (h1 : ∀ Hs0 H0 Hs H σ env tp Q, Rel K mg r O Hs0 H0 Hs H σ env tp → PostO K mg r E Hs H (ma env tp) Q → ta σ H Q)
    (h2 : ∀ Hs0 H0 Hs H σ env tp Q, Rel K mg r O Hs0 H0 Hs H σ env tp → PostO K mg r E Hs H (mb env tp) Q → tb σ H Q) :
    ∀ Hs0 H0 Hs H σ env tp Q, Rel K mg r O Hs0 H0 Hs H σ env tp → PostE K mg r E Hs H (binE f ma mb env tp) Q → tOp R ta tb σ H Q := by
  intro Hs0 H0 Hs H σ env tp Q Rl P
  refine h1 _ _ _ _ _ _ _ _ Rl (Post.bind P fun v Hs1 H1 d tp1 _ g w rv P1 => ?_)
  refine h2 _ _ _ _ _ _ _ _ (Rl.grow g w) (Post.bind P1 fun u Hs2 H2 e tp2 _ g2 w2 ru P2 => ?_)
  obtain ⟨z, hz, k⟩ := Post.ok_of P2
  exact hf _ _ _ _ _ _ _ _ _ w2 (rv.grow g2) ru hz k
theorem ge_op {op : Operator} {R : R2} {f : D → D → Option D} {ma mb : SE D} (ho : OpR X (binaryOp op) R) (hf : OpS K mg r R f) (ha : GO K mg r X O E a ta ma) (hb : GO K mg r X O E b tb mb) : GE K mg r X O E (.BinOp a op b pos) (tOp R ta tb) (binE f ma mb) :=
  ⟨pe_op ho ha.pe hb.pe, bin_sound hf ha.snd hb.snd⟩
theorem ge_cmp {op : CmpOp} {R : R2} {f : D → D → Option D} {ma mb : SE D} (ho : OpR X (compareOp op) R) (hf : OpS K mg r R f) (ha : GO K mg r X O E a ta ma) (hb : GO K mg r X O E b tb mb) (hm : behindInMarks op b = false) : GE K mg r X O E (.Compare a [op] [b] pos) (tOp R ta tb) (binE f ma mb) :=
  ⟨pe_cmpR ho ha.pe hb.pe hm, bin_sound hf ha.snd hb.snd⟩
/-- two rules for one operator: f is told by the one or the other -/
theorem OpS.or {R R' : R2} {f f1 f2 : D → D → Option D} (h : OpS K mg r R f1) (h' : OpS K mg r R' f2) (hf : ∀ d e z, f d e = some z → f1 d e = some z ∨ f2 d e = some z) : OpS K mg r (fun x y H Q => R x y H Q ∨ R' x y H Q) f := by
  intro Hs H tp x y d e z Q w rx ry hz k
  rcases hf d e z hz with q | q
  · exact .inl (h Hs H tp x y d e z Q w rx ry q k)
  · exact .inr (h' Hs H tp x y d e z Q w rx ry q k)
def chainE (f g : D → D → Option D) (ma mb mc : SE D) : SE D := fun env tp => (ma env tp).bind fun d tp1 => (mb env tp1).bind fun e tp2 => match f d e with
  | some (.bl true) => (mc env tp2).bind fun c tp3 => RE.of (g e c) tp3
  | some (.bl false) => .ok (.bl false) tp2
  | _ => .stuck
theorem chain_sound {R R' : R2} {f g : D → D → Option D} {ma mb mc : SE D} (hf : OpS K mg r R f) (hg : OpS K mg r R' g) (ha : GO K mg r X O E a ta ma) (hb : GO K mg r X O E b tb mb) (hc : GO K mg r X O E c tc mc) :
    ∀ Hs0 H0 Hs H σ env tp Q, Rel K mg r O Hs0 H0 Hs H σ env tp → PostE K mg r E Hs H (chainE f g ma mb mc env tp) Q → tChain R R' ta tb tc σ H Q := by
  intro Hs0 H0 Hs H σ env tp Q Rl P
  refine ha.snd _ _ _ _ _ _ _ _ Rl (Post.bind P fun v Hs1 H1 d tp1 _ g1 w rv P1 => ?_)
  refine hb.snd _ _ _ _ _ _ _ _ (Rl.grow g1 w) (Post.bind P1 fun u Hs2 H2 e tp2 _ g2 w2 ru P2 => ?_)
  cases q : f d e with
  | none => rw [q] at P2; exact P2.elim
  | some z =>
    rw [q] at P2
    refine hf _ _ _ _ _ _ _ _ _ w2 (rv.grow g2) ru q fun y Hs3 H3 g3 w3 ry => ?_
    have P3 := Post.shift g3 P2
    cases z with
    | bl k =>
      cases ry
      refine ⟨k, rfl, ?_⟩
      cases k with
      | false => exact iteF (P3 _ Hs3 H3 (Grow.refl _ _) w3 (.bl _))
      | true =>
        refine iteT (hc.snd _ _ _ _ _ _ _ _ (Rl.grow ((g1.trans g2).trans g3) w3) (Post.bind P3 fun x Hs4 H4 c tp4 _ g4 w4 rx P4 => ?_))
        obtain ⟨z, hz, k⟩ := Post.ok_of P4
        exact hg _ _ _ _ _ _ _ _ _ w4 ((ru.grow g3).grow g4) rx hz k
    | _ => exact P3.elim
theorem ge_chain {op op' : CmpOp} {R R' : R2} {f g : D → D → Option D} {ma mb mc : SE D} (ho : OpR X (compareOp op) R) (ho' : OpR X (compareOp op') R') (hf : OpS K mg r R f) (hg : OpS K mg r R' g) (ha : GO K mg r X O E a ta ma) (hb : GO K mg r X O E b tb mb) (hc : GO K mg r X O E c tc mc)
    (hm : lastMarks [op, op'] [b, c] = false := by with_unfolding_all rfl) : GE K mg r X O E (.Compare a [op, op'] [b, c] pos) (tChain R R' ta tb tc) (chainE f g ma mb mc) :=
  ⟨pe_chain ho ho' ha.pe hb.pe hc.pe hm, chain_sound hf hg ha hb hc⟩
theorem ge_ix {R : R2} {f : D → D → Option D} {ma mb : SE D} (ho : IxR X R) (hf : OpS K mg r R f) (ha : GO K mg r X O E a ta ma) (hb : GO K mg r X O E b tb mb) (hs : PlainIx b := by exact fun _ _ => rfl) : GE K mg r X O E (.Subscript a b pos) (tOp R ta tb) (binE f ma mb) :=
  ⟨pe_ix ho ha.pe hb.pe hs, bin_sound hf ha.snd hb.snd⟩
def UnS (K : PySem.W.Frag) (mg : Str → Option Value) (r : Addr) (R : V → Hp → VK → Prop) (f : D → Option D) : Prop := ∀ Hs H tp x d z Q, Wd K mg r Hs H tp → RepT K mg r Hs H x d → f d = some z →
  (∀ v Hs' H', Grow r Hs H Hs' H' → Wd K mg r Hs' H' tp → RepD K mg r Hs' v z → Q v H') → R x H Q
def unE (f : D → Option D) (ma : SE D) : SE D := fun env tp => (ma env tp).bind fun d tp1 => RE.of (f d) tp1
theorem ge_un {op : UnaryOp} {R : V → Hp → VK → Prop} {f : D → Option D} {ma : SE D} (ho : UnR X (unaryOp op) R) (hf : UnS K mg r R f) (ha : GO K mg r X O E a ta ma) : GE K mg r X O E (.UnaryOp op a pos) (tUn R ta) (unE f ma) := by
  refine ⟨pe_un ho ha.pe, fun Hs0 H0 Hs H σ env tp Q Rl P => ?_⟩
  refine ha.snd _ _ _ _ _ _ _ _ Rl (Post.bind P fun v Hs1 H1 d tp1 _ g w rv P1 => ?_)
  obtain ⟨z, hz, k⟩ := Post.ok_of P1
  exact hf _ _ _ _ _ _ _ w rv hz k
def CallS (K : PySem.W.Frag) (mg : Str → Option Value) (r : Addr) (R : List V → Hp → VK → Prop) (f : List D → Option D) : Prop := ∀ Hs H tp xs ds z Q, Wd K mg r Hs H tp → Paired (RepT K mg r Hs H) xs ds → f ds = some z →
  (∀ v Hs' H', Grow r Hs H Hs' H' → Wd K mg r Hs' H' tp → RepD K mg r Hs' v z → Q v H') → R xs H Q
def callB (f : List D → Option D) (ms : SE (List D)) : SE D := fun env tp => (ms env tp).bind fun ds tp1 => RE.of (f ds) tp1
theorem callB_sound {R : List V → Hp → VK → Prop} {f : List D → Option D} {ms : SE (List D)} (hf : CallS K mg r R f) (h2 : ∀ Hs0 H0 Hs H σ env tp Q, Rel K mg r O Hs0 H0 Hs H σ env tp → PostAO K mg r E Hs H (ms env tp) Q → ts σ H Q) :
    ∀ Hs0 H0 Hs H σ env tp Q, Rel K mg r O Hs0 H0 Hs H σ env tp → PostE K mg r E Hs H (callB f ms env tp) Q → tCB R ts σ H Q := by
  intro Hs0 H0 Hs H σ env tp Q Rl P
  refine h2 _ _ _ _ _ _ _ _ Rl (Post.bind P fun v Hs1 H1 d tp1 _ g w rv P1 => ?_)
  obtain ⟨z, hz, k⟩ := Post.ok_of P1
  exact hf _ _ _ _ _ _ _ w rv hz k
theorem ge_callB {x : Str} {id : String} {p : Pos} {R : List V → Hp → VK → Prop} {f : List D → Option D} {ms : SE (List D)} (hc : CallR X (.builtin id) R) (hf : CallS K mg r R f) (hm : X.mg x = none) (ha : GAO K mg r X O E (e :: es) ts ms) (hg : Gl X x := by rfl)
    (hv : bootBuiltins x = some (.builtin id) := by decide +kernel) (hn : x ≠ "__name__" := by decide) (hdb : (x == ("__debug__" : Str)) = false := by decide)
    (he : starEach (e :: es) X.env = (false, eval e X.env) :: starEach es X.env := by rfl) (hpl : (backTo pos (starEach es X.env)).any (·.1) = false := by rfl) : GE K mg r X O E (.Call (.Name x p) (e :: es) [] pos) (tCB R ts) (callB f ms) :=
  ⟨pe_callB hc hg hm hv ha.pe hn hdb he hpl, callB_sound hf ha.snd⟩
theorem ge_callTy {x : Str} {T : String} {p : Pos} {R : List V → Hp → VK → Prop} {f : List D → Option D} {ms : SE (List D)} (hc : CallR X (.type T) R) (hf : CallS K mg r R f) (hm : X.mg x = none) (ha : GAO K mg r X O E (e :: es) ts ms) (hg : Gl X x := by rfl)
    (hv : bootBuiltins x = some (.type T) := by decide +kernel) (hn : x ≠ "__name__" := by decide) (hdb : (x == ("__debug__" : Str)) = false := by decide)
    (he : starEach (e :: es) X.env = (false, eval e X.env) :: starEach es X.env := by rfl) (hpl : (backTo pos (starEach es X.env)).any (·.1) = false := by rfl) : GE K mg r X O E (.Call (.Name x p) (e :: es) [] pos) (tCB R ts) (callB f ms) :=
  ⟨pe_callTy hc hg hm hv ha.pe hn hdb he hpl, callB_sound hf ha.snd⟩
theorem CallS.or {R R' : List V → Hp → VK → Prop} {f f1 f2 : List D → Option D} (h : CallS K mg r R f1) (h' : CallS K mg r R' f2) (hf : ∀ d z, f d = some z → f1 d = some z ∨ f2 d = some z) : CallS K mg r (fun x H Q => R x H Q ∨ R' x H Q) f := by
  intro Hs H tp xs ds z Q w rx hz k
  rcases hf ds z hz with q | q
  · exact .inl (h Hs H tp xs ds z Q w rx q k)
  · exact .inr (h' Hs H tp xs ds z Q w rx q k)
def isB : D → Option Bool
  | .bl b => some b
  | _ => none
def boolE (m : SE D) : SE Bool := fun env tp => (m env tp).bind fun d tp1 => RE.of (isB d) tp1
def truD : D → Option Bool
  | .non => some false
  | .bl b => some b
  | .int i => some (i != 0)
  | .lst xs => some (!xs.isEmpty)
  | .tup xs => some (!xs.isEmpty)
  | _ => none
theorem repT_bl {Hs H : Hp} {v : V} {b : Bool} (h : RepT K mg r Hs H v (.bl b)) : v = .bl b := by
  rcases h with h | ⟨p, _, _, h⟩
  · cases h; rfl
  · exact h.elim
theorem repT_int {Hs H : Hp} {v : V} {b : Int} (h : RepT K mg r Hs H v (.int b)) : v = .int b := by
  rcases h with h | ⟨p, _, _, h⟩
  · cases h; rfl
  · exact h.elim
theorem repT_str {Hs H : Hp} {v : V} {b : Str} (h : RepT K mg r Hs H v (.str b)) : v = .str b := by
  rcases h with h | ⟨p, _, _, h⟩
  · cases h; rfl
  · exact h.elim
theorem repT_non {Hs H : Hp} {v : V} (h : RepT K mg r Hs H v .non) : v = .non := by
  rcases h with h | ⟨p, _, _, h⟩
  · cases h; rfl
  · exact h.elim
theorem repT_lst {Hs H : Hp} {tp : List D} {v : V} {ds : List D} (w : Wd K mg r Hs H tp) (h : RepT K mg r Hs H v (.lst ds)) : ∃ p vs, v = .ref p ∧ H p = some (.lst vs) ∧ RepDs K mg r Hs vs ds := by
  rcases h with h | ⟨p, e, _, vs, a, b⟩
  · cases h with
    | lst a b => exact ⟨_, _, rfl, (w.sub _ _ a).lst, b⟩
  · exact ⟨p, vs, e, a, b⟩
theorem repT_tup {Hs H : Hp} {tp : List D} {v : V} {ds : List D} (w : Wd K mg r Hs H tp) (h : RepT K mg r Hs H v (.tup ds)) : ∃ p vs, v = .ref p ∧ Hs p = some (.tup vs) ∧ H p = some (.tup vs) ∧ RepDs K mg r Hs vs ds := by
  rcases h with h | ⟨p, e, _, a⟩
  · cases h with
    | tup a b => exact ⟨_, _, rfl, a, (w.sub _ _ a).tup, b⟩
  · exact a.elim
theorem repT_scr {Hs H : Hp} {tp : List D} {v : V} {ns : List Int} (w : Wd K mg r Hs H tp) (h : RepT K mg r Hs H v (.scr ns)) : ∃ p, v = .ref p ∧ SqL K H p (ns.map V.int) := by
  rcases h with h | ⟨p, e, _, a⟩
  · cases h with
    | scr a => exact ⟨_, rfl, Same.seq w.sub a⟩
  · exact a.elim
theorem repT_tape {Hs H : Hp} {v : V} (h : RepT K mg r Hs H v .tape) : v = .ref r := by
  rcases h with h | ⟨p, e, _, a⟩
  · cases h; rfl
  · exact a.elim
theorem boolE_sound {t : TE} {m : SE D} (h1 : ∀ Hs0 H0 Hs H σ env tp Q, Rel K mg r O Hs0 H0 Hs H σ env tp → PostE K mg r E Hs H (m env tp) Q → t σ H Q) :
    ∀ Hs0 H0 Hs H σ env tp Q, Rel K mg r O Hs0 H0 Hs H σ env tp → PostB K mg r E Hs H (boolE m env tp) Q → t σ H (fun x H1 => ∃ c, x = .bl c ∧ Q c H1) := by
  intro Hs0 H0 Hs H σ env tp Q Rl P
  refine h1 _ _ _ _ _ _ _ _ Rl (Post.bind P fun v Hs1 H1 d tp1 _ g w rv P1 => ?_)
  obtain ⟨z, hz, k⟩ := Post.ok_of P1
  cases d with
  | bl b =>
    cases hz; cases rv
    exact ⟨_, rfl, k _ Hs1 H1 (Grow.refl _ _) w rfl⟩
  | _ => cases hz
theorem gt_val {m : SE D} (h : GE K mg r X O E e t m) (he : ∀ whole, isTrue e X.env whole = (do let v ← whole; standAt e.pos; holding [v] (truthy v)) := by intro _; rfl) : GT K mg r X O E e (tB t) (boolE m) :=
  ⟨pt_val h.pe he, boolE_sound h.snd⟩
theorem gt_cmp {op : CmpOp} {R : R2} {f : D → D → Option D} {ma mb : SE D} (ho : OpR X (compareOp op) R) (hf : OpS K mg r R f) (ha : GO K mg r X O E a ta ma) (hb : GO K mg r X O E b tb mb) (hm : behindInMarks op b = false) : GT K mg r X O E (.Compare a [op] [b] pos) (tTest (tOp R ta tb)) (boolE (binE f ma mb)) :=
  ⟨pt_cmpR ho ha.pe hb.pe hm, boolE_sound (bin_sound hf ha.snd hb.snd)⟩
theorem gt_chain {op op' : CmpOp} {R R' : R2} {f g : D → D → Option D} {ma mb mc : SE D} (ho : OpR X (compareOp op) R) (ho' : OpR X (compareOp op') R') (hf : OpS K mg r R f) (hg : OpS K mg r R' g) (ha : GO K mg r X O E a ta ma) (hb : GO K mg r X O E b tb mb) (hc : GO K mg r X O E c tc mc)
    (hm : lastMarks [op, op'] [b, c] = false := by with_unfolding_all rfl) : GT K mg r X O E (.Compare a [op, op'] [b, c] pos) (tTest (tChain R R' ta tb tc)) (boolE (chainE f g ma mb mc)) :=
  ⟨pt_chain ho ho' ha.pe hb.pe hc.pe hm, boolE_sound (chain_sound hf hg ha hb hc)⟩
/-- a test by truth -/
def truE (m : SE D) : SE Bool := fun env tp => (m env tp).bind fun d tp1 => RE.of (truD d) tp1
theorem gt_truth {m : SE D} (h : GO K mg r X O E e t m) (hK : X.K = K := by rfl) (he : ∀ whole, isTrue e X.env whole = (do let v ← whole; standAt e.pos; holding [v] (truthy v)) := by intro _; rfl) : GT K mg r X O E e (fun σ H Q => t σ H fun x H' => ∃ k, TruV K x H' k ∧ Q k H') (truE m) := by
  subst hK
  refine ⟨pt_truth h.pe he, fun Hs0 H0 Hs H σ env tp Q Rl P => ?_⟩
  refine h.snd _ _ _ _ _ _ _ _ Rl (Post.bind P fun v Hs1 H1 d tp1 _ g w rv P1 => ?_)
  obtain ⟨z, hz, k⟩ := Post.ok_of P1
  refine ⟨z, ?_, k _ Hs1 H1 (Grow.refl _ _) w rfl⟩
  cases d with
  | non => cases hz; rw [repT_non rv]; first | rfl | exact rfl
  | bl b => cases hz; rw [repT_bl rv]; first | rfl | exact rfl
  | int b => cases hz; rw [repT_int rv]; first | rfl | exact rfl
  | lst ds =>
    cases hz
    obtain ⟨p, vs, rfl, a, b⟩ := repT_lst w rv
    refine .inl ⟨vs, .of a, ?_⟩
    cases b <;> rfl
  | tup ds =>
    cases hz
    obtain ⟨p, vs, rfl, _, a, b⟩ := repT_tup w rv
    refine .inr (.inl ⟨vs, .of a, ?_⟩)
    cases b <;> rfl
  | _ => cases hz
def notT (m : SE Bool) : SE Bool := fun env tp => (m env tp).bind fun b tp1 => .ok (!b) tp1
def andT (m n : SE Bool) : SE Bool := fun env tp => (m env tp).bind fun b tp1 => if b = true then n env tp1 else .ok false tp1
def orT (m n : SE Bool) : SE Bool := fun env tp => (m env tp).bind fun b tp1 => if b = true then .ok true tp1 else n env tp1
theorem gt_not {m : SE Bool} (h : GT K mg r X O E e tt m) : GT K mg r X O E (.UnaryOp .Not e pos) (tNot tt) (notT m) := by
  refine ⟨pt_not h.pe, fun Hs0 H0 Hs H σ env tp Q Rl P => ?_⟩
  refine h.snd _ _ _ _ _ _ _ _ Rl (Post.bind P fun v Hs1 H1 d tp1 _ g w rv P1 => ?_)
  exact P1 _ Hs1 H1 (Grow.refl _ _) w (by rw [rv])
theorem GW.gt {m : SE Bool} (h : GW K mg r X O E e tt m) : GT K mg r X O E e tt m := ⟨h.pe.pt, h.snd⟩
theorem gw_and1 {m : SE Bool} (h : GT K mg r X O E e tt m) : GW K mg r X O E (.BoolOp .And [e] pos) tt m := ⟨pw_and1 h.pe, h.snd⟩
theorem gw_or1 {m : SE Bool} (h : GT K mg r X O E e tt m) : GW K mg r X O E (.BoolOp .Or [e] pos) tt m := ⟨pw_or1 h.pe, h.snd⟩
theorem gw_and {m n : SE Bool} (h : GT K mg r X O E e tt m) (hb : GW K mg r X O E (.BoolOp .And (b :: es) pos) tu n) : GW K mg r X O E (.BoolOp .And (e :: b :: es) pos) (tAnd tt tu) (andT m n) := by
  refine ⟨pw_and h.pe hb.pe, fun Hs0 H0 Hs H σ env tp Q Rl P => ?_⟩
  refine h.snd _ _ _ _ _ _ _ _ Rl (Post.bind P fun v Hs1 H1 d tp1 _ g w rv P1 => ?_)
  subst rv
  cases v with
  | true => exact iteT (hb.snd _ _ _ _ _ _ _ _ (Rl.grow g w) P1)
  | false => exact iteF (P1 _ Hs1 H1 (Grow.refl _ _) w rfl)
theorem gw_or {m n : SE Bool} (h : GT K mg r X O E e tt m) (hb : GW K mg r X O E (.BoolOp .Or (b :: es) pos) tu n) : GW K mg r X O E (.BoolOp .Or (e :: b :: es) pos) (tOr tt tu) (orT m n) := by
  refine ⟨pw_or h.pe hb.pe, fun Hs0 H0 Hs H σ env tp Q Rl P => ?_⟩
  refine h.snd _ _ _ _ _ _ _ _ Rl (Post.bind P fun v Hs1 H1 d tp1 _ g w rv P1 => ?_)
  subst rv
  cases v with
  | false => exact iteF (hb.snd _ _ _ _ _ _ _ _ (Rl.grow g w) P1)
  | true => exact iteT (P1 _ Hs1 H1 (Grow.refl _ _) w rfl)
def notE (m : SE D) : SE D := fun env tp => (m env tp).bind fun d tp1 => RE.of ((isB d).map fun b => .bl (!b)) tp1
def andE (m n : SE D) : SE D := fun env tp => (m env tp).bind fun d tp1 => match d with
  | .bl true => n env tp1
  | .bl false => .ok (.bl false) tp1
  | _ => .stuck
def orE (m n : SE D) : SE D := fun env tp => (m env tp).bind fun d tp1 => match d with
  | .bl false => n env tp1
  | .bl true => .ok (.bl true) tp1
  | _ => .stuck
theorem ge_one {op} {m : SE D} (h : GE K mg r X O E e t m) : GE K mg r X O E (.BoolOp op [e] pos) t m := ⟨pe_one h.pe, h.snd⟩
theorem ge_not {m : SE D} (h : GE K mg r X O E e t m) : GE K mg r X O E (.UnaryOp .Not e pos) (tNotV t) (notE m) := by
  refine ⟨pe_not h.pe, fun Hs0 H0 Hs H σ env tp Q Rl P => ?_⟩
  refine h.snd _ _ _ _ _ _ _ _ Rl (Post.bind P fun v Hs1 H1 d tp1 _ g w rv P1 => ?_)
  obtain ⟨z, hz, k⟩ := Post.ok_of P1
  cases d with
  | bl b =>
    cases hz; cases rv
    exact ⟨_, rfl, k _ Hs1 H1 (Grow.refl _ _) w (.bl _)⟩
  | _ => cases hz
theorem ge_and {m n : SE D} (h : GE K mg r X O E e ta m) (hb : GE K mg r X O E (.BoolOp .And (b :: es) pos) tb n) : GE K mg r X O E (.BoolOp .And (e :: b :: es) pos) (tAndV ta tb) (andE m n) := by
  refine ⟨pe_and h.pe hb.pe, fun Hs0 H0 Hs H σ env tp Q Rl P => ?_⟩
  refine h.snd _ _ _ _ _ _ _ _ Rl (Post.bind P fun v Hs1 H1 d tp1 _ g w rv P1 => ?_)
  cases d with
  | bl c =>
    cases rv
    refine ⟨c, rfl, ?_⟩
    cases c with
    | true => exact iteT (hb.snd _ _ _ _ _ _ _ _ (Rl.grow g w) P1)
    | false => exact iteF (P1 _ Hs1 H1 (Grow.refl _ _) w (.bl _))
  | _ => exact P1.elim
def ifE (c : SE Bool) (m n : SE D) : SE D := fun env tp => (c env tp).bind fun b tp1 => if b = true then m env tp1 else n env tp1
theorem ge_ifExp {mc : SE Bool} {m n : SE D} (hc : GT K mg r X O E c tt mc) (ha : GE K mg r X O E a ta m) (hb : GE K mg r X O E b tb n) : GE K mg r X O E (.IfExp c a b pos) (tIf tt ta tb) (ifE mc m n) := by
  refine ⟨pe_ifExp hc.pe ha.pe hb.pe, fun Hs0 H0 Hs H σ env tp Q Rl P => ?_⟩
  refine hc.snd _ _ _ _ _ _ _ _ Rl (Post.bind P fun v Hs1 H1 d tp1 _ g w rv P1 => ?_)
  subst rv
  cases v with
  | true => exact iteT (ha.snd _ _ _ _ _ _ _ _ (Rl.grow g w) P1)
  | false => exact iteF (hb.snd _ _ _ _ _ _ _ _ (Rl.grow g w) P1)
end
end G
set_option maxHeartbeats 1000000
namespace G
open PySem PySem.Spec PyProof.Rows L2
section
variable {r : Addr} {X : Cx} {K : PySem.W.Frag} {mg : Str → Option Value} {Hs H : Hp} {tp : List D}
def addD : D → D → Option D
  | .int i, .int j => some (.int (i + j))
  | .str a, .str b => if a.length + b.length ≤ sizeLine then some (.str (a ++ b)) else none
  | .tup a, .tup b => if a.length + b.length ≤ sizeLine then some (.tup (a ++ b)) else none
  | .lst a, .lst b => if a.length + b.length ≤ sizeLine then some (.lst (a ++ b)) else none
  | _, _ => none
abbrev rAddD (K : PySem.W.Frag) : R2 := fun x y H Q => (∃ i j, x = .int i ∧ y = .int j ∧ Q (.int (i + j)) H) ∨ (∃ i j, x = .str i ∧ y = .str j ∧ i.length + j.length ≤ sizeLine ∧ Q (.str (i ++ j)) H) ∨ rCatA K x y H Q ∨ rCat x y H Q
theorem opr_add : OpR X (binaryOp .Add) (rAddD X.K) := op_add.or (op_add_str.or (op_catA.or op_cat))
theorem ops_add : OpS K mg r (rAddD K) addD := by
  intro Hs H tp x y d e z Q w rx ry hz k
  unfold addD at hz
  split at hz
  · cases hz
    exact .inl ⟨_, _, repT_int rx, repT_int ry, k _ _ _ (Grow.refl _ _) w (.int _)⟩
  · split at hz
    · rename_i c
      cases hz
      exact .inr (.inl ⟨_, _, repT_str rx, repT_str ry, c, k _ _ _ (Grow.refl _ _) w (.str _)⟩)
    · cases hz
  · split at hz
    · rename_i c
      cases hz
      obtain ⟨p, vs, rfl, h1, h1', h2⟩ := repT_tup w rx
      obtain ⟨q, us, rfl, g1, g1', g2⟩ := repT_tup w ry
      refine .inr (.inr (.inl ⟨p, q, vs, us, rfl, rfl, .of h1', .of g1', by rw [h2.length, g2.length]; exact c, fun e => ?_, fun _ e => ?_, fun _ _ a ha => ?_⟩))
      · subst e; cases h2
        exact k _ _ _ (Grow.refl _ _) w (.tup g1 g2)
      · subst e; cases g2
        rw [List.append_nil] at k
        exact k _ _ _ (Grow.refl _ _) w (.tup h1 h2)
      · obtain ⟨g, w'⟩ := w.alloc (o := .tup (vs ++ us)) ha
        exact k _ _ _ g w' (.tup upd_same ((h2.append g2).mono g.ex))
    · cases hz
  · split at hz
    · rename_i c
      cases hz
      obtain ⟨p, vs, rfl, h1, h2⟩ := repT_lst w rx
      obtain ⟨q, us, rfl, g1, g2⟩ := repT_lst w ry
      refine .inr (.inr (.inr ⟨p, q, vs, us, rfl, rfl, h1, g1, by rw [h2.length, g2.length]; exact c, fun a ha => ?_⟩))
      obtain ⟨g, w'⟩ := w.alloc (o := .lst (vs ++ us)) ha
      exact k _ _ _ g w' (.lst upd_same ((h2.append g2).mono g.ex))
    · cases hz
  · cases hz
def subD : D → D → Option D
  | .int i, .int j => some (.int (i - j))
  | _, _ => none
theorem ops_sub : OpS K mg r (rI0 fun i j => .int (i - j)) subD := by
  intro Hs H tp x y d e z Q w rx ry hz k
  unfold subD at hz
  split at hz
  · cases hz
    exact ⟨_, _, repT_int rx, repT_int ry, k _ _ _ (Grow.refl _ _) w (.int _)⟩
  · cases hz
def cDiv (j : Int) : Bool := decide (0 < j) && decide (j.natAbs.log2 < 9000)
def fdivD : D → D → Option D
  | .int i, .int j => if cDiv j then some (.int (i / j)) else none
  | _, _ => none
theorem ops_fdiv : OpS K mg r (rI CDivW fun i j => .int (i / j)) fdivD := by
  intro Hs H tp x y d e z Q w rx ry hz k
  unfold fdivD at hz
  split at hz
  · split at hz
    · rename_i c
      cases hz
      have c := Bool.and_eq_true_iff.mp c
      exact ⟨_, _, repT_int rx, repT_int ry, ⟨of_decide_eq_true c.1, of_decide_eq_true c.2⟩, k _ _ _ (Grow.refl _ _) w (.int _)⟩
    · cases hz
  · cases hz
def modD : D → D → Option D
  | .int i, .int j => if 0 < j then some (.int (i % j)) else none
  | _, _ => none
theorem ops_mod : OpS K mg r (rI (fun _ j => 0 < j) fun i j => .int (i % j)) modD := by
  intro Hs H tp x y d e z Q w rx ry hz k
  unfold modD at hz
  split at hz
  · split at hz
    · rename_i c
      cases hz
      exact ⟨_, _, repT_int rx, repT_int ry, c, k _ _ _ (Grow.refl _ _) w (.int _)⟩
    · cases hz
  · cases hz
def cPow (i j : Int) : Bool := decide (0 ≤ j) && (decide (j ≤ 1000000) && decide (i.natAbs < 2 ^ 64))
theorem cPow_ok {i j : Int} (h : cPow i j = true) : CPow i j := by
  have h := Bool.and_eq_true_iff.mp h
  have h2 := Bool.and_eq_true_iff.mp h.2
  exact ⟨of_decide_eq_true h.1, of_decide_eq_true h2.1, of_decide_eq_true h2.2⟩
def powD : D → D → Option D
  | .int i, .int j => if cPow i j then some (.int (i ^ j.toNat)) else none
  | _, _ => none
theorem ops_pow : OpS K mg r (rI CPow fun i j => .int (i ^ j.toNat)) powD := by
  intro Hs H tp x y d e z Q w rx ry hz k
  unfold powD at hz
  split at hz
  · split at hz
    · rename_i c
      cases hz
      exact ⟨_, _, repT_int rx, repT_int ry, cPow_ok c, k _ _ _ (Grow.refl _ _) w (.int _)⟩
    · cases hz
  · cases hz
def shlD : D → D → Option D
  | .int i, .int j => if cPow i j then some (.int (i * 2 ^ j.toNat)) else none
  | _, _ => none
theorem ops_shl : OpS K mg r (rI CPow fun i j => .int (i * 2 ^ j.toNat)) shlD := by
  intro Hs H tp x y d e z Q w rx ry hz k
  unfold shlD at hz
  split at hz
  · split at hz
    · rename_i c
      cases hz
      exact ⟨_, _, repT_int rx, repT_int ry, cPow_ok c, k _ _ _ (Grow.refl _ _) w (.int _)⟩
    · cases hz
  · cases hz
def shrD : D → D → Option D
  | .int i, .int j => if 0 ≤ j then some (.int (i / 2 ^ j.toNat)) else none
  | _, _ => none
theorem ops_shr : OpS K mg r (rI (fun _ j => 0 ≤ j) fun i j => .int (i / 2 ^ j.toNat)) shrD := by
  intro Hs H tp x y d e z Q w rx ry hz k
  unfold shrD at hz
  split at hz
  · split at hz
    · rename_i c
      cases hz
      exact ⟨_, _, repT_int rx, repT_int ry, c, k _ _ _ (Grow.refl _ _) w (.int _)⟩
    · cases hz
  · cases hz
def bandD : D → D → Option D
  | .int i, .int j => some (.int (Builtin.bitAnd i j))
  | _, _ => none
theorem ops_band : OpS K mg r (rI0 fun i j => .int (Builtin.bitAnd i j)) bandD := by
  intro Hs H tp x y d e z Q w rx ry hz k
  unfold bandD at hz
  split at hz
  · cases hz
    exact ⟨_, _, repT_int rx, repT_int ry, k _ _ _ (Grow.refl _ _) w (.int _)⟩
  · cases hz
def negD : D → Option D
  | .int i => some (.int (-i))
  | _ => none
theorem uns_neg : UnS K mg r (rU fun i => .int (-i)) negD := by
  intro Hs H tp x d z Q w rx hz k
  unfold negD at hz
  split at hz
  · cases hz
    exact ⟨_, repT_int rx, k _ _ _ (Grow.refl _ _) w (.int _)⟩
  · cases hz
theorem mulOk_small {x : Str} {n : Int} (h0 : 0 ≤ n) (h : (x.length : Int) * n ≤ 16777216) (h1 : n ≤ 16777216) : MulOk x n := by
  have hm : x.length * n.toNat ≤ 16777216 := by
    obtain ⟨k, rfl⟩ := Int.eq_ofNat_of_zero_le h0
    have : ((x.length * k : Nat) : Int) ≤ 16777216 := by rw [Int.natCast_mul]; exact h
    rw [Int.toNat_natCast]; omega
  refine ⟨by simp only [Bool.or_eq_false_iff, decide_eq_false_iff_not]; omega, fun a b => ?_, fun a b => ?_⟩
  · have h2 : (x.length : Int) ≤ (2 ^ 63 - 1) / n := (Int.le_ediv_iff_mul_le (by omega)).mpr (by omega)
    omega
  · unfold Builtin.Str.tooLong; simp only [decide_eq_false_iff_not]; rw [sizeLine_eq]; omega
theorem op_mul_str : OpR X (binaryOp .Mult) (fun x y H Q => ∃ (a : Str) (n : Int), x = .str a ∧ y = .int n ∧ 0 ≤ n ∧ (a.length : Int) * n ≤ 16777216 ∧ n ≤ 16777216 ∧ Q (.str (Txt.mul a n)) H) := by
  intro pins s σ H x y v u Q I rx ry h
  obtain ⟨a, n, rfl, rfl, h0, h1, h2, q⟩ := h
  obtain ⟨t, rfl⟩ := rx
  obtain ⟨t', rfl⟩ := ry
  exact SB.mul (mulOk_small h0 h1 h2) fun t2 k => ⟨.str _, H, I.tok _, ⟨_, rfl⟩, q⟩
def cMul (i j : Int) : Bool := decide (i.natAbs.log2 + j.natAbs.log2 < 1000000)
def cRep (n : Nat) (k : Int) : Bool := decide (0 ≤ k) && (decide ((n : Int) * k ≤ 16777216) && decide (k ≤ 16777216))
theorem cRep_ok {n : Nat} {k : Int} (h : cRep n k = true) : 0 ≤ k ∧ (n : Int) * k ≤ 16777216 ∧ k ≤ 16777216 := by
  have h := Bool.and_eq_true_iff.mp h
  have h2 := Bool.and_eq_true_iff.mp h.2
  exact ⟨of_decide_eq_true h.1, of_decide_eq_true h2.1, of_decide_eq_true h2.2⟩
theorem tuple_mul1 (l : Addr) (items : Array Value) (n : Nat) (dd : Option Addr) (sl : Array (Option Value)) (u : Tok) :
    Meets (Builtin.«tuple.__mul__» ⟨[.ref l, .int 1 u], []⟩) (fun _ R s => s.heap.get? l = some { cls := .type "tuple", dict := dd, data := .seq items n, slots := sl } ∧
      R (.ok (.ret (Value.ref l))) s) :=
  .of_wp fun prog w A R s h => by
    obtain ⟨hp, g, d, tk, os⟩ := s
    obtain ⟨hl, h⟩ := h
    have f1 := AutoSeq1.idx_int
    have c1 : (items.isEmpty || (1 : Int) == 1) = true := by simp
    have c0 : (decide ((1 : Int) < -(2 ^ 63)) || decide ((1 : Int) ≥ 2 ^ 63)) = false := by decide
    wp_walk using wpAny_loadPart' hl
    exact ⟨_, rfl, h⟩
def rRepT1 (K : PySem.W.Frag) : R2 := fun x y H Q => ∃ l xs, x = .ref l ∧ y = .int 1 ∧ SqT K H l xs ∧ Q (.ref l) H
theorem op_repT1 {X : Cx} : OpR X (binaryOp .Mult) (rRepT1 X.K) := by
  intro pins s σ H x y v u Q I rx ry h
  obtain ⟨l, xs, rfl, rfl, hT, q⟩ := h
  cases rx
  obtain ⟨t, rfl⟩ := ry
  obtain ⟨its, r, ⟨⟨cls, dd, data, sl⟩, ho, hc, n, hd⟩, hs⟩ := I.tuple hT
  simp only at hc hd
  subst hc hd
  refine wpAny_binaryOp_repeat_ref (T := "tuple") (U := "int") (by decide) ⟨_, ho, rfl⟩ (fun s' => typeIs_int s' 1 t) noFill_tuple_mul F.fills_int_mul F.slot_int_rmul repeat_tuple F.slot_int_index.lookup
    (call_meets F.slot_int_rmul (typeIs_int s 1 t) F.entry_int_rmul (F.args_int_rmul_2 _ _) (int_rmul_tuple 1 t l its.toArray n dd sl)
      ⟨ho, rfl, ⟨_, ho, rfl⟩, call_meets F.slot_tuple_mul ⟨_, ho, rfl⟩ F.entry_tuple_mul (F.args_tuple_mul_2 _ _) (tuple_mul1 l its.toArray n dd sl t) ⟨ho, ?_⟩⟩)
  exact ⟨.ref l, H, I, rfl, q⟩
theorem tuple_mul0 (l : Addr) (items : Array Value) (n : Nat) (dd : Option Addr) (sl : Array (Option Value)) (u : Tok) (c1 : (items.isEmpty || (0 : Int) == 1) = false) :
    Meets (Builtin.«tuple.__mul__» ⟨[.ref l, .int 0 u], []⟩) (fun _ R s => s.heap.get? l = some { cls := .type "tuple", dict := dd, data := .seq items n, slots := sl } ∧
      R (.ok (.ret (Value.ref s.heap.objs.size))) { s with heap := s.heap.push { cls := Value.type "tuple", data := Data.seq #[] }, toks := s.toks }) :=
  .of_wp fun prog w A R s h => by
    obtain ⟨hp, g, d, tk, os⟩ := s
    obtain ⟨hl, h⟩ := h
    have f1 := AutoSeq1.idx_int
    have c0 : (decide ((0 : Int) < -(2 ^ 63)) || decide ((0 : Int) ≥ 2 ^ 63)) = false := by decide
    have c2 : (decide ((0 : Int) ≤ 0) || items.isEmpty) = true := by simp
    wp_walk using wpAny_loadPart' hl
    repeat (first
      | (refine wpAny_ite_false (decide_eq_false (by rw [c0]; exact Bool.false_ne_true)) ?_; wp_walk using wpAny_loadPart' hl)
      | (refine wpAny_ite_false (decide_eq_false (by rw [c1]; exact Bool.false_ne_true)) ?_; wp_walk using wpAny_loadPart' hl)
      | (refine wpAny_ite_true (decide_eq_true c2) ?_; wp_walk using wpAny_loadPart' hl))
    exact ⟨_, rfl, h⟩
def rRepT0 (K : PySem.W.Frag) : R2 := fun x y H Q => ∃ l xs, x = .ref l ∧ y = .int 0 ∧ SqT K H l xs ∧ xs ≠ [] ∧ ∀ p, H p = none → Q (.ref p) (upd H p (.tup []))
theorem op_repT0 {X : Cx} : OpR X (binaryOp .Mult) (rRepT0 X.K) := by
  intro pins s σ H x y v u Q I rx ry h
  obtain ⟨l, xs, rfl, rfl, hT, hne, q⟩ := h
  cases rx
  obtain ⟨t, rfl⟩ := ry
  obtain ⟨its, r, ⟨⟨cls, dd, data, sl⟩, ho, hc, n, hd⟩, hs⟩ := I.tuple hT
  simp only at hc hd
  subst hc hd
  have hi : its.toArray.isEmpty = false := by
    cases its with
    | nil => exact absurd (List.eq_nil_of_length_eq_zero r.length) hne
    | cons a b => rfl
  have c1 : (its.toArray.isEmpty || (0 : Int) == 1) = false := by rw [hi]; rfl
  refine wpAny_binaryOp_repeat_ref (T := "tuple") (U := "int") (by decide) ⟨_, ho, rfl⟩ (fun s' => typeIs_int s' 0 t) noFill_tuple_mul F.fills_int_mul F.slot_int_rmul repeat_tuple F.slot_int_index.lookup
    (call_meets F.slot_int_rmul (typeIs_int s 0 t) F.entry_int_rmul (F.args_int_rmul_2 _ _) (int_rmul_tuple 0 t l its.toArray n dd sl)
      ⟨ho, rfl, ⟨_, ho, rfl⟩, call_meets F.slot_tuple_mul ⟨_, ho, rfl⟩ F.entry_tuple_mul (F.args_tuple_mul_2 _ _) (tuple_mul0 l its.toArray n dd sl t c1) ⟨ho, ?_⟩⟩)
  refine ⟨.ref s.heap.objs.size, _, I.laid (t' := s.toks) (o := .tup []) (fun b ob q => Heap.get?_push_of_some _ q) (Nat.le_refl _) ?_, rfl, q _ (I.hok.fresh (Nat.le_refl _))⟩
  exact ⟨Nat.zero_le _, [], .nil, IsTup.new _ _⟩
def cRepT (n : Nat) (k : Int) : Bool := decide (0 < n) && (decide (n ≤ 1000) && (decide (0 ≤ k) && decide (k ≤ 1000)))
theorem cRepT_ok {n : Nat} {k : Int} (h : cRepT n k = true) : 0 < n ∧ n ≤ 1000 ∧ 0 ≤ k ∧ k ≤ 1000 := by
  have h := Bool.and_eq_true_iff.mp h
  have h2 := Bool.and_eq_true_iff.mp h.2
  have h3 := Bool.and_eq_true_iff.mp h2.2
  exact ⟨of_decide_eq_true h.1, of_decide_eq_true h2.1, of_decide_eq_true h3.1, of_decide_eq_true h3.2⟩
def mulD : D → D → Option D
  | .int i, .int j => if cMul i j then some (.int (i * j)) else none
  | .str a, .int n => if cRep a.length n then some (.str (Txt.mul a n)) else none
  | .lst a, .int n => if cRep a.length n then some (.lst (List.replicate n.toNat a).flatten) else none
  | .tup a, .int n => if cRepT a.length n then some (.tup (List.replicate n.toNat a).flatten) else none
  | _, _ => none
abbrev rMulD (K : PySem.W.Frag) : R2 := fun x y H Q => (∃ i j, x = .int i ∧ y = .int j ∧ CMulW i j ∧ Q (.int (i * j)) H) ∨ (∃ (a : Str) (n : Int), x = .str a ∧ y = .int n ∧ 0 ≤ n ∧ (a.length : Int) * n ≤ 16777216 ∧ n ≤ 16777216 ∧ Q (.str (Txt.mul a n)) H) ∨ rRep x y H Q ∨ rRepT K x y H Q ∨ rRepT1 K x y H Q ∨ rRepT0 K x y H Q
theorem opr_mul : OpR X (binaryOp .Mult) (rMulD X.K) := op_mulW.or (op_mul_str.or (op_rep.or (op_repT.or (op_repT1.or op_repT0))))
theorem RepDs.rep {vs : List V} {ds : List D} (h : RepDs K mg r Hs vs ds) : ∀ n : Nat, RepDs K mg r Hs (List.replicate n vs).flatten (List.replicate n ds).flatten
  | 0 => .nil
  | n + 1 => by
    rw [List.replicate_succ, List.replicate_succ, List.flatten_cons, List.flatten_cons]
    exact h.append (RepDs.rep h n)
theorem ops_mul : OpS K mg r (rMulD K) mulD := by
  intro Hs H tp x y d e z Q w rx ry hz k
  unfold mulD at hz
  split at hz
  · split at hz
    · rename_i c
      cases hz
      exact .inl ⟨_, _, repT_int rx, repT_int ry, (show _ < _ from of_decide_eq_true c), k _ _ _ (Grow.refl _ _) w (.int _)⟩
    · cases hz
  · split at hz
    · rename_i c
      cases hz
      have c := cRep_ok c
      exact .inr (.inl ⟨_, _, repT_str rx, repT_int ry, c.1, c.2.1, c.2.2, k _ _ _ (Grow.refl _ _) w (.str _)⟩)
    · cases hz
  · split at hz
    · rename_i a n c
      cases hz
      have c := cRep_ok c
      obtain ⟨p, vs, rfl, h1, h2⟩ := repT_lst w rx
      rw [repT_int ry]
      refine .inr (.inr (.inl ⟨p, n, vs, rfl, rfl, h1, by omega, by omega, ?_, fun q hq => ?_⟩))
      · rw [h2.length, sizeLine_eq]
        have : ((a.length * n.toNat : Nat) : Int) ≤ 16777216 := by
          rw [Int.natCast_mul, Int.toNat_of_nonneg c.1]; exact c.2.1
        omega
      · obtain ⟨g, w'⟩ := w.alloc (o := .lst (List.replicate n.toNat vs).flatten) hq
        exact k _ _ _ g w' (.lst upd_same ((h2.rep _).mono g.ex))
    · cases hz
  · split at hz
    · rename_i a n c
      cases hz
      have c := cRepT_ok c
      obtain ⟨p, vs, rfl, h0, h1, h2⟩ := repT_tup w rx
      rw [repT_int ry]
      have lv : vs.length = a.length := h2.length
      by_cases n1 : n = 1
      · subst n1
        refine .inr (.inr (.inr (.inr (.inl ⟨p, vs, rfl, rfl, .of h1, k _ _ _ (Grow.refl _ _) w (.tup h0 ?_)⟩))))
        have e : (List.replicate (Int.toNat 1) a).flatten = a := by show (List.replicate 1 a).flatten = a; simp
        rw [e]; exact h2
      · by_cases n0 : n = 0
        · subst n0
          refine .inr (.inr (.inr (.inr (.inr ⟨p, vs, rfl, rfl, .of h1, ?_, fun q hq => ?_⟩))))
          · intro e; subst e; simp at lv; omega
          · obtain ⟨g, w'⟩ := w.alloc (o := .tup []) hq
            exact k _ _ _ g w' (.tup upd_same .nil)
        refine .inr (.inr (.inr (.inl ⟨p, n, vs, rfl, rfl, .of h1, ?_, by omega, by omega, by omega, fun q hq => ?_⟩)))
        · intro e; subst e; simp at lv; omega
        · obtain ⟨g, w'⟩ := w.alloc (o := .tup (List.replicate n.toNat vs).flatten) hq
          exact k _ _ _ g w' (.tup upd_same ((h2.rep _).mono g.ex))
    · cases hz
  · cases hz
def ltD : D → D → Option D
  | .int i, .int j => some (.bl (decide (i < j)))
  | .str i, .str j => some (.bl (decide (i.cps.toList < j.cps.toList)))
  | _, _ => none
theorem ops_lt : OpS K mg r (fun x y H Q => (∃ i j, x = .int i ∧ y = .int j ∧ Q (.bl (decide (i < j))) H) ∨ (∃ i j, x = .str i ∧ y = .str j ∧ Q (.bl (decide (i.cps.toList < j.cps.toList))) H)) ltD := by
  intro Hs H tp x y d e z Q w rx ry hz k
  unfold ltD at hz
  split at hz
  · cases hz
    exact .inl ⟨_, _, repT_int rx, repT_int ry, k _ _ _ (Grow.refl _ _) w (.bl _)⟩
  · cases hz
    exact .inr ⟨_, _, repT_str rx, repT_str ry, k _ _ _ (Grow.refl _ _) w (.bl _)⟩
  · cases hz
theorem opr_lt : OpR X (compareOp .Lt) (fun x y H Q => (∃ i j, x = .int i ∧ y = .int j ∧ Q (.bl (decide (i < j))) H) ∨ (∃ i j, x = .str i ∧ y = .str j ∧ Q (.bl (decide (i.cps.toList < j.cps.toList))) H)) := op_lt.or op_lt_str
def leD : D → D → Option D
  | .int i, .int j => some (.bl (decide (i ≤ j)))
  | _, _ => none
def gtD : D → D → Option D
  | .int i, .int j => some (.bl (decide (j < i)))
  | _, _ => none
def geD : D → D → Option D
  | .int i, .int j => some (.bl (decide (j ≤ i)))
  | _, _ => none
theorem ops_le : OpS K mg r (rI0 fun i j => .bl (decide (i ≤ j))) leD := by
  intro Hs H tp x y d e z Q w rx ry hz k
  unfold leD at hz
  split at hz
  · cases hz
    exact ⟨_, _, repT_int rx, repT_int ry, k _ _ _ (Grow.refl _ _) w (.bl _)⟩
  · cases hz
theorem ops_gt : OpS K mg r (rI0 fun i j => .bl (decide (j < i))) gtD := by
  intro Hs H tp x y d e z Q w rx ry hz k
  unfold gtD at hz
  split at hz
  · cases hz
    exact ⟨_, _, repT_int rx, repT_int ry, k _ _ _ (Grow.refl _ _) w (.bl _)⟩
  · cases hz
theorem ops_ge : OpS K mg r (rI0 fun i j => .bl (decide (j ≤ i))) geD := by
  intro Hs H tp x y d e z Q w rx ry hz k
  unfold geD at hz
  split at hz
  · cases hz
    exact ⟨_, _, repT_int rx, repT_int ry, k _ _ _ (Grow.refl _ _) w (.bl _)⟩
  · cases hz
theorem dpAll_ints {H : Hp} : ∀ ns : List Int, DpAll K H (ns.map V.int) (ns.map PyData.int)
  | [] => .nil
  | n :: ns => .cons (.int n) (dpAll_ints ns)
mutual
theorem RepD.dp (w : Same Hs H) : ∀ {v : V} {d : D}, RepD K mg r Hs v d → d.pd.plain = true → Dp K H v d.pd
  | _, _, .non, _ => .non
  | _, _, .bl b, _ => .bl b
  | _, _, .int i, _ => .int i
  | _, _, .str s, _ => .str s
  | _, _, .tup (ds := ds) h q, p => .tup (.of (w _ _ h).tup) (RepDs.dp w q (by simpa only [D.pd, PyData.plain] using p))
  | _, _, .lst (ds := ds) h q, p => .lst (.of (w _ _ h).lst) (RepDs.dp w q (by simpa only [D.pd, PyData.plain] using p))
  | _, _, .scr (ns := ns) h, _ => .lst (Same.seq w h) (dpAll_ints ns)
  | _, _, .dicK _ _, p => by simp only [D.pd, PyData.plain] at p; cases p
  | _, _, .dicT _ _, p => by simp only [D.pd, PyData.plain] at p; cases p
  | _, _, .tape, p => by simp only [D.pd, PyData.plain] at p; cases p
  | _, _, .fn _, p => by simp only [D.pd, PyData.plain] at p; cases p
  | _, _, .ty _, p => by simp only [D.pd, PyData.plain] at p; cases p
theorem RepDs.dp (w : Same Hs H) : ∀ {vs : List V} {ds : List D}, RepDs K mg r Hs vs ds → PyData.plainAll (pdAll ds) = true → DpAll K H vs (pdAll ds)
  | _, _, .nil, _ => .nil
  | _, _, .cons h q, p => by
    simp only [pdAll, PyData.plainAll, Bool.and_eq_true] at p
    exact .cons (RepD.dp w h p.1) (RepDs.dp w q p.2)
end
theorem RepT.dp {v : V} {d : D} (w : Wd K mg r Hs H tp) (h : RepT K mg r Hs H v d) (p : d.pd.plain = true) : Dp K H v d.pd := by
  rcases h with h | ⟨a, rfl, _, h⟩
  · exact RepD.dp w.sub h p
  · cases d with
    | lst ds =>
      obtain ⟨vs, h1, h2⟩ := h
      exact .lst (.of h1) (RepDs.dp w.sub h2 (by simpa only [D.pd, PyData.plain] using p))
    | dic ds => simp only [D.pd, PyData.plain] at p; cases p
    | dct ds => simp only [D.pd, PyData.plain] at p; cases p
    | _ => exact h.elim
/-- may be compared -/
def D.okq (d : D) : Bool := d.pd.plain && decide (d.pd.depth ≤ 60)
theorem okq_ok {d : D} (h : d.okq = true) : d.pd.plain = true ∧ d.pd.depth ≤ 60 := by
  have h := Bool.and_eq_true_iff.mp h
  exact ⟨h.1, of_decide_eq_true h.2⟩
def eqD (d e : D) : Option D := if d.okq && e.okq then some (.bl (PyData.eqv d.pd e.pd)) else none
def neD (d e : D) : Option D := if d.okq && e.okq then some (.bl (!PyData.eqv d.pd e.pd)) else none
def rEqP (K : PySem.W.Frag) : R2 := fun x y H Q => ∃ d e, Dp K H x d ∧ Dp K H y e ∧ d.plain = true ∧ e.plain = true ∧ d.depth ≤ 60 ∧ Q (.bl (PyData.eqv d e)) H
def rNeP (K : PySem.W.Frag) : R2 := fun x y H Q => ∃ d e, Dp K H x d ∧ Dp K H y e ∧ d.plain = true ∧ e.plain = true ∧ d.depth ≤ 60 ∧ Q (.bl (!PyData.eqv d e)) H
theorem op_eqP (hu : X.A.units + 64 < cLine) : OpR X (compareOp .Eq) (rEqP X.K) := by
  intro pins s σ H x y v u Q I rx ry h
  obtain ⟨d, e, hd, he, sd, se, dd, q⟩ := h
  obtain ⟨as, r1⟩ := Dp.reads I d x v hd rx
  obtain ⟨bs, r2⟩ := Dp.reads I e y u he ry
  have : min d.depth e.depth ≤ d.depth := Nat.min_le_left _ _
  exact SeqAt.eq_plain r1 r2 sd se (by omega) ⟨.bl _, H, I, rfl, q⟩
theorem op_neP (hu : X.A.units + 64 < cLine) : OpR X (compareOp .NotEq) (rNeP X.K) := by
  intro pins s σ H x y v u Q I rx ry h
  obtain ⟨d, e, hd, he, sd, se, dd, q⟩ := h
  obtain ⟨as, r1⟩ := Dp.reads I d x v hd rx
  obtain ⟨bs, r2⟩ := Dp.reads I e y u he ry
  have : min d.depth e.depth ≤ d.depth := Nat.min_le_left _ _
  exact SeqAt.ne_plain r1 r2 sd se (by omega) ⟨.bl _, H, I, rfl, q⟩
theorem ops_eq : OpS K mg r (rEqP K) eqD := by
  intro Hs H tp x y d e z Q w rx ry hz k
  unfold eqD at hz
  split at hz
  · rename_i c
    cases hz
    have c := Bool.and_eq_true_iff.mp c
    have c1 := okq_ok c.1
    have c2 := okq_ok c.2
    exact ⟨d.pd, e.pd, rx.dp w c1.1, ry.dp w c2.1, c1.1, c2.1, c1.2, k _ _ _ (Grow.refl _ _) w (.bl _)⟩
  · cases hz
theorem ops_ne : OpS K mg r (rNeP K) neD := by
  intro Hs H tp x y d e z Q w rx ry hz k
  unfold neD at hz
  split at hz
  · rename_i c
    cases hz
    have c := Bool.and_eq_true_iff.mp c
    have c1 := okq_ok c.1
    have c2 := okq_ok c.2
    exact ⟨d.pd, e.pd, rx.dp w c1.1, ry.dp w c2.1, c1.1, c2.1, c1.2, k _ _ _ (Grow.refl _ _) w (.bl _)⟩
  · cases hz
/-- x in a list | tuple -/
def itemsD : D → Option (List D)
  | .lst xs => some xs
  | .tup xs => some xs
  | _ => none
def memD (d : D) (xs : List D) : Bool := xs.any fun z => PyData.eqv z.pd d.pd
def inD (d e : D) : Option D := (itemsD e).bind fun xs => if d.okq && e.okq then some (.bl (memD d xs)) else none
def notInD (d e : D) : Option D := (itemsD e).bind fun xs => if d.okq && e.okq then some (.bl (!memD d xs)) else none
def rInP (K : PySem.W.Frag) (neg : Bool) : R2 := fun x y H Q => ∃ d ds, Dp K H x d ∧ (Dp K H y (.list ds) ∨ Dp K H y (.tuple ds)) ∧ d.plain = true ∧ PyData.plainAll ds = true ∧ d.depth ≤ 60 ∧ Q (.bl (if neg then !(ds.any fun z => PyData.eqv z d) else ds.any fun z => PyData.eqv z d)) H
theorem op_inP (hu : X.A.units + 64 < cLine) : OpR X (compareOp .In) (rInP X.K false) := by
  intro pins s σ H x y v u Q I rx ry h
  obtain ⟨d, ds, hd, he, sd, se, dd, q⟩ := h
  obtain ⟨as, r1⟩ := Dp.reads I d x v hd rx
  have hm : min (PyData.depthAll ds) d.depth ≤ d.depth := Nat.min_le_right _ _
  rcases he with he | he
  · obtain ⟨bs, r2⟩ := Dp.reads I _ y u he ry
    exact SeqAt.in_list_data r2 r1 se sd (by omega) ⟨.bl _, H, I, rfl, q⟩
  · obtain ⟨bs, r2⟩ := Dp.reads I _ y u he ry
    exact SeqAt.in_tuple_data r2 r1 se sd (by omega) ⟨.bl _, H, I, rfl, q⟩
theorem op_notInP (hu : X.A.units + 64 < cLine) : OpR X (compareOp .NotIn) (rInP X.K true) := by
  intro pins s σ H x y v u Q I rx ry h
  obtain ⟨d, ds, hd, he, sd, se, dd, q⟩ := h
  obtain ⟨as, r1⟩ := Dp.reads I d x v hd rx
  have hm : min (PyData.depthAll ds) d.depth ≤ d.depth := Nat.min_le_right _ _
  rcases he with he | he
  · obtain ⟨bs, r2⟩ := Dp.reads I _ y u he ry
    exact SeqAt.notIn_list_data r2 r1 se sd (by omega) ⟨.bl _, H, I, rfl, q⟩
  · obtain ⟨bs, r2⟩ := Dp.reads I _ y u he ry
    exact SeqAt.notIn_tuple_data r2 r1 se sd (by omega) ⟨.bl _, H, I, rfl, q⟩
theorem any_pd (d : D) (xs : List D) : ((pdAll xs).any fun z => PyData.eqv z d.pd) = memD d xs := by
  unfold memD
  rw [pdAll_map, List.any_map]
  rfl
theorem in_core {neg : Bool} {Hs H tp x y d e} {Q : VK} {xs : List D} (w : Wd K mg r Hs H tp) (rx : RepT K mg r Hs H x d) (ry : RepT K mg r Hs H y e) (hi : itemsD e = some xs) (hc : (d.okq && e.okq) = true)
    (k : Q (V.bl (if neg then !memD d xs else memD d xs)) H) : rInP K neg x y H Q := by
  have c := Bool.and_eq_true_iff.mp hc
  have c1 := okq_ok c.1
  have c2 := okq_ok c.2
  have hy := ry.dp w c2.1
  refine ⟨d.pd, pdAll xs, rx.dp w c1.1, ?_, c1.1, ?_, c1.2, by rw [any_pd]; exact k⟩
  · cases e with
    | lst es => cases hi; exact .inl hy
    | tup es => cases hi; exact .inr hy
    | _ => cases hi
  · cases e with
    | lst es => cases hi; simpa only [D.pd, PyData.plain] using c2.1
    | tup es => cases hi; simpa only [D.pd, PyData.plain] using c2.1
    | _ => cases hi
theorem ops_in : OpS K mg r (rInP K false) inD := by
  intro Hs H tp x y d e z Q w rx ry hz k
  unfold inD at hz
  obtain ⟨xs, h1, h2⟩ := Option.bind_eq_some_iff.mp hz
  split at h2
  · rename_i c
    cases h2
    exact in_core w rx ry h1 c (k _ _ _ (Grow.refl _ _) w (.bl _))
  · cases h2
theorem ops_notIn : OpS K mg r (rInP K true) notInD := by
  intro Hs H tp x y d e z Q w rx ry hz k
  unfold notInD at hz
  obtain ⟨xs, h1, h2⟩ := Option.bind_eq_some_iff.mp hz
  split at h2
  · rename_i c
    cases h2
    exact in_core w rx ry h1 c (k _ _ _ (Grow.refl _ _) w (.bl _))
  · cases h2
def isNoneD (d e : D) : Option D := match d, e with
  | .non, .non => some (.bl true)
  | .bl a, .bl b => some (.bl (decide (a = b)))
  | _, .non => some (.bl false)
  | _, _ => none
theorem repT_ne_non {v : V} {d : D} (h : RepT K mg r Hs H v d) (n : d ≠ .non) : decide (v = .non) = false := by
  refine decide_eq_false fun e => ?_
  subst e
  rcases h with h | ⟨p, e, _⟩
  · cases h; exact n rfl
  · cases e
theorem ops_is : OpS K mg r (fun x y H Q => (y = .non ∧ Q (.bl (decide (x = .non))) H) ∨ ∃ a b, x = .bl a ∧ y = .bl b ∧ Q (.bl (decide (a = b))) H) isNoneD := by
  intro Hs H tp x y d e z Q w rx ry hz k
  unfold isNoneD at hz
  split at hz
  · cases hz
    rw [repT_non rx, repT_non ry]
    exact .inl ⟨rfl, k _ _ _ (Grow.refl _ _) w (.bl _)⟩
  · cases hz
    rw [repT_bl rx, repT_bl ry]
    exact .inr ⟨_, _, rfl, rfl, k _ _ _ (Grow.refl _ _) w (.bl _)⟩
  · cases hz
    refine .inl ⟨repT_non ry, ?_⟩
    rw [repT_ne_non rx (by intro e; subst e; simp_all)]
    exact k _ _ _ (Grow.refl _ _) w (.bl _)
  · cases hz
theorem opr_is : OpR X (compareOp .Is) (fun x y H Q => (y = .non ∧ Q (.bl (decide (x = .non))) H) ∨ ∃ a b, x = .bl a ∧ y = .bl b ∧ Q (.bl (decide (a = b))) H) := op_isN.or op_is_bl
def ixD : D → D → Option D
  | .lst xs, .int i => atI xs i
  | .tup xs, .int i => atI xs i
  | .scr ns, .int i => (atI ns i).map .int
  | .str s, .int i => if s.length ≤ sizeLine then (atI s.cps.toList i).map fun c => .str ⟨#[c]⟩ else none
  | _, _ => none
theorem atI_rep {vs : List V} {ds : List D} {i : Int} {d : D} (h : RepDs K mg r Hs vs ds) (e : atI ds i = some d) : ∃ v, atI vs i = some v ∧ RepD K mg r Hs v d := by
  unfold atI at e ⊢
  rw [h.length]
  obtain ⟨j, h1, h2⟩ := Option.bind_eq_some_iff.mp e
  obtain ⟨v, h3, h4⟩ := h.get' h2
  exact ⟨v, by rw [h1]; exact h3, h4⟩
theorem atI_map {α β : Type} (f : α → β) (xs : List α) (i : Int) : atI (xs.map f) i = (atI xs i).map f := by
  unfold atI
  rw [List.length_map]
  cases ixN xs.length i with
  | none => rfl
  | some j => simp
theorem ops_ix : OpS K mg r (rIx K) ixD := by
  intro Hs H tp x y d e z Q w rx ry hz k
  unfold ixD at hz
  split at hz
  · obtain ⟨p, vs, rfl, h1, h2⟩ := repT_lst w rx
    obtain ⟨v, h3, h4⟩ := atI_rep h2 hz
    exact .inl ⟨p, vs, _, v, rfl, repT_int ry, .of h1, h3, k _ _ _ (Grow.refl _ _) w h4⟩
  · obtain ⟨p, vs, rfl, _, h1, h2⟩ := repT_tup w rx
    obtain ⟨v, h3, h4⟩ := atI_rep h2 hz
    exact .inr (.inl ⟨p, vs, _, v, rfl, repT_int ry, .of h1, h3, k _ _ _ (Grow.refl _ _) w h4⟩)
  · obtain ⟨p, rfl, h1⟩ := repT_scr w rx
    obtain ⟨n, h2, h3⟩ := Option.map_eq_some_iff.mp hz
    subst h3
    exact .inl ⟨p, _, _, _, rfl, repT_int ry, h1, by rw [atI_map, h2]; rfl, k _ _ _ (Grow.refl _ _) w (.int _)⟩
  · split at hz
    · rename_i c
      obtain ⟨n, h2, h3⟩ := Option.map_eq_some_iff.mp hz
      subst h3
      exact .inr (.inr ⟨_, _, _, repT_str rx, repT_int ry, c, h2, k _ _ _ (Grow.refl _ _) w (.str _)⟩)
    · cases hz
  · cases hz
/-- a slice's part -/
def optI (m : Option (SE D)) : SE (Option Int) := fun env tp => match m with
  | none => .ok none tp
  | some m => (m env tp).bind fun d tp1 => match d with
    | .int i => .ok (some i) tp1
    | _ => .stuck
structure GP (K : PySem.W.Frag) (mg : Str → Option Value) (r : Addr) (X : Cx) (O : List Nat) (E : XK) (e : Option Expr) (t : TO) (m : SE (Option Int)) : Prop where
  pe : PO X e t
  snd : ∀ Hs0 H0 Hs H σ env tp Q, Rel K mg r O Hs0 H0 Hs H σ env tp → Post K mg r (fun _ _ (a b : Option Int) => a = b) E Hs H (m env tp) Q → t σ H Q
variable {O : List Nat} {E : XK}
theorem gp_none : GP K mg r X O E none tNoPart (optI none) := ⟨po_none, fun Hs0 H0 Hs H σ env tp Q R P => P _ Hs H (Grow.refl _ _) R.wd rfl⟩
theorem gp_some {e : Expr} {t : TE} {m : SE D} (h : GE K mg r X O E e t m) : GP K mg r X O E (some e) (tPart t) (optI (some m)) := by
  refine ⟨po_some h.pe, fun Hs0 H0 Hs H σ env tp Q Rl P => ?_⟩
  refine h.snd _ _ _ _ _ _ _ _ Rl (Post.bind P fun v Hs1 H1 d tp1 _ g w rv P1 => ?_)
  cases d with
  | int i => cases rv; exact ⟨i, rfl, P1 _ Hs1 H1 (Grow.refl _ _) w rfl⟩
  | _ => exact P1.elim
def cutD {α : Type} (xs : List α) (lo hi : Option Int) : List α := (xs.drop (HT.sIx xs.length 0 lo)).take (HT.sIx xs.length xs.length hi - HT.sIx xs.length 0 lo)
def sliceD (d : D) (lo hi : Option Int) : Option D := match d with
  | .lst xs => some (.lst (cutD xs lo hi))
  | .tup xs => some (.tup (cutD xs lo hi))
  | .str s => if s.length ≤ sizeLine then some (.str (cutS s lo hi)) else none
  | _ => none
def sliceE (m : SE D) (ml mh : SE (Option Int)) : SE D := fun env tp => (m env tp).bind fun d tp1 => (ml env tp1).bind fun lo tp2 => (mh env tp2).bind fun hi tp3 => RE.of (sliceD d lo hi) tp3
theorem cut_rep {vs : List V} {ds : List D} (h : RepDs K mg r Hs vs ds) (lo hi : Option Int) : RepDs K mg r Hs (cutV vs lo hi) (cutD ds lo hi) := by
  unfold cutV cutD
  rw [h.length]
  exact (h.drop _).take _
theorem cut_whole {vs : List V} {lo hi : Option Int} (h : HT.sIx vs.length 0 lo = 0 ∧ HT.sIx vs.length vs.length hi = vs.length) : cutV vs lo hi = vs := by
  unfold cutV
  rw [h.1, h.2]
  simp
abbrev rSlD (K : PySem.W.Frag) : V → Option Int → Option Int → Hp → VK → Prop := fun x lo hi H Q => rSlL K x lo hi H Q ∨ rSlA K x lo hi H Q ∨ rSlS x lo hi H Q
theorem ge_slice {e : Expr} {lo hi : Option Expr} {p2 pos : Pos} {t : TE} {tl th : TO} {m : SE D} {ml mh : SE (Option Int)} (h : GO K mg r X O E e t m) (hl : GP K mg r X O E lo tl ml) (hh : GP K mg r X O E hi th mh) (hK : X.K = K := by rfl) : GE K mg r X O E (.Subscript e (.Slice lo hi none p2) pos) (tSl (rSlD K) t tl th) (sliceE m ml mh) := by
  subst hK
  refine ⟨pe_slice (sl_list.or (sl_tupA.or sl_str)) h.pe hl.pe hh.pe, fun Hs0 H0 Hs H σ env tp Q Rl P => ?_⟩
  refine h.snd _ _ _ _ _ _ _ _ Rl (Post.bind P fun v Hs1 H1 d tp1 _ g w rv P1 => ?_)
  refine hl.snd _ _ _ _ _ _ _ _ (Rl.grow g w) (Post.bind P1 fun l Hs2 H2 l' tp2 _ g2 w2 el P2 => ?_)
  refine hh.snd _ _ _ _ _ _ _ _ (Rl.grow (g.trans g2) w2) (Post.bind P2 fun u Hs3 H3 u' tp3 _ g3 w3 eu P3 => ?_)
  subst el eu
  obtain ⟨z, hz, k⟩ := Post.ok_of P3
  have rv := rv.grow (g2.trans g3)
  unfold sliceD at hz
  split at hz
  · cases hz
    obtain ⟨p, vs, rfl, h1, h2⟩ := repT_lst w3 rv
    refine .inl ⟨p, vs, rfl, .of h1, fun q hq => ?_⟩
    obtain ⟨g', w'⟩ := w3.alloc (o := .lst (cutV vs l u)) hq
    exact k _ _ _ g' w' (.lst upd_same ((cut_rep h2 l u).mono g'.ex))
  · cases hz
    obtain ⟨p, vs, rfl, h0, h1, h2⟩ := repT_tup w3 rv
    refine .inr (.inl ⟨p, vs, rfl, .of h1, fun e => ?_, fun _ q hq => ?_⟩)
    · have h4 := cut_rep h2 l u
      rw [cut_whole e] at h4
      exact k _ _ _ (Grow.refl _ _) w3 (.tup h0 h4)
    · obtain ⟨g', w'⟩ := w3.alloc (o := .tup (cutV vs l u)) hq
      exact k _ _ _ g' w' (.tup upd_same ((cut_rep h2 l u).mono g'.ex))
  · split at hz
    · rename_i c
      cases hz
      exact .inr (.inr ⟨_, repT_str rv, c, k _ _ _ (Grow.refl _ _) w3 (.str _)⟩)
    · cases hz
  · cases hz
theorem paired1 {α β : Type} {F : α → β → Prop} {xs : List α} {y : β} (h : Paired F xs [y]) : ∃ x, xs = [x] ∧ F x y := by
  cases h with
  | cons a b => cases b; exact ⟨_, rfl, a⟩
theorem paired2 {α β : Type} {F : α → β → Prop} {xs : List α} {y y' : β} (h : Paired F xs [y, y']) : ∃ x x', xs = [x, x'] ∧ F x y ∧ F x' y' := by
  cases h with
  | cons a b =>
    obtain ⟨x', rfl, h⟩ := paired1 b
    exact ⟨_, _, rfl, a, h⟩
theorem RepP.length : ∀ {vs : List (D × V)} {ds : List (D × D)}, RepP K mg r Hs vs ds → vs.length = ds.length
  | _, _, .nil => rfl
  | _, _, .cons _ q => by simp only [List.length_cons, RepP.length q]
def lenD : List D → Option D
  | [.lst xs] => some (.int xs.length)
  | [.tup xs] => some (.int xs.length)
  | [.scr xs] => some (.int xs.length)
  | [.str s] => if s.length ≤ sizeLine then some (.int s.length) else none
  | _ => none
theorem cs_len : CallS K mg r (fun xs H Q => (∃ p ys, xs = [.ref p] ∧ (SqL K H p ys ∨ SqT K H p ys) ∧ Q (.int ys.length) H) ∨ ∃ z, xs = [.str z] ∧ z.length ≤ sizeLine ∧ Q (.int z.length) H) lenD := by
  intro Hs H tp xs ds z Q w rx hz k
  unfold lenD at hz
  split at hz
  · cases hz
    obtain ⟨x, rfl, h⟩ := paired1 rx
    obtain ⟨p, vs, rfl, h1, h2⟩ := repT_lst w h
    refine .inl ⟨p, vs, rfl, .inl (.of h1), ?_⟩
    rw [h2.length]
    exact k _ _ _ (Grow.refl _ _) w (.int _)
  · cases hz
    obtain ⟨x, rfl, h⟩ := paired1 rx
    obtain ⟨p, vs, rfl, _, h1, h2⟩ := repT_tup w h
    refine .inl ⟨p, vs, rfl, .inr (.of h1), ?_⟩
    rw [h2.length]
    exact k _ _ _ (Grow.refl _ _) w (.int _)
  · cases hz
    obtain ⟨x, rfl, h⟩ := paired1 rx
    obtain ⟨p, rfl, h1⟩ := repT_scr w h
    refine .inl ⟨p, _, rfl, .inl h1, ?_⟩
    rw [List.length_map]
    exact k _ _ _ (Grow.refl _ _) w (.int _)
  · split at hz
    · rename_i c
      cases hz
      obtain ⟨x, rfl, h⟩ := paired1 rx
      exact .inr ⟨_, by rw [repT_str h], c, k _ _ _ (Grow.refl _ _) w (.int _)⟩
    · cases hz
  · cases hz
theorem cr_len : CallR X (.builtin "len") (fun xs H Q => (∃ p ys, xs = [.ref p] ∧ (SqL X.K H p ys ∨ SqT X.K H p ys) ∧ Q (.int ys.length) H) ∨ ∃ z, xs = [.str z] ∧ z.length ≤ sizeLine ∧ Q (.int z.length) H) := call_len_seq.or call_len_str
def intD : List D → Option D
  | [.int i] => some (.int i)
  | [.bl b] => some (.int (if b then 1 else 0))
  | _ => none
theorem cs_int : CallS K mg r (fun xs H Q => (∃ i, xs = [.int i] ∧ Q (.int i) H) ∨ ∃ k, xs = [.bl k] ∧ Q (.int (if k then 1 else 0)) H) intD := by
  intro Hs H tp xs ds z Q w rx hz k
  unfold intD at hz
  split at hz
  · cases hz
    obtain ⟨x, rfl, h⟩ := paired1 rx
    exact .inl ⟨_, by rw [repT_int h], k _ _ _ (Grow.refl _ _) w (.int _)⟩
  · cases hz
    obtain ⟨x, rfl, h⟩ := paired1 rx
    exact .inr ⟨_, by rw [repT_bl h], k _ _ _ (Grow.refl _ _) w (.int _)⟩
  · cases hz
def tupleD : List D → Option D
  | [.lst xs] => some (.tup xs)
  | [.tup xs] => some (.tup xs)
  | _ => none
theorem cs_tuple : CallS K mg r (fun xs H Q => ∃ p ys, xs = [.ref p] ∧ ((SqL K H p ys ∧ ∀ l, H l = none → Q (.ref l) (upd H l (.tup ys))) ∨ (SqT K H p ys ∧ Q (.ref p) H))) tupleD := by
  intro Hs H tp xs ds z Q w rx hz k
  unfold tupleD at hz
  split at hz
  · cases hz
    obtain ⟨x, rfl, h⟩ := paired1 rx
    obtain ⟨p, vs, rfl, h1, h2⟩ := repT_lst w h
    refine ⟨p, vs, rfl, .inl ⟨.of h1, fun q hq => ?_⟩⟩
    obtain ⟨g', w'⟩ := w.alloc (o := .tup vs) hq
    exact k _ _ _ g' w' (.tup upd_same (h2.mono g'.ex))
  · cases hz
    obtain ⟨x, rfl, h⟩ := paired1 rx
    obtain ⟨p, vs, rfl, h0, h1, h2⟩ := repT_tup w h
    exact ⟨p, vs, rfl, .inr ⟨.of h1, k _ _ _ (Grow.refl _ _) w (.tup h0 h2)⟩⟩
  · cases hz
def listD : List D → Option D
  | [.lst xs] => some (.lst xs)
  | [.tup xs] => some (.lst xs)
  | [.scr ns] => some (.lst (ns.map .int))
  | _ => none
def unB : List D → Option (List Bool)
  | [] => some []
  | .bl b :: r => (unB r).map (b :: ·)
  | _ => none
def unI : List D → Option (List Int)
  | [] => some []
  | .int b :: r => (unI r).map (b :: ·)
  | _ => none
def unS : List D → Option (List Str)
  | [] => some []
  | .str b :: r => (unS r).map (b :: ·)
  | _ => none
theorem unB_ok : ∀ {ds : List D} {bs : List Bool}, unB ds = some bs → ds = bs.map .bl
  | [], _, h => by cases h; rfl
  | d :: ds, bs, h => by
    cases d with
    | bl b =>
      obtain ⟨cs, h1, h2⟩ := Option.map_eq_some_iff.mp (show (unB ds).map (b :: ·) = some bs from h)
      subst h2
      rw [unB_ok h1]; rfl
    | _ => cases h
theorem unI_ok : ∀ {ds : List D} {bs : List Int}, unI ds = some bs → ds = bs.map .int
  | [], _, h => by cases h; rfl
  | d :: ds, bs, h => by
    cases d with
    | int b =>
      obtain ⟨cs, h1, h2⟩ := Option.map_eq_some_iff.mp (show (unI ds).map (b :: ·) = some bs from h)
      subst h2
      rw [unI_ok h1]; rfl
    | _ => cases h
theorem unS_ok : ∀ {ds : List D} {bs : List Str}, unS ds = some bs → ds = bs.map .str
  | [], _, h => by cases h; rfl
  | d :: ds, bs, h => by
    cases d with
    | str b =>
      obtain ⟨cs, h1, h2⟩ := Option.map_eq_some_iff.mp (show (unS ds).map (b :: ·) = some bs from h)
      subst h2
      rw [unS_ok h1]; rfl
    | _ => cases h
@[simp] theorem unB_map : ∀ bs : List Bool, unB (bs.map .bl) = some bs
  | [] => rfl
  | b :: bs => by show (unB (bs.map .bl)).map (b :: ·) = _; rw [unB_map bs]; rfl
@[simp] theorem unI_map : ∀ bs : List Int, unI (bs.map .int) = some bs
  | [] => rfl
  | b :: bs => by show (unI (bs.map .int)).map (b :: ·) = _; rw [unI_map bs]; rfl
@[simp] theorem unS_map : ∀ bs : List Str, unS (bs.map .str) = some bs
  | [] => rfl
  | b :: bs => by show (unS (bs.map .str)).map (b :: ·) = _; rw [unS_map bs]; rfl
def allD : List D → Option D
  | [.lst xs] => (unB xs).map fun bs => .bl (bs.all id)
  | _ => none
def anyD : List D → Option D
  | [.lst xs] => (unB xs).map fun bs => .bl (bs.any id)
  | _ => none
def sumD : List D → Option D
  | [.lst xs] => (unI xs).map fun bs => .int bs.sum
  | _ => none
theorem lst_typed {α : Type} {f : α → D} {g : α → V} (hfg : ∀ {Hs : Hp} {ns : List α} {vs : List V}, RepDs K mg r Hs vs (ns.map f) → vs = ns.map g) {v : V} {ns : List α} (w : Wd K mg r Hs H tp) (h : RepT K mg r Hs H v (.lst (ns.map f))) : ∃ p, v = .ref p ∧ H p = some (.lst (ns.map g)) := by
  obtain ⟨p, vs, rfl, h1, h2⟩ := repT_lst w h
  rw [hfg h2] at h1
  exact ⟨p, rfl, h1⟩
theorem cs_all : CallS K mg r (rAll K) allD := by
  intro Hs H tp xs ds z Q w rx hz k
  unfold allD at hz
  split at hz
  · obtain ⟨bs, h1, h2⟩ := Option.map_eq_some_iff.mp hz
    subst h2
    obtain ⟨x, rfl, h⟩ := paired1 rx
    rw [unB_ok h1] at h
    obtain ⟨p, rfl, h3⟩ := lst_typed RepDs.bls_of w h
    exact ⟨p, bs, rfl, .of h3, k _ _ _ (Grow.refl _ _) w (.bl _)⟩
  · cases hz
theorem cs_any : CallS K mg r (rAny K) anyD := by
  intro Hs H tp xs ds z Q w rx hz k
  unfold anyD at hz
  split at hz
  · obtain ⟨bs, h1, h2⟩ := Option.map_eq_some_iff.mp hz
    subst h2
    obtain ⟨x, rfl, h⟩ := paired1 rx
    rw [unB_ok h1] at h
    obtain ⟨p, rfl, h3⟩ := lst_typed RepDs.bls_of w h
    exact ⟨p, bs, rfl, .of h3, k _ _ _ (Grow.refl _ _) w (.bl _)⟩
  · cases hz
theorem cs_sum : CallS K mg r (rSum K) sumD := by
  intro Hs H tp xs ds z Q w rx hz k
  unfold sumD at hz
  split at hz
  · obtain ⟨bs, h1, h2⟩ := Option.map_eq_some_iff.mp hz
    subst h2
    obtain ⟨x, rfl, h⟩ := paired1 rx
    rw [unI_ok h1] at h
    obtain ⟨p, rfl, h3⟩ := lst_typed RepDs.ints_of w h
    exact ⟨p, bs, rfl, .of h3, k _ _ _ (Grow.refl _ _) w (.int _)⟩
  · cases hz
def tyN : D → Option String
  | .non => some "NoneType"
  | .bl _ => some "bool"
  | .int _ => some "int"
  | .str _ => some "str"
  | .tup _ => some "tuple"
  | .lst _ => some "list"
  | _ => none
def unT : List D → Option (List String)
  | [] => some []
  | .ty n :: r => (unT r).map (n :: ·)
  | _ => none
theorem unT_ok : ∀ {ds : List D} {bs : List String}, unT ds = some bs → ds = bs.map .ty
  | [], _, h => by cases h; rfl
  | d :: ds, bs, h => by
    cases d with
    | ty b =>
      obtain ⟨cs, h1, h2⟩ := Option.map_eq_some_iff.mp (show (unT ds).map (b :: ·) = some bs from h)
      subst h2
      rw [unT_ok h1]; rfl
    | _ => cases h
theorem RepDs.tys_of : ∀ {ns : List String} {vs : List V}, RepDs K mg r Hs vs (ns.map D.ty) → vs = ns.map V.ty
  | [], _, .nil => rfl
  | n :: ns, _, .cons h q => by cases h; rw [RepDs.tys_of q]; rfl
def kitBs (a : String) : List String → Option Bool
  | [] => some false
  | b :: bs => match kitB a b, kitBs a bs with
    | some true, some _ => some true
    | some false, some c => some c
    | _, _ => none
theorem kitBs_ok {a : String} : ∀ {bs : List String} {c : Bool}, kitBs a bs = some c → PySem.W.kitAny K (.type a) (bs.map Value.type) = some c
  | [], c, h => by cases h; exact kitAny_nil
  | b :: bs, c, h => by
    have h : (match kitB a b, kitBs a bs with
      | some true, some _ => some true
      | some false, some c => some c
      | _, _ => none) = some c := h
    cases e1 : kitB a b with
    | none => rw [e1] at h; cases h
    | some x =>
      cases e2 : kitBs a bs with
      | none => rw [e1, e2] at h; cases x <;> cases h
      | some y =>
        rw [e1, e2] at h
        refine kitAny_cons (b := x) (kit_ty e1) (fun hb => ?_) (fun hb => ?_)
        · subst hb; cases h; exact kitBs_ok e2
        · subst hb; cases h; rfl
def isiD : List D → Option D
  | [d, .ty n] => (tyN d).bind fun t => (kitB t n).map .bl
  | [d, .tup ds] => (tyN d).bind fun t => (unT ds).bind fun ns => (kitBs t ns).map .bl
  | _ => none
theorem tyx_of {v : V} {d : D} {t : String} (w : Wd K mg r Hs H tp) (h : RepT K mg r Hs H v d) (e : tyN d = some t) : TyX K H v (.type t) := by
  cases d with
  | non => cases e; rw [repT_non h]; exact .base .non
  | bl b => cases e; rw [repT_bl h]; exact .base (.bl _)
  | int b => cases e; rw [repT_int h]; exact .base (.int _)
  | str b => cases e; rw [repT_str h]; exact .base (.str _)
  | tup ds => cases e; obtain ⟨p, vs, rfl, _, h1, h2⟩ := repT_tup w h; exact .base (.tup h1)
  | lst ds => cases e; obtain ⟨p, vs, rfl, h1, h2⟩ := repT_lst w h; exact .base (.lst h1)
  | _ => cases e
theorem cls_all : ∀ ns : List String, Paired ClsV (ns.map V.ty) (ns.map Value.type)
  | [] => .nil
  | n :: ns => .cons (.ty n) (cls_all ns)
theorem cs_isi : CallS K mg r (fun x H Q => rIsi K x H Q ∨ rIsiT K x H Q) isiD := by
  intro Hs H tp xs ds z Q w rx hz k
  unfold isiD at hz
  split at hz
  · obtain ⟨t, h1, h2⟩ := Option.bind_eq_some_iff.mp hz
    obtain ⟨b, h3, h4⟩ := Option.map_eq_some_iff.mp h2
    subst h4
    obtain ⟨x, x', rfl, r1, r2⟩ := paired2 rx
    rcases r2 with r2 | ⟨_, _, _, r2⟩
    · cases r2
      exact .inl ⟨x, _, _, _, b, rfl, .ty _, tyx_of w r1 h1, kit_ty h3, k _ _ _ (Grow.refl _ _) w (.bl _)⟩
    · exact r2.elim
  · obtain ⟨t, h1, h2⟩ := Option.bind_eq_some_iff.mp hz
    obtain ⟨ns, h3, h4⟩ := Option.bind_eq_some_iff.mp h2
    obtain ⟨b, h5, h6⟩ := Option.map_eq_some_iff.mp h4
    subst h6
    obtain ⟨x, x', rfl, r1, r2⟩ := paired2 rx
    obtain ⟨p, vs, rfl, _, g1, g2⟩ := repT_tup w r2
    rw [unT_ok h3] at g2
    rw [RepDs.tys_of g2] at g1
    exact .inr ⟨x, p, _, _, _, b, rfl, g1, cls_all ns, tyx_of w r1 h1, kitBs_ok h5, k _ _ _ (Grow.refl _ _) w (.bl _)⟩
  · cases hz
theorem cr_isi : CallR X (.builtin "isinstance") (fun x H Q => rIsi X.K x H Q ∨ rIsiT X.K x H Q) := call_isi.or call_isiT
theorem ge_ty {x : Str} {T : String} {pos : Pos} (hm : X.mg x = none) (hv : bootBuiltins x = some (.type T) := by decide +kernel) (hg : Gl X x := by rfl) (hn : x ≠ "__name__" := by decide) (hd : (x == ("__debug__" : Str)) = false := by decide) : GE K mg r X O E (.Name x pos) (tC (.ty T)) (cE (.ty T)) :=
  ge_c (v := .ty T) (pe_bltn hg hm hv rfl hn hd) fun _ => .ty T
variable {a b c : Expr} {pos : Pos} {ta tb tc : TE} {ma mb mc : SE D}
theorem ge_add (ha : GO K mg r X O E a ta ma) (hb : GO K mg r X O E b tb mb) (hK : X.K = K := by rfl) : GE K mg r X O E (.BinOp a .Add b pos) (tOp (rAddD K) ta tb) (binE addD ma mb) := by subst hK; exact ge_op opr_add ops_add ha hb
theorem ge_sub (ha : GO K mg r X O E a ta ma) (hb : GO K mg r X O E b tb mb) : GE K mg r X O E (.BinOp a .Sub b pos) (tOp (rI0 fun i j => .int (i - j)) ta tb) (binE subD ma mb) := ge_op op_sub ops_sub ha hb
theorem ge_mul (ha : GO K mg r X O E a ta ma) (hb : GO K mg r X O E b tb mb) (hK : X.K = K := by rfl) : GE K mg r X O E (.BinOp a .Mult b pos) (tOp (rMulD K) ta tb) (binE mulD ma mb) := by subst hK; exact ge_op opr_mul ops_mul ha hb
theorem ge_fdiv (ha : GO K mg r X O E a ta ma) (hb : GO K mg r X O E b tb mb) : GE K mg r X O E (.BinOp a .FloorDiv b pos) (tOp (rI CDivW fun i j => .int (i / j)) ta tb) (binE fdivD ma mb) := ge_op op_fdivW ops_fdiv ha hb
theorem ge_mod (ha : GO K mg r X O E a ta ma) (hb : GO K mg r X O E b tb mb) : GE K mg r X O E (.BinOp a .Mod b pos) (tOp (rI (fun _ j => 0 < j) fun i j => .int (i % j)) ta tb) (binE modD ma mb) := ge_op op_mod ops_mod ha hb
theorem ge_pow (ha : GO K mg r X O E a ta ma) (hb : GO K mg r X O E b tb mb) : GE K mg r X O E (.BinOp a .Pow b pos) (tOp (rI CPow fun i j => .int (i ^ j.toNat)) ta tb) (binE powD ma mb) := ge_op op_pow ops_pow ha hb
theorem ge_shl (ha : GO K mg r X O E a ta ma) (hb : GO K mg r X O E b tb mb) : GE K mg r X O E (.BinOp a .LShift b pos) (tOp (rI CPow fun i j => .int (i * 2 ^ j.toNat)) ta tb) (binE shlD ma mb) := ge_op op_shl ops_shl ha hb
theorem ge_shr (ha : GO K mg r X O E a ta ma) (hb : GO K mg r X O E b tb mb) : GE K mg r X O E (.BinOp a .RShift b pos) (tOp (rI (fun _ j => 0 ≤ j) fun i j => .int (i / 2 ^ j.toNat)) ta tb) (binE shrD ma mb) := ge_op op_shr ops_shr ha hb
theorem ge_band (ha : GO K mg r X O E a ta ma) (hb : GO K mg r X O E b tb mb) : GE K mg r X O E (.BinOp a .BitAnd b pos) (tOp (rI0 fun i j => .int (Builtin.bitAnd i j)) ta tb) (binE bandD ma mb) := ge_op op_and ops_band ha hb
theorem ge_neg (ha : GO K mg r X O E a ta ma) : GE K mg r X O E (.UnaryOp .USub a pos) (tUn (rU fun i => .int (-i)) ta) (unE negD ma) := ge_un un_neg uns_neg ha
abbrev rLtD : R2 := fun x y H Q => (∃ i j, x = .int i ∧ y = .int j ∧ Q (.bl (decide (i < j))) H) ∨ (∃ i j, x = .str i ∧ y = .str j ∧ Q (.bl (decide (i.cps.toList < j.cps.toList))) H)
abbrev rLeD : R2 := rI0 fun i j => .bl (decide (i ≤ j))
abbrev rGtD : R2 := rI0 fun i j => .bl (decide (j < i))
abbrev rGeD : R2 := rI0 fun i j => .bl (decide (j ≤ i))
theorem ge_eq (hu : X.A.units + 64 < cLine) (ha : GO K mg r X O E a ta ma) (hb : GO K mg r X O E b tb mb) (hK : X.K = K := by rfl) : GE K mg r X O E (.Compare a [.Eq] [b] pos) (tOp (rEqP K) ta tb) (binE eqD ma mb) := by subst hK; exact ge_cmp (op_eqP hu) ops_eq ha hb (nomark _)
theorem ge_in (hu : X.A.units + 64 < cLine) (ha : GO K mg r X O E a ta ma) (hb : GO K mg r X O E b tb mb) (hm : behindInMarks .In b = false := by rfl) (hK : X.K = K := by rfl) : GE K mg r X O E (.Compare a [.In] [b] pos) (tOp (rInP K false) ta tb) (binE inD ma mb) := by subst hK; exact ge_cmp (op_inP hu) ops_in ha hb hm
abbrev rIsD : R2 := fun x y H Q => (y = .non ∧ Q (.bl (decide (x = .non))) H) ∨ ∃ a b, x = .bl a ∧ y = .bl b ∧ Q (.bl (decide (a = b))) H
theorem ge_sub1 (ha : GO K mg r X O E a ta ma) (hb : GO K mg r X O E b tb mb) (hs : PlainIx b := by exact fun _ _ => rfl) (hK : X.K = K := by rfl) : GE K mg r X O E (.Subscript a b pos) (tOp (rIx K) ta tb) (binE ixD ma mb) := by subst hK; exact ge_ix ix_seq ops_ix ha hb hs
variable {ts : TA} {ms : SE (List D)} {p : Pos} {es : List Expr} {e : Expr}
abbrev rLenD (K : PySem.W.Frag) : List V → Hp → VK → Prop := fun xs H Q => (∃ p ys, xs = [.ref p] ∧ (SqL K H p ys ∨ SqT K H p ys) ∧ Q (.int ys.length) H) ∨ ∃ z, xs = [.str z] ∧ z.length ≤ sizeLine ∧ Q (.int z.length) H
theorem ge_len (hm : X.mg "len" = none) (ha : GAO K mg r X O E [e] ts ms) (hg : Gl X "len" := by rfl) (he : starEach [e] X.env = (false, eval e X.env) :: starEach [] X.env := by rfl) (hpl : (backTo pos (starEach [] X.env)).any (·.1) = false := by rfl) (hK : X.K = K := by rfl) : GE K mg r X O E (.Call (.Name "len" p) [e] [] pos) (tCB (rLenD K) ts) (callB lenD ms) := by
  subst hK; exact ge_callB (R := rLenD X.K) cr_len cs_len hm ha hg PySem.boot_len (by decide) (by decide) he hpl
abbrev rIntD : List V → Hp → VK → Prop := fun xs H Q => (∃ i, xs = [.int i] ∧ Q (.int i) H) ∨ ∃ k, xs = [.bl k] ∧ Q (.int (if k then 1 else 0)) H
theorem ge_int1 (hm : X.mg "int" = none) (ha : GAO K mg r X O E [e] ts ms) (hg : Gl X "int" := by rfl) (he : starEach [e] X.env = (false, eval e X.env) :: starEach [] X.env := by rfl) (hpl : (backTo pos (starEach [] X.env)).any (·.1) = false := by rfl) : GE K mg r X O E (.Call (.Name "int" p) [e] [] pos) (tCB rIntD ts) (callB intD ms) :=
  ge_callTy (R := rIntD) call_int1 cs_int hm ha hg (by decide +kernel) (by decide) (by decide) he hpl
abbrev rTupleD (K : PySem.W.Frag) : List V → Hp → VK → Prop := fun xs H Q => ∃ p ys, xs = [.ref p] ∧ ((SqL K H p ys ∧ ∀ l, H l = none → Q (.ref l) (upd H l (.tup ys))) ∨ (SqT K H p ys ∧ Q (.ref p) H))
theorem ge_tuple (hm : X.mg "tuple" = none) (ha : GAO K mg r X O E [e] ts ms) (hg : Gl X "tuple" := by rfl) (he : starEach [e] X.env = (false, eval e X.env) :: starEach [] X.env := by rfl) (hpl : (backTo pos (starEach [] X.env)).any (·.1) = false := by rfl) (hK : X.K = K := by rfl) : GE K mg r X O E (.Call (.Name "tuple" p) [e] [] pos) (tCB (rTupleD K) ts) (callB tupleD ms) := by
  subst hK; exact ge_callTy (R := rTupleD X.K) call_tuple_of cs_tuple hm ha hg (by decide +kernel) (by decide) (by decide) he hpl
abbrev rListD1 (K : PySem.W.Frag) : List V → Hp → VK → Prop := fun xs H Q => ∃ p ys, xs = [.ref p] ∧ (SqL K H p ys ∨ SqT K H p ys) ∧ ∀ l, H l = none → Q (.ref l) (upd H l (.lst ys))
theorem ge_all (hc : X.calm = true) (hm : X.mg "all" = none) (ha : GAO K mg r X O E [e] ts ms) (hg : Gl X "all" := by rfl) (he : starEach [e] X.env = (false, eval e X.env) :: starEach [] X.env := by rfl) (hpl : (backTo pos (starEach [] X.env)).any (·.1) = false := by rfl) (hK : X.K = K := by rfl) : GE K mg r X O E (.Call (.Name "all" p) [e] [] pos) (tCB (rAll K) ts) (callB allD ms) := by
  subst hK; exact ge_callB (cr_all hc) cs_all hm ha hg (by decide +kernel) (by decide) (by decide) he hpl
theorem ge_any (hc : X.calm = true) (hm : X.mg "any" = none) (ha : GAO K mg r X O E [e] ts ms) (hg : Gl X "any" := by rfl) (he : starEach [e] X.env = (false, eval e X.env) :: starEach [] X.env := by rfl) (hpl : (backTo pos (starEach [] X.env)).any (·.1) = false := by rfl) (hK : X.K = K := by rfl) : GE K mg r X O E (.Call (.Name "any" p) [e] [] pos) (tCB (rAny K) ts) (callB anyD ms) := by
  subst hK; exact ge_callB (cr_any hc) cs_any hm ha hg (by decide +kernel) (by decide) (by decide) he hpl
abbrev rIsiD (K : PySem.W.Frag) : List V → Hp → VK → Prop := fun x H Q => rIsi K x H Q ∨ rIsiT K x H Q
theorem ge_isi {e2 : Expr} (hm : X.mg "isinstance" = none) (ha : GAO K mg r X O E [e, e2] ts ms) (hg : Gl X "isinstance" := by rfl) (he : starEach [e, e2] X.env = (false, eval e X.env) :: starEach [e2] X.env := by rfl) (hpl : (backTo pos (starEach [e2] X.env)).any (·.1) = false := by rfl) (hK : X.K = K := by rfl) : GE K mg r X O E (.Call (.Name "isinstance" p) [e, e2] [] pos) (tCB (rIsiD K) ts) (callB isiD ms) := by
  subst hK; exact ge_callB (R := rIsiD X.K) cr_isi cs_isi hm ha hg (by decide +kernel) (by decide) (by decide) he hpl
end
end G
set_option maxHeartbeats 1000000
namespace G
open PySem PySem.Spec PyProof.Rows L2
inductive RS where
  | nx (env : DEnv) (tp : List D)
  | rt (d : D) (tp : List D)
  | bk (env : DEnv) (tp : List D)
  | ct (env : DEnv) (tp : List D)
  | exn (c : Str) (fs : List (Str × D)) (tp : List D)
  | stuck
abbrev SS := DEnv → List D → RS
def RE.bindS {α : Type} (x : RE α) (k : α → List D → RS) : RS := match x with
  | .ok a tp => k a tp
  | .exn c fs tp => .exn c fs tp
  | .stuck => .stuck
@[simp] theorem RE.bindS_ok {α : Type} (a : α) (tp : List D) (k : α → List D → RS) : (RE.ok a tp).bindS k = k a tp := rfl
@[simp] theorem RE.bindS_exn {α : Type} (c : Str) (fs : List (Str × D)) (tp : List D) (k : α → List D → RS) : (RE.exn c fs tp : RE α).bindS k = .exn c fs tp := rfl
@[simp] theorem RE.bindS_stuck {α : Type} (k : α → List D → RS) : (RE.stuck : RE α).bindS k = .stuck := rfl
section
variable {K : PySem.W.Frag} {mg : Str → Option Value} {r : Addr} {Hs0 H0 Hs Hs' H H' : Hp} {O O' : List Nat} {σ : L2.St} {env : DEnv} {tp tp' : List D} {p : Addr} {d : D} {v : V}
theorem get_set {α : Type} {xs : List (Option α)} {i j : Nat} {v : α} {w : α} (h : (xs.set i (some v))[j]? = some (some w)) : (j = i ∧ v = w ∧ i < xs.length) ∨ (j ≠ i ∧ xs[j]? = some (some w)) := by
  by_cases q : j = i
  · subst q
    rw [List.getElem?_set] at h
    simp only [if_true] at h
    split at h
    · cases h; exact .inl ⟨rfl, rfl, by assumption⟩
    · cases h
  · rw [List.getElem?_set_ne (Ne.symm q)] at h
    exact .inr ⟨q, h⟩
theorem set_get {α : Type} {xs : List (Option α)} {i : Nat} {v : α} (h : i < xs.length) : (xs.set i (some v))[i]? = some (some v) := by
  rw [List.getElem?_set_self h]
theorem set_gne {α : Type} {xs : List (Option α)} {i j : Nat} {v : Option α} (h : j ≠ i) : (xs.set i v)[j]? = xs[j]? := List.getElem?_set_ne (Ne.symm h)
/-- some owned objects come to stand still -/
theorem Rel.freeze (R : Rel K mg r O Hs0 H0 Hs H σ env tp) (h : ∀ i ∈ O', i ∈ O) : ∃ Hs', Same Hs Hs' ∧ Rel K mg r O' Hs0 H0 Hs' H σ env tp := by
  classical
  let fz : Addr → Prop := fun b => ∃ i, i ∈ O ∧ i ∉ O' ∧ σ[i]? = some (some (.ref b))
  let Hs' : Hp := fun b => if fz b then H b else Hs b
  have fzn : ∀ b, fz b → Hs b = none ∧ H0 b = none ∧ b ≠ r := fun b ⟨i, h1, _, h3⟩ => by
    obtain ⟨d, p, _, b2, c, c0, n, _⟩ := R.own i h1
    rw [h3] at b2; cases b2
    exact ⟨c, c0, n⟩
  have e : Same Hs Hs' := .of fun b o q => by
    show (if fz b then H b else Hs b) = some o
    by_cases z : fz b
    · rw [(fzn b z).1] at q; cases q
    · rw [if_neg z]; exact q
  have sub : Same Hs' H := fun b o q => by
    have q : (if fz b then H b else Hs b) = some o := q
    by_cases z : fz b
    · rw [if_pos z] at q; exact .inl q
    · rw [if_neg z] at q; exact R.wd.sub b o q
  have tn : Hs' r = none := by
    show (if fz r then H r else Hs r) = none
    rw [if_neg fun z => (fzn r z).2.2 rfl]; exact R.wd.tn
  refine ⟨Hs', e, ⟨⟨sub, tn, ?_, fun b φ q => ?_⟩, ⟨R.gr.keep, R.gr.free, R.gr.ex.trans e, fun b o n q => ?_, R.gr.tup⟩, R.len, fun i d a n => ?_, fun i hi => ?_, fun i j p hi hj a b => R.dis i j p (h i hi) (h j hj) a b⟩⟩
  · obtain ⟨vs, a, b⟩ := R.wd.tH
    exact ⟨vs, a, b.mono e⟩
  · have q : (if fz b then H b else Hs b) = some (.ext φ) := q
    by_cases z : fz b
    · rw [if_pos z] at q
      obtain ⟨i, h1, _, h3⟩ := z
      obtain ⟨d, p, _, b2, _, _, _, oa⟩ := R.own i h1
      rw [h3] at b2; cases b2
      exact oa.next φ q
    · rw [if_neg z] at q; exact R.wd.nx b φ q
  · have q : (if fz b then H b else Hs b) = some o := q
    by_cases z : fz b
    · exact .inr (.inl (fzn b z).2.1)
    · rw [if_neg z] at q; exact R.gr.new b o n q
  · by_cases m : i ∈ O
    · obtain ⟨d', p, b1, b2, c, c0, ne, oa⟩ := R.own i m
      rw [a] at b1; cases b1
      refine ⟨_, b2, oa.rep e fun o q => ?_⟩
      show (if fz p then H p else Hs p) = some o
      rw [if_pos ⟨i, m, n, b2⟩]; exact q
    · obtain ⟨v, b1, b2⟩ := R.vars i d a m
      exact ⟨v, b1, b2.mono e⟩
  · obtain ⟨d', p, b1, b2, c, c0, ne, oa⟩ := R.own i (h i hi)
    refine ⟨d', p, b1, b2, ?_, c0, ne, oa.grow e fun o q => q⟩
    show (if fz p then H p else Hs p) = none
    rw [if_neg]
    · exact c
    · rintro ⟨j, hj, hj', q⟩
      have := R.dis i j p (h i hi) hj b2 q
      subst this
      exact hj' hi
/-- a name gets a value that stands still -/
theorem Rel.set (R : Rel K mg r O Hs0 H0 Hs H σ env tp) (i : Nat) (hr : RepD K mg r Hs v d) : Rel K mg r (O.filter (· != i)) Hs0 H0 Hs H (σ.set i (some v)) (env.set i (some d)) tp where
  wd := R.wd
  gr := R.gr
  len := by rw [List.length_set, List.length_set]; exact R.len
  vars := fun j e a n => by
    rcases get_set a with ⟨rfl, rfl, hl⟩ | ⟨ne, a⟩
    · exact ⟨v, set_get (by rw [R.len]; exact hl), hr⟩
    · have n' : j ∉ O := fun m => n (List.mem_filter.mpr ⟨m, by simpa using ne⟩)
      obtain ⟨w, b1, b2⟩ := R.vars j e a n'
      exact ⟨w, by rw [set_gne ne]; exact b1, b2⟩
  own := fun j hj => by
    obtain ⟨m, ne⟩ := List.mem_filter.mp hj
    have ne : j ≠ i := by simpa using ne
    obtain ⟨d', p, b1, b2, c⟩ := R.own j m
    exact ⟨d', p, by rw [set_gne ne]; exact b1, by rw [set_gne ne]; exact b2, c⟩
  dis := fun j l p hj hl a b => by
    obtain ⟨m, ne⟩ := List.mem_filter.mp hj
    obtain ⟨m', ne'⟩ := List.mem_filter.mp hl
    rw [set_gne (by simpa using ne)] at a
    rw [set_gne (by simpa using ne')] at b
    exact R.dis j l p m m' a b
/-- a name gets a fresh object -/
theorem Rel.setF (R : Rel K mg r O Hs0 H0 Hs H σ env tp) (i : Nat) (hi : i < env.length) (h0 : H0 p = none) (hs : Hs p = none) (ne : p ≠ r) (ho : OwnAt K mg r Hs H p d) (hd : ∀ j ∈ O, σ[j]? ≠ some (some (.ref p))) :
    Rel K mg r (i :: O.filter (· != i)) Hs0 H0 Hs H (σ.set i (some (.ref p))) (env.set i (some d)) tp where
  wd := R.wd
  gr := R.gr
  len := by rw [List.length_set, List.length_set]; exact R.len
  vars := fun j e a n => by
    rcases get_set a with ⟨rfl, rfl, hl⟩ | ⟨ne, a⟩
    · exact absurd List.mem_cons_self n
    · have n' : j ∉ O := fun m => n (List.mem_cons_of_mem _ (List.mem_filter.mpr ⟨m, by simpa using ne⟩))
      obtain ⟨w, b1, b2⟩ := R.vars j e a n'
      exact ⟨w, by rw [set_gne ne]; exact b1, b2⟩
  own := fun j hj => by
    rcases List.mem_cons.mp hj with rfl | hj
    · exact ⟨d, p, set_get hi, set_get (by rw [R.len]; exact hi), hs, h0, ne, ho⟩
    · obtain ⟨m, ne⟩ := List.mem_filter.mp hj
      have ne : j ≠ i := by simpa using ne
      obtain ⟨d', p, b1, b2, c⟩ := R.own j m
      exact ⟨d', p, by rw [set_gne ne]; exact b1, by rw [set_gne ne]; exact b2, c⟩
  dis := fun j l q hj hl a b => by
    rcases List.mem_cons.mp hj with rfl | hj
    · rcases List.mem_cons.mp hl with rfl | hl
      · rfl
      · obtain ⟨m', ne'⟩ := List.mem_filter.mp hl
        rw [set_gne (by simpa using ne')] at b
        rw [set_get (by rw [R.len]; exact hi)] at a
        cases a
        exact absurd b (hd l m')
    · obtain ⟨m, ne⟩ := List.mem_filter.mp hj
      rw [set_gne (by simpa using ne)] at a
      rcases List.mem_cons.mp hl with rfl | hl
      · rw [set_get (by rw [R.len]; exact hi)] at b
        cases b
        exact absurd a (hd j m)
      · obtain ⟨m', ne'⟩ := List.mem_filter.mp hl
        rw [set_gne (by simpa using ne')] at b
        exact R.dis j l q m m' a b
/-- an owned object is changed -/
theorem Rel.write {o : HO} {i : Nat} (R : Rel K mg r O Hs0 H0 Hs H σ env tp) (hi : i ∈ O) (hp : σ[i]? = some (some (.ref p))) (ho : OwnAt K mg r Hs (upd H p o) p d) : Rel K mg r O Hs0 H0 Hs (upd H p o) σ (env.set i (some d)) tp := by
  obtain ⟨d0, p0, b1, b2, c, c0, ne, oa⟩ := R.own i hi
  rw [hp] at b2; cases b2
  have hl : i < env.length := by
    rcases Nat.lt_or_ge i env.length with q | q
    · exact q
    · rw [List.getElem?_eq_none q] at b1; cases b1
  refine ⟨R.wd.write c ne (fun xs z => st_no (oa.ntup _ z) xs rfl), ⟨fun b u q n hs => ?_, fun b e => R.gr.free b (upd_free e), R.gr.ex, R.gr.new, fun b xs e => by rw [upd_ne (ne_of_none e c0)]; exact R.gr.tup b xs e⟩, by rw [List.length_set]; exact R.len, fun j e a n => ?_, fun j hj => ?_, R.dis⟩
  · rw [upd_ne (ne_of_none q c0)]; exact R.gr.keep b u q n hs
  · rcases get_set a with ⟨rfl, rfl, _⟩ | ⟨_, a⟩
    · exact absurd hi n
    · exact R.vars j e a n
  · by_cases q : j = i
    · subst q
      exact ⟨d, p, set_get hl, hp, c, c0, ne, ho⟩
    · obtain ⟨d', p', e1, e2, f, f0, fn, fo⟩ := R.own j hj
      have np : p' ≠ p := fun z => q (by subst z; exact R.dis j i p' hj hi e2 hp)
      exact ⟨d', p', by rw [set_gne q]; exact e1, e2, f, f0, fn, fo.grow (Same.refl _) fun u z => by rw [upd_ne np]; exact z⟩
/-- the tape is written -/
theorem Rel.tape {vs : List V} {j : Nat} (R : Rel K mg r O Hs0 H0 Hs H σ env tp) (h : H r = some (.lst vs)) (hv : RepDs K mg r Hs vs tp) (hr : RepD K mg r Hs v d) : Rel K mg r O Hs0 H0 Hs (upd H r (.lst (vs.set j v))) σ env (tp.set j d) := by
  refine ⟨⟨fun b u q => ?_, R.wd.tn, ⟨_, upd_same, hv.set j hr⟩, R.wd.nx⟩, ⟨fun b u q n hs => ?_, fun b e => R.gr.free b (upd_free e), R.gr.ex, R.gr.new, fun b xs e => by have q := R.gr.tup b xs e; rw [upd_ne (ne_of q h (fun z => st_no (o := .lst vs) rfl xs z.symm))]; exact q⟩, R.len, R.vars, fun i hi => ?_, R.dis⟩
  · exact (R.wd.sub b u q).upd (ne_of_none q R.wd.tn) fun xs z => by rw [h] at z; first | exact st_no rfl xs (Option.some.inj z) | cases z
  · rw [upd_ne n]; exact R.gr.keep b u q n hs
  · obtain ⟨d', p, b1, b2, c, c0, ne, oa⟩ := R.own i hi
    exact ⟨d', p, b1, b2, c, c0, ne, oa.grow (Same.refl _) fun u z => by rw [upd_ne ne]; exact z⟩
end
section
variable (K : PySem.W.Frag) (mg : Str → Option Value) (r : Addr) (X : Cx) (E : XK) (O On Ol : List Nat)
def PostS (Hs0 H0 Hs : Hp) (res : RS) (D : Ends) : Prop := match res with
  | .nx env' tp' => ∀ σ' Hs' H', Same Hs Hs' → Rel K mg r On Hs0 H0 Hs' H' σ' env' tp' → D.nx σ' H'
  | .rt d tp' => ∀ v Hs' H', Grow r Hs0 H0 Hs' H' → Wd K mg r Hs' H' tp' → RepD K mg r Hs' v d → D.rt v H'
  | .bk env' tp' => ∀ σ' Hs' H', Same Hs Hs' → Rel K mg r Ol Hs0 H0 Hs' H' σ' env' tp' → D.bk σ' H'
  | .ct env' tp' => ∀ σ' Hs' H', Same Hs Hs' → Rel K mg r Ol Hs0 H0 Hs' H' σ' env' tp' → D.ct σ' H'
  | .exn c fs tp' => ∀ cv dx Hs' H', Grow r Hs0 H0 Hs' H' → Wd K mg r Hs' H' tp' → mg c = some cv → ExD K mg r Hs' fs dx → E cv dx H'
  | .stuck => False
structure GS (st : Stmt) (t : TS) (m : SS) : Prop where
  pe : PS X st t
  snd : ∀ Hs0 H0 Hs H σ env tp D, Rel K mg r O Hs0 H0 Hs H σ env tp → PostS K mg r E On Ol Hs0 H0 Hs (m env tp) D → t D σ H
structure GSs (st : List Stmt) (t : TS) (m : SS) : Prop where
  pe : PSs X st t
  snd : ∀ Hs0 H0 Hs H σ env tp D, Rel K mg r O Hs0 H0 Hs H σ env tp → PostS K mg r E On Ol Hs0 H0 Hs (m env tp) D → t D σ H
end
section
variable {K : PySem.W.Frag} {mg : Str → Option Value} {r : Addr} {X : Cx} {E : XK} {O O1 On Ol : List Nat} {e a b : Expr} {es : List Expr} {pos : Pos} {t ta tb : TE} {tt : TT} {ts : TA} {s1 : Stmt} {ss : List Stmt} {u u1 u2 : TS}
theorem PostS.shift {Hs0 H0 Hs Hs1 : Hp} {res : RS} {D : Ends} (e : Same Hs Hs1) (h : PostS K mg r E On Ol Hs0 H0 Hs res D) : PostS K mg r E On Ol Hs0 H0 Hs1 res D := by
  cases res with
  | nx env tp => exact fun σ Hs' H' e' R => h σ Hs' H' (e.trans e') R
  | bk env tp => exact fun σ Hs' H' e' R => h σ Hs' H' (e.trans e') R
  | ct env tp => exact fun σ Hs' H' e' R => h σ Hs' H' (e.trans e') R
  | _ => exact h
/-- an expression's value, then the rest of a statement -/
theorem PostS.bind {β α : Type} {R1 : Hp → Hp → β → α → Prop} {Hs0 H0 Hs H : Hp} {σ : L2.St} {env : DEnv} {tp : List D} {res : RE α} {k : α → List D → RS} {D : Ends} {Q1 : β → Hp → Prop} (R : Rel K mg r O Hs0 H0 Hs H σ env tp) (h : PostS K mg r E On Ol Hs0 H0 Hs (res.bindS k) D)
    (step : ∀ v Hs1 H1 d tp1, res = .ok d tp1 → Grow r Hs H Hs1 H1 → Wd K mg r Hs1 H1 tp1 → Rel K mg r O Hs0 H0 Hs1 H1 σ env tp1 → R1 Hs1 H1 v d → PostS K mg r E On Ol Hs0 H0 Hs1 (k d tp1) D → Q1 v H1) : Post K mg r R1 E Hs H res Q1 := by
  cases res with
  | ok d tp1 => exact fun v Hs1 H1 g w q => step v Hs1 H1 d tp1 rfl g w (R.grow g w) q (PostS.shift g.ex h)
  | exn c fs tp1 => exact fun cv dx Hs1 H1 g w m x => h cv dx Hs1 H1 (R.gr.trans g) w m x
  | stuck => exact h
theorem PostS.weak {On' : List Nat} {Hs0 H0 Hs : Hp} {res : RS} {D : Ends} (h : PostS K mg r E On' Ol Hs0 H0 Hs res D) (hO : ∀ i ∈ On', i ∈ On) : PostS K mg r E On Ol Hs0 H0 Hs res D := by
  cases res with
  | nx env tp =>
    intro σ Hs1 H e1 R
    obtain ⟨Hs', e, R'⟩ := R.freeze hO
    exact h σ Hs' H (e1.trans e) R'
  | _ => exact h
/-- ahead of it some owned objects come to stand still -/
theorem GS.pre {O' : List Nat} {m : SS} (hO : ∀ i ∈ O', i ∈ O) (h : GS K mg r X E O' On Ol s1 u m) : GS K mg r X E O On Ol s1 u m :=
  ⟨h.pe, fun Hs0 H0 Hs H σ env tp D R P => by
    obtain ⟨Hs', e, R'⟩ := R.freeze hO
    exact h.snd _ _ _ _ _ _ _ _ R' (P.shift e)⟩
/-- behind it -/
theorem GS.post {On' : List Nat} {m : SS} (hO : ∀ i ∈ On', i ∈ On) (h : GS K mg r X E O On Ol s1 u m) : GS K mg r X E O On' Ol s1 u m :=
  ⟨h.pe, fun Hs0 H0 Hs H σ env tp D R P => h.snd _ _ _ _ _ _ _ _ R (P.weak hO)⟩
theorem GSs.post {On' : List Nat} {m : SS} (hO : ∀ i ∈ On', i ∈ On) (h : GSs K mg r X E O On Ol ss u m) : GSs K mg r X E O On' Ol ss u m :=
  ⟨h.pe, fun Hs0 H0 Hs H σ env tp D R P => h.snd _ _ _ _ _ _ _ _ R (P.weak hO)⟩
def skipS : SS := fun env tp => .nx env tp
def seqS (m n : SS) : SS := fun env tp => match m env tp with
  | .nx e tp1 => n e tp1
  | x => x
theorem gss_nil : GSs K mg r X E O O Ol [] tNext skipS := ⟨pss_nil, fun Hs0 H0 Hs H σ env tp D R P => P _ _ _ (Same.refl _) R⟩
theorem gss_cons {m n : SS} (h1 : GS K mg r X E O O1 Ol s1 u1 m) (h2 : GSs K mg r X E O1 On Ol ss u2 n) : GSs K mg r X E O On Ol (s1 :: ss) (tSeq u1 u2) (seqS m n) := by
  refine ⟨pss_cons h1.pe h2.pe, fun Hs0 H0 Hs H σ env tp D R P => ?_⟩
  refine h1.snd _ _ _ _ _ _ _ _ R ?_
  unfold seqS at P
  cases q : m env tp with
  | nx e tp1 => rw [q] at P; exact fun σ' Hs' H' e' R' => h2.snd _ _ _ _ _ _ _ _ R' (P.shift e')
  | rt d tp1 => rw [q] at P; exact P
  | bk e tp1 => rw [q] at P; exact P
  | ct e tp1 => rw [q] at P; exact P
  | exn c fs tp1 => rw [q] at P; exact P
  | stuck => rw [q] at P; exact P
theorem gss_one {m : SS} (h1 : GS K mg r X E O On Ol s1 u1 m) : GSs K mg r X E O On Ol [s1] u1 m := ⟨pss_one h1.pe, h1.snd⟩
def setS (i : Nat) (m : SE D) : SS := fun env tp => (m env tp).bindS fun d tp1 => .nx (env.set i (some d)) tp1
def retS (m : SE D) : SS := fun env tp => (m env tp).bindS fun d tp1 => .rt d tp1
def dropS (m : SE D) : SS := fun env tp => (m env tp).bindS fun _ tp1 => .nx env tp1
def ifS (c : SE Bool) (m n : SS) : SS := fun env tp => (c env tp).bindS fun b tp1 => if b = true then m env tp1 else n env tp1
theorem setS_sound {m : SE D} (i : Nat) (h : ∀ Hs0 H0 Hs H σ env tp Q, Rel K mg r O Hs0 H0 Hs H σ env tp → PostE K mg r E Hs H (m env tp) Q → t σ H Q) :
    ∀ Hs0 H0 Hs H σ env tp D, Rel K mg r O Hs0 H0 Hs H σ env tp → PostS K mg r E (O.filter (· != i)) Ol Hs0 H0 Hs (setS i m env tp) D → tAsg t (gName i) D σ H := by
  intro Hs0 H0 Hs H σ env tp D R P
  exact h _ _ _ _ _ _ _ _ R (PostS.bind R P fun v Hs1 H1 d tp1 _ g w R1 rv P1 => P1 _ _ _ (Same.refl _) (R1.set i rv))
def setFS (i : Nat) (m : SE D) : SS := fun env tp => (m env tp).bindS fun d tp1 => if i < env.length then .nx (env.set i (some d)) tp1 else .stuck
theorem Rel.new_ne {Hs0 H0 Hs H : Hp} {σ : L2.St} {env : DEnv} {tp : List D} {p : Addr} (R : Rel K mg r O Hs0 H0 Hs H σ env tp) (h1 : H p = none) (h3 : p ≠ r) : H0 p = none ∧ ∀ j ∈ O, σ[j]? ≠ some (some (.ref p)) := by
  refine ⟨?_, fun j hj q => ?_⟩
  · exact R.gr.free p h1
  · obtain ⟨d', p', b1, b2, c, c0, ne, oa⟩ := R.own j hj
    rw [q] at b2; cases b2
    obtain ⟨o, ho⟩ := oa.there
    rw [ho] at h1; cases h1
theorem setF_sound {m : SE D} (i : Nat) (h : ∀ Hs0 H0 Hs H σ env tp Q, Rel K mg r O Hs0 H0 Hs H σ env tp → Post K mg r (Fresh K mg r H) E Hs H (m env tp) Q → t σ H Q) :
    ∀ Hs0 H0 Hs H σ env tp D, Rel K mg r O Hs0 H0 Hs H σ env tp → PostS K mg r E (i :: O.filter (· != i)) Ol Hs0 H0 Hs (setFS i m env tp) D → tAsg t (gName i) D σ H := by
  intro Hs0 H0 Hs H σ env tp D R P
  refine h _ _ _ _ _ _ _ _ R (PostS.bind R P fun v Hs1 H1 d tp1 _ g w R1 rv P1 => ?_)
  obtain ⟨p, rfl, h1, h2, h3, h4⟩ := rv
  split at P1
  · rename_i hl
    obtain ⟨n1, n2⟩ := R.new_ne h1 h3
    exact P1 _ _ _ (Same.refl _) (R1.setF i hl n1 h2 h3 h4 n2)
  · exact P1.elim
theorem gs_set {m : SE D} (i : Nat) {x : Str} {pos' : Pos} (hN : X.N.Nodup) (h : GE K mg r X O E e t m) (hi : X.N[i]? = some x := by rfl) (hx : Loc X.env.scope x := by first | exact Or.inl rfl | exact Or.inr rfl) (hs : swapsWith e (some (.Name x pos')) pos.line X.env = pure false := by rfl)
    (hf : X.fn x = true ∨ X.env.scope.names.lookup x = some .local := by first | exact .inl rfl | exact .inr rfl) : GS K mg r X E O (O.filter (· != i)) Ol (.Assign [.Name x pos'] e pos) (tAsg t (gName i)) (setS i m) :=
  ⟨ps_set hN hi hx h.pe hs hf, setS_sound i h.snd⟩
theorem gs_setF {m : SE D} (i : Nat) {x : Str} {pos' : Pos} (hN : X.N.Nodup) (h : GF K mg r X O E e t m) (hi : X.N[i]? = some x := by rfl) (hx : Loc X.env.scope x := by first | exact Or.inl rfl | exact Or.inr rfl) (hs : swapsWith e (some (.Name x pos')) pos.line X.env = pure false := by rfl)
    (hf : X.fn x = true ∨ X.env.scope.names.lookup x = some .local := by first | exact .inl rfl | exact .inr rfl) : GS K mg r X E O (i :: O.filter (· != i)) Ol (.Assign [.Name x pos'] e pos) (tAsg t (gName i)) (setFS i m) :=
  ⟨ps_set hN hi hx h.pe hs hf, setF_sound i h.snd⟩
theorem gs_ret {m : SE D} (h : GE K mg r X O E e t m) : GS K mg r X E O On Ol (.Return (some e) pos) (tRet t) (retS m) :=
  ⟨ps_ret h.pe, fun Hs0 H0 Hs H σ env tp D R P => h.snd _ _ _ _ _ _ _ _ R (PostS.bind R P fun v Hs1 H1 d tp1 _ g w R1 rv P1 => P1 v Hs1 H1 R1.gr w rv)⟩
/-- a slot's own object is handed back -/
theorem gs_retO (i : Nat) {x : Str} (hO : i ∈ O) (hN : X.N[i]? = some x := by rfl) {p2 : Pos} (hv : Vis X.env.scope x := by first | exact Or.inl rfl | exact Or.inr (Or.inl rfl) | exact Or.inr (Or.inr rfl)) (hd : (x == ("__debug__" : Str)) = false := by decide)
    (hcd : (x == ("__classdict__" : Str)) = false := by decide) : GS K mg r X E O On Ol (.Return (some (.Name x p2)) pos) (tRet (tVar i)) (retS (vE i)) :=
  GS.pre (O' := []) (fun _ h => nomatch h) (gs_ret (ge_var i (by simp) hN hv hd hcd))
theorem gs_drop {m : SE D} (h : GE K mg r X O E e t m) (hs : swapsWith e none pos.line X.env = pure false := by rfl) : GS K mg r X E O O Ol (.Expr e pos) (tDrop t) (dropS m) :=
  ⟨ps_expr h.pe hs, fun Hs0 H0 Hs H σ env tp D R P => h.snd _ _ _ _ _ _ _ _ R (PostS.bind R P fun v Hs1 H1 d tp1 _ g w R1 rv P1 => P1 _ _ _ (Same.refl _) R1)⟩
theorem gs_never : GS K mg r X E O On Ol s1 tNever (fun _ _ => .stuck) := ⟨ps_never, fun Hs0 H0 Hs H σ env tp D R P => P⟩
theorem gs_if {mc : SE Bool} {m n : SS} {bs : List Stmt} (hc : GT K mg r X O E e tt mc) (h1 : GSs K mg r X E O On Ol ss u1 m) (h2 : GSs K mg r X E O On Ol bs u2 n) : GS K mg r X E O On Ol (.If e ss bs pos) (tIfS tt u1 u2) (ifS mc m n) := by
  refine ⟨ps_if hc.pe h1.pe h2.pe, fun Hs0 H0 Hs H σ env tp D R P => ?_⟩
  refine hc.snd _ _ _ _ _ _ _ _ R (PostS.bind R P fun v Hs1 H1 d tp1 _ g w R1 rv P1 => ?_)
  subst rv
  cases v with
  | true => exact iteT (h1.snd _ _ _ _ _ _ _ _ R1 P1)
  | false => exact iteF (h2.snd _ _ _ _ _ _ _ _ R1 P1)
def appS (i : Nat) (m : SE D) : SS := fun env tp => match env[i]? with
  | some (some (.lst ds)) => (m env tp).bindS fun d tp1 => if ds.length < sizeLine then .nx (env.set i (some (.lst (ds ++ [d])))) tp1 else .stuck
  | _ => .stuck
theorem gs_append {m : SE D} (i : Nat) {x : Str} {p1 p2 p3 : Pos} (hO : i ∈ O) (h : GE K mg r X O E e t m) (hK : X.K = K := by rfl) (hN : X.N[i]? = some x := by rfl) (hv : Vis X.env.scope x := by first | exact Or.inl rfl | exact Or.inr (Or.inl rfl) | exact Or.inr (Or.inr rfl)) (hd : (x == ("__debug__" : Str)) = false := by decide)
    (hcd : (x == ("__classdict__" : Str)) = false := by decide)
    (hbase : attributeBase (.Name x p1) "append" X.env (eval (.Name x p1) X.env) = eval (.Name x p1) X.env := by rfl)
    (hfew : ((backTo p3 (starEach [e] X.env)).all (fun x => !x.1) && (backToKw p3 (keywordEach [] X.env)).all (fun x => x.1.isSome) && decide ([e].length + ([] : List Keyword).length + (if ([] : List Keyword).isEmpty then 0 else 1) < 30)) = true := by rfl)
    (hline : (p2.endLine == p3.line) = true := by rfl) (hs : starEach [e] X.env = (false, eval e X.env) :: starEach [] X.env := by rfl) (hplain : (backTo p3 (starEach [] X.env)).any (·.1) = false := by rfl)
    (hsw : swapsWith (.Call (.Attribute (.Name x p1) "append" p2) [e] [] p3) none pos.line X.env = pure false := by rfl) :
    GS K mg r X E O O Ol (.Expr (.Call (.Attribute (.Name x p1) "append" p2) [e] [] p3) pos) (tDrop (tBM K "list" rAppend (tVar i) (tCons t tNil))) (appS i m) := by
  subst hK
  refine ⟨ps_expr (pe_bm PySem.F.plainAttrs_list PySem.F.slot_list_append PySem.F.type_list_append mt_append (pe_var hN hv hd hcd) (pa_cons h.pe pa_nil hs) hbase hfew hline hs hplain) hsw, fun Hs0 H0 Hs H σ env tp D R P => ?_⟩
  obtain ⟨d0, p, b1, b2, c, c0, ne, oa⟩ := R.own i hO
  unfold appS at P
  rw [b1] at P
  cases d0 with
  | lst ds =>
    obtain ⟨vs0, k1, _⟩ := oa
    refine ⟨_, b2, .inl ⟨rfl, vs0, .of k1⟩, ?_⟩
    refine h.snd _ _ _ _ _ _ _ _ R (PostS.bind R P fun v Hs1 H1 d tp1 _ g w R1 rv P1 => ?_)
    obtain ⟨d1, p1, e1, e2, f, f0, fn, fo⟩ := R1.own i hO
    rw [b2] at e2; cases e2
    rw [b1] at e1; cases e1
    obtain ⟨vs, h1, h2⟩ := fo
    split at P1
    · rename_i hz
      refine ⟨p, vs, v, rfl, rfl, h1, by rw [h2.length]; exact hz, ?_⟩
      exact P1 _ _ _ (Same.refl _) (R1.write hO b2 ⟨_, upd_same, h2.append (.cons rv .nil)⟩)
    · exact P1.elim
  | _ => exact P.elim
def tixE (ma mb : SE D) : SE D := fun env tp => (ma env tp).bind fun d tp1 => match d with
  | .tape => (mb env tp1).bind fun e tp2 => match e with
    | .int i => RE.of (atI tp2 i) tp2
    | _ => .stuck
  | _ => .stuck
theorem ge_tix {ma mb : SE D} (ha : GO K mg r X O E a ta ma) (hb : GO K mg r X O E b tb mb) (hs : PlainIx b := by exact fun _ _ => rfl) (hK : X.K = K := by rfl) : GE K mg r X O E (.Subscript a b pos) (tOp (rIx K) ta tb) (tixE ma mb) := by
  subst hK
  refine ⟨pe_ix ix_seq ha.pe hb.pe hs, fun Hs0 H0 Hs H σ env tp Q R P => ?_⟩
  refine ha.snd _ _ _ _ _ _ _ _ R (Post.bind P fun v Hs1 H1 d tp1 _ g w rv P1 => ?_)
  cases d with
  | tape =>
    refine hb.snd _ _ _ _ _ _ _ _ (R.grow g w) (Post.bind P1 fun u Hs2 H2 e tp2 _ g2 w2 ru P2 => ?_)
    cases e with
    | int i =>
      obtain ⟨z, hz, k⟩ := Post.ok_of P2
      obtain ⟨vs, h1, h2⟩ := w2.tH
      obtain ⟨y, h3, h4⟩ := atI_rep h2 hz
      exact .inl ⟨r, vs, i, y, repT_tape rv, repT_int ru, .of h1, h3, k _ _ _ (Grow.refl _ _) w2 h4⟩
    | _ => exact P2.elim
  | _ => exact P1.elim
def tsetS (j : Nat) (ma mi m : SE D) : SS := fun env tp => (m env tp).bindS fun d tp1 => (ma env tp1).bindS fun o tp2 => (mi env tp2).bindS fun i tp3 => match o, i with
  | .tape, .int k => if ixN tp3.length k = some j then .nx env (tp3.set j d) else .stuck
  | _, _ => .stuck
theorem gs_tset {ma mi m : SE D} (j : Nat) {p1 : Pos} (h : GE K mg r X O E e t m) (ha : GO K mg r X O E a ta ma) (hb : GO K mg r X O E b tb mi)
    (hg : ∀ v, assign (.Subscript a b p1) X.env v = (do
      let ov ← holding [v] (eval a X.env)
      let iv ← holding [v, ov] (eval b X.env)
      standAt p1
      holding [v, ov, iv] (setItem ov iv v)
      release [v, ov, iv] []) := by intro _; rfl)
    (hs : swapsWithSole [.Subscript a b p1] e pos.line X.env = pure false := by rfl) (hw : swappedStores [.Subscript a b p1] e X.env = pure none := by rfl)
    (h1 : (assignEach [.Subscript a b p1] X.env).map (·.2) = [assign (.Subscript a b p1) X.env] := by rfl) :
    GS K mg r X E O O Ol (.Assign [.Subscript a b p1] e pos) (tAsg t (gSub ta tb rSetL)) (tsetS j ma mi m) := by
  refine ⟨ps_asg h.pe (pg_sub ha.pe hb.pe set_list hg) hs hw h1, fun Hs0 H0 Hs H σ env tp D R P => ?_⟩
  refine h.snd _ _ _ _ _ _ _ _ R (PostS.bind R P fun v Hs1 H1 d tp1 _ g w R1 rv P1 => ?_)
  refine ha.snd _ _ _ _ _ _ _ _ R1 (PostS.bind R1 P1 fun o Hs2 H2 od tp2 _ g2 w2 R2 ro P2 => ?_)
  refine hb.snd _ _ _ _ _ _ _ _ R2 (PostS.bind R2 P2 fun i Hs3 H3 id tp3 _ g3 w3 R3 ri P3 => ?_)
  split at P3
  · split at P3
    · rename_i q
      obtain ⟨vs, h1, h2⟩ := w3.tH
      refine ⟨r, vs, _, j, repT_tape ro, repT_int ri, h1, by rw [h2.length]; exact q, ?_⟩
      exact P3 _ _ _ (Same.refl _) (R3.tape h1 h2 (rv.mono (g2.ex.trans g3.ex)))
    · exact P3.elim
  · exact P3.elim
def setAll {α : Type} : List (Option α) → List Nat → List α → List (Option α)
  | s, i :: is, v :: vs => setAll (s.set i (some v)) is vs
  | s, _, _ => s
/-- the target of a loop: the slots that are set -/
structure GG (K : PySem.W.Frag) (mg : Str → Option Value) (r : Addr) (X : Cx) (tg : Expr) (g : TG) (is : List Nat) (f : D → Option (List D)) : Prop where
  pe : PG X tg g
  snd : ∀ v d ds Hs H tp σ (Q : L2.St → Hp → Prop), Wd K mg r Hs H tp → RepD K mg r Hs v d → f d = some ds → (∀ vs, RepDs K mg r Hs vs ds → vs.length = is.length → Q (setAll σ is vs) H) → g v σ H Q
def t1 : D → Option (List D) := fun d => some [d]
def tN (n : Nat) : D → Option (List D)
  | .tup ds => if ds.length = n then some ds else none
  | _ => none
theorem gg_name (i : Nat) {x : Str} (hN : X.N.Nodup) (hi : X.N[i]? = some x := by rfl) (hx : Loc X.env.scope x := by first | exact Or.inl rfl | exact Or.inr rfl) (hf : X.fn x = true ∨ X.env.scope.names.lookup x = some .local := by first | exact .inl rfl | exact .inr rfl) :
    GG K mg r X (.Name x pos) (gName i) [i] t1 :=
  ⟨pg_name hN hi hx hf, fun v d ds Hs H tp σ Q w rv hf q => by
    cases hf
    exact q [v] (.cons rv .nil) rfl⟩
structure GGs (K : PySem.W.Frag) (mg : Str → Option Value) (r : Addr) (X : Cx) (tg : List Expr) (g : TGs) (is : List Nat) : Prop where
  pe : PGs X tg g
  snd : ∀ vs σ H (Q : L2.St → Hp → Prop), vs.length = is.length → Q (setAll σ is vs) H → g vs σ H Q
theorem ggs_nil : GGs K mg r X [] gNil [] := ⟨pgs_nil, fun vs σ H Q hl q => by
  cases vs with
  | nil => exact ⟨rfl, q⟩
  | cons _ _ => cases hl⟩
theorem ggs_cons (i : Nat) {is : List Nat} {x : Str} {g : TGs} (hN : X.N.Nodup) (h : GGs K mg r X es g is) (hi : X.N[i]? = some x := by rfl) (hx : Loc X.env.scope x := by first | exact Or.inl rfl | exact Or.inr rfl) (hf : X.fn x = true ∨ X.env.scope.names.lookup x = some .local := by first | exact .inl rfl | exact .inr rfl)
    (hs : (assignEach (.Name x pos :: es) X.env).map (·.2) = assign (.Name x pos) X.env :: (assignEach es X.env).map (·.2) := by rfl) : GGs K mg r X (.Name x pos :: es) (gCons (gName i) g) (i :: is) :=
  ⟨pgs_cons (pg_name hN hi hx hf) h.pe hs, fun vs σ H Q hl q => by
    cases vs with
    | nil => cases hl
    | cons v vs => exact ⟨v, vs, rfl, h.snd vs _ H Q (by simpa using hl) q⟩⟩
theorem gg_tup {is : List Nat} {g : TGs} {k : Nat} {n : Nat} (hc : X.calm = true) (h : GGs K mg r X es g is) (hn : is.length = n) (hK : X.K = K := by rfl) (hn1 : (assignEach es X.env).length = n := by rfl) (hst : (assignEach es X.env).findIdx? (·.1) = none := by rfl) : GG K mg r X (.Tuple es k pos) (gTup K n g) is (tN n) := by
  subst hK
  refine ⟨pg_tup hc h.pe hn1 hst, fun v d ds Hs H tp σ Q w rv hf q => ?_⟩
  cases d with
  | tup xs =>
    have hf : (if xs.length = n then some xs else none) = some ds := hf
    split at hf
    · rename_i hl
      cases hf
      cases rv with
      | tup h1 h2 => exact ⟨_, _, rfl, .of (w.sub _ _ h1).tup, by rw [h2.length]; exact hl, h.snd _ σ H Q (by rw [h2.length, hn]; exact hl) (q _ h2 (by rw [h2.length, hn]; exact hl))⟩
    · cases hf
  | _ => cases hf
theorem filt_id {O : List Nat} {i : Nat} (h : i ∉ O) : O.filter (· != i) = O := List.filter_eq_self.mpr fun a ha => by
  have : a ≠ i := fun e => h (e ▸ ha)
  simpa using this
theorem rel_setAll {Hs0 H0 Hs H : Hp} {tp : List D} : ∀ (is : List Nat) (σ : L2.St) (env : DEnv) (vs : List V) (ds : List D), Rel K mg r O Hs0 H0 Hs H σ env tp → (∀ i ∈ is, i ∉ O) → RepDs K mg r Hs vs ds → vs.length = is.length → Rel K mg r O Hs0 H0 Hs H (setAll σ is vs) (setAll env is ds) tp
  | [], σ, env, vs, ds, R, _, h, hl => by
    cases vs with
    | nil => cases h; exact R
    | cons _ _ => cases hl
  | i :: is, σ, env, vs, ds, R, hn, h, hl => by
    cases h with
    | nil => cases hl
    | cons h1 h2 =>
      have R1 := R.set i h1
      rw [filt_id (hn i List.mem_cons_self)] at R1
      exact rel_setAll is _ _ _ _ R1 (fun j hj => hn j (List.mem_cons_of_mem _ hj)) h2 (by simpa using hl)
def WalksD (K : PySem.W.Frag) (mg : Str → Option Value) (r : Addr) (J : It) (Hs1 : Hp) (items : List D) : Prop :=
  ∃ (Gd : Hp → Prop) (Y : Nat → Hp → V → Hp → Prop), Walk J items.length Gd Y ∧ (∀ Hs H, Same Hs1 Hs → Same Hs H → Gd H) ∧
    ∀ i Hs H tp x H', i < items.length → Same Hs1 Hs → Wd K mg r Hs H tp → Y i H x H' → ∃ Hs' d, Grow r Hs H Hs' H' ∧ Wd K mg r Hs' H' tp ∧ items[i]? = some d ∧ RepD K mg r Hs' x d
structure GI (K : PySem.W.Frag) (mg : Str → Option Value) (r : Addr) (X : Cx) (O : List Nat) (E : XK) (tg : Expr) (e : Expr) (wi : TI) (m : SE (List D)) : Prop where
  pe : PI X tg e wi
  snd : ∀ Hs0 H0 Hs H σ env tp Q, Rel K mg r O Hs0 H0 Hs H σ env tp → Post K mg r (fun Hs _ J items => WalksD K mg r J Hs items) E Hs H (m env tp) Q → wi σ H Q
theorem pi_or {tg : Expr} {w1 w2 : TI} (h1 : PI X tg e w1) (h2 : PI X tg e w2) : PI X tg e (fun σ H R => w1 σ H R ∨ w2 σ H R) :=
  ⟨fun pins s σ H R I h => h.elim (h1.run pins s σ H R I) (h2.run pins s σ H R I)⟩
/-- the items of a list, a tuple, a text -/
def seqD : D → Option (List D)
  | .lst xs => some xs
  | .tup xs => some xs
  | .scr ns => some (ns.map .int)
  | .str s => some (s.cps.toList.map fun c => .str ⟨#[c]⟩)
  | _ => none
def seqI (m : SE D) : SE (List D) := fun env tp => (m env tp).bind fun d tp1 => RE.of (seqD d) tp1
abbrev iSeq (K : PySem.W.Frag) (t : TE) : TI := fun σ H R => iList K t σ H R ∨ iTup K t σ H R ∨ iStr t σ H R
theorem walks_list {K : PySem.W.Frag} {mg : Str → Option Value} {r : Addr} {Hs : Hp} {a : Addr} {vs : List V} {ds : List D} (h : SqL K Hs a vs) (hr : RepDs K mg r Hs vs ds) : WalksD K mg r (Itl K a) Hs ds := by
  refine ⟨_, _, by rw [← hr.length]; exact walk_list (K := K) (a := a) (xs := vs), fun Hs2 H e1 e2 => Same.seq e2 (Same.seq e1 h), fun i Hs2 H tp x H' hi e w y => ?_⟩
  obtain ⟨rfl, y⟩ := y
  obtain ⟨d, h1, h2⟩ := hr.get y
  exact ⟨Hs2, d, Grow.refl _ _, w, h1, h2.mono e⟩
theorem sqt_mono {K : PySem.W.Frag} {H H' : Hp} {a : Addr} {xs : List V} (e : Same H H') (h : SqT K H a xs) : SqT K H' a xs := e.sqt h
theorem walks_tup {K : PySem.W.Frag} {mg : Str → Option Value} {r : Addr} {Hs : Hp} {a : Addr} {vs : List V} {ds : List D} (h : SqT K Hs a vs) (hr : RepDs K mg r Hs vs ds) : WalksD K mg r (Itt K a) Hs ds := by
  refine ⟨_, _, by rw [← hr.length]; exact walk_tup (K := K) (a := a) (xs := vs), fun Hs2 H e1 e2 => sqt_mono e2 (sqt_mono e1 h), fun i Hs2 H tp x H' hi e w y => ?_⟩
  obtain ⟨rfl, y⟩ := y
  obtain ⟨d, h1, h2⟩ := hr.get y
  exact ⟨Hs2, d, Grow.refl _ _, w, h1, h2.mono e⟩
theorem walks_str {K : PySem.W.Frag} {mg : Str → Option Value} {r : Addr} {Hs : Hp} {z : Str} : WalksD K mg r (Its z) Hs (z.cps.toList.map fun c => .str ⟨#[c]⟩) := by
  refine ⟨_, _, by rw [List.length_map, Array.length_toList]; exact walk_str (z := z), fun Hs2 H e1 e2 => trivial, fun i Hs2 H tp x H' hi e w y => ?_⟩
  obtain ⟨rfl, c, y, rfl⟩ := y
  refine ⟨Hs2, .str ⟨#[c]⟩, Grow.refl _ _, w, ?_, .str _⟩
  rw [List.getElem?_map, Array.getElem?_toList, y]
  rfl
theorem gi_seq {tg : Expr} {m : SE D} (h : GE K mg r X O E e t m) (hK : X.K = K := by rfl) : GI K mg r X O E tg e (iSeq K t) (seqI m) := by
  subst hK
  refine ⟨pi_or (pi_list h.pe) (pi_or (pi_tup h.pe) (pi_str h.pe)), fun Hs0 H0 Hs H σ env tp Q R P => ?_⟩
  unfold seqI at P
  cases q : m env tp with
  | stuck => rw [q] at P; exact P.elim
  | exn c fs tp1 =>
    rw [q] at P
    refine .inl (h.snd _ _ _ _ _ _ _ _ R ?_)
    rw [q]; exact P
  | ok d tp1 =>
    rw [q] at P
    obtain ⟨items, hz, k⟩ := Post.ok_of (show Post X.K mg r (fun Hs _ J items => WalksD X.K mg r J Hs items) E Hs H (RE.of (seqD d) tp1) Q from P)
    cases d with
    | lst xs =>
      cases hz
      refine .inl (h.snd _ _ _ _ _ _ _ _ R ?_)
      rw [q]
      intro v Hs1 H1 g w rv
      cases rv with
      | lst h1 h2 => exact ⟨_, rfl, ⟨_, .of (w.sub _ _ h1).lst⟩, k _ Hs1 H1 g w (walks_list (.of h1) h2)⟩
    | scr ns =>
      cases hz
      refine .inl (h.snd _ _ _ _ _ _ _ _ R ?_)
      rw [q]
      intro v Hs1 H1 g w rv
      cases rv with
      | scr h1 => exact ⟨_, rfl, ⟨_, Same.seq w.sub h1⟩, k _ Hs1 H1 g w (walks_list h1 (RepDs.ints ns))⟩
    | tup xs =>
      cases hz
      refine .inr (.inl (h.snd _ _ _ _ _ _ _ _ R ?_))
      rw [q]
      intro v Hs1 H1 g w rv
      cases rv with
      | tup h1 h2 => exact ⟨_, rfl, ⟨_, .of (w.sub _ _ h1).tup⟩, k _ Hs1 H1 g w (walks_tup (.of h1) h2)⟩
    | str s =>
      cases hz
      refine .inr (.inr (h.snd _ _ _ _ _ _ _ _ R ?_))
      rw [q]
      intro v Hs1 H1 g w rv
      cases rv
      exact ⟨_, rfl, k _ Hs1 H1 g w walks_str⟩
    | _ => cases hz
/-- range -/
def cRg (i : Int) : Bool := decide (-(2 ^ 62) ≤ i) && decide (i < 2 ^ 62)
theorem cRg_ok {i : Int} (h : cRg i = true) : -(2 ^ 62) ≤ i ∧ i < 2 ^ 62 := by
  have h := Bool.and_eq_true_iff.mp h
  exact ⟨of_decide_eq_true h.1, of_decide_eq_true h.2⟩
def rangeL (lo hi : Int) : List D := (List.range (hi - lo).toNat).map fun (i : Nat) => .int (lo + i)
def range1D : List D → Option (List D)
  | [.int j] => if cRg j then some (rangeL 0 j) else none
  | _ => none
def rangeI (f : List D → Option (List D)) (ms : SE (List D)) : SE (List D) := fun env tp => (ms env tp).bind fun ds tp1 => RE.of (f ds) tp1
theorem walks_range {K : PySem.W.Frag} {mg : Str → Option Value} {r : Addr} {Hs : Hp} {lo hi : Int} : WalksD K mg r (Itr lo (hi - lo).toNat) Hs (rangeL lo hi) := by
  have hl : (rangeL lo hi).length = (hi - lo).toNat := by unfold rangeL; rw [List.length_map, List.length_range]
  refine ⟨_, _, by rw [hl]; exact walk_range, fun Hs2 H e1 e2 => trivial, fun i Hs2 H tp x H' hi e w y => ?_⟩
  obtain ⟨rfl, rfl⟩ := y
  refine ⟨Hs2, .int (lo + i), Grow.refl _ _, w, ?_, .int _⟩
  rw [hl] at hi
  unfold rangeL
  rw [List.getElem?_map, List.getElem?_range hi]
  rfl
theorem gi_range1 {tg : Expr} {m : SE (List D)} {p : Pos} (hm : X.mg "range" = none) (h : GAO K mg r X O E [e] ts m) (hg : Gl X "range" := by rfl) (hs : starEach [e] X.env = [(false, eval e X.env)] := by rfl) : GI K mg r X O E tg (.Call (.Name "range" p) [e] [] pos) (iRng1 ts) (rangeI range1D m) := by
  refine ⟨pi_range1 hg hm h.pe hs, fun Hs0 H0 Hs H σ env tp Q R P => ?_⟩
  refine h.snd _ _ _ _ _ _ _ _ R (Post.bind P fun vs Hs1 H1 ds tp1 _ g w rv P1 => ?_)
  obtain ⟨items, hz, k⟩ := Post.ok_of P1
  unfold range1D at hz
  split at hz
  · split at hz
    · rename_i c
      cases hz
      obtain ⟨x, rfl, h1⟩ := paired1 rv
      have c := cRg_ok c
      refine ⟨_, by rw [repT_int h1], c.1, c.2, ?_⟩
      refine k _ Hs1 H1 (Grow.refl _ _) w ?_
      have q := fun j => walks_range (K := K) (mg := mg) (r := r) (Hs := Hs1) (lo := 0) (hi := j)
      simp only [Int.sub_zero] at q
      exact q _
    · cases hz
  · cases hz
def forL (tgt : D → Option (List D)) (is : List Nat) (body : SS) : List D → SS
  | [], env, tp => .nx env tp
  | d :: ds, env, tp => match tgt d with
    | some es => (match body (setAll env is es) tp with
      | .nx e t => forL tgt is body ds e t
      | .ct e t => forL tgt is body ds e t
      | .bk e t => .nx e t
      | x => x)
    | none => .stuck
def forS (mi : SE (List D)) (tgt : D → Option (List D)) (is : List Nat) (body : SS) : SS := fun env tp => (mi env tp).bindS fun items tp1 => forL tgt is body items env tp1
theorem gs_for {tg : Expr} {mi : SE (List D)} {wi : TI} {g : TG} {is : List Nat} {tgt : D → Option (List D)} {body : SS} (hp : PassesOwn (model X.prog X.w) X.A X.env X.xe) (hc : X.calm = true) (hi : GI K mg r X O E tg e wi mi) (hg : GG K mg r X tg g is tgt) (hb : GSs K mg r X E O O O ss u body) (hO : ∀ i ∈ is, i ∉ O)
    (hlen : ∀ d ds, tgt d = some ds → ds.length = is.length) (hs : ∀ x, foldedSetIterable e X.env x = pure x := by intro _; rfl) : GS K mg r X E O O Ol (.For tg e ss [] pos) (tFor wi g u) (forS mi tgt is body) := by
  refine ⟨ps_for hp hc hi.pe hg.pe hb.pe hs, fun Hs0 H0 Hs H σ env tp D R P => ?_⟩
  refine hi.snd _ _ _ _ _ _ _ _ R (PostS.bind R P fun J Hs1 H1 items tp1 _ gg w R1 wd P1 => ?_)
  obtain ⟨Gd, Y, wk, hG, hY⟩ := wd
  refine for_it wk (fun i σ H => ∃ Hs env tp, Rel K mg r O Hs0 H0 Hs H σ env tp ∧ Same Hs1 Hs ∧ PostS K mg r E O Ol Hs0 H0 Hs (forL tgt is body (items.drop i) env tp) D) ⟨Hs1, env, tp1, R1, Same.refl _, P1⟩ (fun i σ H _ ⟨Hs2, _, _, R2, e2, _⟩ => hG Hs2 H e2 R2.wd.sub) (fun i x σ H H' hi ⟨Hs2, env2, tp2, R2, e2, P2⟩ y => ?_) (fun σ H ⟨Hs2, env2, tp2, R2, e2, P2⟩ => ?_)
  · obtain ⟨Hs3, d, g3, w3, hd, rd⟩ := hY i Hs2 H tp2 x H' hi e2 R2.wd y
    rw [List.drop_eq_getElem_cons hi] at P2
    have hd' : items[i] = d := by rw [List.getElem?_eq_getElem hi] at hd; exact Option.some.inj hd
    rw [hd'] at P2
    unfold forL at P2
    cases q : tgt d with
    | none => rw [q] at P2; exact P2.elim
    | some es =>
      rw [q] at P2
      simp only at P2
      refine hg.snd x d es Hs3 H' tp2 σ _ w3 rd q fun vs rs hl => ?_
      have R3 := rel_setAll is _ _ _ _ (R2.grow g3 w3) hO rs hl
      refine hb.snd _ _ _ _ _ _ _ _ R3 ?_
      have P2 := P2.shift g3.ex
      have e3 := e2.trans g3.ex
      have again : ∀ {e t}, PostS K mg r E O Ol Hs0 H0 Hs3 (forL tgt is body (items.drop (i + 1)) e t) D → ∀ σ' Hs' H', Same Hs3 Hs' → Rel K mg r O Hs0 H0 Hs' H' σ' e t → ∃ Hs env tp, Rel K mg r O Hs0 H0 Hs H' σ' env tp ∧ Same Hs1 Hs ∧ PostS K mg r E O Ol Hs0 H0 Hs (forL tgt is body (items.drop (i + 1)) env tp) D := fun P σ' Hs' H' e4 R' => ⟨Hs', _, _, R', e3.trans e4, P.shift e4⟩
      cases q2 : body (setAll env2 is es) tp2 with
      | nx e t => rw [q2] at P2; exact again P2
      | ct e t => rw [q2] at P2; exact again P2
      | bk e t => rw [q2] at P2; exact P2
      | rt d t => rw [q2] at P2; exact P2
      | exn c fs t => rw [q2] at P2; exact P2
      | stuck => rw [q2] at P2; exact P2
  · rw [List.drop_length] at P2
    exact P2 _ _ _ (Same.refl _) R2
end
end G
set_option maxHeartbeats 1000000
namespace G
open PySem PySem.Spec PyProof.Rows L2
section
variable {K : PySem.W.Frag} {mg : Str → Option Value} {r : Addr} {X : Cx} {E : XK} {O O1 On Ol : List Nat} {e a b : Expr} {es : List Expr} {pos : Pos} {t ta tb : TE} {tt : TT} {ts : TA} {s1 : Stmt} {ss : List Stmt} {u u1 u2 : TS}
def whileF (c : SE Bool) (body : SS) : Nat → SS
  | 0, _, _ => .stuck
  | n + 1, env, tp => (c env tp).bindS fun b tp1 => if b = true then (match body env tp1 with
      | .nx e t => whileF c body n e t
      | .ct e t => whileF c body n e t
      | .bk e t => .nx e t
      | x => x)
    else .nx env tp1
def whileS (n : Nat) (c : SE Bool) (body : SS) : SS := whileF c body n
theorem gs_while (n : Nat) {mc : SE Bool} {body : SS} (hp : PassesOwn (model X.prog X.w) X.A X.env X.xe) (hc : GT K mg r X O E e tt mc) (hb : GSs K mg r X E O O O ss u body) : GS K mg r X E O O Ol (.While e ss [] pos) (tWhile tt u) (whileS n mc body) := by
  refine ⟨ps_while hp hc.pe hb.pe, fun Hs0 H0 Hs H σ env tp D R P => ?_⟩
  refine ⟨fun m σ H => ∃ Hs env tp, Rel K mg r O Hs0 H0 Hs H σ env tp ∧ PostS K mg r E O Ol Hs0 H0 Hs (whileF mc body m env tp) D, ⟨n, Hs, env, tp, R, P⟩, ?_⟩
  rintro m σ1 H1 ⟨Hs1, env1, tp1, R1, P1⟩
  cases m with
  | zero => exact P1.elim
  | succ m =>
    unfold whileF at P1
    refine hc.snd _ _ _ _ _ _ _ _ R1 (PostS.bind R1 P1 fun v Hs2 H2 d tp2 _ g w R2 rv P2 => ?_)
    subst rv
    cases v with
    | false => exact iteF (P2 _ _ _ (Same.refl _) R2)
    | true =>
      refine iteT ⟨fun σ H => ∃ Hs env tp, Rel K mg r O Hs0 H0 Hs H σ env tp ∧ PostS K mg r E O Ol Hs0 H0 Hs (whileF mc body m env tp) D, fun σ' H' q => ⟨m, Nat.lt_succ_self m, q⟩, ?_⟩
      rw [if_pos rfl] at P2
      refine hb.snd _ _ _ _ _ _ _ _ R2 ?_
      have again : ∀ {e t}, PostS K mg r E O Ol Hs0 H0 Hs2 (whileF mc body m e t) D → ∀ σ' Hs' H', Same Hs2 Hs' → Rel K mg r O Hs0 H0 Hs' H' σ' e t → ∃ Hs env tp, Rel K mg r O Hs0 H0 Hs H' σ' env tp ∧ PostS K mg r E O Ol Hs0 H0 Hs (whileF mc body m env tp) D := fun P σ' Hs' H' e4 R' => ⟨Hs', _, _, R', P.shift e4⟩
      cases q2 : body env1 tp2 with
      | nx e t => rw [q2] at P2; exact again P2
      | ct e t => rw [q2] at P2; exact again P2
      | bk e t => rw [q2] at P2; exact P2
      | rt d t => rw [q2] at P2; exact P2
      | exn c fs t => rw [q2] at P2; exact P2
      | stuck => rw [q2] at P2; exact P2
def wipeE {α : Type} (σ : List (Option α)) : List Nat → List (Option α)
  | [] => σ
  | v :: vs => (wipeE σ vs).set v none
theorem wipe_eq (σ : L2.St) : ∀ vs : List Nat, wipe σ vs = wipeE σ vs
  | [] => rfl
  | v :: vs => by unfold wipe wipeE; rw [wipe_eq σ vs]
theorem Rel.unset {Hs0 H0 Hs H : Hp} {σ : L2.St} {env : DEnv} {tp : List D} (R : Rel K mg r O Hs0 H0 Hs H σ env tp) (i : Nat) (hi : i ∉ O) : Rel K mg r O Hs0 H0 Hs H (σ.set i none) (env.set i none) tp where
  wd := R.wd
  gr := R.gr
  len := by rw [List.length_set, List.length_set]; exact R.len
  vars := fun j d a n => by
    have ne : j ≠ i := fun q => by
      subst q
      rw [List.getElem?_set] at a
      simp only [if_true] at a
      split at a <;> cases a
    rw [set_gne ne] at a ⊢
    exact R.vars j d a n
  own := fun j hj => by
    have ne : j ≠ i := fun q => hi (q ▸ hj)
    rw [set_gne ne, set_gne ne]
    exact R.own j hj
  dis := fun j l p hj hl a b => by
    rw [set_gne (by rintro rfl; exact hi hj)] at a
    rw [set_gne (by rintro rfl; exact hi hl)] at b
    exact R.dis j l p hj hl a b
theorem Rel.wiped {Hs0 H0 Hs H : Hp} {σ : L2.St} {env : DEnv} {tp : List D} (R : Rel K mg r O Hs0 H0 Hs H σ env tp) : ∀ vs : List Nat, (∀ i ∈ vs, i ∉ O) → Rel K mg r O Hs0 H0 Hs H (wipeE σ vs) (wipeE env vs) tp
  | [], _ => R
  | v :: vs, h => (Rel.wiped R vs fun i hi => h i (List.mem_cons_of_mem _ hi)).unset v (h v List.mem_cons_self)
theorem wipe_get {α : Type} {σ : List (Option α)} {i : Nat} : ∀ {vs : List Nat}, i ∉ vs → (wipeE σ vs)[i]? = σ[i]?
  | [], _ => rfl
  | v :: vs, h => by
    unfold wipeE
    rw [set_gne (by rintro rfl; exact h List.mem_cons_self), wipe_get fun q => h (List.mem_cons_of_mem _ q)]
theorem wipe_len {α : Type} {σ : List (Option α)} : ∀ {vs : List Nat}, (wipeE σ vs).length = σ.length
  | [] => rfl
  | v :: vs => by unfold wipeE; rw [List.length_set, wipe_len]
theorem wipe_none {α : Type} {σ : List (Option α)} {i : Nat} : ∀ {vs : List Nat}, i ∈ vs → (wipeE σ vs)[i]? = some none ∨ (wipeE σ vs)[i]? = none
  | v :: vs, h => by
    unfold wipeE
    by_cases q : i = v
    · subst q
      rw [List.getElem?_set]
      simp only [if_true]
      split
      · exact .inl rfl
      · exact .inr rfl
    · rw [set_gne q]
      rcases List.mem_cons.mp h with z | z
      · exact absurd z q
      · exact wipe_none z
theorem wipe_set {α : Type} {σ : List (Option α)} {i : Nat} {v : Option α} {vs : List Nat} (h : i ∈ vs) : wipeE (σ.set i v) vs = wipeE σ vs := by
  apply List.ext_getElem?
  intro j
  by_cases hj : j ∈ vs
  · have l1 : (wipeE (σ.set i v) vs).length = (wipeE σ vs).length := by rw [wipe_len, wipe_len, List.length_set]
    rcases Nat.lt_or_ge j (wipeE σ vs).length with q | q
    · rcases wipe_none (σ := σ.set i v) hj with a | a
      · rcases wipe_none (σ := σ) hj with b | b
        · rw [a, b]
        · rw [List.getElem?_eq_none_iff] at b; omega
      · rw [List.getElem?_eq_none_iff] at a; omega
    · rw [List.getElem?_eq_none q, List.getElem?_eq_none (by omega)]
  · rw [wipe_get hj, wipe_get hj, set_gne (by rintro rfl; exact hj h)]
theorem wipe_wipe {α : Type} {σ : List (Option α)} {vs : List Nat} : ∀ ws : List Nat, (∀ i ∈ ws, i ∈ vs) → wipeE (wipeE σ ws) vs = wipeE σ vs
  | [], _ => rfl
  | w :: ws, h => by
    show wipeE ((wipeE σ ws).set w none) vs = _
    rw [wipe_set (h w List.mem_cons_self), wipe_wipe ws fun i hi => h i (List.mem_cons_of_mem _ hi)]
theorem wipe_setAll {α : Type} {vs : List Nat} : ∀ (is : List Nat) (σ : List (Option α)) (ws : List α), (∀ i ∈ is, i ∈ vs) → wipeE (setAll σ is ws) vs = wipeE σ vs
  | [], σ, ws, _ => by unfold setAll; rfl
  | i :: is, σ, [], _ => by unfold setAll; rfl
  | i :: is, σ, w :: ws, h => by
    show wipeE (setAll (σ.set i (some w)) is ws) vs = _
    rw [wipe_setAll is _ ws fun j hj => h j (List.mem_cons_of_mem _ hj), wipe_set (h i List.mem_cons_self)]
/-- the items that a comprehension makes -/
def compL (f : D → List D → RE (Option D)) : List D → List D → RE (List D)
  | [], tp => .ok [] tp
  | d :: ds, tp => match f d tp with
    | .ok o tp1 => (match compL f ds tp1 with
      | .ok xs tp2 => .ok (o.toList ++ xs) tp2
      | _ => .stuck)
    | _ => .stuck
def yesT : SE Bool := fun _ tp => .ok true tp
def compTurn1 (tgt : D → Option (List D)) (is : List Nat) (c : SE Bool) (m : SE D) (env : DEnv) (d : D) (tp : List D) : RE (Option D) := match tgt d with
  | some ds => (c (setAll env is ds) tp).bind fun b tp1 => if b = true then (m (setAll env is ds) tp1).bind fun x tp2 => .ok (some x) tp2 else .ok none tp1
  | none => .stuck
def compE (mi : SE (List D)) (vs : List Nat) (tgt : D → Option (List D)) (is : List Nat) (c : SE Bool) (m : SE D) : SE D := fun env tp => (mi env tp).bind fun items tp1 =>
  if items.length ≤ sizeLine then (match compL (compTurn1 tgt is c m (wipeE env vs)) items tp1 with
    | .ok xs tp2 => .ok (.lst xs) tp2
    | _ => .stuck) else .stuck
/-- a clause's tests -/
structure GTs (K : PySem.W.Frag) (mg : Str → Option Value) (r : Addr) (X : Cx) (O : List Nat) (E : XK) (es : List Expr) (t : TT) (m : SE Bool) : Prop where
  pe : PTs X es t
  snd : ∀ Hs0 H0 Hs H σ env tp Q, Rel K mg r O Hs0 H0 Hs H σ env tp → PostB K mg r E Hs H (m env tp) Q → t σ H Q
theorem gts_nil : GTs K mg r X O E [] tYes yesT := ⟨pts_nil, fun Hs0 H0 Hs H σ env tp Q R P => P true Hs H (Grow.refl _ _) R.wd rfl⟩
theorem gts_one {m : SE Bool} (h : GT K mg r X O E e tt m) : GTs K mg r X O E [e] tt m := ⟨pts_one h.pe, h.snd⟩
theorem compL_cons {f : D → List D → RE (Option D)} {d : D} {ds : List D} {tp tpE : List D} {xs : List D} (h : compL f (d :: ds) tp = .ok xs tpE) : ∃ o tp1 xs', f d tp = .ok o tp1 ∧ compL f ds tp1 = .ok xs' tpE ∧ xs = o.toList ++ xs' := by
  unfold compL at h
  cases q : f d tp with
  | ok o tp1 =>
    rw [q] at h
    simp only at h
    cases q2 : compL f ds tp1 with
    | ok xs' tp2 =>
      rw [q2] at h
      simp only [RE.ok.injEq] at h
      exact ⟨o, tp1, xs', rfl, by rw [q2, h.2], h.1.symm⟩
    | _ => rw [q2] at h; cases h
  | _ => rw [q] at h; cases h
theorem Rel.other {Hs0 H0 Hs H : Hp} {σ : L2.St} {env : DEnv} {tp : List D} {p : Addr} {o : HO} (R : Rel K mg r O Hs0 H0 Hs H σ env tp) (hs : Hs p = none) (h0 : H0 p = none) (ne : p ≠ r) (hO : ∀ j ∈ O, σ[j]? ≠ some (some (.ref p))) (nt : ∀ xs : StU, H p ≠ some xs.1 := by (intro xs z; first | (rw [upd_same] at z; exact st_no rfl xs (Option.some.inj z)) | (rename_i zh _; rw [zh] at z; exact st_no rfl xs (Option.some.inj z)) | (exfalso; simp [*] at z; done))) : Rel K mg r O Hs0 H0 Hs (upd H p o) σ env tp := by
  refine ⟨R.wd.write hs ne nt, ⟨fun b u q n hs => ?_, fun b e => R.gr.free b (upd_free e), R.gr.ex, R.gr.new, fun b xs e => by rw [upd_ne (ne_of_none e h0)]; exact R.gr.tup b xs e⟩, R.len, R.vars, fun j hj => ?_, R.dis⟩
  · rw [upd_ne (ne_of_none q h0)]; exact R.gr.keep b u q n hs
  · obtain ⟨d', p', b1, b2, c, c0, n, oa⟩ := R.own j hj
    have np : p' ≠ p := fun z => hO j hj (z ▸ b2)
    exact ⟨d', p', b1, b2, c, c0, n, oa.grow (Same.refl _) fun u z => by rw [upd_ne np]; exact z⟩
theorem Grow.other {Hs H Hs' H' : Hp} {p : Addr} {o : HO} (g : Grow r Hs H Hs' H') (h : H p = none) : Grow r Hs H Hs' (upd H' p o) :=
  ⟨fun b u q n hs => by rw [upd_ne (ne_of_none q h)]; exact g.keep b u q n hs, fun b e => g.free b (upd_free e), g.ex, g.new, fun b xs e => by rw [upd_ne (ne_of_none e h)]; exact g.tup b xs e⟩
theorem comp_sound {wi : TI} {g : TG} {te : TE} {is vs : List Nat} {tgt : D → Option (List D)} {mi : SE (List D)} {c : SE Bool} {m : SE D}
    (hi : ∀ Hs0 H0 Hs H σ env tp Q, Rel K mg r O Hs0 H0 Hs H σ env tp → Post K mg r (fun Hs _ J items => WalksD K mg r J Hs items) E Hs H (mi env tp) Q → wi σ H Q)
    (hg : ∀ v d ds Hs H tp σ (Q : L2.St → Hp → Prop), Wd K mg r Hs H tp → RepD K mg r Hs v d → tgt d = some ds → (∀ vs, RepDs K mg r Hs vs ds → vs.length = is.length → Q (setAll σ is vs) H) → g v σ H Q)
    (ht : ∀ Hs0 H0 Hs H σ env tp Q, Rel K mg r O Hs0 H0 Hs H σ env tp → PostB K mg r E0 Hs H (c env tp) Q → tt σ H Q)
    (he : ∀ Hs0 H0 Hs H σ env tp Q, Rel K mg r O Hs0 H0 Hs H σ env tp → PostE K mg r E0 Hs H (m env tp) Q → te σ H Q)
    (hvs : ∀ i ∈ vs, i ∉ O) (his : ∀ i ∈ is, i ∈ vs) :
    ∀ Hs0 H0 Hs H σ env tp Q, Rel K mg r O Hs0 H0 Hs H σ env tp → Post K mg r (Fresh K mg r H) E Hs H (compE mi vs tgt is c m env tp) Q → tLc wi g tt te vs σ H Q := by
  intro Hs0 H0 Hs H σ env tp Q R P
  refine hi _ _ _ _ _ _ _ _ R ?_
  unfold compE at P
  cases q : mi env tp with
  | stuck => rw [q] at P; exact P.elim
  | exn cc fs tp1 => rw [q] at P; exact P
  | ok items tp1 =>
    rw [q] at P
    intro J Hs1 H1 g1 w1 wd Dl hD
    simp only [RE.bind_ok] at P
    by_cases hz : items.length ≤ sizeLine
    case neg => rw [if_neg hz] at P; exact P.elim
    rw [if_pos hz] at P
    cases q2 : compL (compTurn1 tgt is c m (wipeE env vs)) items tp1 with
    | stuck => rw [q2] at P; exact P.elim
    | exn cc fs tp2 => rw [q2] at P; exact P.elim
    | ok all tpE =>
      rw [q2] at P
      have P : ∀ v Hs' H', Grow r Hs H Hs' H' → Wd K mg r Hs' H' tpE → Fresh K mg r H Hs' H' v (.lst all) → Q v H' := P
      obtain ⟨Gd, Y, wk, hG, hY⟩ := wd
      have R1 := R.grow g1 w1
      obtain ⟨fD, neD⟩ := w1.fresh hD
      have h0D : H Dl = none := g1.free Dl hD
      have Rw := R1.wiped vs hvs
      obtain ⟨gl, wl⟩ := w1.lay (o := .lst []) hD
      obtain ⟨n1, n2⟩ := R.new_ne h0D neD
      have n3 : ∀ j ∈ O, (wipeE σ vs)[j]? ≠ some (some (.ref Dl)) := fun j hj z => n2 j hj (by rw [← z, wipe_get fun q => hvs j q hj])
      have hisO : ∀ i ∈ is, i ∉ O := fun i hi => hvs i (his i hi)
      refine lc_it wk (Qd := fun H' => Q (.ref Dl) H') (fun i H' => ∃ Hs2 vsL dsL tp xs, Rel K mg r O Hs0 H0 Hs2 H' (wipeE σ vs) (wipeE env vs) tp ∧ Same Hs1 Hs2 ∧ Grow r Hs H Hs2 H' ∧ Hs2 Dl = none ∧ H' Dl = some (.lst vsL) ∧ RepDs K mg r Hs2 vsL dsL ∧ dsL.length ≤ i ∧
        compL (compTurn1 tgt is c m (wipeE env vs)) (items.drop i) tp = .ok xs tpE ∧ dsL ++ xs = all) ⟨Hs1, [], [], tp1, all, Rw.grow gl wl, Same.refl _, g1.trans gl, fD, upd_same, .nil, Nat.le_refl _, q2, rfl⟩ ?_ ?_ ?_
      · rintro i H' _ ⟨Hs2, vsL, dsL, tp2, xs, R2, e2, _⟩
        exact hG Hs2 H' e2 R2.wd.sub
      · rintro i x H2 H3 hi2 ⟨Hs2, vsL, dsL, tp2, xs, R2, e2, g2, f2, hD2, rs2, hl2, hc2, ha2⟩ y
        obtain ⟨Hs3, d, g3, w3, hd, rd⟩ := hY i Hs2 H2 tp2 x H3 hi2 e2 R2.wd y
        rw [List.drop_eq_getElem_cons hi2] at hc2
        have hd' : items[i] = d := by rw [List.getElem?_eq_getElem hi2] at hd; exact Option.some.inj hd
        rw [hd'] at hc2
        obtain ⟨o, tp3, xs', hf, hrest, hxs⟩ := compL_cons hc2
        unfold compTurn1 at hf
        cases qt : tgt d with
        | none => rw [qt] at hf; cases hf
        | some es =>
          rw [qt] at hf
          simp only at hf
          rw [wipe_eq]
          refine hg x d es Hs3 H3 tp2 _ _ w3 rd qt fun ws rs hl => ⟨by rw [wipe_eq, wipe_setAll is _ _ his, wipe_wipe vs fun _ h => h], ?_⟩
          have R3 := rel_setAll is _ _ _ _ (R2.grow g3 w3) hisO rs hl
          have f3 := g3.no f2 hD2 neD
          have hD3 := g3.keep Dl _ hD2 neD f2
          refine ht _ _ _ _ _ _ _ _ R3 ?_
          cases qb : c (setAll (wipeE env vs) is es) tp2 with
          | stuck => rw [qb] at hf; cases hf
          | exn cc fs tp4 => rw [qb] at hf; cases hf
          | ok b tpb =>
            rw [qb] at hf
            simp only [RE.bind_ok] at hf
            intro v Hs4 H4 g4 w4 ev
            subst ev
            have f4 := g4.no f3 hD3 neD
            have hD4 := g4.keep Dl _ hD3 neD f3
            cases v with
            | false =>
              rw [if_neg Bool.false_ne_true] at hf
              simp only [RE.ok.injEq] at hf
              obtain ⟨ho, htp⟩ := hf
              subst ho htp
              refine iteF ⟨Hs4, vsL, dsL, tpb, xs', R2.grow (g3.trans g4) w4, e2.trans (g3.ex.trans g4.ex), g2.trans (g3.trans g4), f4, hD4, rs2.mono (g3.ex.trans g4.ex), by omega, hrest, ?_⟩
              rw [← ha2, hxs]; rfl
            | true =>
              rw [if_pos rfl] at hf
              refine iteT (he _ _ _ _ _ _ _ _ (R3.grow g4 w4) ?_)
              cases qm : m (setAll (wipeE env vs) is es) tpb with
              | stuck => rw [qm] at hf; cases hf
              | exn cc fs tp4 => rw [qm] at hf; cases hf
              | ok z tpz =>
                rw [qm] at hf
                simp only [RE.bind_ok, RE.ok.injEq] at hf
                obtain ⟨ho, htp⟩ := hf
                subst ho htp
                intro y5 Hs5 H5 g5 w5 ry
                have f5 := g5.no f4 hD4 neD
                have hD5 := g5.keep Dl _ hD4 neD f4
                have e5 := g3.ex.trans (g4.ex.trans g5.ex)
                refine ⟨vsL, hD5, by rw [rs2.length]; omega, Hs5, vsL ++ [y5], dsL ++ [z], tpz, xs', ?_, e2.trans e5, ?_, f5, upd_same, (rs2.mono e5).append (.cons ry .nil), by rw [List.length_append, List.length_singleton]; omega, hrest, ?_⟩
                · exact (R2.grow (g3.trans (g4.trans g5)) w5).other f5 n1 neD n3 (fun xs z => by rw [hD5] at z; first | exact st_no rfl xs (Option.some.inj z) | cases z)
                · exact (g2.trans (g3.trans (g4.trans g5))).other h0D
                · rw [← ha2, hxs, List.append_assoc]; rfl
      · rintro H2 ⟨Hs2, vsL, dsL, tp2, xs, R2, e2, g2, f2, hD2, rs2, hl2, hc2, ha2⟩
        rw [List.drop_length] at hc2
        unfold compL at hc2
        simp only [RE.ok.injEq] at hc2
        obtain ⟨hx, htp⟩ := hc2
        subst hx htp
        rw [List.append_nil] at ha2
        subst ha2
        exact P _ Hs2 H2 g2 R2.wd ⟨Dl, rfl, h0D, f2, neD, vsL, hD2, rs2⟩
/-- a list comprehension (one clause) -/
theorem gf_lc {elt tg iter : Expr} {ifs : List Expr} {scope : Scope} {own : List (Str × Nat)} {wi : TI} {g : TG} {te : TE} {is : List Nat} {tgt : D → Option (List D)} {mi : SE (List D)} {c : SE Bool} {m : SE D} (hc : X.calm = true) (hN : X.N.Nodup) (hi : GI K mg r X O E tg iter wi mi) (ok : BlkOk X.N X.env.scope scope own)
    (hg : ∀ (s : Shared) (H : Hp) (C : Addr) (cl : List (Str × Addr)) (fp : List Addr), GG K mg r (X.blk s H scope (compEnvC scope cl C X.env) fp) tg g is tgt)
    (ht : ∀ (s : Shared) (H : Hp) (C : Addr) (cl : List (Str × Addr)) (fp : List Addr), GTs K mg r (X.blk s H scope (compEnvC scope cl C X.env) fp) O E0 ifs tt c)
    (he : ∀ (s : Shared) (H : Hp) (C : Addr) (cl : List (Str × Addr)) (fp : List Addr), GE K mg r (X.blk s H scope (compEnvC scope cl C X.env) fp) O E0 elt te m)
    (hvs : ∀ i ∈ own.map (·.2), i ∉ O) (his : ∀ i ∈ is, i ∈ own.map (·.2)) (hs : ∀ x, foldedSetIterable iter X.env x = pure x := by intro _; rfl) :
    GF K mg r X O E (.ListComp elt [⟨tg, iter, ifs, 0⟩] scope pos) (tLc wi g tt te (own.map (·.2))) (compE mi (own.map (·.2)) tgt is c m) :=
  ⟨pe_lc hc hN hi.pe ok (fun s H C cl fp => (hg s H C cl fp).pe) (fun s H C cl fp => (ht s H C cl fp).pe) (fun s H C cl fp => (he s H C cl fp).pe) hs,
    comp_sound hi.snd (hg X.s_0 X.H_0 0 [] []).snd (ht X.s_0 X.H_0 0 [] []).snd (he X.s_0 X.H_0 0 [] []).snd hvs his⟩
/-- name = [..] on one line, the name a local -/
theorem lc_stmt {i : Nat} {y : Str} {py : Pos} {elt tg iter : Expr} {ifs : List Expr} {scope : Scope} {own : List (Str × Nat)} {pos spos : Pos} {wi : TI} {g : TG} {te : TE} {is : List Nat} {tgt : D → Option (List D)} {mi : SE (List D)} {c : SE Bool} {m : SE D} (hc : X.calm = true) (hN : X.N.Nodup) (hi : GI K mg r X O E tg iter wi mi) (ok : BlkOk X.N X.env.scope scope own)
    (hg : ∀ (s : Shared) (H : Hp) (C : Addr) (cl : List (Str × Addr)) (fp : List Addr), GG K mg r (X.blk s H scope (compEnvC scope cl C X.env) fp) tg g is tgt)
    (ht : ∀ (s : Shared) (H : Hp) (C : Addr) (cl : List (Str × Addr)) (fp : List Addr), GTs K mg r (X.blk s H scope (compEnvC scope cl C X.env) fp) O E0 ifs tt c)
    (he : ∀ (s : Shared) (H : Hp) (C : Addr) (cl : List (Str × Addr)) (fp : List Addr), GE K mg r (X.blk s H scope (compEnvC scope cl C X.env) fp) O E0 elt te m)
    (hvs : ∀ i ∈ own.map (·.2), i ∉ O) (his : ∀ i ∈ is, i ∈ own.map (·.2)) (hy : X.N[i]? = some y := by rfl) (hyl : X.env.scope.names.lookup y = some .local := by rfl)
    (hsw : swapsWith (.ListComp elt [⟨tg, iter, ifs, 0⟩] scope pos) (some (.Name y py)) spos.line X.env = pure true := by exact sw_true rfl rfl rfl (by decide +kernel)) (hs : ∀ x, foldedSetIterable iter X.env x = pure x := by intro _; rfl) :
    PS X (.Assign [.Name y py] (.ListComp elt [⟨tg, iter, ifs, 0⟩] scope pos) spos) (tAsg (tLc wi g tt te (own.map (·.2))) (gName i)) ∧
    ∀ Hs0 H0 Hs H σ env tp Q, Rel K mg r O Hs0 H0 Hs H σ env tp → Post K mg r (Fresh K mg r H) E Hs H (compE mi (own.map (·.2)) tgt is c m env tp) Q → tLc wi g tt te (own.map (·.2)) σ H Q :=
  ⟨ps_setLc hc hN hy hyl hsw hi.pe ok (fun s H C cl fp => (hg s H C cl fp).pe) (fun s H C cl fp => (ht s H C cl fp).pe) (fun s H C cl fp => (he s H C cl fp).pe) hs,
    comp_sound hi.snd (hg X.s_0 X.H_0 0 [] []).snd (ht X.s_0 X.H_0 0 [] []).snd (he X.s_0 X.H_0 0 [] []).snd hvs his⟩
theorem ge_of_gf {m : SE D} (h : ∀ Hs0 H0 Hs H σ env tp Q, Rel K mg r O Hs0 H0 Hs H σ env tp → Post K mg r (Fresh K mg r H) E Hs H (m env tp) Q → t σ H Q) : ∀ Hs0 H0 Hs H σ env tp Q, Rel K mg r O Hs0 H0 Hs H σ env tp → PostE K mg r E Hs H (m env tp) Q → t σ H Q := by
  intro Hs0 H0 Hs H σ env tp Q R P
  refine h _ _ _ _ _ _ _ _ R ?_
  unfold PostE at P
  cases q : m env tp with
  | ok d tp' =>
    rw [q] at P
    intro v Hs' H' g w x
    obtain ⟨Hs2, e, w2, rv, nw⟩ := freeze_fresh w x
    refine P v Hs2 H' ⟨g.keep, g.free, g.ex.trans e, fun b o n z => ?_, g.tup⟩ w2 rv
    rcases nw b o z with ⟨u, z⟩ | z
    · exact g.new b u n z
    · exact .inr (.inl z)
  | exn c fs tp' => rw [q] at P; exact P
  | stuck => rw [q] at P; exact P
theorem gs_setLc {i : Nat} {st : Stmt} {m : SE D} (h : PS X st (tAsg t (gName i)) ∧ ∀ Hs0 H0 Hs H σ env tp Q, Rel K mg r O Hs0 H0 Hs H σ env tp → Post K mg r (Fresh K mg r H) E Hs H (m env tp) Q → t σ H Q) : GS K mg r X E O (O.filter (· != i)) Ol st (tAsg t (gName i)) (setS i m) :=
  ⟨h.1, setS_sound i (ge_of_gf h.2)⟩
def spOf (K : PySem.W.Frag) (mg : Str → Option Value) (r : Addr) (n : Nat) (m : List D → List D → RE D) : Sp := fun vs H Q E => ∃ Hs ds tp, vs.length = n ∧ Wd K mg r Hs H tp ∧ RepDs K mg r Hs vs ds ∧ PostE K mg r E Hs H (m ds tp) Q
structure DefOk (P : Program) (w : World) (K : PySem.W.Frag) (mg : Str → Option Value) (base : Heap) (CX : CXT) (r : Addr) (x : Str) (k n : Nat) (m : List D → List D → RE D) : Prop where
  ex : ∃ f fd ps, FnOk P w K mg base CX k f fd ps (spOf K mg r n m) ∧ mg x = some (.ref f) ∧ PySem.W.keepIn K (.ref f) = true ∧ Binds K fd ps []
def callE (n : Nat) (m : List D → List D → RE D) (ms : SE (List D)) : SE D := fun env tp => (ms env tp).bind fun ds tp1 => if ds.length = n then m ds tp1 else .stuck
theorem call_sound {n : Nat} {m : List D → List D → RE D} {ms : SE (List D)} (h : ∀ Hs0 H0 Hs H σ env tp Q, Rel K mg r O Hs0 H0 Hs H σ env tp → PostA K mg r E Hs H (ms env tp) Q → ts σ H Q) :
    ∀ Hs0 H0 Hs H σ env tp Q, Rel K mg r O Hs0 H0 Hs H σ env tp → PostE K mg r E Hs H (callE n m ms env tp) Q → tCall (spOf K mg r n m) [] E ts σ H Q := by
  intro Hs0 H0 Hs H σ env tp Q R P
  refine h _ _ _ _ _ _ _ _ R (Post.bind P fun vs Hs1 H1 ds tp1 _ g w rs P1 => ?_)
  split at P1
  · rename_i hl
    exact ⟨Hs1, ds, tp1, by rw [List.append_nil, rs.length]; exact hl, w, by rw [List.append_nil]; exact rs, P1⟩
  · exact P1.elim
theorem ge_call {CX : CXT} {x : Str} {k n : Nat} {m : List D → List D → RE D} {ms : SE (List D)} {p : Pos} (dk : DefOk X.prog X.w X.K X.mg X.base CX r x k n m) (hr : Room k X.A) (hx : Passes CX X E) (ha : GA K mg r X O E (e :: es) ts ms) (hK : X.K = K := by rfl) (hmg : X.mg = mg := by rfl) (hg : Gl X x := by rfl)
    (hdb : (x == ("__debug__" : Str)) = false := by decide) (he : starEach (e :: es) X.env = (false, eval e X.env) :: starEach es X.env := by rfl) (hpl : (backTo pos (starEach es X.env)).any (·.1) = false := by rfl) :
    GE K mg r X O E (.Call (.Name x p) (e :: es) [] pos) (tCall (spOf K mg r n m) [] E ts) (callE n m ms) := by
  subst hK hmg
  obtain ⟨f, fd, ps, F, hm, hk, hb⟩ := dk.ex
  exact ⟨pe_call F hr hg hm hk hb .nil hx ha.pe hdb he hpl, call_sound ha.snd⟩
/-- a body's result as a def's -/
def retR : RS → RE D
  | .rt d tp => .ok d tp
  | .nx _ tp => .ok .non tp
  | _ => .stuck
def defD (N : Nat) (body : SS) : List D → List D → RE D := fun ds tp => retR (body (ds.map some ++ List.replicate (N - ds.length) none) tp)
theorem rel_start {Hs H : Hp} {tp : List D} {N : List Str} {vs : List V} {ds : List D} (w : Wd K mg r Hs H tp) (rs : RepDs K mg r Hs vs ds) : Rel K mg r [] Hs H Hs H (L2.start N vs) (ds.map some ++ List.replicate (N.length - ds.length) none) tp where
  wd := w
  gr := Grow.refl _ _
  len := by unfold L2.start; rw [List.length_append, List.length_append, List.length_map, List.length_map, List.length_replicate, List.length_replicate, rs.length]
  vars := fun i d a _ => by
    have hi : i < ds.length := by
      rcases Nat.lt_or_ge i ds.length with q | q
      · exact q
      · rw [List.getElem?_append_right (by rw [List.length_map]; exact q), List.getElem?_replicate] at a
        split at a <;> cases a
    rw [List.getElem?_append_left (by rw [List.length_map]; exact hi), List.getElem?_map] at a
    obtain ⟨d', h1, h2⟩ := Option.map_eq_some_iff.mp a
    cases h2
    obtain ⟨v, h3, h4⟩ := rs.get' h1
    refine ⟨v, ?_, h4⟩
    unfold L2.start
    rw [List.getElem?_append_left (by rw [List.length_map, rs.length]; exact hi), List.getElem?_map, h3]
    rfl
  own := fun i hi => nomatch hi
  dis := fun i j p hi => nomatch hi
section
variable {P : Program} {w : World} {base : Heap}
theorem fn_def {x qual : Str} {params : Arguments} {body : List Stmt} {scope : Scope} {f : Addr} {fd : FuncData} {N ps : List Str} {k : Nat} {m : SS} (F : FunD K x qual params body scope [] [] f fd) (S : FnScope N ps scope) (hm : mg x = some (.ref f))
    (hb : ∀ (kV doc pm : Value) (an : Option Addr) (cdv ct : Value) (us : List Value), us.length = ps.length → bindArgs (PySem.W.fnOf x qual params body scope .none kV doc pm an cdv ct) ⟨us, []⟩ = pure (ps.zip us))
    (h : ∀ (cdv : Value) (A : Around) (outer : List Env) (s : Shared) (H : Hp) (E : XK), Room k (A.deeper (envOfC qual scope s.heap.objs.size f cdv)) → ∃ On u, GSs K mg r (cxOf CX0 P w K mg base N qual scope f cdv A outer s H E).nox E0 [] On [] body u m) :
    DefOk P w K mg base CX0 r x (k + 1) ps.length (defD N.length m) := by
  refine ⟨f, fd, ps, F.ok S (fun vs H Q E q => ?_) (fun cdv A outer s H vs Q E hr q => ?_), hm, F.kp, F.bindsN hb⟩
  · obtain ⟨_, _, _, h1, _⟩ := q
    exact h1
  · obtain ⟨Hs, ds, tp, hl, wd, rs, P1⟩ := q
    obtain ⟨On, u, hG⟩ := h cdv A outer s H E hr
    refine ⟨u, hG.pe.nox, hG.snd _ _ _ _ _ _ _ _ (rel_start wd rs) ?_⟩
    unfold defD at P1
    cases q : m (ds.map some ++ List.replicate (N.length - ds.length) none) tp with
    | rt d tp' =>
      rw [q] at P1
      exact fun v Hs' H' g w rv => P1 v Hs' H' g w rv
    | nx env' tp' =>
      rw [q] at P1
      exact fun σ' Hs' H' e R => P1 .non Hs' H' R.gr R.wd .non
    | bk env' tp' => rw [q] at P1; exact P1.elim
    | ct env' tp' => rw [q] at P1; exact P1.elim
    | exn c fs tp' => rw [q] at P1; exact P1.elim
    | stuck => rw [q] at P1; exact P1.elim
/-- the law: its first statement makes the tape -/
def spLaw (K : PySem.W.Frag) : Sp := fun vs H Q _ => ∃ (a : Addr) (ns : List Int), vs = [.ref a] ∧ SqL K H a (ns.map V.int) ∧ ns.length ≤ 63 ∧ ∀ H', Q (.bl true) H'
/-- the heap without its other things -/
def noX (H : Hp) : Hp := fun b => match H b with
  | some (.ext _) => none
  | o => o
theorem noX_some {H : Hp} {b : Addr} {o : HO} (h : noX H b = some o) : H b = some o := by
  unfold noX at h
  split at h
  · cases h
  · exact h
theorem noX_next {H : Hp} {b : Addr} {φ : Heap → Prop} : noX H b ≠ some (.ext φ) := fun h => by
  have e := noX_some h
  unfold noX at h
  rw [e] at h
  cases h
theorem noX_none {H : Hp} {b : Addr} (h : H b = none) : noX H b = none := by unfold noX; rw [h]
theorem noX_seq {H : Hp} {a : Addr} {xs : List V} (h : SqL K H a xs) : SqL K (noX H) a xs := h.imp (fun h => by
  rcases h with h | ⟨o, h⟩
  · exact .inl (by unfold noX; rw [h])
  · exact .inr ⟨o, by unfold noX; rw [h]⟩) id
theorem fn_law {x qual : Str} {params : Arguments} {body : List Stmt} {scope : Scope} {f : Addr} {fd : FuncData} {N : List Str} {k : Nat} {sx rx : Str} {p1 p2 p3 p4 p5 p6 p7 : Pos} {k0 k1 k2 : Nat} {c : Int} {m : SS}
    (F : FunD K x qual params (.Assign [.Name rx p1] (.List [.Name sx p2, .Constant (.int 0) k0 p3, .Constant (.int c) k1 p4, .Constant (.int 0) k2 p5] p6) p7 :: body) scope [] [] f fd) (S : FnScope (sx :: rx :: N) [sx] scope) (hlx : scope.names.lookup sx = some .local ∨ scope.names.lookup sx = some .cell) (hlr : scope.names.lookup rx = some .local ∨ scope.names.lookup rx = some .cell)
    (hd : (sx == ("__debug__" : Str)) = false := by decide) (hcd : (sx == ("__classdict__" : Str)) = false := by decide)
    (h : ∀ (r : Addr) (cdv : Value) (A : Around) (outer : List Env) (s : Shared) (H : Hp) (E : XK), Room k (A.deeper (envOfC qual scope s.heap.objs.size f cdv)) → ∃ On u, GSs K mg r (cxOf CX0 P w K mg base (sx :: rx :: N) qual scope f cdv A outer s H E).nox E0 [] On [] body u m)
    (hv : ∀ ns : List Int, ns.length ≤ 63 → ∃ tp', retR (m (some (.scr ns) :: some .tape :: List.replicate N.length none) [.scr ns, .int 0, .int c, .int 0]) = .ok (.bl true) tp') :
    FnOk P w K mg base CX0 (k + 1) f fd [sx] (spLaw K) := by
  refine F.ok S (fun vs H Q E q => ?_) (fun cdv A outer s H vs Q E hr q => ?_)
  · obtain ⟨a, ns, rfl, _⟩ := q
    rfl
  · obtain ⟨a, ns, rfl, hS, hlen, kq⟩ := q
    have vs1 : Vis scope sx := hlx.elim .inl fun q => .inr (.inl q)
    refine ⟨tSeq (tAsg (tLst (tCons (tVar 0) (tCons (tC (.int 0)) (tCons (tC (.int c)) (tCons (tC (.int 0)) tNil))))) (gName 1)) (fun D σ H1 => ∃ p, H p = none ∧ H1 = upd H p (.lst [.ref a, .int 0, .int c, .int 0]) ∧ σ = some (.ref a) :: some (.ref p) :: List.replicate N.length none ∧ ∀ v H', v = .bl true → D.rt v H'), ?_, ?_⟩
    · refine PSs.nox (pss_cons (ps_set (i := 1) S.nd rfl hlr (pe_lst (pa_cons (pe_var (i := 0) rfl vs1 hd hcd) (pa_cons pe_int (pa_cons pe_int (pa_cons pe_int pa_nil)))))) ?_)
      refine ⟨fun pins s2 σ H1 D I q => ?_⟩
      obtain ⟨p, hp, rfl, rfl, hq⟩ := q
      obtain ⟨On, u, hG⟩ := h p cdv A outer s H E hr
      refine hG.pe.run pins s2 _ _ D I (hG.snd (noX H) (upd H p (.lst [.ref a, .int 0, .int c, .int 0])) (noX H) _ _ (some (.scr ns) :: some .tape :: List.replicate N.length none) [.scr ns, .int 0, .int c, .int 0] _ ⟨⟨.of fun b o e => upd_new hp _ _ (noX_some e), noX_none hp, ⟨_, upd_same, ?_⟩, fun _ _ => noX_next⟩, Grow.refl _ _, ?_, ?_, (fun i hi => nomatch hi), (fun i j p hi => nomatch hi)⟩ ?_)
      · exact .cons (.scr (noX_seq hS)) (.cons (.int 0) (.cons (.int c) (.cons (.int 0) .nil)))
      · simp
      · intro i d hi _
        match i, hi with
        | 0, hi => cases hi; exact ⟨_, rfl, .scr (noX_seq hS)⟩
        | 1, hi => cases hi; exact ⟨_, rfl, .tape⟩
        | i + 2, hi =>
          rw [List.getElem?_cons_succ, List.getElem?_cons_succ, List.getElem?_replicate] at hi
          split at hi <;> cases hi
      · obtain ⟨tp', e⟩ := hv ns hlen
        cases q : m (some (.scr ns) :: some .tape :: List.replicate N.length none) [.scr ns, .int 0, .int c, .int 0] with
        | rt d tp2 =>
          rw [q] at e
          cases e
          intro v Hs' H' g w rv
          cases rv
          exact hq _ _ rfl
        | nx env' tp2 => rw [q] at e; cases e
        | bk env' tp' => rw [q] at e; cases e
        | ct env' tp' => rw [q] at e; cases e
        | exn c fs tp' => rw [q] at e; cases e
        | stuck => rw [q] at e; cases e
    · refine ⟨_, rfl, by show 4 ≤ sizeLine; rw [sizeLine_eq]; decide, fun p hp => ⟨p, hp, rfl, ?_, fun v H' ev => ev ▸ kq H'⟩⟩
      show List.set (L2.start (sx :: rx :: N) [.ref a]) 1 (some (.ref p)) = _
      unfold L2.start
      simp [List.replicate_succ]
end
end
end G
set_option maxHeartbeats 1000000
namespace G
open PySem PySem.Spec PyProof.Rows L2
section
variable {K : PySem.W.Frag} {mg : Str → Option Value} {r : Addr} {X : Cx} {E : XK} {O O1 On Ol : List Nat} {e a b c : Expr} {es : List Expr} {pos : Pos} {t ta tb : TE} {tt : TT} {ts : TA} {s1 : Stmt} {ss : List Stmt} {u u1 u2 : TS}
inductive RepK (K : PySem.W.Frag) (mg : Str → Option Value) (r : Addr) (Hs H : Hp) : List Bool → List V → List D → List Addr → Prop
  | nil : RepK K mg r Hs H [] [] [] []
  | st {v : V} {d : D} {ks : List Bool} {vs : List V} {ds : List D} {ps : List Addr} : RepD K mg r Hs v d → RepK K mg r Hs H ks vs ds ps → RepK K mg r Hs H (false :: ks) (v :: vs) (d :: ds) ps
  | fr {p : Addr} {d : D} {ks : List Bool} {vs : List V} {ds : List D} {ps : List Addr} : Hs p = none → p ≠ r → OwnAt K mg r Hs H p d → RepK K mg r Hs H ks vs ds ps → RepK K mg r Hs H (true :: ks) (.ref p :: vs) (d :: ds) (p :: ps)
theorem RepK.len {Hs H : Hp} : ∀ {ks : List Bool} {vs : List V} {ds : List D} {ps : List Addr}, RepK K mg r Hs H ks vs ds ps → vs.length = ks.length ∧ ds.length = ks.length
  | _, _, _, _, .nil => ⟨rfl, rfl⟩
  | _, _, _, _, .st _ q => by simp only [List.length_cons, q.len.1, q.len.2, and_self]
  | _, _, _, _, .fr _ _ _ q => by simp only [List.length_cons, q.len.1, q.len.2, and_self]
/-- the tuple that holds them (or any other object of no one's) is laid -/
theorem RepK.lay {Hs H : Hp} {q : Addr} {o : HO} (hq : H q = none) : ∀ {ks : List Bool} {vs : List V} {ds : List D} {ps : List Addr}, RepK K mg r Hs H ks vs ds ps → RepK K mg r Hs (upd H q o) ks vs ds ps
  | _, _, _, _, .nil => .nil
  | _, _, _, _, .st h k => .st h (RepK.lay hq k)
  | _, _, _, _, .fr h n oa k => .fr h n (oa.grow (Same.refl _) fun u z => by rw [upd_ne (ne_of_none z hq)]; exact z) (RepK.lay hq k)
structure GAK (K : PySem.W.Frag) (mg : Str → Option Value) (r : Addr) (X : Cx) (O : List Nat) (E : XK) (es : List Expr) (t : TA) (ks : List Bool) (m : SE (List D)) : Prop where
  pe : PA X es t
  snd : ∀ Hs0 H0 Hs H σ env tp Q, Rel K mg r O Hs0 H0 Hs H σ env tp → Post K mg r (fun Hs' H' vs ds => ∃ ps, RepK K mg r Hs' H' ks vs ds ps ∧ ps.Nodup ∧ ∀ p ∈ ps, H p = none) E Hs H (m env tp) Q → t σ H Q
theorem gak_nil : GAK K mg r X O E [] tNil [] nilA := ⟨pa_nil, fun Hs0 H0 Hs H σ env tp Q R P => P [] Hs H (Grow.refl _ _) R.wd ⟨[], .nil, List.nodup_nil, fun _ h => nomatch h⟩⟩
theorem free_back {Hs H Hs' H' : Hp} {p : Addr} (g : Grow r Hs H Hs' H') (h : H' p = none) (ne : p ≠ r) : H p = none := g.free p h
theorem RepK.ner {Hs H : Hp} : ∀ {ks : List Bool} {vs : List V} {ds : List D} {ps : List Addr}, RepK K mg r Hs H ks vs ds ps → ∀ p ∈ ps, p ≠ r
  | _, _, _, _, .nil, _, h => nomatch h
  | _, _, _, _, .st _ k, p, h => RepK.ner k p h
  | _, _, _, _, .fr _ n _ k, p, h => by
    rcases List.mem_cons.mp h with rfl | h
    · exact n
    · exact RepK.ner k p h
theorem gak_st {ks : List Bool} {m : SE D} {ms : SE (List D)} (h : GE K mg r X O E e t m) (hs : GAK K mg r X O E es ts ks ms) (hst : starEach (e :: es) X.env = (false, eval e X.env) :: starEach es X.env := by rfl) : GAK K mg r X O E (e :: es) (tCons t ts) (false :: ks) (consA m ms) := by
  refine ⟨pa_cons h.pe hs.pe hst, fun Hs0 H0 Hs H σ env tp Q R P => ?_⟩
  refine h.snd _ _ _ _ _ _ _ _ R ?_
  unfold consA at P
  cases q : m env tp with
  | stuck => rw [q] at P; exact P
  | exn c fs tp1 => rw [q] at P; exact P
  | ok d tp1 =>
    rw [q] at P
    intro v Hs1 H1 g w rv
    refine hs.snd _ _ _ _ _ _ _ _ (R.grow g w) ?_
    simp only [RE.bind_ok] at P
    cases q2 : ms env tp1 with
    | stuck => rw [q2] at P; exact P
    | exn c fs tp2 => rw [q2] at P; exact Post.shift g P
    | ok ds tp2 =>
      rw [q2] at P
      rintro vs Hs2 H2 g2 w2 ⟨ps, hk, nd, fr⟩
      exact P _ Hs2 H2 (g.trans g2) w2 ⟨ps, .st (rv.mono g2.ex) hk, nd, fun p hp => free_back g (fr p hp) (hk.ner p hp)⟩
theorem gak_fr {ks : List Bool} {m : SE D} {ms : SE (List D)} (h : GF K mg r X O E e t m) (hs : GAK K mg r X O E es ts ks ms) (hst : starEach (e :: es) X.env = (false, eval e X.env) :: starEach es X.env := by rfl) : GAK K mg r X O E (e :: es) (tCons t ts) (true :: ks) (consA m ms) := by
  refine ⟨pa_cons h.pe hs.pe hst, fun Hs0 H0 Hs H σ env tp Q R P => ?_⟩
  refine h.snd _ _ _ _ _ _ _ _ R ?_
  unfold consA at P
  cases q : m env tp with
  | stuck => rw [q] at P; exact P
  | exn c fs tp1 => rw [q] at P; exact P
  | ok d tp1 =>
    rw [q] at P
    rintro v Hs1 H1 g w ⟨p, rfl, hb, hp, ne, oa⟩
    refine hs.snd _ _ _ _ _ _ _ _ (R.grow g w) ?_
    simp only [RE.bind_ok] at P
    cases q2 : ms env tp1 with
    | stuck => rw [q2] at P; exact P
    | exn c fs tp2 => rw [q2] at P; exact Post.shift g P
    | ok ds tp2 =>
      rw [q2] at P
      rintro vs Hs2 H2 g2 w2 ⟨ps, hk, nd, fr⟩
      obtain ⟨o, ho⟩ := oa.there
      refine P _ Hs2 H2 (g.trans g2) w2 ⟨p :: ps, .fr (g2.no hp ho ne (oa.ntup o ho)) ne (oa.grow g2.ex fun u z => g2.keep p u z ne hp) hk, List.nodup_cons.mpr ⟨fun m => ?_, nd⟩, fun p' hp' => ?_⟩
      · have := fr p m; rw [ho] at this; cases this
      · rcases List.mem_cons.mp hp' with rfl | hp'
        · exact hb
        · exact free_back g (fr p' hp') (hk.ner p' hp')
/-- who owns behind it -/
def ownAll : List Nat → List Nat → List Bool → List Nat
  | O, i :: is, k :: ks => ownAll (if k = true then i :: O.filter (· != i) else O.filter (· != i)) is ks
  | O, _, _ => O
theorem repK_setAll {Hs0 H0 Hs H : Hp} {tp : List D} : ∀ (is : List Nat) (ks : List Bool) (O : List Nat) (σ : L2.St) (env : DEnv) (vs : List V) (ds : List D) (ps : List Addr), Rel K mg r O Hs0 H0 Hs H σ env tp → RepK K mg r Hs H ks vs ds ps → ps.Nodup → (∀ p ∈ ps, H0 p = none ∧ ∀ j ∈ O, σ[j]? ≠ some (some (.ref p))) → is.length = ks.length → (∀ i ∈ is, i < env.length) →
    Rel K mg r (ownAll O is ks) Hs0 H0 Hs H (setAll σ is vs) (setAll env is ds) tp
  | [], ks, O, σ, env, vs, ds, ps, R, hk, _, _, hl, _ => by
    cases ks with
    | nil => cases hk; exact R
    | cons _ _ => cases hl
  | i :: is, [], O, σ, env, vs, ds, ps, R, hk, _, _, hl, _ => by cases hl
  | i :: is, k :: ks, O, σ, env, vs, ds, ps, R, hk, nd, hp, hl, hi => by
    cases hk with
    | st h1 h2 =>
      refine repK_setAll is ks _ _ _ _ _ ps (R.set i h1) h2 nd (fun p q => ⟨(hp p q).1, fun j hj => ?_⟩) (by simpa using hl) fun j hj => by rw [List.length_set]; exact hi j (List.mem_cons_of_mem _ hj)
      obtain ⟨m, ne⟩ := List.mem_filter.mp hj
      rw [set_gne (by simpa using ne)]
      exact (hp p q).2 j m
    | @fr p d ks vs ds ps h1 n oa h2 =>
      obtain ⟨np, nd'⟩ := List.nodup_cons.mp nd
      have hp0 := hp p List.mem_cons_self
      refine repK_setAll is ks _ _ _ _ _ ps (R.setF i (hi i List.mem_cons_self) hp0.1 h1 n oa hp0.2) h2 nd' (fun p' q => ⟨(hp p' (List.mem_cons_of_mem _ q)).1, fun j hj z => ?_⟩) (by simpa using hl) fun j hj => by rw [List.length_set]; exact hi j (List.mem_cons_of_mem _ hj)
      rcases List.mem_cons.mp hj with rfl | hj
      · rcases get_set z with ⟨_, e, _⟩ | ⟨ne, _⟩
        · cases e; exact np q
        · exact ne rfl
      · obtain ⟨m, ne⟩ := List.mem_filter.mp hj
        rw [set_gne (by simpa using ne)] at z
        exact (hp p' (List.mem_cons_of_mem _ q)).2 j m z
def parS (is : List Nat) (ms : SE (List D)) : SS := fun env tp => (ms env tp).bindS fun ds tp1 => if is.all (fun i => decide (i < env.length)) = true then .nx (setAll env is ds) tp1 else .stuck
theorem par_sound {is : List Nat} {ks : List Bool} {ms : SE (List D)} {k : L2.Ends → L2.St → Hp → List V → Hp → Prop} (hl : is.length = ks.length) (h : ∀ Hs0 H0 Hs H σ env tp Q, Rel K mg r O Hs0 H0 Hs H σ env tp → Post K mg r (fun Hs' H' vs ds => ∃ ps, RepK K mg r Hs' H' ks vs ds ps ∧ ps.Nodup ∧ ∀ p ∈ ps, H p = none) E Hs H (ms env tp) Q → ts σ H Q)
    (hk : ∀ D σ vs Hs H tp ds ps, Wd K mg r Hs H tp → RepK K mg r Hs H ks vs ds ps → (∀ H', (H' = H ∨ ∃ q o, H q = none ∧ H' = upd H q o) → D.nx (setAll σ is vs) H') → k D σ H vs H) :
    ∀ Hs0 H0 Hs H σ env tp D, Rel K mg r O Hs0 H0 Hs H σ env tp → PostS K mg r E (ownAll O is ks) Ol Hs0 H0 Hs (parS is ms env tp) D → ts σ H (fun vs H1 => k D σ H1 vs H1) := by
  intro Hs0 H0 Hs H σ env tp D R P
  refine h _ _ _ _ _ _ _ _ R (PostS.bind R P fun vs Hs1 H1 ds tp1 _ g w R1 rv P1 => ?_)
  obtain ⟨ps, hrk, nd, fr⟩ := rv
  split at P1
  · rename_i hi
    have hi : ∀ i ∈ is, i < env.length := fun i m => of_decide_eq_true (List.all_eq_true.mp hi i m)
    have hfr : ∀ p ∈ ps, H0 p = none ∧ ∀ j ∈ O, σ[j]? ≠ some (some (.ref p)) := fun p hp => R.new_ne (fr p hp) (hrk.ner p hp)
    refine hk D σ vs Hs1 H1 tp1 ds ps w hrk fun H' hH' => ?_
    rcases hH' with rfl | ⟨q, o, hq, rfl⟩
    · exact P1 _ _ _ (Same.refl _) (repK_setAll is ks _ _ _ _ _ ps R1 hrk nd hfr hl hi)
    · obtain ⟨g2, w2⟩ := w.lay (o := o) hq
      exact P1 _ _ _ (Same.refl _) (repK_setAll is ks _ _ _ _ _ ps (R1.grow g2 w2) (hrk.lay hq) nd hfr hl hi)
  · exact P1.elim
/-- a, b = x, y (two local names) -/
theorem gs_par2 (i j : Nat) {ks : List Bool} {x y : Str} {ms : SE (List D)} {px py pt : Pos} {kt k2 pt2} (hN : X.N.Nodup) (ha : GAK K mg r X O E [a, b] ts ks ms) (hks : ks.length = 2 := by rfl) (hc : X.calm = true := by rfl) (hi : X.N[i]? = some x := by rfl) (hj : X.N[j]? = some y := by rfl) (hij : i ≠ j := by decide)
    (hx : X.env.scope.names.lookup x = some .local := by rfl) (hy : X.env.scope.names.lookup y = some .local := by rfl)
    (hw : swappedStores [.Tuple [.Name x px, .Name y py] kt pt] (.Tuple [a, b] k2 pt2) X.env = pure (some [x, y]) := by rfl)
    (hs : swapsWithSole [.Tuple [.Name x px, .Name y py] kt pt] (.Tuple [a, b] k2 pt2) pos.line X.env = pure false := by rfl) :
    GS K mg r X E O (ownAll O [i, j] ks) Ol (.Assign [.Tuple [.Name x px, .Name y py] kt pt] (.Tuple [a, b] k2 pt2) pos) (tPar i j ts) (parS [i, j] ms) := by
  refine ⟨ps_par hc hN hi hj hij hx hy ha.pe hw hs, ?_⟩
  refine par_sound (k := fun D σ _ vs H1 => ∃ v w, vs = [v, w] ∧ D.nx ((σ.set i (some v)).set j (some w)) H1) (by rw [hks]; rfl) ha.snd ?_
  intro D σ vs Hs H tp ds ps _ hrk q
  have hl := hrk.len.1
  rw [hks] at hl
  match vs, hl with
  | [v, w], _ => exact ⟨v, w, rfl, q H (.inl rfl)⟩
/-- the plain way: a tuple is made and unpacked -/
theorem gs_tup {is : List Nat} {n : Nat} {ks : List Bool} {ms : SE (List D)} {tgs : List Expr} {g : TGs} {pt pt2 : Pos} {kt k2} (ha : GAK K mg r X O E es ts ks ms) (hg : GGs K mg r X tgs g is) (hl : is.length = ks.length := by rfl) (hn : is.length = n := by rfl) (hz : n ≤ sizeLine := by decide) (hc : X.calm = true := by rfl) (hK : X.K = K := by rfl) (hn1 : (assignEach tgs X.env).length = n := by rfl) (hst : (assignEach tgs X.env).findIdx? (·.1) = none := by rfl)
    (hs : swapsWithSole [.Tuple tgs kt pt] (.Tuple es k2 pt2) pos.line X.env = pure false := by rfl) (hw : swappedStores [.Tuple tgs kt pt] (.Tuple es k2 pt2) X.env = pure none := by rfl) (h1 : (assignEach [.Tuple tgs kt pt] X.env).map (·.2) = [assign (.Tuple tgs kt pt) X.env] := by rfl) :
    GS K mg r X E O (ownAll O is ks) Ol (.Assign [.Tuple tgs kt pt] (.Tuple es k2 pt2) pos) (tAsg (tTup ts) (gTup K n g)) (parS is ms) := by
  subst hK
  refine ⟨ps_asg (pe_tup ha.pe) (pg_tup hc hg.pe hn1 hst) hs hw h1, ?_⟩
  refine par_sound (k := fun D σ _ vs H1 => vs.length ≤ sizeLine ∧ ∀ p, H1 p = none → gTup X.K n g (.ref p) σ (upd H1 p (.tup vs)) D.nx) hl ha.snd ?_
  intro D σ vs Hs H tp ds ps _ hrk q
  have hv : vs.length = n := by rw [hrk.len.1, ← hl, hn]
  refine ⟨by rw [hv]; exact hz, fun p hp => ⟨p, vs, rfl, .of upd_same, hv, hg.snd vs σ _ _ (by rw [hv, hn]) (q _ (.inr ⟨p, _, hp, rfl⟩))⟩⟩
/-- a value that is a tuple is unpacked -/
def unpS (n : Nat) (is : List Nat) (m : SE D) : SS := fun env tp => (m env tp).bindS fun d tp1 => match tN n d with
  | some ds => .nx (setAll env is ds) tp1
  | none => .stuck
theorem gs_unp {is : List Nat} {n : Nat} {m : SE D} {tgs : List Expr} {g : TGs} {pt : Pos} {kt} (h : GE K mg r X O E e t m) (hg : GGs K mg r X tgs g is) (hO : ∀ i ∈ is, i ∉ O) (hn : is.length = n := by rfl) (hc : X.calm = true := by rfl) (hK : X.K = K := by rfl) (hn1 : (assignEach tgs X.env).length = n := by rfl) (hst : (assignEach tgs X.env).findIdx? (·.1) = none := by rfl)
    (hs : swapsWithSole [.Tuple tgs kt pt] e pos.line X.env = pure false := by rfl) (hw : swappedStores [.Tuple tgs kt pt] e X.env = pure none := by rfl) (h1 : (assignEach [.Tuple tgs kt pt] X.env).map (·.2) = [assign (.Tuple tgs kt pt) X.env] := by rfl) :
    GS K mg r X E O O Ol (.Assign [.Tuple tgs kt pt] e pos) (tAsg t (gTup K n g)) (unpS n is m) := by
  have gg := gg_tup (mg := mg) (r := r) (X := X) (pos := pt) (k := kt) hc hg hn hK hn1 hst
  refine ⟨ps_asg h.pe gg.pe hs hw h1, fun Hs0 H0 Hs H σ env tp D R P => ?_⟩
  refine h.snd _ _ _ _ _ _ _ _ R (PostS.bind R P fun v Hs1 H1 d tp1 _ g w R1 rv P1 => ?_)
  cases q : tN n d with
  | none => rw [q] at P1; exact P1.elim
  | some ds =>
    rw [q] at P1
    exact gg.snd v d ds Hs1 H1 tp1 σ _ w rv q fun vs rs hl => P1 _ _ _ (Same.refl _) (rel_setAll is _ _ _ _ R1 hO rs hl)
def methE (p : D → Bool) (f : D → D → Option D) (ma mb : SE D) : SE D := fun env tp => (ma env tp).bind fun d tp1 => if p d = true then (mb env tp1).bind fun e tp2 => RE.of (f d e) tp2 else .stuck
def isStrD : D → Bool
  | .str _ => true
  | _ => false
theorem ty_str {Hs H : Hp} {tp : List D} {v : V} {d : D} (w : Wd K mg r Hs H tp) (h : RepT K mg r Hs H v d) (p : isStrD d = true) : tyV K "str" v H := by
  cases d with
  | str z => rw [repT_str h]; rfl
  | _ => cases p
def MethS (K : PySem.W.Frag) (mg : Str → Option Value) (r : Addr) (R : V → List V → Hp → VK → Prop) (f : D → D → Option D) : Prop := ∀ Hs H tp x y d e z Q, Wd K mg r Hs H tp → RepT K mg r Hs H x d → RepT K mg r Hs H y e → f d e = some z →
  (∀ v Hs' H', Grow r Hs H Hs' H' → Wd K mg r Hs' H' tp → RepD K mg r Hs' v z → Q v H') → R x [y] H Q
theorem ge_m1 {T id : String} {name : Str} {R : V → List V → Hp → VK → Prop} {f : D → D → Option D} {p : D → Bool} {ma mb : SE D} {p1 : Pos} (pa : PlainAttrs T) (slot : Slot T name id) (hty : typeOf (.builtin id) = pure (.type "method_descriptor")) (hm : MtR X id R)
    (hp : ∀ Hs H tp v d, Wd K mg r Hs H tp → RepT K mg r Hs H v d → p d = true → tyV K T v H) (hf : MethS K mg r R f) (ha : GO K mg r X O E a ta ma) (hb : GO K mg r X O E b tb mb) (hK : X.K = K := by rfl)
    (hbase : attributeBase a name X.env (eval a X.env) = eval a X.env := by rfl)
    (hfew : ((backTo pos (starEach [b] X.env)).all (fun x => !x.1) && (backToKw pos (keywordEach [] X.env)).all (fun x => x.1.isSome) && decide ([b].length + ([] : List Keyword).length + (if ([] : List Keyword).isEmpty then 0 else 1) < 30)) = true := by rfl)
    (hline : (p1.endLine == pos.line) = true := by rfl) (hs : starEach [b] X.env = (false, eval b X.env) :: starEach [] X.env := by rfl) (hplain : (backTo pos (starEach [] X.env)).any (·.1) = false := by rfl) :
    GE K mg r X O E (.Call (.Attribute a name p1) [b] [] pos) (tBM K T R ta (tCons tb tNil)) (methE p f ma mb) := by
  subst hK
  refine ⟨pe_bm pa slot hty hm ha.pe (pa_cons hb.pe pa_nil hs) hbase hfew hline hs hplain, fun Hs0 H0 Hs H σ env tp Q Rl P => ?_⟩
  refine ha.snd _ _ _ _ _ _ _ _ Rl (Post.bind P fun v Hs1 H1 d tp1 _ g w rv P1 => ?_)
  split at P1
  · rename_i hpd
    refine ⟨hp _ _ _ _ _ w rv hpd, ?_⟩
    refine hb.snd _ _ _ _ _ _ _ _ (Rl.grow g w) (Post.bind P1 fun y Hs2 H2 e tp2 _ g2 w2 ry P2 => ?_)
    obtain ⟨z, hz, k⟩ := Post.ok_of P2
    exact hf _ _ _ _ _ _ _ _ _ w2 (rv.grow g2) ry hz k
  · exact P1.elim
def joinD (d e : D) : Option D := match d with
  | .str a => (itemsD e).bind fun xs => (unS xs).bind fun ys => if (ys.map (·.length)).sum + ys.length * a.length ≤ 16777216 then some (.str (Txt.join a ys)) else none
  | _ => none
abbrev rJoin (K : PySem.W.Frag) : V → List V → Hp → VK → Prop := fun x xs H Q => ∃ a p, ∃ ys : List Str, x = .str a ∧ xs = [.ref p] ∧ (SqL K H p (ys.map V.str) ∨ SqT K H p (ys.map V.str)) ∧ (ys.map (·.length)).sum + ys.length * a.length ≤ 16777216 ∧ Q (.str (Txt.join a ys)) H
theorem ms_join : MethS K mg r (rJoin K) joinD := by
  intro Hs H tp x y d e z Q w rx ry hz k
  unfold joinD at hz
  split at hz
  · obtain ⟨xs, h1, h2⟩ := Option.bind_eq_some_iff.mp hz
    obtain ⟨ys, h3, h4⟩ := Option.bind_eq_some_iff.mp h2
    split at h4
    · rename_i hg
      cases h4
      rw [unS_ok h3] at h1
      rw [repT_str rx]
      cases e with
      | lst es =>
        cases h1
        obtain ⟨p, vs, rfl, k1, k2⟩ := repT_lst w ry
        rw [RepDs.strs_of k2] at k1
        exact ⟨_, p, ys, rfl, rfl, .inl (.of k1), hg, k _ _ _ (Grow.refl _ _) w (.str _)⟩
      | tup es =>
        cases h1
        obtain ⟨p, vs, rfl, _, k1, k2⟩ := repT_tup w ry
        rw [RepDs.strs_of k2] at k1
        exact ⟨_, p, ys, rfl, rfl, .inr (.of k1), hg, k _ _ _ (Grow.refl _ _) w (.str _)⟩
      | _ => cases h1
    · cases h4
  · cases hz
theorem ge_join {ma mb : SE D} {p1 : Pos} (ha : GO K mg r X O E a ta ma) (hb : GO K mg r X O E b tb mb) (hK : X.K = K := by rfl)
    (hbase : attributeBase a "join" X.env (eval a X.env) = eval a X.env := by rfl)
    (hfew : ((backTo pos (starEach [b] X.env)).all (fun x => !x.1) && (backToKw pos (keywordEach [] X.env)).all (fun x => x.1.isSome) && decide ([b].length + ([] : List Keyword).length + (if ([] : List Keyword).isEmpty then 0 else 1) < 30)) = true := by rfl)
    (hline : (p1.endLine == pos.line) = true := by rfl) (hs : starEach [b] X.env = (false, eval b X.env) :: starEach [] X.env := by rfl) (hplain : (backTo pos (starEach [] X.env)).any (·.1) = false := by rfl) :
    GE K mg r X O E (.Call (.Attribute a "join" p1) [b] [] pos) (tBM K "str" (rJoin K) ta (tCons tb tNil)) (methE isStrD joinD ma mb) := by
  subst hK
  exact ge_m1 PySem.F.plainAttrs_str PySem.F.slot_str_join PySem.F.type_str_join mt_join (fun _ _ _ _ _ => ty_str) ms_join ha hb rfl hbase hfew hline hs hplain
end
end G
namespace G
open PySem PySem.Spec PyProof.Rows L2
section
variable {K : PySem.W.Frag} {mg : Str → Option Value} {r : Addr} {X : Cx} {E : XK} {O O1 On Ol : List Nat} {e a b c : Expr} {es : List Expr} {pos p : Pos} {t ta tb tc : TE} {tt : TT} {ts : TA} {ma mb mc : SE D} {ms : SE (List D)}
theorem gt_eq (hu : X.A.units + 64 < cLine) (ha : GO K mg r X O E a ta ma) (hb : GO K mg r X O E b tb mb) (hK : X.K = K := by rfl) : GT K mg r X O E (.Compare a [.Eq] [b] pos) (tTest (tOp (rEqP K) ta tb)) (boolE (binE eqD ma mb)) := by subst hK; exact gt_cmp (op_eqP hu) ops_eq ha hb (nomark _)
theorem gt_ne (hu : X.A.units + 64 < cLine) (ha : GO K mg r X O E a ta ma) (hb : GO K mg r X O E b tb mb) (hK : X.K = K := by rfl) : GT K mg r X O E (.Compare a [.NotEq] [b] pos) (tTest (tOp (rNeP K) ta tb)) (boolE (binE neD ma mb)) := by subst hK; exact gt_cmp (op_neP hu) ops_ne ha hb (nomark _)
theorem gt_notIn (hu : X.A.units + 64 < cLine) (ha : GO K mg r X O E a ta ma) (hb : GO K mg r X O E b tb mb) (hm : behindInMarks .NotIn b = false := by rfl) (hK : X.K = K := by rfl) : GT K mg r X O E (.Compare a [.NotIn] [b] pos) (tTest (tOp (rInP K true) ta tb)) (boolE (binE notInD ma mb)) := by subst hK; exact gt_cmp (op_notInP hu) ops_notIn ha hb hm
theorem gt_lt (ha : GO K mg r X O E a ta ma) (hb : GO K mg r X O E b tb mb) : GT K mg r X O E (.Compare a [.Lt] [b] pos) (tTest (tOp rLtD ta tb)) (boolE (binE ltD ma mb)) := gt_cmp opr_lt ops_lt ha hb (nomark _)
theorem gt_gt (ha : GO K mg r X O E a ta ma) (hb : GO K mg r X O E b tb mb) : GT K mg r X O E (.Compare a [.Gt] [b] pos) (tTest (tOp rGtD ta tb)) (boolE (binE gtD ma mb)) := gt_cmp op_gt ops_gt ha hb (nomark _)
theorem gt_ge (ha : GO K mg r X O E a ta ma) (hb : GO K mg r X O E b tb mb) : GT K mg r X O E (.Compare a [.GtE] [b] pos) (tTest (tOp rGeD ta tb)) (boolE (binE geD ma mb)) := gt_cmp op_ge ops_ge ha hb (nomark _)
theorem gt_is (ha : GO K mg r X O E a ta ma) (hb : GO K mg r X O E b tb mb) : GT K mg r X O E (.Compare a [.Is] [b] pos) (tTest (tOp rIsD ta tb)) (boolE (binE isNoneD ma mb)) := gt_cmp opr_is ops_is ha hb (nomark _)
theorem gt_leLe (ha : GO K mg r X O E a ta ma) (hb : GO K mg r X O E b tb mb) (hc : GO K mg r X O E c tc mc) (hm : lastMarks [.LtE, .LtE] [b, c] = false := by with_unfolding_all rfl) : GT K mg r X O E (.Compare a [.LtE, .LtE] [b, c] pos) (tTest (tChain rLeD rLeD ta tb tc)) (boolE (chainE leD leD ma mb mc)) := gt_chain op_le op_le ops_le ops_le ha hb hc hm
theorem ge_leLe (ha : GO K mg r X O E a ta ma) (hb : GO K mg r X O E b tb mb) (hc : GO K mg r X O E c tc mc) (hm : lastMarks [.LtE, .LtE] [b, c] = false := by with_unfolding_all rfl) : GE K mg r X O E (.Compare a [.LtE, .LtE] [b, c] pos) (tChain rLeD rLeD ta tb tc) (chainE leD leD ma mb mc) := ge_chain op_le op_le ops_le ops_le ha hb hc hm
theorem gf_list1 (hm : X.mg "list" = none) (ha : GAO K mg r X O E [e] ts ms) (hg : Gl X "list" := by rfl) (he : starEach [e] X.env = (false, eval e X.env) :: starEach [] X.env := by rfl) (hpl : (backTo pos (starEach [] X.env)).any (·.1) = false := by rfl) (hK : X.K = K := by rfl) : GF K mg r X O E (.Call (.Name "list" p) [e] [] pos) (tCB (rListD1 K) ts) (callB listD ms) := by
  subst hK
  refine ⟨pe_callTy (r := rListD1 X.K) call_list_of hg hm (by decide +kernel) ha.pe (by decide) (by decide) he hpl, fun Hs0 H0 Hs H σ env tp Q Rl P => ?_⟩
  refine ha.snd _ _ _ _ _ _ _ _ Rl ?_
  unfold callB at P
  cases q : ms env tp with
  | stuck => rw [q] at P; exact P
  | exn cc fs tp1 => rw [q] at P; exact P
  | ok ds tp1 =>
    rw [q] at P
    intro xs Hs1 H1 g w rx
    obtain ⟨z, hz, k⟩ := Post.ok_of (show Post X.K mg r (Fresh X.K mg r H) E Hs H (RE.of (listD ds) tp1) Q from P)
    unfold listD at hz
    split at hz
    · cases hz
      obtain ⟨x, rfl, h⟩ := paired1 rx
      obtain ⟨p, vs, rfl, h1, h2⟩ := repT_lst w h
      refine ⟨p, vs, rfl, .inl (.of h1), fun q hq => ?_⟩
      obtain ⟨a, b, c⟩ := fresh_new (o := .lst vs) (d := .lst _) g w hq ⟨vs, upd_same, h2⟩
      exact k _ _ _ a b c
    · cases hz
      obtain ⟨x, rfl, h⟩ := paired1 rx
      obtain ⟨p, vs, rfl, h0, h1, h2⟩ := repT_tup w h
      refine ⟨p, vs, rfl, .inr (.of h1), fun q hq => ?_⟩
      obtain ⟨a, b, c⟩ := fresh_new (o := .lst vs) (d := .lst _) g w hq ⟨vs, upd_same, h2⟩
      exact k _ _ _ a b c
    · cases hz
      obtain ⟨x, rfl, h⟩ := paired1 rx
      obtain ⟨p, rfl, h1⟩ := repT_scr w h
      refine ⟨p, _, rfl, .inl h1, fun q hq => ?_⟩
      obtain ⟨a, b, c⟩ := fresh_new (o := .lst (List.map V.int _)) (d := .lst _) g w hq ⟨_, upd_same, RepDs.ints _⟩
      exact k _ _ _ a b c
    · cases hz
def cRgOk (a b : Int) : Bool := cRg a && (cRg b && decide ((b - a).toNat ≤ 16777216))
theorem cRgOk_ok {a b : Int} (h : cRgOk a b = true) : RgOk a b := by
  have h := Bool.and_eq_true_iff.mp h
  have h2 := Bool.and_eq_true_iff.mp h.2
  have h1 := cRg_ok h.1
  have h3 := cRg_ok h2.1
  have h4 := of_decide_eq_true h2.2
  exact ⟨h1.1, h1.2, h3.1, h3.2, h4⟩
theorem reps_range {Hs : Hp} (a b : Int) : RepDs K mg r Hs (rgV a b) (rangeL a b) := by
  unfold rgV rangeL
  induction (List.range (b - a).toNat) with
  | nil => exact .nil
  | cons x xs ih => exact .cons (.int _) ih
def rg1E (k : List D → D) (ma : SE D) : SE D := fun env tp => (ma env tp).bind fun d tp1 => match d with
  | .int n => if cRgOk 0 n = true then .ok (k (rangeL 0 n)) tp1 else .stuck
  | _ => .stuck
def rg2E (k : List D → D) (ma mb : SE D) : SE D := fun env tp => (ma env tp).bind fun d tp1 => (mb env tp1).bind fun e tp2 => match d, e with
  | .int m, .int n => if cRgOk m n = true then .ok (k (rangeL m n)) tp2 else .stuck
  | _, _ => .stuck
theorem gf_listRg1 {pa pb : Pos} (hm : X.mg "list" = none) (hm2 : X.mg "range" = none) (ha : GO K mg r X O E a ta ma) (hc : X.calm = true := by rfl) (hg : Gl X "list" := by rfl) (hg2 : Gl X "range" := by rfl) (na : starEach [a] X.env = (false, eval a X.env) :: starEach [] X.env := by rfl) (nb : starEach [Expr.Call (.Name "range" pa) [a] [] pb] X.env = (false, eval (Expr.Call (.Name "range" pa) [a] [] pb) X.env) :: starEach [] X.env := by rfl) :
    GF K mg r X O E (.Call (.Name "list" p) [.Call (.Name "range" pa) [a] [] pb] [] pos) (tLstRg (tRg1 ta)) (rg1E .lst ma) := by
  refine ⟨pe_listRg hc hg hm (prg_1 hg2 hm2 ha.pe na) nb, fun Hs0 H0 Hs H σ env tp Q Rl P => ?_⟩
  refine ha.snd _ _ _ _ _ _ _ _ Rl ?_
  unfold rg1E at P
  cases q : ma env tp with
  | stuck => rw [q] at P; exact P
  | exn cc fs tp1 => rw [q] at P; exact P
  | ok d tp1 =>
    rw [q] at P
    intro x Hs1 H1 g w rx
    simp only [RE.bind_ok] at P
    cases d with
    | int n =>
      have P : Post K mg r (Fresh K mg r H) E Hs H (if cRgOk 0 n = true then .ok (.lst (rangeL 0 n)) tp1 else .stuck) Q := P
      split at P
      · rename_i c
        refine ⟨n, repT_int rx, cRgOk_ok c, fun q hq => ?_⟩
        obtain ⟨a, b, c⟩ := fresh_new (o := .lst (rgV 0 n)) (d := .lst _) g w hq ⟨_, upd_same, reps_range 0 n⟩
        exact P _ _ _ a b c
      · exact P.elim
    | _ => exact P.elim
theorem ge_tupRg1 {pa pb : Pos} (hm : X.mg "tuple" = none) (hm2 : X.mg "range" = none) (ha : GO K mg r X O E a ta ma) (hc : X.calm = true := by rfl) (hg : Gl X "tuple" := by rfl) (hg2 : Gl X "range" := by rfl) (na : starEach [a] X.env = (false, eval a X.env) :: starEach [] X.env := by rfl) (nb : starEach [Expr.Call (.Name "range" pa) [a] [] pb] X.env = (false, eval (Expr.Call (.Name "range" pa) [a] [] pb) X.env) :: starEach [] X.env := by rfl) :
    GE K mg r X O E (.Call (.Name "tuple" p) [.Call (.Name "range" pa) [a] [] pb] [] pos) (tTupRg (tRg1 ta)) (rg1E .tup ma) := by
  refine ⟨pe_tupRg hc hg hm (prg_1 hg2 hm2 ha.pe na) nb, fun Hs0 H0 Hs H σ env tp Q Rl P => ?_⟩
  refine ha.snd _ _ _ _ _ _ _ _ Rl (Post.bind P fun x Hs1 H1 d tp1 _ g w rx P1 => ?_)
  cases d with
  | int n =>
    have P1 : PostE K mg r E Hs1 H1 (if cRgOk 0 n = true then .ok (.tup (rangeL 0 n)) tp1 else .stuck) Q := P1
    split at P1
    · rename_i c
      refine ⟨n, repT_int rx, cRgOk_ok c, fun q hq => ?_⟩
      obtain ⟨g2, w2⟩ := w.alloc (o := .tup (rgV 0 n)) hq
      exact P1 _ _ _ g2 w2 (.tup upd_same (reps_range 0 n))
    · exact P1.elim
  | _ => exact P1.elim
theorem ge_tupRg2 {pa pb : Pos} (hm : X.mg "tuple" = none) (hm2 : X.mg "range" = none) (ha : GO K mg r X O E a ta ma) (hb : GO K mg r X O E b tb mb) (hc : X.calm = true := by rfl) (hg : Gl X "tuple" := by rfl) (hg2 : Gl X "range" := by rfl) (na : starEach [a, b] X.env = (false, eval a X.env) :: starEach [b] X.env := by rfl) (na2 : starEach [b] X.env = (false, eval b X.env) :: starEach [] X.env := by rfl)
    (hpl : (backTo pb (starEach [b] X.env)).any (·.1) = false := by rfl) (nb : starEach [Expr.Call (.Name "range" pa) [a, b] [] pb] X.env = (false, eval (Expr.Call (.Name "range" pa) [a, b] [] pb) X.env) :: starEach [] X.env := by rfl) :
    GE K mg r X O E (.Call (.Name "tuple" p) [.Call (.Name "range" pa) [a, b] [] pb] [] pos) (tTupRg (tRg2 ta tb)) (rg2E .tup ma mb) := by
  refine ⟨pe_tupRg hc hg hm (prg_2 hg2 hm2 ha.pe hb.pe na na2 hpl) nb, fun Hs0 H0 Hs H σ env tp Q Rl P => ?_⟩
  refine ha.snd _ _ _ _ _ _ _ _ Rl (Post.bind P fun x Hs1 H1 d tp1 _ g w rx P1 => ?_)
  refine hb.snd _ _ _ _ _ _ _ _ (Rl.grow g w) (Post.bind P1 fun y Hs2 H2 e tp2 _ g2 w2 ry P2 => ?_)
  split at P2
  · split at P2
    · rename_i c
      refine ⟨_, _, repT_int rx, repT_int ry, cRgOk_ok c, fun q hq => ?_⟩
      obtain ⟨g3, w3⟩ := w2.alloc (o := .tup (rgV _ _)) hq
      exact P2 _ _ _ g3 w3 (.tup upd_same (reps_range _ _))
    · exact P2.elim
  · exact P2.elim
theorem tN_len {n : Nat} {d : D} {ds : List D} (h : tN n d = some ds) : ds.length = n := by
  cases d with
  | tup xs =>
    have h : (if xs.length = n then some xs else none) = some ds := h
    split at h
    · cases h; assumption
    · cases h
  | _ => cases h
theorem def_stuck {P : Program} {w : World} {base : Heap} {x qual : Str} {params : Arguments} {body : List Stmt} {scope : Scope} {f : Addr} {fd : FuncData} {ps : List Str} {k : Nat} (F : FunD K x qual params body scope [] [] f fd) (hm : mg x = some (.ref f))
    (hb : ∀ (kV doc pm : Value) (an : Option Addr) (cdv ct : Value) (us : List Value), us.length = ps.length → bindArgs (PySem.W.fnOf x qual params body scope .none kV doc pm an cdv ct) ⟨us, []⟩ = pure (ps.zip us)) :
    DefOk P w K mg base CX0 r x k ps.length (fun _ _ => .stuck) :=
  ⟨f, fd, ps, ⟨fun vs H Q E h => by
      obtain ⟨_, _, _, _, _, _, h⟩ := h
      exact h.elim, fun A outer s H args us vs Q E hr e0 hb r h => by
      obtain ⟨_, _, _, _, _, _, h⟩ := h
      exact h.elim⟩, hm, F.kp, F.bindsN hb⟩
end
end G
set_option maxHeartbeats 1000000
namespace G
open PySem PySem.Spec PyProof.Rows L2
theorem meets_enum1 {v : Value} {o : Obj} {Ho : Heap → Prop} (B : Begins v o Ho) :
    Meets (Builtin.«enumerate.__new__» ⟨[.type "enumerate", v], []⟩) (fun _ R s => Ho s.heap ∧
      R (.ok (.ret (.ref (s.heap.push o).objs.size))) { s with heap := (s.heap.push o).push { cls := .type "enumerate", data := .fields #[.none, .bool false, .ref s.heap.objs.size, rawInt 0, .none, .none] } }) :=
  .of_wp fun prog w A R s h => by
    obtain ⟨hp, g, d, tk, os⟩ := s; obtain ⟨h1, h⟩ := h
    have hsub := sub_enumerate
    have q1 : ∀ {A' : Around} {E : Value → Shared → Prop} {Q : Value → Shared → Prop}, Q (.ref hp.objs.size) ⟨hp.push o, g, d, tk, os⟩ → wpAny (model prog w) A' (pyIter v) Q E ⟨hp, g, d, tk, os⟩ :=
      fun q => B.iter prog w _ _ ⟨hp, g, d, tk, os⟩ _ h1 q
    wp_walk using q1
    refine wpAny_stack_any fun st => wpAny_pure ?_
    split
    · rename_i c _ _ _ _ _
      cases (c == Value.type "enumerate")
      · wp_walk using q1
        exact ⟨_, rfl, h⟩
      · wp_walk using q1
        exact ⟨_, rfl, h⟩
    · wp_walk using q1
      exact ⟨_, rfl, h⟩
section
variable {prog : Program} {w : World} {A : Around} {E : Value → Shared → Prop} {s : Shared}
theorem call_enum1 {v : Value} {o : Obj} {Ho : Heap → Prop} {Q : Value → Shared → Prop} (B : Begins v o Ho) (h1 : Ho s.heap)
    (h : ∀ h', IsEnum h' (s.heap.objs.size + 1) s.heap.objs.size 0 .none → h'.get? s.heap.objs.size = some o → h'.objs.size = s.heap.objs.size + 2 →
      (∀ b o, s.heap.get? b = some o → h'.get? b = some o) → Q (.ref (s.heap.objs.size + 1)) { s with heap := h' }) :
    wpAny (model prog w) A (call (.type "enumerate") [v]) Q E s := by
  refine callType_new F.called_enumerate (by decide) (F.typeCall_enumerate_1 _) (F.newCall_enumerate_1 _) (fun obj => F.args_object_init_2 obj _) F.entry_enumerate_new
    (meets_enum1 B) ⟨h1, ?_⟩
  have hz : (s.heap.push o).objs.size = s.heap.objs.size + 1 := Heap.size_push ..
  show _ ∧ _
  rw [hz]
  have he : IsEnum ((s.heap.push o).push { cls := .type "enumerate", data := .fields #[.none, .bool false, .ref s.heap.objs.size, rawInt 0, .none, .none] }) (s.heap.objs.size + 1) s.heap.objs.size 0 .none := by
    have := Heap.get?_push_size (s.heap.push o) (o := { cls := .type "enumerate", data := .fields #[.none, .bool false, .ref s.heap.objs.size, rawInt 0, .none, .none] }) rfl
    rw [hz] at this; exact this
  refine ⟨⟨_, he, rfl⟩, h _ he (Heap.get?_push_of_some _ (Heap.get?_push_size _ B.free)) (by rw [Heap.size_push, hz]) fun b o x => Heap.get?_push_of_some _ (Heap.get?_push_of_some _ x)⟩
end
/-- the items of what a Draws tells, numbered; V's items by Pv -/
def IteD (n : Nat) (Gd : Hp → Prop) (Pv : Nat → Hp → V → Prop) : It :=
  ⟨fun i H => i < n ∧ Gd H, fun i H v H' => ∃ T x, v = .ref T ∧ H T = none ∧ H' = upd H T (.tup [.int (i : Nat), x]) ∧ Pv i H x, fun i H => i = n ∧ Gd H⟩
theorem turn_enumS {P : Program} {w : World} {K : PySem.W.Frag} {elts : List Expr} {kk : Nat} {tpos : Pos} (e it : Addr) (z : Str) (t : Tok) :
    Turn P w K (.Tuple elts kk tpos) (IteD z.cps.size (fun _ => True) (fun i _ x => ∃ c, z.cps[i]? = some c ∧ x = .str ⟨#[c]⟩)) [e, it] e (fun i h => (∃ old, IsEnum h e it ((i : Nat) : Int) old) ∧ h.IsStrIter it (strIterType z) z t i ∧ e ≠ it) where
  mem := by simp
  obj := fun i h st b hb => by
    obtain ⟨⟨old, he⟩, ⟨o, ho, hc, hd⟩, _⟩ := st
    have e' : b = e ∨ b = it := by simpa using hb
    rcases e' with z | z
    · rw [z]; exact ⟨_, he, fun v q => nomatch q⟩
    · rw [z]; exact ⟨o, ho, fun v q => by rw [hd] at q; cases q⟩
  keep := fun i h h' st k => by
    obtain ⟨⟨old, he⟩, ⟨o, ho, r⟩, hne⟩ := st
    exact ⟨⟨old, k e (by simp) _ he⟩, ⟨o, k it (by simp) o ho, r⟩, hne⟩
  item := by
    intro X hP hw hK hc i pins s σ H E I hf st hg
    subst hP hw hK
    obtain ⟨⟨old, he⟩, hit, hne⟩ := st
    have hel : e < s.heap.objs.size := Heap.lt_size he
    have hil : it < s.heap.objs.size := by obtain ⟨_, q, _⟩ := hit; exact Heap.lt_size q
    refine wpAny_pyNext_enum_itemD (Draws.text (A := X.A.in1) (I.ok.hd hc) it z t) he hit hg.1 hne (by simp [hne]) fun v h' tk hv ho hit' hT hsz hk => ?_
    obtain ⟨c, u, hcx, rfl⟩ := hv
    refine ⟨_, rfl, wpAny_letOwnedTupleGo_enum (s := { s with heap := h', toks := tk + 1 }) ho fun h'' he' sb => ?_⟩
    have hT2 : h''.get? s.heap.objs.size = some { cls := .type "tuple", data := .seq #[.int i tk, .str ⟨#[c]⟩ u] } := (sb.2 _ (Nat.ne_of_gt hel)).trans hT
    have new : ObjOk X.prog X.w (upd H s.heap.objs.size (.tup [.int (i : Nat), .str ⟨#[c]⟩])) h'' s.heap.objs.size (.tup [.int (i : Nat), .str ⟨#[c]⟩]) :=
      ⟨by show 2 ≤ sizeLine; decide, [.int i tk, .str ⟨#[c]⟩ u], .cons ⟨_, rfl⟩ (.cons ⟨_, rfl⟩ .nil), ⟨_, hT2, rfl, _, rfl⟩⟩
    have I1 : Inv X pins σ (upd H s.heap.objs.size (.tup [.int (i : Nat), .str ⟨#[c]⟩])) { s with heap := h'', toks := tk + 1 } :=
      I.turnedNew (ch := [e, it]) (fun b ob hb q => (sb.2 b (fun z => hb (by simp [z]))).trans (hk b ob (fun z => hb (by simp [z])) (fun z => hb (by simp [z])) q)) hf (Nat.le_refl _) new
    refine ⟨.ref s.heap.objs.size, _, I1, rfl, ⟨_, _, rfl, I.hok.fresh (Nat.le_refl _), rfl, c, hcx, rfl⟩, ⟨⟨.str ⟨#[c]⟩ u, ?_⟩, ?_, hne⟩, fun b hb => ?_⟩
    · have e1 : ((i + 1 : Nat) : Int) = (i : Int) + 1 := by omega
      rw [e1]; exact he'
    · obtain ⟨o, q, r⟩ := hit'
      exact ⟨o, (sb.2 it (Ne.symm hne)).trans q, r⟩
    · have hb' : b < s.heap.objs.size := by
        have e' : b = e ∨ b = it := by simpa using hb
        rcases e' with z | z
        · rw [z]; exact hel
        · rw [z]; exact hil
      rw [upd_ne (Nat.ne_of_lt hb')]
      exact (hf b hb).1
  done := by
    intro X hP hw hK hc i pins s σ H E I hf st hg
    subst hP hw hK
    obtain ⟨⟨old, he⟩, hit, hne⟩ := st
    obtain ⟨f0, f1, f2, f3, f4, f5⟩ := hf it (by simp)
    obtain ⟨rfl, _⟩ := hg
    exact wpAny_pyNext_enum_endD (Draws.text (A := X.A.in1) (I.ok.hd hc) it z t) he hit fun h' eb => ⟨rfl, I.turned (t' := s.toks) (fun b o hb q => eb b o hb q) f0 f1 f3 f4 f5⟩
  self := fun A i s Q E st h => let ⟨⟨_, he⟩, _⟩ := st; wpAny_pyIter_enum he h
theorem turn_enumT {P : Program} {w : World} {K : PySem.W.Frag} {elts : List Expr} {kk : Nat} {tpos : Pos} (e it a : Addr) (xs : List V) :
    Turn P w K (.Tuple elts kk tpos) (IteD xs.length (fun H => SqT K H a xs) (fun i _ x => xs[i]? = some x)) [e, it] e (fun i h => (∃ old, IsEnum h e it ((i : Nat) : Int) old) ∧ h.IsTupleIter it a i ∧ e ≠ it) where
  mem := by simp
  obj := fun i h st b hb => by
    obtain ⟨⟨old, he⟩, ⟨o, ho, hc, hd⟩, _⟩ := st
    have e' : b = e ∨ b = it := by simpa using hb
    rcases e' with z | z
    · rw [z]; exact ⟨_, he, fun v q => nomatch q⟩
    · rw [z]; exact ⟨o, ho, fun v q => by rw [hd] at q; cases q⟩
  keep := fun i h h' st k => by
    obtain ⟨⟨old, he⟩, hi, hne⟩ := st
    exact ⟨⟨old, k e (by simp) _ he⟩, hi.at fun o q => k it (by simp) o q, hne⟩
  item := by
    intro X hP hw hK hc i pins s σ H E I hf st hg
    subst hP hw hK
    obtain ⟨⟨old, he⟩, hit, hne⟩ := st
    obtain ⟨hi, hq⟩ := hg
    obtain ⟨its, rv, p, hz⟩ := I.tuple hq
    have hel : e < s.heap.objs.size := Heap.lt_size he
    have hil : it < s.heap.objs.size := by obtain ⟨_, q, _⟩ := hit; exact Heap.lt_size q
    have hea : e ≠ a := by
      rintro rfl
      obtain ⟨o, q1, q2, _⟩ := id p
      rw [show s.heap.get? e = _ from he] at q1
      cases q1
      have q2' : (Value.type "enumerate") = .type "tuple" := q2
      exact absurd q2' (by decide)
    have hia : a ≠ it := by
      rintro rfl
      obtain ⟨o, q1, q2, _⟩ := id p
      obtain ⟨o', q3, q4, _⟩ := id hit
      rw [q1] at q3
      cases q3
      rw [q2] at q4
      exact absurd q4 (by decide)
    have hl : its.toArray.size = xs.length := by rw [List.size_toArray]; exact rv.length.symm
    refine wpAny_pyNext_enum_itemD (Draws.tuple (A := X.A.in1) (I.ok.hd hc) it a hia its.toArray) he ⟨hit, p⟩ (by rw [hl]; exact hi) hne (by simp [hne, hea]) fun v h' tk hv ho hit' hT hsz hk => ?_
    obtain ⟨x, hx⟩ : ∃ x, xs[i]? = some x := ⟨xs[i], List.getElem?_eq_getElem hi⟩
    obtain ⟨u, hu, ru⟩ := rv.get hx
    have ev : v = u := by
      have hv' : its[i]? = some v := by simpa using hv
      rw [hu] at hv'
      exact (Option.some.inj hv').symm
    subst ev
    refine ⟨_, rfl, wpAny_letOwnedTupleGo_enum (s := { s with heap := h', toks := tk + 1 }) ho fun h'' he' sb => ?_⟩
    have hT2 : h''.get? s.heap.objs.size = some { cls := .type "tuple", data := .seq #[.int i tk, v] } := (sb.2 _ (Nat.ne_of_gt hel)).trans hT
    have new : ObjOk X.prog X.w (upd H s.heap.objs.size (.tup [.int (i : Nat), x])) h'' s.heap.objs.size (.tup [.int (i : Nat), x]) :=
      ⟨by show 2 ≤ sizeLine; decide, [.int i tk, v], .cons ⟨_, rfl⟩ (.cons ru .nil), ⟨_, hT2, rfl, _, rfl⟩⟩
    have I1 : Inv X pins σ (upd H s.heap.objs.size (.tup [.int (i : Nat), x])) { s with heap := h'', toks := tk + 1 } :=
      I.turnedNew (ch := [e, it]) (fun b ob hb q => (sb.2 b (fun z => hb (by simp [z]))).trans (hk b ob (fun z => hb (by simp [z])) (fun z => hb (by simp [z])) q)) hf (Nat.le_refl _) new
    refine ⟨.ref s.heap.objs.size, _, I1, rfl, ⟨_, _, rfl, I.hok.fresh (Nat.le_refl _), rfl, hx⟩, ⟨⟨v, ?_⟩, ?_, hne⟩, fun b hb => ?_⟩
    · have e1 : ((i + 1 : Nat) : Int) = (i : Int) + 1 := by omega
      rw [e1]; exact he'
    · exact hit'.1.at fun o q => (sb.2 it (Ne.symm hne)).trans q
    · have hb' : b < s.heap.objs.size := by
        have e' : b = e ∨ b = it := by simpa using hb
        rcases e' with z | z
        · rw [z]; exact hel
        · rw [z]; exact hil
      rw [upd_ne (Nat.ne_of_lt hb')]
      exact (hf b hb).1
  done := by
    intro X hP hw hK hc i pins s σ H E I hf st hg
    subst hP hw hK
    obtain ⟨⟨old, he⟩, hit, hne⟩ := st
    obtain ⟨rfl, hq⟩ := hg
    obtain ⟨its, rv, p, hz⟩ := I.tuple hq
    have hia : a ≠ it := by
      rintro rfl
      obtain ⟨o, q1, q2, _⟩ := id p
      obtain ⟨o', q3, q4, _⟩ := id hit
      rw [q1] at q3
      cases q3
      rw [q2] at q4
      exact absurd q4 (by decide)
    have hl : its.toArray.size = xs.length := by rw [List.size_toArray]; exact rv.length.symm
    obtain ⟨f0, f1, f2, f3, f4, f5⟩ := hf it (by simp)
    exact wpAny_pyNext_enum_endD (Draws.tuple (A := X.A.in1) (I.ok.hd hc) it a hia its.toArray) he ⟨by rw [hl]; exact hit, p⟩ fun h' eb => ⟨rfl, I.turned (t' := s.toks) (fun b o hb q => eb b o hb q) f0 f1 f3 f4 f5⟩
  self := fun A i s Q E st h => let ⟨⟨_, he⟩, _⟩ := st; wpAny_pyIter_enum he h
def iEnumA (K : PySem.W.Frag) (ta : TA) : TI := fun σ H R => ta σ H fun vs H1 => (∃ a xs, vs = [.ref a] ∧ SqT K H1 a xs ∧ R (IteD xs.length (fun H => SqT K H a xs) (fun i _ x => xs[i]? = some x)) H1) ∨ (∃ z, vs = [.str z] ∧ R (IteD z.cps.size (fun _ => True) (fun i _ x => ∃ c, z.cps[i]? = some c ∧ x = .str ⟨#[c]⟩)) H1) ∨ ∃ a xs, vs = [.ref a] ∧ SqL K H1 a xs ∧ R (Ite K a) H1
theorem pi_enumA {X : Cx} {e : Expr} {ta : TA} {p pos tpos : Pos} {elts : List Expr} {kk : Nat} (hg : Gl X "enumerate") (hm : X.mg "enumerate" = none) (ha : PA X [e] ta) (hs : starEach [e] X.env = [(false, eval e X.env)] := by rfl) :
    PI X (.Tuple elts kk tpos) (.Call (.Name "enumerate" p) [e] [] pos) (iEnumA X.K ta) := by
  refine ⟨fun pins s σ H R I h => ?_⟩
  refine Call_ (ld_blt I hg hm boot_enumerate (PyProof.Rows.callWith_type1 (thn (ha.run pos pins s σ H _ I h) fun us s1 ⟨vs, H1, I1, r1, q1⟩ => ?_) hs rfl))
  have fin : ∀ b, b ∈ [s1.heap.objs.size + 1, s1.heap.objs.size] → FpOk X pins H1 b := fun b hb => by
    have e' : b = s1.heap.objs.size + 1 ∨ b = s1.heap.objs.size := by simpa using hb
    have hle : s1.heap.objs.size ≤ b := by
      rcases e' with z | z
      · rw [z]; exact Nat.le_add_right _ _
      · rw [z]; exact Nat.le_refl _
    exact I1.fpOk hle (I1.hok.fresh hle)
  rcases q1 with ⟨a, xs, ex, hq, q⟩ | ⟨z, ex, q⟩ | ⟨a, xs, ex, hq, q⟩
  · subst ex
    cases r1 with
    | cons r rr =>
      cases rr
      cases r
      obtain ⟨its, rv, p', hz⟩ := I1.tuple hq
      refine call_enum1 (begins_tuple a its.toArray) p' fun h' he hit hsz hk => wpAny_pyIter_enum he ?_
      have I2 : Inv X pins σ H1 { s1 with heap := h' } := I1.kept (t' := s1.toks) hk
      exact ⟨s1.heap.objs.size + 1, [s1.heap.objs.size + 1, s1.heap.objs.size], _, _, H1, rfl, I2, turn_enumT (s1.heap.objs.size + 1) s1.heap.objs.size a xs, ⟨⟨.none, he⟩, ⟨_, hit, rfl, rfl⟩, Nat.succ_ne_self _⟩, fin, q⟩
  · subst ex
    cases r1 with
    | cons r rr =>
      cases rr
      obtain ⟨t, rfl⟩ := r
      refine call_enum1 (begins_text z t) trivial fun h' he hit hsz hk => wpAny_pyIter_enum he ?_
      have I2 : Inv X pins σ H1 { s1 with heap := h' } := I1.kept (t' := s1.toks) hk
      exact ⟨s1.heap.objs.size + 1, [s1.heap.objs.size + 1, s1.heap.objs.size], _, _, H1, rfl, I2, turn_enumS (s1.heap.objs.size + 1) s1.heap.objs.size z t, ⟨⟨.none, he⟩, ⟨_, hit, rfl, rfl⟩, Nat.succ_ne_self _⟩, fin, q⟩
  · subst ex
    cases r1 with
    | cons r rr =>
      cases rr
      cases r
      obtain ⟨its, rv, p', hz⟩ := I1.list hq
      refine call_enumerate_list p'.isList fun h' he hit hsz hk => wpAny_pyIter_enum he ?_
      have I2 : Inv X pins σ H1 { s1 with heap := h' } := I1.kept (t' := s1.toks) hk
      exact ⟨s1.heap.objs.size + 1, [s1.heap.objs.size + 1, s1.heap.objs.size], _, _, H1, rfl, I2, turn_enum a (s1.heap.objs.size + 1) s1.heap.objs.size, ⟨⟨.none, he⟩, hit, Nat.succ_ne_self _⟩, fin, q⟩
section
variable {r : Addr} {X : Cx} {K : PySem.W.Frag} {mg : Str → Option Value} {O : List Nat} {E : XK} {e : Expr} {ts : TA}
def numD (xs : List D) : List D := xs.mapIdx fun i x => .tup [.int (i : Int), x]
def enumD : List D → Option (List D)
  | [d] => (seqD d).map numD
  | _ => none
theorem numD_len (xs : List D) : (numD xs).length = xs.length := by unfold numD; simp
theorem numD_get {xs : List D} {i : Nat} {x : D} (h : xs[i]? = some x) : (numD xs)[i]? = some (.tup [.int (i : Int), x]) := by
  unfold numD; rw [List.getElem?_mapIdx, h]; rfl
theorem walks_pair {J : It} {Hs1 : Hp} {ds : List D} {Gd : Hp → Prop} {Y : Nat → Hp → V → Hp → Prop} (wk : Walk J ds.length Gd Y) (hG : ∀ Hs H, Same Hs1 Hs → Same Hs H → Gd H)
    (hY : ∀ i Hs H v H', i < ds.length → Same Hs1 Hs → Same Hs H → Y i H v H' → ∃ T x d, v = .ref T ∧ H T = none ∧ H' = upd H T (.tup [.int (i : Nat), x]) ∧ ds[i]? = some d ∧ RepD K mg r Hs x d) : WalksD K mg r J Hs1 (numD ds) := by
  refine ⟨Gd, Y, by rw [numD_len]; exact wk, hG, fun i Hs H tp v H' hi e w y => ?_⟩
  rw [numD_len] at hi
  obtain ⟨T, x, d, rfl, hT, rfl, hd, hx⟩ := hY i Hs H v H' hi e w.sub y
  obtain ⟨g', w'⟩ := w.alloc (o := .tup [.int (i : Nat), x]) hT
  exact ⟨_, _, g', w', numD_get hd, .tup upd_same (.cons (.int _) (.cons (hx.mono g'.ex) .nil))⟩
theorem enumD_ok {ds items : List D} (h : enumD ds = some items) : ∃ d xs, ds = [d] ∧ seqD d = some xs ∧ items = numD xs := by
  match ds, h with
  | [d], h =>
    obtain ⟨xs, h1, h2⟩ := Option.map_eq_some_iff.mp h
    exact ⟨d, xs, rfl, h1, h2.symm⟩
theorem gi_enum {p tpos : Pos} {pos : Pos} {elts : List Expr} {kk : Nat} {m : SE (List D)} (hm : X.mg "enumerate" = none) (h : GA K mg r X O E [e] ts m) (hg : Gl X "enumerate" := by rfl) (hs : starEach [e] X.env = [(false, eval e X.env)] := by rfl) (hK : X.K = K := by rfl) :
    GI K mg r X O E (.Tuple elts kk tpos) (.Call (.Name "enumerate" p) [e] [] pos) (iEnumA K ts) (rangeI enumD m) := by
  subst hK
  refine ⟨pi_enumA hg hm h.pe hs, fun Hs0 H0 Hs H σ env tp Q R P => ?_⟩
  refine h.snd _ _ _ _ _ _ _ _ R (Post.bind P fun vs Hs1 H1 ds tp1 _ g w rv P1 => ?_)
  obtain ⟨items, hz, k⟩ := Post.ok_of P1
  obtain ⟨d, xs, rfl, h1, rfl⟩ := enumD_ok hz
  cases rv with
  | cons rx rr =>
    cases rr
    cases d with
    | lst ys =>
      cases h1
      cases rx with
      | lst q1 q2 =>
        rename_i a vs
        refine .inr (.inr ⟨a, vs, rfl, .of (w.sub _ _ q1).lst, k _ Hs1 H1 (Grow.refl _ _) w ?_⟩)
        refine walks_pair (Gd := fun H => SqL X.K H a vs) (Y := fun i H v H' => ∃ T x, v = .ref T ∧ H T = none ∧ H' = upd H T (.tup [.int (i : Nat), x]) ∧ vs[i]? = some x) ?_ (fun Hs H e1 e2 => (e1.trans e2).seq (.of q1)) fun i Hs H v H' hi e e2 y => ?_
        · rw [← q2.length]
          exact ⟨fun i H hi q => ⟨vs, vs[i], q, List.getElem?_eq_getElem hi⟩, fun H q => ⟨vs, q, Nat.le_refl _⟩, fun i H x H' hi q y => by
            obtain ⟨T, z, h1, h2, h3, h4⟩ := y
            exact ⟨T, z, h1, h2, h3, h4 vs q⟩⟩
        · obtain ⟨T, x, h1, h2, h3, h4⟩ := y
          obtain ⟨d, h5, h6⟩ := q2.get h4
          exact ⟨T, x, d, h1, h2, h3, h5, h6.mono e⟩
    | tup ys =>
      cases h1
      cases rx with
      | tup q1 q2 =>
        rename_i a vs
        refine .inl ⟨a, vs, rfl, .of (w.sub _ _ q1).tup, k _ Hs1 H1 (Grow.refl _ _) w ?_⟩
        refine walks_pair (Gd := fun H => SqT X.K H a vs) (Y := fun i H v H' => ∃ T x, v = .ref T ∧ H T = none ∧ H' = upd H T (.tup [.int (i : Nat), x]) ∧ vs[i]? = some x) ?_ (fun Hs H e1 e2 => (e1.trans e2).sqt (.of q1)) fun i Hs H v H' hi e e2 y => ?_
        · rw [← q2.length]
          exact ⟨fun i H hi q => ⟨hi, q⟩, fun H q => ⟨rfl, q⟩, fun i H x H' hi q y => y⟩
        · obtain ⟨T, x, h1, h2, h3, h4⟩ := y
          obtain ⟨d, h5, h6⟩ := q2.get h4
          exact ⟨T, x, d, h1, h2, h3, h5, h6.mono e⟩
    | scr ns =>
      cases h1
      cases rx with
      | scr q1 =>
        rename_i a
        refine .inr (.inr ⟨a, ns.map V.int, rfl, Same.seq w.sub q1, k _ Hs1 H1 (Grow.refl _ _) w ?_⟩)
        refine walks_pair (Gd := fun H => SqL X.K H a (ns.map V.int)) (Y := fun i H v H' => ∃ T x, v = .ref T ∧ H T = none ∧ H' = upd H T (.tup [.int (i : Nat), x]) ∧ (ns.map V.int)[i]? = some x) ?_ (fun Hs H e1 e2 => Same.seq e2 (Same.seq e1 q1)) fun i Hs H v H' hi e e2 y => ?_
        · rw [List.length_map]
          exact ⟨fun i H hi q => ⟨ns.map V.int, .int ns[i], q, by rw [List.getElem?_map, List.getElem?_eq_getElem hi]; rfl⟩, fun H q => ⟨ns.map V.int, q, by rw [List.length_map]; exact Nat.le_refl _⟩, fun i H x H' hi q y => by
            obtain ⟨T, z, h1, h2, h3, h4⟩ := y
            exact ⟨T, z, h1, h2, h3, h4 _ q⟩⟩
        · obtain ⟨T, x, h1, h2, h3, h4⟩ := y
          rw [List.getElem?_map] at h4
          obtain ⟨n, h5, rfl⟩ := Option.map_eq_some_iff.mp h4
          exact ⟨T, _, .int n, h1, h2, h3, by rw [List.getElem?_map, h5]; rfl, .int _⟩
    | str s =>
      cases h1
      cases rx
      refine .inr (.inl ⟨s, rfl, k _ Hs1 H1 (Grow.refl _ _) w ?_⟩)
      refine walks_pair (Gd := fun _ => True) (Y := fun i H v H' => ∃ T x, v = .ref T ∧ H T = none ∧ H' = upd H T (.tup [.int (i : Nat), x]) ∧ ∃ c, s.cps[i]? = some c ∧ x = .str ⟨#[c]⟩) ?_ (fun _ _ _ _ => trivial) fun i Hs H v H' hi e e2 y => ?_
      · rw [List.length_map, Array.length_toList]
        exact ⟨fun _ _ hi _ => ⟨hi, trivial⟩, fun _ _ => ⟨rfl, trivial⟩, fun _ _ _ _ _ _ y => y⟩
      · obtain ⟨T, x, rfl, hT, rfl, c, hc, rfl⟩ := y
        exact ⟨T, _, .str ⟨#[c]⟩, rfl, hT, rfl, by rw [List.getElem?_map, Array.getElem?_toList, hc]; rfl, .str _⟩
    | _ => cases h1
end
end G
set_option maxHeartbeats 1000000
namespace G
open PySem PySem.Spec PyProof.Rows L2
theorem crr_or {X : Cx} {f : Value} {r1 r2 : List V → Hp → VK → Prop} (h1 : CallR X f r1) (h2 : CallR X f r2) : CallR X f (fun vs H Q => r1 vs H Q ∨ r2 vs H Q) := by
  intro pins s σ H vs us Q I r h
  rcases h with h | h
  · exact h1 pins s σ H vs us Q I r h
  · exact h2 pins s σ H vs us Q I r h
end G
set_option maxHeartbeats 1000000
namespace G
open PySem PySem.Spec PyProof.Rows L2
end G
set_option maxHeartbeats 1000000
namespace G
open PySem PySem.Spec PyProof.Rows L2
section
variable {r : Addr} {X : Cx} {K : PySem.W.Frag} {mg : Str → Option Value} {O : List Nat} {E : XK} {tt tt1 : TT}
def compLL (f : D → List D → RE (List D)) : List D → List D → RE (List D)
  | [], tp => .ok [] tp
  | d :: ds, tp => match f d tp with
    | .ok o tp1 => (match compLL f ds tp1 with
      | .ok xs tp2 => .ok (o ++ xs) tp2
      | _ => .stuck)
    | _ => .stuck
def compTurn2 (tgt : D → Option (List D)) (is : List Nat) (c : SE Bool) (mi1 : SE (List D)) (vs1 : List Nat) (tgt1 : D → Option (List D)) (is1 : List Nat) (c1 : SE Bool) (m : SE D) (env : DEnv) (d : D) (tp : List D) : RE (List D) := match tgt d with
  | some ds => (c (setAll env is ds) tp).bind fun b tp1 => if b = true then (mi1 (setAll env is ds) tp1).bind fun items1 tp2 => compL (compTurn1 tgt1 is1 c1 m (wipeE (setAll env is ds) vs1)) items1 tp2 else .ok [] tp1
  | none => .stuck
def comp2E (mi : SE (List D)) (vs : List Nat) (tgt : D → Option (List D)) (is : List Nat) (c : SE Bool) (mi1 : SE (List D)) (vs1 : List Nat) (tgt1 : D → Option (List D)) (is1 : List Nat) (c1 : SE Bool) (m : SE D) : SE D := fun env tp => (mi env tp).bind fun items tp1 =>
  match compLL (compTurn2 tgt is c mi1 vs1 tgt1 is1 c1 m (wipeE env vs)) items tp1 with
    | .ok xs tp2 => if xs.length ≤ sizeLine then .ok (.lst xs) tp2 else .stuck
    | _ => .stuck
theorem compLL_cons {f : D → List D → RE (List D)} {d : D} {ds : List D} {tp tpE : List D} {xs : List D} (h : compLL f (d :: ds) tp = .ok xs tpE) : ∃ o tp1 xs', f d tp = .ok o tp1 ∧ compLL f ds tp1 = .ok xs' tpE ∧ xs = o ++ xs' := by
  unfold compLL at h
  cases q : f d tp with
  | ok o tp1 =>
    rw [q] at h
    simp only at h
    cases q2 : compLL f ds tp1 with
    | ok ys tp2 =>
      rw [q2] at h
      simp only [RE.ok.injEq] at h
      exact ⟨o, tp1, ys, rfl, by rw [q2, h.2], h.1.symm⟩
    | exn c fs t => rw [q2] at h; cases h
    | stuck => rw [q2] at h; cases h
  | exn c fs t => rw [q] at h; cases h
  | stuck => rw [q] at h; cases h
theorem setAll_get {α : Type} : ∀ (is : List Nat) (s : List (Option α)) (ws : List α) {j : Nat}, j ∉ is → (setAll s is ws)[j]? = s[j]?
  | [], s, ws, j, _ => by unfold setAll; cases ws <;> rfl
  | i :: is, s, [], j, _ => rfl
  | i :: is, s, w :: ws, j, h => by
    show (setAll (s.set i (some w)) is ws)[j]? = _
    have ne : i ≠ j := fun q => h (by rw [← q]; exact List.mem_cons_self)
    rw [setAll_get is _ ws fun q => h (List.mem_cons_of_mem _ q), List.getElem?_set_ne ne]
theorem comp2_sound {wi wi1 : TI} {g g1 : TG} {te : TE} {is vs is1 vs1 : List Nat} {tgt tgt1 : D → Option (List D)} {mi mi1 : SE (List D)} {c c1 : SE Bool} {m : SE D}
    (hi : ∀ Hs0 H0 Hs H σ env tp Q, Rel K mg r O Hs0 H0 Hs H σ env tp → Post K mg r (fun Hs _ J items => WalksD K mg r J Hs items) E Hs H (mi env tp) Q → wi σ H Q)
    (hg : ∀ v d ds Hs H tp σ (Q : L2.St → Hp → Prop), Wd K mg r Hs H tp → RepD K mg r Hs v d → tgt d = some ds → (∀ vs, RepDs K mg r Hs vs ds → vs.length = is.length → Q (setAll σ is vs) H) → g v σ H Q)
    (ht : ∀ Hs0 H0 Hs H σ env tp Q, Rel K mg r O Hs0 H0 Hs H σ env tp → PostB K mg r E0 Hs H (c env tp) Q → tt σ H Q)
    (hi1 : ∀ Hs0 H0 Hs H σ env tp Q, Rel K mg r O Hs0 H0 Hs H σ env tp → Post K mg r (fun Hs _ J items => WalksD K mg r J Hs items) E0 Hs H (mi1 env tp) Q → wi1 σ H Q)
    (hg1 : ∀ v d ds Hs H tp σ (Q : L2.St → Hp → Prop), Wd K mg r Hs H tp → RepD K mg r Hs v d → tgt1 d = some ds → (∀ vs, RepDs K mg r Hs vs ds → vs.length = is1.length → Q (setAll σ is1 vs) H) → g1 v σ H Q)
    (ht1 : ∀ Hs0 H0 Hs H σ env tp Q, Rel K mg r O Hs0 H0 Hs H σ env tp → PostB K mg r E0 Hs H (c1 env tp) Q → tt1 σ H Q)
    (he : ∀ Hs0 H0 Hs H σ env tp Q, Rel K mg r O Hs0 H0 Hs H σ env tp → PostE K mg r E0 Hs H (m env tp) Q → te σ H Q)
    (hvs : ∀ i ∈ vs, i ∉ O) (his : ∀ i ∈ is, i ∈ vs) (hv1 : ∀ i ∈ vs1, i ∈ vs) (his1 : ∀ i ∈ is1, i ∈ vs1) :
    ∀ Hs0 H0 Hs H σ env tp Q, Rel K mg r O Hs0 H0 Hs H σ env tp → Post K mg r (Fresh K mg r H) E Hs H (comp2E mi vs tgt is c mi1 vs1 tgt1 is1 c1 m env tp) Q → tLc2 wi g tt wi1 g1 tt1 te vs vs1 σ H Q := by
  intro Hs0 H0 Hs H σ env tp Q R P
  refine hi _ _ _ _ _ _ _ _ R ?_
  unfold comp2E at P
  cases q : mi env tp with
  | stuck => rw [q] at P; exact P.elim
  | exn cc fs tp1 => rw [q] at P; exact P
  | ok items tp1 =>
    rw [q] at P
    intro J Hs1 H1 ga w1 wd Dl hD
    simp only [RE.bind_ok] at P
    cases q2 : compLL (compTurn2 tgt is c mi1 vs1 tgt1 is1 c1 m (wipeE env vs)) items tp1 with
    | stuck => rw [q2] at P; exact P.elim
    | exn cc fs tp2 => rw [q2] at P; exact P.elim
    | ok all tpE =>
      rw [q2] at P
      simp only at P
      by_cases hz : all.length ≤ sizeLine
      case neg => rw [if_neg hz] at P; exact P.elim
      rw [if_pos hz] at P
      have P : ∀ v Hs' H', Grow r Hs H Hs' H' → Wd K mg r Hs' H' tpE → Fresh K mg r H Hs' H' v (.lst all) → Q v H' := P
      obtain ⟨Gd, Y, wk, hG, hY⟩ := wd
      have R1 := R.grow ga w1
      obtain ⟨fD, neD⟩ := w1.fresh hD
      have h0D : H Dl = none := ga.free Dl hD
      have Rw := R1.wiped vs hvs
      obtain ⟨gl, wl⟩ := w1.lay (o := .lst []) hD
      obtain ⟨n1, n2⟩ := R.new_ne h0D neD
      have n3 : ∀ j ∈ O, (wipeE σ vs)[j]? ≠ some (some (.ref Dl)) := fun j hj z => n2 j hj (by rw [← z, wipe_get fun q => hvs j q hj])
      have hisO : ∀ i ∈ is, i ∉ O := fun i hi => hvs i (his i hi)
      have hv1O : ∀ i ∈ vs1, i ∉ O := fun i hi => hvs i (hv1 i hi)
      have his1O : ∀ i ∈ is1, i ∉ O := fun i hi => hv1O i (his1 i hi)
      let Pv : Nat → Hp → Prop := fun i H' => ∃ Hs2 vsL dsL tp xs, Rel K mg r O Hs0 H0 Hs2 H' (wipeE σ vs) (wipeE env vs) tp ∧ Same Hs1 Hs2 ∧ Grow r Hs H Hs2 H' ∧ Hs2 Dl = none ∧ H' Dl = some (.lst vsL) ∧ RepDs K mg r Hs2 vsL dsL ∧
        compLL (compTurn2 tgt is c mi1 vs1 tgt1 is1 c1 m (wipeE env vs)) (items.drop i) tp = .ok xs tpE ∧ dsL ++ xs = all
      have p0 : Pv 0 (upd H1 Dl (.lst [])) := ⟨Hs1, [], [], tp1, all, Rw.grow gl wl, Same.refl _, ga.trans gl, fD, upd_same, .nil, q2, rfl⟩
      refine ⟨fun i n H' => n = items.length - i ∧ i ≤ items.length ∧ Pv i H', ⟨items.length, by simp, Nat.zero_le _, p0⟩, ?_⟩
      rintro i n H2 ⟨rfl, hil, Hs2, vsL, dsL, tp2, xs, R2, e2, g2, f2, hD2, rs2, hc2, ha2⟩
      have gd := hG Hs2 H2 e2 R2.wd.sub
      by_cases hi2 : i < items.length
      case neg =>
        have e : i = items.length := by omega
        subst e
        refine .inl ⟨wk.stops _ gd, ?_⟩
        rw [List.drop_length] at hc2
        unfold compLL at hc2
        simp only [RE.ok.injEq] at hc2
        obtain ⟨hx, htp⟩ := hc2
        subst hx htp
        rw [List.append_nil] at ha2
        subst ha2
        exact P _ Hs2 H2 g2 R2.wd ⟨Dl, rfl, h0D, f2, neD, vsL, hD2, rs2⟩
      refine .inr ⟨wk.goes i H2 hi2 gd, Pv (i + 1), fun H' p' => ⟨items.length - (i + 1), by omega, rfl, hi2, p'⟩, fun x H3 yy => ?_⟩
      obtain ⟨Hs3, d, g3, w3, hd, rd⟩ := hY i Hs2 H2 tp2 x H3 hi2 e2 R2.wd (wk.yields i H2 x H3 hi2 gd yy)
      rw [List.drop_eq_getElem_cons hi2] at hc2
      have hd' : items[i] = d := by rw [List.getElem?_eq_getElem hi2] at hd; exact Option.some.inj hd
      rw [hd'] at hc2
      obtain ⟨o, tpI, xs', hf, hrest, hxs⟩ := compLL_cons hc2
      unfold compTurn2 at hf
      cases qt : tgt d with
      | none => rw [qt] at hf; cases hf
      | some es =>
        rw [qt] at hf
        simp only at hf
        rw [wipe_eq]
        refine hg x d es Hs3 H3 tp2 _ _ w3 rd qt fun ws rs hl => ⟨by rw [wipe_eq, wipe_setAll is _ _ his, wipe_wipe vs fun _ h => h], ?_⟩
        have R3 := rel_setAll is _ _ _ _ (R2.grow g3 w3) hisO rs hl
        have f3 := g3.no f2 hD2 neD
        have hD3 := g3.keep Dl _ hD2 neD f2
        refine ht _ _ _ _ _ _ _ _ R3 ?_
        cases qb : c (setAll (wipeE env vs) is es) tp2 with
        | stuck => rw [qb] at hf; cases hf
        | exn cc fs tp4 => rw [qb] at hf; cases hf
        | ok b tpb =>
          rw [qb] at hf
          simp only [RE.bind_ok] at hf
          intro v Hs4 H4 g4 w4 ev
          subst ev
          have f4 := g4.no f3 hD3 neD
          have hD4 := g4.keep Dl _ hD3 neD f3
          cases v with
          | false =>
            rw [if_neg Bool.false_ne_true] at hf
            simp only [RE.ok.injEq] at hf
            obtain ⟨ho, htp⟩ := hf
            subst ho htp
            refine iteF ⟨Hs4, vsL, dsL, tpb, xs', R2.grow (g3.trans g4) w4, e2.trans (g3.ex.trans g4.ex), g2.trans (g3.trans g4), f4, hD4, rs2.mono (g3.ex.trans g4.ex), hrest, ?_⟩
            rw [← ha2, hxs]; rfl
          | true =>
            rw [if_pos rfl] at hf
            refine iteT (hi1 _ _ _ _ _ _ _ _ (R3.grow g4 w4) ?_)
            cases qi : mi1 (setAll (wipeE env vs) is es) tpb with
            | stuck => rw [qi] at hf; cases hf
            | exn cc fs tp5 => rw [qi] at hf; cases hf
            | ok items1 tpi =>
              rw [qi] at hf
              simp only [RE.bind_ok] at hf
              intro J1 Hs5 H5 g5 w5 wd1
              obtain ⟨Gd1, Y1, wk1, hG1, hY1⟩ := wd1
              have f5 := g5.no f4 hD4 neD
              have hD5 := g5.keep Dl _ hD4 neD f4
              have e5 := g3.ex.trans (g4.ex.trans g5.ex)
              have R5 := R3.grow (g4.trans g5) w5
              have Rb5 := R5.wiped vs1 hv1O
              have n3b : ∀ j ∈ O, (wipeE (setAll (wipeE σ vs) is ws) vs1)[j]? ≠ some (some (.ref Dl)) := fun j hj z => n3 j hj (by
                rw [← z, wipe_get fun q => hv1O j q hj, setAll_get is _ ws fun q => hisO j q hj])
              let Pv1 : Nat → Hp → Prop := fun j H' => ∃ Hs6 vsL' dsL' tp' xs'', Rel K mg r O Hs0 H0 Hs6 H' (wipeE σ vs) (wipeE env vs) tp' ∧ Rel K mg r O Hs0 H0 Hs6 H' (wipeE (setAll (wipeE σ vs) is ws) vs1) (wipeE (setAll (wipeE env vs) is es) vs1) tp' ∧ Same Hs5 Hs6 ∧ Same Hs1 Hs6 ∧ Grow r Hs H Hs6 H' ∧ Hs6 Dl = none ∧ H' Dl = some (.lst vsL') ∧ RepDs K mg r Hs6 vsL' dsL' ∧
                compL (compTurn1 tgt1 is1 c1 m (wipeE (setAll (wipeE env vs) is es) vs1)) (items1.drop j) tp' = .ok xs'' tpI ∧ dsL' ++ xs'' = dsL ++ o
              have p1 : Pv1 0 H5 := ⟨Hs5, vsL, dsL, tpi, o, R2.grow (g3.trans (g4.trans g5)) w5, Rb5, Same.refl _, e2.trans e5, g2.trans (g3.trans (g4.trans g5)), f5, hD5, rs2.mono e5, hf, rfl⟩
              refine ⟨fun j k H' => k = items1.length - j ∧ j ≤ items1.length ∧ Pv1 j H', ⟨items1.length, by simp, Nat.zero_le _, p1⟩, ?_⟩
              rintro j k H6 ⟨rfl, hjl, Hs6, vsL6, dsL6, tp6, xs6, Ra6, Rb6, es6, e6, g6, f6, hD6, rs6, hc6, ha6⟩
              have gd1 := hG1 Hs6 H6 es6 Ra6.wd.sub
              by_cases hj2 : j < items1.length
              case neg =>
                have e : j = items1.length := by omega
                subst e
                refine .inl ⟨wk1.stops _ gd1, ?_⟩
                rw [List.drop_length] at hc6
                unfold compL at hc6
                simp only [RE.ok.injEq] at hc6
                obtain ⟨hx, htp⟩ := hc6
                subst hx htp
                rw [List.append_nil] at ha6
                refine ⟨Hs6, vsL6, dsL6, tp6, xs', Ra6, e6, g6, f6, hD6, rs6, hrest, ?_⟩
                rw [ha6, ← ha2, hxs, List.append_assoc]
              refine .inr ⟨wk1.goes j H6 hj2 gd1, Pv1 (j + 1), fun H' p' => ⟨items1.length - (j + 1), by omega, rfl, hj2, p'⟩, fun x1 H7 yy1 => ?_⟩
              obtain ⟨Hs7, d1, g7, w7, hd1, rd1⟩ := hY1 j Hs6 H6 tp6 x1 H7 hj2 es6 Ra6.wd (wk1.yields j H6 x1 H7 hj2 gd1 yy1)
              rw [List.drop_eq_getElem_cons hj2] at hc6
              have hd1' : items1[j] = d1 := by rw [List.getElem?_eq_getElem hj2] at hd1; exact Option.some.inj hd1
              rw [hd1'] at hc6
              obtain ⟨o1, tp8, xs8, hf1, hrest1, hxs1⟩ := compL_cons hc6
              unfold compTurn1 at hf1
              cases qt1 : tgt1 d1 with
              | none => rw [qt1] at hf1; cases hf1
              | some es1 =>
                rw [qt1] at hf1
                simp only at hf1
                rw [wipe_eq]
                refine hg1 x1 d1 es1 Hs7 H7 tp6 _ _ w7 rd1 qt1 fun ws1 rs1 hl1 => ⟨by rw [wipe_eq, wipe_setAll is1 _ _ his1, wipe_wipe vs1 fun _ h => h], ?_⟩
                have R7 := rel_setAll is1 _ _ _ _ (Rb6.grow g7 w7) his1O rs1 hl1
                have f7 := g7.no f6 hD6 neD
                have hD7 := g7.keep Dl _ hD6 neD f6
                refine ht1 _ _ _ _ _ _ _ _ R7 ?_
                cases qb1 : c1 (setAll (wipeE (setAll (wipeE env vs) is es) vs1) is1 es1) tp6 with
                | stuck => rw [qb1] at hf1; cases hf1
                | exn cc fs tp9 => rw [qb1] at hf1; cases hf1
                | ok b1 tpb1 =>
                  rw [qb1] at hf1
                  simp only [RE.bind_ok] at hf1
                  intro v Hs8 H8 g8 w8 ev
                  subst ev
                  have f8 := g8.no f7 hD7 neD
                  have hD8 := g8.keep Dl _ hD7 neD f7
                  cases v with
                  | false =>
                    rw [if_neg Bool.false_ne_true] at hf1
                    simp only [RE.ok.injEq] at hf1
                    obtain ⟨ho, htp⟩ := hf1
                    subst ho htp
                    refine iteF ⟨Hs8, vsL6, dsL6, tpb1, xs8, Ra6.grow (g7.trans g8) w8, Rb6.grow (g7.trans g8) w8, es6.trans (g7.ex.trans g8.ex), e6.trans (g7.ex.trans g8.ex), g6.trans (g7.trans g8), f8, hD8, rs6.mono (g7.ex.trans g8.ex), hrest1, ?_⟩
                    rw [← ha6, hxs1]; rfl
                  | true =>
                    rw [if_pos rfl] at hf1
                    refine iteT (he _ _ _ _ _ _ _ _ (R7.grow g8 w8) ?_)
                    cases qm : m (setAll (wipeE (setAll (wipeE env vs) is es) vs1) is1 es1) tpb1 with
                    | stuck => rw [qm] at hf1; cases hf1
                    | exn cc fs tp9 => rw [qm] at hf1; cases hf1
                    | ok z tpz =>
                      rw [qm] at hf1
                      simp only [RE.bind_ok, RE.ok.injEq] at hf1
                      obtain ⟨ho, htp⟩ := hf1
                      subst ho htp
                      intro y9 Hs9 H9 g9 w9 ry
                      have f9 := g9.no f8 hD8 neD
                      have hD9 := g9.keep Dl _ hD8 neD f8
                      have e9 := g7.ex.trans (g8.ex.trans g9.ex)
                      have hlen : dsL6.length < all.length := by
                        rw [← ha2, hxs, ← List.append_assoc, ← ha6, hxs1]
                        simp
                      refine ⟨vsL6, hD9, by rw [rs6.length]; omega, Hs9, vsL6 ++ [y9], dsL6 ++ [z], tpz, xs8, ?_, ?_, es6.trans e9, e6.trans e9, ?_, f9, upd_same, (rs6.mono e9).append (.cons ry .nil), hrest1, ?_⟩
                      · exact (Ra6.grow (g7.trans (g8.trans g9)) w9).other f9 n1 neD n3 (fun xs z => by rw [hD9] at z; first | exact st_no rfl xs (Option.some.inj z) | cases z)
                      · exact (Rb6.grow (g7.trans (g8.trans g9)) w9).other f9 n1 neD n3b (fun xs z => by rw [hD9] at z; first | exact st_no rfl xs (Option.some.inj z) | cases z)
                      · exact (g6.trans (g7.trans (g8.trans g9))).other h0D
                      · rw [← ha6, hxs1, List.append_assoc]; rfl
/-- a list comprehension of two clauses -/
theorem gf_lc2 {elt tg iter tg1 iter1 : Expr} {ifs ifs1 : List Expr} {scope : Scope} {own : List (Str × Nat)} {pos : Pos} {wi wi1 : TI} {g g1 : TG} {te : TE} {is is1 vs1 : List Nat} {tgt tgt1 : D → Option (List D)} {mi mi1 : SE (List D)} {c c1 : SE Bool} {m : SE D} (hc : X.calm = true) (hN : X.N.Nodup) (hi : GI K mg r X O E tg iter wi mi) (ok : BlkOk X.N X.env.scope scope own)
    (hg : ∀ (s : Shared) (H : Hp) (C : Addr) (cl : List (Str × Addr)) (fp : List Addr), GG K mg r (X.blk s H scope (compEnvC scope cl C X.env) fp) tg g is tgt)
    (ht : ∀ (s : Shared) (H : Hp) (C : Addr) (cl : List (Str × Addr)) (fp : List Addr), GTs K mg r (X.blk s H scope (compEnvC scope cl C X.env) fp) O E0 ifs tt c)
    (hi1 : ∀ (s : Shared) (H : Hp) (C : Addr) (cl : List (Str × Addr)) (fp : List Addr), GI K mg r (X.blk s H scope (compEnvC scope cl C X.env) fp) O E0 tg1 iter1 wi1 mi1)
    (hg1 : ∀ (s : Shared) (H : Hp) (C : Addr) (cl : List (Str × Addr)) (fp : List Addr), GG K mg r (X.blk s H scope (compEnvC scope cl C X.env) fp) tg1 g1 is1 tgt1)
    (ht1 : ∀ (s : Shared) (H : Hp) (C : Addr) (cl : List (Str × Addr)) (fp : List Addr), GTs K mg r (X.blk s H scope (compEnvC scope cl C X.env) fp) O E0 ifs1 tt1 c1)
    (he : ∀ (s : Shared) (H : Hp) (C : Addr) (cl : List (Str × Addr)) (fp : List Addr), GE K mg r (X.blk s H scope (compEnvC scope cl C X.env) fp) O E0 elt te m)
    (hvs : ∀ i ∈ own.map (·.2), i ∉ O) (his : ∀ i ∈ is, i ∈ own.map (·.2)) (hv1 : ∀ i ∈ vs1, i ∈ own.map (·.2)) (his1 : ∀ i ∈ is1, i ∈ vs1) (hs : ∀ x, foldedSetIterable iter X.env x = pure x := by intro _; rfl) (hs1 : ∀ env x, foldedSetIterable iter1 env x = pure x := by intro _ _; rfl) :
    GF K mg r X O E (.ListComp elt [⟨tg, iter, ifs, 0⟩, ⟨tg1, iter1, ifs1, 0⟩] scope pos) (tLc2 wi g tt wi1 g1 tt1 te (own.map (·.2)) vs1) (comp2E mi (own.map (·.2)) tgt is c mi1 vs1 tgt1 is1 c1 m) :=
  ⟨pe_lc2 hc hN hi.pe ok hv1 (fun s H C cl fp => (hg s H C cl fp).pe) (fun s H C cl fp => (ht s H C cl fp).pe) (fun s H C cl fp => (hi1 s H C cl fp).pe) (fun s H C cl fp => (hg1 s H C cl fp).pe) (fun s H C cl fp => (ht1 s H C cl fp).pe) (fun s H C cl fp => (he s H C cl fp).pe) hs hs1,
    comp2_sound hi.snd (hg X.s_0 X.H_0 0 [] []).snd (ht X.s_0 X.H_0 0 [] []).snd (hi1 X.s_0 X.H_0 0 [] []).snd (hg1 X.s_0 X.H_0 0 [] []).snd (ht1 X.s_0 X.H_0 0 [] []).snd (he X.s_0 X.H_0 0 [] []).snd hvs his hv1 his1⟩
end
end G
set_option maxHeartbeats 1000000
namespace SumT
open PySem PySem.Spec PyProof.Rows
section
variable {prog : Program} {w : World} {A : Around} {E : Value → Shared → Prop} {s : Shared} {l : Addr} {xs : Array (Int × Tok)}
theorem iter_intTuple {Q : Value → Shared → Prop} (hl : s.heap.IsTuple l (intItems xs))
    (h : ∀ s₂ : Shared, s₂ = { s with heap := s.heap.push { cls := .type "tuple_iterator", data := .fields #[.ref l, .int 0 0] } } →
      (s₂.heap.IsTupleIter s.heap.objs.size l 0 ∧ s₂.heap.IsTuple l (intItems xs)) → (∀ b ∈ [s.heap.objs.size, l], b < s₂.heap.objs.size) → l ≠ s.heap.objs.size → Q (.ref s.heap.objs.size) s₂) :
    wpAny (model prog w) A (pyIter (.ref l)) Q E s := by
  have hlt : l < s.heap.objs.size := by obtain ⟨_, e, _⟩ := hl; exact Heap.lt_size e
  refine wpAny_pyIter_tuple hl (h _ rfl ⟨⟨_, Heap.get?_push_size _ rfl, rfl, rfl⟩, hl.push _⟩ (fun b hb => ?_) (Nat.ne_of_lt hlt))
  show b < (s.heap.push _).objs.size
  rw [Heap.size_push]
  rcases List.mem_cons.mp hb with rfl | hb
  · exact Nat.lt_succ_self _
  · rcases List.mem_cons.mp hb with rfl | hb
    · exact Nat.lt_succ_of_lt hlt
    · cases hb
theorem old_keptT {h' : Heap} (hk : ∀ b o, b ∉ [s.heap.objs.size] → (s.heap.push { cls := .type "tuple_iterator", data := .fields #[.ref l, .int 0 0] }).get? b = some o → h'.get? b = some o) :
    ∀ b o, s.heap.get? b = some o → h'.get? b = some o := fun b o e => by
  refine hk b o (fun hm => ?_) (Heap.get?_push_of_some _ e)
  rcases List.mem_cons.mp hm with e1 | hm
  · exact absurd (e1 ▸ Heap.lt_size e) (Nat.lt_irrefl _)
  · cases hm
theorem sum_intTupG {Q : Value → Shared → Prop} (hh : A.handled = none) (hl : s.heap.IsTuple l (intItems xs))
    (h : ∀ h' tk t', (∀ b o, s.heap.get? b = some o → h'.get? b = some o) → Q (.int (preSum (numAt xs) xs.size) t') { s with heap := h', toks := tk }) :
    wpAny (model prog w) A (call (.builtin "sum") [.ref l]) Q E s := by
  refine call_sum_walkG (iter_intTuple hl fun s₂ e st hfp hlI => ?_)
  subst e
  refine ⟨_, _, _, _, _, _, numAt xs, rfl, Walks.tuple (A := A.in1) hh _ l hlI (intItems xs), st, hfp, (fun _ _ => intItems_at), fun h' tk t' hk => ?_⟩
  have := h h' tk t' (old_keptT hk)
  simpa [intItems] using this
theorem sumT_raw {its : List Value} {ns : List Int} {Q : Value → Shared → Prop} (hh : A.handled = none) (hl : s.heap.IsTuple l its.toArray) (hi : IntsAre its ns)
    (h : ∀ h' tk t', (∀ b o, s.heap.get? b = some o → h'.get? b = some o) → Q (.int ns.sum t') { s with heap := h', toks := tk }) : wpAny (model prog w) A (call (.builtin "sum") [.ref l]) Q E s := by
  obtain ⟨xs, e⟩ := hi.allInts.items
  have hn : numsOf (intItems xs).toList = ns := by rw [← e]; exact hi.numsOf
  rw [nums_intItems] at hn
  rw [e] at hl
  refine sum_intTupG hh hl fun h' tk t' hk => ?_
  have := h h' tk t' hk
  rw [preSum_eq, List.take_of_length_le (by simp), hn]; exact this
end
end SumT
namespace G
open PySem PySem.Spec PyProof.Rows L2
def rSumA (K : PySem.W.Frag) : List V → Hp → VK → Prop := fun vs H Q => ∃ (a : Addr) (ns : List Int), vs = [V.ref a] ∧ SqT K H a (ns.map V.int) ∧ Q (.int ns.sum) H
theorem cr_sumA {X : Cx} (hc : X.calm = true) : CallR X (.builtin "sum") (rSumA X.K) := by
  intro pins s σ H vs us Q I r h
  obtain ⟨a, ns, rfl, hs, q⟩ := h
  obtain ⟨its, rv, hl, _⟩ := I.tuple hs
  rw [Vals.ref1 r]
  exact SumT.sumT_raw (I.ok.hd hc) hl rv.ints fun h' tk t' hk => ⟨.int _, H, I.kept hk, ⟨_, rfl⟩, q⟩
def sum2D : List D → Option D
  | [.lst xs] => (unI xs).map fun bs => .int bs.sum
  | [.tup xs] => (unI xs).map fun bs => .int bs.sum
  | _ => none
def sumTD : List D → Option D
  | [.tup xs] => (unI xs).map fun bs => .int bs.sum
  | _ => none
abbrev rSum2 (K : PySem.W.Frag) : List V → Hp → VK → Prop := fun vs H Q => rSum K vs H Q ∨ rSumA K vs H Q
section
variable {K : PySem.W.Frag} {mg : Str → Option Value} {r : Addr} {X : Cx} {O : List Nat} {E : XK} {e : Expr} {pos : Pos} {ts : TA}
theorem cs_sumA : CallS K mg r (rSumA K) sumTD := by
  intro Hs H tp xs ds z Q w rx hz k
  unfold sumTD at hz
  split at hz
  · obtain ⟨bs, h1, h2⟩ := Option.map_eq_some_iff.mp hz
    subst h2
    obtain ⟨x, rfl, h⟩ := paired1 rx
    rw [unI_ok h1] at h
    obtain ⟨p, vs, rfl, _, a, b⟩ := repT_tup w h
    have := RepDs.ints_of b
    subst this
    exact ⟨p, bs, rfl, .of a, k _ _ _ (Grow.refl _ _) w (.int _)⟩
  · cases hz
theorem ge_sum2 {p0 : Pos} {ms : SE (List D)} (hc : X.calm = true) (hm : X.mg "sum" = none) (ha : GAO K mg r X O E [e] ts ms) (hg : Gl X "sum" := by rfl) (he : starEach [e] X.env = (false, eval e X.env) :: starEach [] X.env := by rfl) (hpl : (backTo pos (starEach [] X.env)).any (·.1) = false := by rfl) (hK : X.K = K := by rfl) :
    GE K mg r X O E (.Call (.Name "sum" p0) [e] [] pos) (tCB (rSum2 K) ts) (callB sum2D ms) := by
  subst hK
  exact ge_callB (crr_or (cr_sum hc) (cr_sumA hc)) (CallS.or cs_sum cs_sumA fun d z h => by
    unfold sum2D at h
    split at h
    · exact .inl h
    · exact .inr h
    · cases h) hm ha hg (by decide +kernel) (by decide) (by decide) he hpl
end
end G
set_option maxHeartbeats 1000000
namespace Dc2
open PySem PySem.Spec PyProof.Rows L2
abbrev two (kx vx t0 i0 t1 i1 : Expr) (sc : Scope) (ps : Pos) : Expr := .DictComp kx vx [⟨t0, i0, [], 0⟩, ⟨t1, i1, [], 0⟩] sc ps
theorem outTurn (kx vx t0 i0 t1 i1 : Expr) (sc : Scope) (ps : Pos) (it acc : Value) (en : Env) : compTurn (two kx vx t0 i0 t1 i1 sc ps) 0 it acc en = (do
    standAt i0.pos
    let nx ← pyNext it
    match nx with
    | none => pure (.done .next)
    | some u =>
      letOwnedTupleGo t0 it u
      assign t0 en u
      let a ← eval i1 en
      standAt i1.pos
      let b ← foldedSetIterable i1 en a
      let j ← holding [b] (pyIter b)
      let _ ← runOwn (.compStart (two kx vx t0 i0 t1 i1 sc ps) 1 j acc en) en
      again (.compLoop (two kx vx t0 i0 t1 i1 sc ps) 0 it acc en)) := by rfl
theorem inTurn (kx vx t0 i0 t1 i1 : Expr) (sc : Scope) (ps : Pos) (it : Value) (D : Addr) (en : Env) : compTurn (two kx vx t0 i0 t1 i1 sc ps) 1 it (.ref D) en = (do
    standAt i1.pos
    let nx ← pyNext it
    match nx with
    | none => pure (.done .next)
    | some u =>
      letOwnedTupleGo t1 it u
      assign t1 en u
      (do
        let a ← eval kx en
        let b ← holding [a] (eval vx en)
        standAt { kx.pos with endLine := vx.pos.endLine, endCol := vx.pos.endCol }
        holding [a, b] (dictSet D a b))
      again (.compLoop (two kx vx t0 i0 t1 i1 sc ps) 1 it (.ref D) en)) := by rfl
section
variable {P : Program} {w : World} {A : Around} {R : Result → Shared → Prop} {s : Shared} {kx vx t0 i0 t1 i1 : Expr} {sc : Scope} {ps : Pos} {it acc : Value} {en : Env}
/-- what is wanted if something is raised within -/
abbrev bad (P : Program) (w : World) (A : Around) (en : Env) (R : Result → Shared → Prop) : Value → Shared → Prop := notedBy (model P w) A en fun x z => R (.error x) z
theorem outLoop (hf : ∀ x, foldedSetIterable i1 en x = pure x) (J : Nat → Shared → Prop)
    (step : ∀ n z, J n z → wpAny (model P w) A (pyNext it) (fun nx z1 => match nx with
      | none => R (.ok .next) z1
      | some u => wpAny (model P w) A (letOwnedTupleGo t0 it u) (fun _ z2 => wpAny (model P w) A (assign t0 en u) (fun _ z3 => wpAny (model P w) A (eval i1 en) (fun a z4 => wpAny (model P w) A (pyIter a) (fun j z5 =>
          codeAny (model P w) A (.compStart (two kx vx t0 i0 t1 i1 sc ps) 1 j acc en) (fun e z6 => match e with
            | .ok _ => ∃ k, k < n ∧ J k z6
            | .error _ => False) z5) (bad P w A en R) z4) (bad P w A en R) z3) (bad P w A en R) z2) (bad P w A en R) z1) (bad P w A en R) z)
    (n : Nat) (h : J n s) : codeAny (model P w) A (.compLoop (two kx vx t0 i0 t1 i1 sc ps) 0 it acc en) R s := by
  refine codeAny_loop rfl J (fun n z hJ => ?_) n h
  show wpAny _ A ((compTurn (two kx vx t0 i0 t1 i1 sc ps) 0 it acc en).onRaise fun x => do noteFrame x en; theTreesLotGoes x) _ _ z
  refine wpAny_noted ?_
  rw [outTurn]
  refine wpAny_bind (wpAny_standAt (wpAny_bind (wpAny_mono (step n z hJ) (fun nx z1 q => ?_) fun _ _ y => y)))
  cases nx with
  | none => exact wpAny_pure q
  | some u =>
    refine wpAny_bind (wpAny_mono q (fun _ z2 q2 => ?_) fun _ _ y => y)
    refine wpAny_bind (wpAny_mono q2 (fun _ z3 q3 => ?_) fun _ _ y => y)
    refine wpAny_bind (wpAny_mono q3 (fun a z4 q4 => ?_) fun _ _ y => y)
    refine wpAny_bind (wpAny_standAt (wpAny_bind (wpAny_of_eq (hf a) (wpAny_bind (wpAny_holding (wpAny_mono q4 (fun j z5 q5 => ?_) fun _ _ y => y))))))
    refine wpAny_bind (wpAny_runOwn ?_)
    rw [Around.mark_none]
    refine codeAny_mono q5 fun e z6 q6 => ?_
    cases e with
    | ok _ => first | exact wpAny_pure ⟨rfl, q6⟩ | exact wpAny_bind (wpAny_pure (wpAny_pure ⟨rfl, q6⟩))
    | error _ => exact q6.elim
theorem inLoop {D : Addr} (J : Nat → Shared → Prop)
    (step : ∀ n z, J n z → wpAny (model P w) A (pyNext it) (fun nx z1 => match nx with
      | none => R (.ok .next) z1
      | some u => wpAny (model P w) A (letOwnedTupleGo t1 it u) (fun _ z2 => wpAny (model P w) A (assign t1 en u) (fun _ z3 => wpAny (model P w) A (eval kx en) (fun a z4 => wpAny (model P w) A (eval vx en) (fun b z5 =>
          wpAny (model P w) A (dictSet D a b) (fun _ z6 => ∃ k, k < n ∧ J k z6) (bad P w A en R) z5) (bad P w A en R) z4) (bad P w A en R) z3) (bad P w A en R) z2) (bad P w A en R) z1) (bad P w A en R) z)
    (n : Nat) (h : J n s) : codeAny (model P w) A (.compLoop (two kx vx t0 i0 t1 i1 sc ps) 1 it (.ref D) en) R s := by
  refine codeAny_loop rfl J (fun n z hJ => ?_) n h
  show wpAny _ A ((compTurn (two kx vx t0 i0 t1 i1 sc ps) 1 it (.ref D) en).onRaise fun x => do noteFrame x en; theTreesLotGoes x) _ _ z
  refine wpAny_noted ?_
  rw [inTurn]
  refine wpAny_bind (wpAny_standAt (wpAny_bind (wpAny_mono (step n z hJ) (fun nx z1 q => ?_) fun _ _ y => y)))
  cases nx with
  | none => exact wpAny_pure q
  | some u =>
    refine wpAny_bind (wpAny_mono q (fun _ z2 q2 => ?_) fun _ _ y => y)
    refine wpAny_bind (wpAny_mono q2 (fun _ z3 q3 => ?_) fun _ _ y => y)
    refine wpAny_bind (wpAny_bind (wpAny_mono q3 (fun a z4 q4 => ?_) fun _ _ y => y))
    refine wpAny_bind (wpAny_holding (wpAny_mono q4 (fun b z5 q5 => ?_) fun _ _ y => y))
    exact wpAny_bind (wpAny_standAt (wpAny_holding (wpAny_mono q5 (fun _ z6 q6 => wpAny_pure ⟨rfl, q6⟩) fun _ _ y => y)))
theorem inStart (h0 : codeAny (model P w) A (.compLoop (two kx vx t0 i0 t1 i1 sc ps) 1 it acc en) R s)
    (h : wpAny (model P w) A (pyIter it) (fun j z => codeAny (model P w) A (.compLoop (two kx vx t0 i0 t1 i1 sc ps) 1 j acc en) R z) (bad P w A en R) s) :
    codeAny (model P w) A (.compStart (two kx vx t0 i0 t1 i1 sc ps) 1 it acc en) R s := by
  refine codeAny_of_tree ?_
  show wpAny _ _ ((compStart (two kx vx t0 i0 t1 i1 sc ps) 1 it acc en).onRaise fun x => do noteFrame x en; standAt theWindowsPlace) _ _ s
  refine wpAny_notedAt ?_
  unfold compStart
  show wpAny _ _ (ask >>= _) _ _ s
  refine wpAny_bind (wpAny_askSetting (wpAny_ite ?_))
  split
  · first | exact wpAny_bind (wpAny_pure (wpAny_pure ⟨rfl, h0⟩)) | exact wpAny_pure ⟨rfl, h0⟩
  · first
    | exact wpAny_bind (wpAny_rule (wpAny_bind (wpAny_standAt (wpAny_bind (wpAny_mono h (fun j z q => wpAny_pure ⟨rfl, q⟩) fun _ _ y => y)))))
    | (refine wpAny_bind (wpAny_rule ?_)
       show wpAny _ _ (standAt i1.pos >>= _) _ _ s
       exact wpAny_bind (wpAny_standAt (wpAny_bind (wpAny_mono h (fun j z q => wpAny_pure ⟨rfl, q⟩) fun _ _ y => y))))
end
end Dc2
set_option maxHeartbeats 1000000
namespace Dc2
open PySem PySem.Spec PyProof.Rows L2
def wants (wi : TI) (g : TG) (wj : TI) (k : TG) (tk tv : TE) (vs us : List Nat) : TE := fun σ H Q => wi σ H fun J H1 => ∀ D, H1 D = none → ∃ W : Nat → Nat → Hp → Prop, (∃ m, W 0 m (upd H1 D (.dK []))) ∧ ∀ i m H2, W i m H2 →
  (J.stop i H2 ∧ Q (.ref D) H2) ∨ (J.go i H2 ∧ ∃ G : Hp → Prop, (∀ H3, G H3 → ∃ m', m' < m ∧ W (i + 1) m' H3) ∧ ∀ x H3, J.yld i H2 x H3 → g x (wipe σ vs) H3 fun σ2 H4 => wipe σ2 vs = wipe σ vs ∧
    wj σ2 H4 fun Jn H5 => ∃ U : Nat → Nat → Hp → Prop, (∃ m, U 0 m H5) ∧ ∀ j l H6, U j l H6 →
      (Jn.stop j H6 ∧ G H6) ∨ (Jn.go j H6 ∧ ∃ F : Hp → Prop, (∀ H7, F H7 → ∃ l', l' < l ∧ U (j + 1) l' H7) ∧ ∀ y H7, Jn.yld j H6 y H7 → k y (wipe σ2 us) H7 fun σ3 H8 => wipe σ3 us = wipe σ2 us ∧
        tk σ3 H8 fun a H9 => tv σ3 H9 fun b H10 => ∃ (kvs : List (Key × V)) (q : Key), a = kV q ∧ H10 D = some (.dK kvs) ∧ kvs.length < sizeLine ∧ F (upd H10 D (.dK (putK kvs q b)))))
/-- the blocks' contexts -/
abbrev BX (X : Cx) (sc : Scope) (s : Shared) (H : Hp) (C : Addr) (cl : List (Str × Addr)) (fp : List Addr) : Cx := X.blk s H sc (compEnvC sc cl C X.env) fp
section
variable {X : Cx}
theorem core {pins : List (Addr × Obj)} {s : Shared} {σ : L2.St} {H : Hp} {Q : VK} {kx vx t0 i0 t1 i1 : Expr} {sc : Scope} {own : List (Str × Nat)} {us : List Nat} {ps pp : Pos} {wi wj : TI} {g k : TG} {tk tv : TE} {use : Option (Value → Sem Unit)} {Qf : Value → Shared → Prop}
    (calm : X.calm = true) (nd : X.N.Nodup) (I : L2.Inv X pins σ H s) (p0 : PI X t0 i0 wi) (bo : BlkOk X.N X.env.scope sc own) (hus : ∀ i ∈ us, i ∈ own.map (·.2))
    (pg : ∀ s H C cl fp, PG (BX X sc s H C cl fp) t0 g) (pj : ∀ s H C cl fp, PI (BX X sc s H C cl fp) t1 i1 wj) (pk : ∀ s H C cl fp, PG (BX X sc s H C cl fp) t1 k)
    (pa : ∀ s H C cl fp, PE (BX X sc s H C cl fp) kx tk) (pb : ∀ s H C cl fp, PE (BX X sc s H C cl fp) vx tv)
    (f0 : ∀ x, foldedSetIterable i0 X.env x = pure x) (f1 : ∀ en x, foldedSetIterable i1 en x = pure x) (want : wants wi g wj k tk tv (own.map (·.2)) us σ H Q)
    (back : ∀ D C z m H', Inv X pins σ H' z → Q (.ref D) H' → z.heap.Ns C m → FpOk X pins H' C → compPost (model X.prog X.w) X.A X.xe use Qf (.ref D) C (.ok .next) z) :
    wpAny (model X.prog X.w) X.A (comprehension (two kx vx t0 i0 t1 i1 sc ps) sc X.env pp newDict false (eval i0 X.env) use) Qf X.xe s := by
  have caught : ∀ y ∈ sc.names, y.2 = .free → ∃ c, X.env.cells.lookup y.1 = some c := by
    intro y hy e
    cases bo.free y hy e with
    | inl z => exact I.ok.has _ (.inl z)
    | inr z => exact I.ok.has _ (.inr z)
  refine wpAny_comprehension_free (use := use) rfl f0 (closure_ok caught) bo.kind (fun y hy e => by rw [bo.uniq y hy, e]) ?_
  refine thn (p0.run pins s σ H _ I want) fun _ z1 w1 => thn w1 fun _ z2 ⟨it, fp, tn, J, H2, e2, I2, Tw, st2, fo2, w2⟩ => ?_
  subst e2
  refine wpAny_newObj_type (newEnv_comp ?_)
  generalize eD : z2.heap.objs.size = D
  have fr : H2 D = none := I2.hok.fresh (Nat.le_of_eq eD)
  obtain ⟨W, ⟨m0, W0⟩, turn⟩ := w2 D fr
  generalize e3 : ({ z2 with heap := z2.heap.push { cls := .type "dict", data := .dict #[] } } : Shared) = z3
  have hp3 : z3.heap = z2.heap.push { cls := .type "dict", data := .dict #[] } := by rw [← e3]
  have I3 : L2.Inv X pins σ (upd H2 D (.dK [])) z3 := by
    rw [← e3]
    refine I2.laid (t' := z2.toks) (fun _ _ e => Heap.get?_push_of_some _ e) (Nat.le_of_eq eD) ?_
    rw [← eD]
    exact dk_empty z2.heap I2.big
  have below : ∀ b ∈ fp, b < z2.heap.objs.size := by
    intro b hb
    obtain ⟨_, e, _⟩ := Tw.obj _ _ st2 b hb
    exact Heap.lt_size e
  have fo3 : ∀ b ∈ fp, FpOk X pins (upd H2 D (.dK [])) b ∧ b < z3.heap.objs.size := by
    intro b hb
    have lt := below b hb
    have ne : b ≠ D := by rw [← eD]; exact Nat.ne_of_lt lt
    refine ⟨⟨by rw [upd_ne ne]; exact (fo2 b hb).1, (fo2 b hb).2⟩, ?_⟩
    rw [hp3, Heap.size_push]
    exact Nat.lt_succ_of_lt lt
  have st3 : tn 0 z3.heap := Tw.keep _ _ _ st2 fun b _ _ e => by rw [hp3]; exact Heap.get?_push_of_some _ e
  have I4 := block_start I3 bo nd fo3
  have pg := pg z3 (upd H2 D (.dK [])) z3.heap.objs.size (cellsFrom (z3.heap.objs.size + 1) sc.names (cloFrom X.env.cells sc.names [])) fp
  have pj := pj z3 (upd H2 D (.dK [])) z3.heap.objs.size (cellsFrom (z3.heap.objs.size + 1) sc.names (cloFrom X.env.cells sc.names [])) fp
  have pk := pk z3 (upd H2 D (.dK [])) z3.heap.objs.size (cellsFrom (z3.heap.objs.size + 1) sc.names (cloFrom X.env.cells sc.names [])) fp
  have pa := pa z3 (upd H2 D (.dK [])) z3.heap.objs.size (cellsFrom (z3.heap.objs.size + 1) sc.names (cloFrom X.env.cells sc.names [])) fp
  have pb := pb z3 (upd H2 D (.dK [])) z3.heap.objs.size (cellsFrom (z3.heap.objs.size + 1) sc.names (cloFrom X.env.cells sc.names [])) fp
  show codeAny _ _ (.compStart (two kx vx t0 i0 t1 i1 sc ps) 0 (.ref it) (.ref D) (compEnvC sc (cellsFrom (z3.heap.objs.size + 1) sc.names (cloFrom X.env.cells sc.names [])) z3.heap.objs.size X.env)) (compPost (model X.prog X.w) X.A X.xe use Qf (.ref D) z3.heap.objs.size) { z3 with heap := pushCells (z3.heap.push { cls := .type "dict", data := .dict #[] }) sc.names }
  have none3 : ∀ b ∈ fp, (upd H2 D (.dK [])) b = none := fun b hb => (fo3 b hb).1.1
  unfold BX at pg pj pk pa pb
  generalize eC : compEnvC sc (cellsFrom (z3.heap.objs.size + 1) sc.names (cloFrom X.env.cells sc.names [])) z3.heap.objs.size X.env = ce at I4 pg pj pk pa pb ⊢
  have eL : ce.locals = z3.heap.objs.size := by subst eC; rfl
  generalize eH : upd H2 D (.dK []) = H3 at I3 I4 pg pj pk pa pb W0 none3 fo3
  generalize e4 : ({ z3 with heap := pushCells (z3.heap.push { cls := .type "dict", data := .dict #[] }) sc.names } : Shared) = z4 at I4 ⊢
  have st4 : tn 0 z4.heap := Tw.keep _ _ _ st3 fun b _ _ e => by rw [← e4]; exact pushCells_keeps _ _ _ _ (Heap.get?_push_of_some _ e)
  have own_fp : ∀ {σ' : L2.St} {H' : Hp} {z : Shared}, Inv (X.blk z3 H3 sc ce fp) [] σ' H' z → (∀ b ∈ fp, H' b = none) → ∀ b ∈ fp, FpOk (X.blk z3 H3 sc ce fp) [] H' b := by
    intro σ' H' z I' hn b hb
    refine ⟨hn b hb, (I'.ok.exf b hb).1, I'.ok.exfs b hb, .inl hb, fun x c e => (I'.ok.exf b hb).2 x c e, fun p hp => ?_⟩
    have hp : p ∈ ([] : List (Addr × Obj)) ++ [] := hp
    simp at hp
  have whole : codeAny (model X.prog X.w) X.A (.compLoop (two kx vx t0 i0 t1 i1 sc ps) 0 (.ref it) (.ref D) ce) (compPost (model X.prog X.w) X.A X.xe use Qf (.ref D) z3.heap.objs.size) z4 := by
    refine outLoop (f1 ce) (fun n z => ∃ i H', Inv (X.blk z3 H3 sc ce fp) [] (wipe σ (own.map (·.2))) H' z ∧ tn i z.heap ∧ (∀ b ∈ fp, H' b = none) ∧ W i n H') ?_ m0 ⟨0, H3, I4, st4, none3, W0⟩
    rintro n z5 ⟨i, H5, I5, st5, n5, w5⟩
    cases turn i n H5 w5 with
    | inl e =>
      obtain ⟨stop, q⟩ := e
      refine thnF (Tw.done (X.blk z3 H3 sc ce fp) rfl rfl rfl calm i [] z5 _ H5 (fun _ _ => False) I5 (own_fp I5 n5) st5 stop) fun nx z6 ⟨hr, I6⟩ => ?_
      subst hr
      have I7 : L2.Inv X pins σ H5 z6 := I3.call' (ch := fp) I6.os I6.base I6.hok I6.bare fun b hb => by
        obtain ⟨_, a1, a2, a3, a4, a5⟩ := (fo3 b hb).1
        exact ⟨a3, a1, a4, a5⟩
      have free : H5 z3.heap.objs.size = none := by
        have y : H5 ce.locals = none := I6.free
        rwa [eL] at y
      obtain ⟨m, hn, _⟩ := I6.loc
      have hn : z6.heap.Ns ce.locals m := hn
      rw [eL] at hn
      exact back D z3.heap.objs.size z6 m H5 I7 q hn (I3.fpOk (Nat.le_refl _) free)
    | inr e =>
      obtain ⟨go, G, hG, step⟩ := e
      refine thnF (Tw.item (X.blk z3 H3 sc ce fp) rfl rfl rfl calm i [] z5 _ H5 (fun _ _ => False) I5 (own_fp I5 n5) st5 go) fun nx z6 ⟨u, hr, h6⟩ => ?_
      subst hr
      refine thnF h6 fun _ z7 ⟨x, H7, I7, r7, y7, st7, n7⟩ => ?_
      have I7p := I7.pinned (own_fp I7 n7) (Tw.obj _ _ st7)
      refine thnF (pg.run _ z7 _ H7 x u _ I7p r7 (step x H7 y7)) fun _ z8 ⟨σ8, H8, I8, hw8, q8⟩ => ?_
      have len8 : (wipe σ (own.map (·.2))).length = (wipe σ8 us).length := by rw [← hw8, wipe_length, wipe_length]
      have kept8 : ∀ (j : Nat) v, (wipe σ (own.map (·.2)))[j]? = some (some v) → (wipe σ8 us)[j]? = some (some v) := by
        intro j v e
        rw [← hw8] at e
        obtain ⟨a, b⟩ := wipe_some e
        rw [wipe_out fun y => b (hus j y)]
        exact a
      have fin : ∀ {z : Shared} {H' : Hp}, Inv (X.blk z3 H3 sc ce fp) ([] ++ pinsAt fp z7.heap) (wipe σ8 us) H' z → G H' → ∃ k, k < n ∧ ∃ i H', Inv (X.blk z3 H3 sc ce fp) [] (wipe σ (own.map (·.2))) H' z ∧ tn i z.heap ∧ (∀ b ∈ fp, H' b = none) ∧ W i k H' := by
        intro z H' I' hg
        obtain ⟨m', lt, w'⟩ := hG H' hg
        have pin : ∀ b ∈ fp, ∀ o, z7.heap.get? b = some o → z.heap.get? b = some o ∧ H' b = none := by
          intro b hb o e
          have y := I'.pin (b, o) (List.mem_append_right _ (List.mem_append_right _ (mem_pinsAt hb e)))
          exact ⟨y.1, y.2.1⟩
        refine ⟨m', lt, i + 1, H', (I'.unpinned (pins := [])).weak len8 kept8, Tw.keep _ _ _ st7 fun b hb o e => (pin b hb o e).1, fun b hb => ?_, w'⟩
        obtain ⟨o, e, _⟩ := Tw.obj _ _ st7 b hb
        exact (pin b hb o e).2
      refine thnF (pj.run _ z8 σ8 H8 _ I8 q8) fun _ z9 w9 => thnF w9 fun _ z10 ⟨jt, fq, tm, Jn, H10, e10, I10, Tj, st10, fo10, U, ⟨l0, U0⟩, round⟩ => ?_
      subst e10
      have own_fq : ∀ {H' : Hp}, (∀ b ∈ fq, H' b = none) → ∀ b ∈ fq, FpOk (X.blk z3 H3 sc ce fp) ([] ++ pinsAt fp z7.heap) H' b := fun hn b hb => ⟨hn b hb, (fo10 b hb).2⟩
      have inner : codeAny (model X.prog X.w) X.A (.compLoop (two kx vx t0 i0 t1 i1 sc ps) 1 (.ref jt) (.ref D) ce)
          (fun e z => match e with
            | .ok _ => ∃ k, k < n ∧ ∃ i H', Inv (X.blk z3 H3 sc ce fp) [] (wipe σ (own.map (·.2))) H' z ∧ tn i z.heap ∧ (∀ b ∈ fp, H' b = none) ∧ W i k H'
            | .error _ => False) z10 := by
        refine inLoop (fun l z => ∃ j H', Inv (X.blk z3 H3 sc ce fp) ([] ++ pinsAt fp z7.heap) (wipe σ8 us) H' z ∧ tm j z.heap ∧ (∀ b ∈ fq, H' b = none) ∧ U j l H') ?_ l0 ⟨0, H10, I10.weak (wipe_length _ _) (fun j v e => (wipe_some e).1), st10, fun b hb => (fo10 b hb).1, U0⟩
        rintro l z11 ⟨j, H11, I11, st11, n11, u11⟩
        cases round j l H11 u11 with
        | inl e =>
          obtain ⟨stop, hg⟩ := e
          refine thnF (Tj.done (X.blk z3 H3 sc ce fp) rfl rfl rfl calm j _ z11 (wipe σ8 us) H11 (fun _ _ => False) I11 (own_fq n11) st11 stop) fun nx z12 ⟨hr, I12⟩ => ?_
          subst hr
          exact fin I12 hg
        | inr e =>
          obtain ⟨go, F, hF, step1⟩ := e
          refine thnF (Tj.item (X.blk z3 H3 sc ce fp) rfl rfl rfl calm j _ z11 (wipe σ8 us) H11 (fun _ _ => False) I11 (own_fq n11) st11 go) fun nx z12 ⟨u1, hr, h12⟩ => ?_
          subst hr
          refine thnF h12 fun _ z13 ⟨y1, H13, I13, r13, yy13, st13, n13⟩ => ?_
          have I13p := I13.pinned (own_fq n13) (Tj.obj _ _ st13)
          refine thnF (pk.run _ z13 (wipe σ8 us) H13 y1 u1 _ I13p r13 (step1 y1 H13 yy13)) fun _ z14 ⟨σ14, H14, I14, hw14, q14⟩ => ?_
          refine thnF (pa.run _ z14 σ14 H14 _ I14 q14) fun _ z15 ⟨ya, H15, I15, r15, q15⟩ => ?_
          refine thnF (pb.run _ z15 σ14 H15 _ I15 q15) fun _ z16 ⟨yb, H16, I16, r16, kvs, q, eq_, hD16, hz16, hf⟩ => ?_
          subst eq_
          refine d_dictSet (X := X.blk z3 H3 sc ce fp) I16 hD16 hz16 r15 r16 fun z17 I17 => ?_
          obtain ⟨l', lt, u'⟩ := hF _ hf
          have pin : ∀ b ∈ fq, ∀ o, z13.heap.get? b = some o → z17.heap.get? b = some o ∧ (upd H16 D (.dK (putK kvs q yb))) b = none := by
            intro b hb o e
            have y := I17.pin (b, o) (List.mem_append_right _ (List.mem_append_right _ (mem_pinsAt hb e)))
            exact ⟨y.1, y.2.1⟩
          refine ⟨l', lt, j + 1, _, I17.unpinned.weak (by rw [← hw14, wipe_length]) (fun j v e => by rw [← hw14] at e; exact (wipe_some e).1), Tj.keep _ _ _ st13 fun b hb o e => (pin b hb o e).1, fun b hb => ?_, u'⟩
          obtain ⟨o, e, _⟩ := Tj.obj _ _ st13 b hb
          exact (pin b hb o e).2
      exact inStart inner (Tj.self X.A 0 _ _ _ st10 inner)
  exact codeAny_compStart_dict whole (Tw.self X.A 0 _ _ _ st4 whole)
/-- as a value -/
theorem pe_dcTwo {kx vx t0 i0 t1 i1 : Expr} {sc : Scope} {own : List (Str × Nat)} {us : List Nat} {ps : Pos} {wi wj : TI} {g k : TG} {tk tv : TE}
    (calm : X.calm = true) (nd : X.N.Nodup) (p0 : PI X t0 i0 wi) (bo : BlkOk X.N X.env.scope sc own) (hus : ∀ i ∈ us, i ∈ own.map (·.2))
    (pg : ∀ s H C cl fp, PG (BX X sc s H C cl fp) t0 g) (pj : ∀ s H C cl fp, PI (BX X sc s H C cl fp) t1 i1 wj) (pk : ∀ s H C cl fp, PG (BX X sc s H C cl fp) t1 k)
    (pa : ∀ s H C cl fp, PE (BX X sc s H C cl fp) kx tk) (pb : ∀ s H C cl fp, PE (BX X sc s H C cl fp) vx tv)
    (f0 : ∀ x, foldedSetIterable i0 X.env x = pure x := by intro _; rfl) (f1 : ∀ en x, foldedSetIterable i1 en x = pure x := by intro _ _; rfl) :
    PE X (two kx vx t0 i0 t1 i1 sc ps) (wants wi g wj k tk tv (own.map (·.2)) us) := by
  refine ⟨fun pins s σ H Q I h => ?_⟩
  unfold two
  rw [arm_eval_DictComp]
  refine core calm nd I p0 bo hus pg pj pk pa pb f0 f1 h fun D C z m H' I' q hn fo => ⟨m, hn, fun h'' sb => ?_⟩
  obtain ⟨a0, a1, a2, a3, a4, a5⟩ := fo
  exact ⟨.ref D, H', I'.turned (t' := z.toks) (fun b o hb e => (sb.2 b hb).trans e) a0 a1 a3 a4 a5, rfl, q⟩
end
end Dc2
set_option maxHeartbeats 1000000
namespace G
open PySem PySem.Spec PyProof.Rows L2
def keyOf : D → Option Key
  | .int i => some (.inl i)
  | .str s => some (.inr s)
  | _ => none
def keysL : List D → Option (List Key)
  | [] => some []
  | d :: ds => (keyOf d).bind fun q => (keysL ds).map (q :: ·)
def keysOf : D → Option (List Key)
  | .tup ds => keysL ds
  | _ => none
def findP {κ : Type} [DecidableEq κ] (kf : D → Option κ) : List (D × D) → κ → Option D
  | [], _ => none
  | (a, b) :: r, q => if kf a = some q then some b else findP kf r q
def putP {κ : Type} [DecidableEq κ] (kf : D → Option κ) (kd : κ → D) (ds : List (D × D)) (q : κ) (v : D) : List (D × D) :=
  if (findP kf ds q).isSome = true then ds.map (fun p => if kf p.1 = some q then (p.1, v) else p) else ds ++ [(kd q, v)]
theorem keyOf_D (q : Key) : keyOf (keyD q) = some q := by cases q <;> rfl
theorem keysL_D (qs : List Key) : keysL (qs.map keyD) = some qs := by
  induction qs with
  | nil => rfl
  | cons q qs ih =>
    rw [List.map_cons]
    unfold keysL
    rw [keyOf_D, ih]; rfl
theorem keysOf_T (qs : List Key) : keysOf (keyT qs) = some qs := keysL_D qs
section
variable {K : PySem.W.Frag} {mg : Str → Option Value} {r : Addr} {Hs Hs' H H' : Hp} {tp : List D}
theorem repT_key {v : V} {d : D} {q : Key} (h : RepT K mg r Hs H v d) (e : keyOf d = some q) : v = kV q := by
  cases d with
  | int i => cases e; rw [repT_int h]; rfl
  | str s => cases e; rw [repT_str h]; rfl
  | _ => cases e
theorem reps_keys : ∀ {ds : List D} {vs : List V} {qs : List Key}, RepDs K mg r Hs vs ds → keysL ds = some qs → vs = qs.map kV
  | [], _, _, .nil, e => by cases e; rfl
  | d :: ds, _, qs, .cons h hs, e => by
    unfold keysL at e
    obtain ⟨q, h1, e⟩ := Option.bind_eq_some_iff.mp e
    obtain ⟨qs', h2, e⟩ := Option.map_eq_some_iff.mp e
    subst e
    rw [repT_key (H := Hs) h.top h1, reps_keys hs h2]; rfl
theorem repT_keys {v : V} {d : D} {qs : List Key} (w : Wd K mg r Hs H tp) (h : RepT K mg r Hs H v d) (e : keysOf d = some qs) : ∃ b, v = .ref b ∧ H b = some (.tup (qs.map kV)) := by
  cases d with
  | tup ds =>
    obtain ⟨p, vs, rfl, _, a, b⟩ := repT_tup w h
    exact ⟨p, rfl, by rw [a, reps_keys b e]⟩
  | _ => cases e
theorem repT_dic {v : V} {ds : List (D × D)} (w : Wd K mg r Hs H tp) (h : RepT K mg r Hs H v (.dic ds)) : ∃ p kvs, v = .ref p ∧ Rd H p (.dK kvs) ∧ RepP K mg r Hs (kvs.map fun q => (keyD q.1, q.2)) ds := by
  rcases h with h | ⟨p, e, _, kvs, a, b⟩
  · cases h with
    | dicK a b => exact ⟨_, _, rfl, w.sub.rd a, b⟩
  · exact ⟨p, kvs, e, .of a, b⟩
theorem repT_dct {v : V} {ds : List (D × D)} (w : Wd K mg r Hs H tp) (h : RepT K mg r Hs H v (.dct ds)) : ∃ p kvs, v = .ref p ∧ Rd H p (.dT kvs) ∧ RepP K mg r Hs (kvs.map fun q => (keyT q.1, q.2)) ds := by
  rcases h with h | ⟨p, e, _, kvs, a, b⟩
  · cases h with
    | dicT a b => exact ⟨_, _, rfl, w.sub.rd a, b⟩
  · exact ⟨p, kvs, e, .of a, b⟩
section
variable {κ : Type} [DecidableEq κ] {kf : D → Option κ} {kd : κ → D}
theorem find_rep (hk : ∀ q, kf (kd q) = some q) (q : κ) : ∀ {kvs : List (κ × V)} {ds : List (D × D)}, RepP K mg r Hs (kvs.map fun p => (kd p.1, p.2)) ds →
    (∀ d, findP kf ds q = some d → ∃ v, valV kvs q = some v ∧ RepD K mg r Hs v d) ∧ (findP kf ds q = none → valV kvs q = none)
  | [], _, .nil => ⟨fun d e => (by cases e), fun _ => rfl⟩
  | p :: kvs, _, .cons (d := d0) (ds := ds) h hs => by
    obtain ⟨a, b⟩ := find_rep hk q (kvs := kvs) (ds := ds) hs
    by_cases e : p.1 = q
    · have ek : kf (kd p.1) = some q := by rw [hk, e]
      unfold findP
      rw [if_pos ek]
      refine ⟨fun d ed => ?_, fun ed => by cases ed⟩
      cases ed
      exact ⟨p.2, valV_pos e, h⟩
    · have ek : ¬ kf (kd p.1) = some q := by rw [hk]; intro z; exact e (Option.some.inj z)
      unfold findP
      rw [if_neg ek]
      refine ⟨fun d ed => ?_, fun ed => by rw [valV_neg e]; exact b ed⟩
      obtain ⟨v, h1, h2⟩ := a d ed
      exact ⟨v, by rw [valV_neg e]; exact h1, h2⟩
theorem repP_map (hk : ∀ q, kf (kd q) = some q) {q : κ} {z : V} {v : D} (hz : RepD K mg r Hs z v) : ∀ {kvs : List (κ × V)} {ds : List (D × D)}, RepP K mg r Hs (kvs.map fun p => (kd p.1, p.2)) ds →
    RepP K mg r Hs ((kvs.map fun kv => if kv.1 = q then (kv.1, z) else kv).map fun p => (kd p.1, p.2)) (ds.map fun p => if kf p.1 = some q then (p.1, v) else p)
  | [], _, .nil => .nil
  | p :: kvs, _, .cons (d := d0) (ds := ds) h hs => by
    have ih := repP_map (q := q) hk hz (kvs := kvs) (ds := ds) hs
    rw [List.map_cons, List.map_cons, List.map_cons]
    by_cases e : p.1 = q
    · rw [if_pos e, if_pos (by show kf (kd p.1) = some q; rw [hk, e])]
      exact .cons hz ih
    · rw [if_neg e, if_neg (by show ¬ kf (kd p.1) = some q; rw [hk]; intro y; exact e (Option.some.inj y))]
      exact .cons h ih
theorem repP_app {a b : List (D × V)} {ds es : List (D × D)} : RepP K mg r Hs a ds → RepP K mg r Hs b es → RepP K mg r Hs (a ++ b) (ds ++ es)
  | .nil, q => q
  | .cons h p, q => .cons h (repP_app p q)
theorem put_rep (hk : ∀ q, kf (kd q) = some q) {q : κ} {z : V} {v : D} {kvs : List (κ × V)} {ds : List (D × D)} (hz : RepD K mg r Hs z v) (h : RepP K mg r Hs (kvs.map fun p => (kd p.1, p.2)) ds) :
    RepP K mg r Hs ((putK kvs q z).map fun p => (kd p.1, p.2)) (putP kf kd ds q v) := by
  obtain ⟨a, b⟩ := find_rep hk q h
  unfold putK putP
  rw [valV_any]
  cases e : findP kf ds q with
  | some d =>
    obtain ⟨v0, h1, _⟩ := a d e
    rw [h1]
    exact repP_map hk hz h
  | none =>
    rw [b e]
    rw [if_neg (by simp), if_neg (by simp), List.map_append]
    exact repP_app h (.cons hz .nil)
theorem repP_len : ∀ {a : List (D × V)} {ds : List (D × D)}, RepP K mg r Hs a ds → a.length = ds.length
  | _, _, .nil => rfl
  | _, _, .cons _ q => by simp only [List.length_cons, repP_len q]
end
def dgetD (d k : D) : Option (Option D) := match d with
  | .dic ds => (keyOf k).map fun q => findP keyOf ds q
  | .dct ds => (keysOf k).map fun q => findP keysOf ds q
  | _ => none
theorem dget_ok {x y : V} {d k : D} {o : Option D} (w : Wd K mg r Hs H tp) (hx : RepT K mg r Hs H x d) (hy : RepT K mg r Hs H y k) (e : dgetD d k = some o) :
    ∃ a, x = .ref a ∧ IsD H a ∧ ∃ ov, DGet H a y ov ∧ ov.isSome = o.isSome ∧ ∀ z, o = some z → ∃ v, ov = some v ∧ RepD K mg r Hs v z := by
  unfold dgetD at e
  cases d with
  | dic ds =>
    obtain ⟨q, h1, h2⟩ := Option.map_eq_some_iff.mp e
    obtain ⟨p, kvs, rfl, a, b⟩ := repT_dic w hx
    obtain ⟨f1, f2⟩ := find_rep (K := K) (mg := mg) (r := r) keyOf_D q b
    refine ⟨p, rfl, .inl ⟨kvs, a⟩, valV kvs q, ?_, ?_, fun z hz => ?_⟩
    · rw [repT_key hy h1]; exact .inl ⟨kvs, q, a, rfl, rfl⟩
    · cases c : findP keyOf ds q with
      | none => rw [f2 c, ← h2, c]; rfl
      | some z => obtain ⟨v, e1, _⟩ := f1 z c; rw [e1, ← h2, c]; rfl
    · obtain ⟨v, e1, e2⟩ := f1 z (h2.trans hz)
      exact ⟨v, e1, e2⟩
  | dct ds =>
    obtain ⟨q, h1, h2⟩ := Option.map_eq_some_iff.mp e
    obtain ⟨p, kvs, rfl, a, b⟩ := repT_dct w hx
    obtain ⟨f1, f2⟩ := find_rep (K := K) (mg := mg) (r := r) keysOf_T q b
    obtain ⟨c, rfl, hc⟩ := repT_keys w hy h1
    refine ⟨p, rfl, .inr ⟨kvs, a⟩, valV kvs q, .inr ⟨kvs, q, c, a, rfl, hc, rfl⟩, ?_, fun z hz => ?_⟩
    · cases c : findP keysOf ds q with
      | none => rw [f2 c, ← h2, c]; rfl
      | some z => obtain ⟨v, e1, _⟩ := f1 z c; rw [e1, ← h2, c]; rfl
    · obtain ⟨v, e1, e2⟩ := f1 z (h2.trans hz)
      exact ⟨v, e1, e2⟩
  | _ => cases e
end
section
variable {r : Addr} {X : Cx} {K : PySem.W.Frag} {mg : Str → Option Value} {O : List Nat} {E : XK} {a b c : Expr} {ta tb tc : TE} {pos : Pos}
/-- k in d, k not in d: the key, then the dict -/
def inKD (neg : Bool) (k d : D) : Option D := (dgetD d k).map fun o => .bl (if neg then !o.isSome else o.isSome)
theorem ge_inK {ma mb : SE D} (hu : X.A.units + 64 < cLine) (ha : GO K mg r X O E a ta ma) (hb : GO K mg r X O E b tb mb) (hm : behindInMarks .In b = false := by rfl) : GE K mg r X O E (.Compare a [.In] [b] pos) (tDIn ta tb) (binE (inKD false) ma mb) := by
  refine ⟨pe_cmp (pc_din (by omega) ha.pe hb.pe) hm, fun Hs0 H0 Hs H σ env tp Q Rl P => ?_⟩
  refine ha.snd _ _ _ _ _ _ _ _ Rl (Post.bind P fun v Hs1 H1 d tp1 _ g w rv P1 => ?_)
  refine hb.snd _ _ _ _ _ _ _ _ (Rl.grow g w) (Post.bind P1 fun u Hs2 H2 e tp2 _ g2 w2 ru P2 => ?_)
  obtain ⟨z, hz, k⟩ := Post.ok_of P2
  obtain ⟨o, h1, h2⟩ := Option.map_eq_some_iff.mp hz
  obtain ⟨p, rfl, _, ov, dg, e1, _⟩ := dget_ok w2 ru (rv.grow g2) h1
  refine ⟨p, ov, rfl, dg, k _ Hs2 H2 (Grow.refl _ _) w2 ?_⟩
  rw [e1, ← h2]; exact .bl _
theorem ge_notInK {ma mb : SE D} (hu : X.A.units + 64 < cLine) (ha : GO K mg r X O E a ta ma) (hb : GO K mg r X O E b tb mb) (hm : behindInMarks .NotIn b = false := by rfl) : GE K mg r X O E (.Compare a [.NotIn] [b] pos) (tDNotIn ta tb) (binE (inKD true) ma mb) := by
  refine ⟨pe_cmp (pc_dnotin (by omega) ha.pe hb.pe) hm, fun Hs0 H0 Hs H σ env tp Q Rl P => ?_⟩
  refine ha.snd _ _ _ _ _ _ _ _ Rl (Post.bind P fun v Hs1 H1 d tp1 _ g w rv P1 => ?_)
  refine hb.snd _ _ _ _ _ _ _ _ (Rl.grow g w) (Post.bind P1 fun u Hs2 H2 e tp2 _ g2 w2 ru P2 => ?_)
  obtain ⟨z, hz, k⟩ := Post.ok_of P2
  obtain ⟨o, h1, h2⟩ := Option.map_eq_some_iff.mp hz
  obtain ⟨p, rfl, _, ov, dg, e1, _⟩ := dget_ok w2 ru (rv.grow g2) h1
  refine ⟨p, ov, rfl, dg, k _ Hs2 H2 (Grow.refl _ _) w2 ?_⟩
  rw [e1, ← h2]; exact .bl _
theorem gt_notInK {ma mb : SE D} (hu : X.A.units + 64 < cLine) (ha : GO K mg r X O E a ta ma) (hb : GO K mg r X O E b tb mb) (hm : behindInMarks .NotIn b = false := by rfl) : GT K mg r X O E (.Compare a [.NotIn] [b] pos) (tB (tDNotIn ta tb)) (boolE (binE (inKD true) ma mb)) :=
  ⟨pt_cmp (pc_dnotin (by omega) ha.pe hb.pe) hm, boolE_sound (ge_notInK (pos := pos) hu ha hb hm).snd⟩
/-- d[k] -/
def ixKD (d k : D) : Option D := (dgetD d k).bind id
theorem ge_ixK {ma mb : SE D} (hu : X.A.units + 64 < cLine) (ha : GO K mg r X O E a ta ma) (hb : GO K mg r X O E b tb mb) (hs : NoSl b := by exact fun _ _ => rfl) : GE K mg r X O E (.Subscript a b pos) (tDGet ta tb) (binE ixKD ma mb) := by
  refine ⟨pe_dget (by omega) ha.pe hb.pe hs, fun Hs0 H0 Hs H σ env tp Q Rl P => ?_⟩
  refine ha.snd _ _ _ _ _ _ _ _ Rl (Post.bind P fun v Hs1 H1 d tp1 _ g w rv P1 => ?_)
  refine hb.snd _ _ _ _ _ _ _ _ (Rl.grow g w) (Post.bind P1 fun u Hs2 H2 e tp2 _ g2 w2 ru P2 => ?_)
  obtain ⟨z, hz, k⟩ := Post.ok_of P2
  obtain ⟨o, h1, h2⟩ := Option.bind_eq_some_iff.mp hz
  have h2 : o = some z := h2
  obtain ⟨p, rfl, _, ov, dg, _, e1⟩ := dget_ok w2 (rv.grow g2) ru h1
  obtain ⟨v1, rfl, rv1⟩ := e1 z h2
  exact ⟨p, v1, rfl, dg, k _ Hs2 H2 (Grow.refl _ _) w2 rv1⟩
theorem gf_dnew : GF K mg r X O E (.Dict [] [] pos) tDNewK (cE (.dic [])) := by
  refine ⟨pe_dnewK, fun Hs0 H0 Hs H σ env tp Q R P p hp => ?_⟩
  obtain ⟨g, w, f⟩ := fresh_new (K := K) (mg := mg) (o := .dK []) (d := .dic []) (Grow.refl Hs H) R.wd hp ⟨[], upd_same, .nil⟩
  exact P _ _ _ g w f
theorem gf_dnewT : GF K mg r X O E (.Dict [] [] pos) tDNewT (cE (.dct [])) := by
  refine ⟨pe_dnewT, fun Hs0 H0 Hs H σ env tp Q R P p hp => ?_⟩
  obtain ⟨g, w, f⟩ := fresh_new (K := K) (mg := mg) (o := .dT []) (d := .dct []) (Grow.refl Hs H) R.wd hp ⟨[], upd_same, .nil⟩
  exact P _ _ _ g w f
def putD (d k v : D) : Option D := match d with
  | .dic ds => if ds.length < sizeLine then (keyOf k).map fun q => .dic (putP keyOf keyD ds q v) else none
  | .dct ds => if ds.length < sizeLine then (keysOf k).map fun q => .dct (putP keysOf keyT ds q v) else none
  | _ => none
def dsetS (i : Nat) (mk mv : SE D) : SS := fun env tp => match env[i]? with
  | some (some d) => (mv env tp).bindS fun v tp1 => (mk env tp1).bindS fun k tp2 => (match putD d k v with
    | some d' => .nx (env.set i (some d')) tp2
    | none => .stuck)
  | _ => .stuck
theorem gs_dset {mk mv : SE D} {Ol : List Nat} (i : Nat) {x : Str} {p1 p2 : Pos} {k val : Expr} {tk tv : TE} (hu : X.A.units + 64 < cLine) (hO : i ∈ O) (hk : GE K mg r X O E k tk mk) (hv : GE K mg r X O E val tv mv) (hN : X.N[i]? = some x := by rfl)
    (hvis : Vis X.env.scope x := by first | exact Or.inl rfl | exact Or.inr (Or.inl rfl) | exact Or.inr (Or.inr rfl)) (hd : (x == ("__debug__" : Str)) = false := by decide) (hcd : (x == ("__classdict__" : Str)) = false := by decide)
    (hs : swapsWith val (some (.Subscript (.Name x p1) k p2)) pos.line X.env = pure false := by rfl) : GS K mg r X E O O Ol (.Assign [.Subscript (.Name x p1) k p2] val pos) (sDPut (tVar i) tk tv) (dsetS i mk mv) := by
  refine ⟨ps_dput (by omega) (pe_var hN hvis hd hcd) hk.pe hv.pe hs, fun Hs0 H0 Hs H σ env tp Dn R P => ?_⟩
  obtain ⟨d0, p, b1, b2, c, c0, ne, oa⟩ := R.own i hO
  unfold dsetS at P
  rw [b1] at P
  simp only at P
  refine hv.snd _ _ _ _ _ _ _ _ R (PostS.bind R P fun v Hs1 H1 dv tp1 _ g w R1 rv P1 => ?_)
  refine ⟨_, b2, ?_⟩
  refine hk.snd _ _ _ _ _ _ _ _ R1 (PostS.bind R1 P1 fun u Hs2 H2 dk tp2 _ g2 w2 R2 ru P2 => ?_)
  obtain ⟨d1, p1, e1, e2, f, f0, fn, fo⟩ := R2.own i hO
  rw [b2] at e2; cases e2
  rw [b1] at e1; cases e1
  cases e : putD d0 dk dv with
  | none => rw [e] at P2; exact P2.elim
  | some d' =>
    rw [e] at P2
    have rv2 := rv.mono g2.ex
    cases d0 with
    | dic ds =>
      obtain ⟨kvs, h1, h2⟩ := fo
      unfold putD at e
      simp only at e
      split at e
      · rename_i hz
        obtain ⟨q, hq, hd'⟩ := Option.map_eq_some_iff.mp e
        subst hd'
        have ek := repT_key (H := H2) ru.top hq
        subst ek
        have hl : kvs.length < sizeLine := by have := repP_len h2; rw [List.length_map] at this; omega
        exact ⟨p, _, rfl, .k h1 hl, P2 _ _ _ (Same.refl _) (R2.write hO b2 ⟨_, upd_same, put_rep keyOf_D rv2 h2⟩)⟩
      · cases e
    | dct ds =>
      obtain ⟨kvs, h1, h2⟩ := fo
      unfold putD at e
      simp only at e
      split at e
      · rename_i hz
        obtain ⟨q, hq, hd'⟩ := Option.map_eq_some_iff.mp e
        subst hd'
        obtain ⟨b, eb, hb⟩ := repT_keys w2 ru.top hq
        subst eb
        have hl : kvs.length < sizeLine := by have := repP_len h2; rw [List.length_map] at this; omega
        exact ⟨p, _, rfl, .inr ⟨kvs, q, b, h1, rfl, hb, hl, rfl⟩, P2 _ _ _ (Same.refl _) (R2.write hO b2 ⟨_, upd_same, put_rep keysOf_T rv2 h2⟩)⟩
      · cases e
    | _ => cases e
def putR (acc : List (D × D)) (k v : D) (tp : List D) : RE (List (D × D)) := if acc.length < sizeLine then (match keyOf k with
  | some q => .ok (putP keyOf keyD acc q v) tp
  | none => .stuck) else .stuck
def foldR (f : List (D × D) → D → List D → RE (List (D × D))) : List D → List (D × D) → List D → RE (List (D × D))
  | [], acc, tp => .ok acc tp
  | d :: ds, acc, tp => match f acc d tp with
    | .ok acc' tp' => foldR f ds acc' tp'
    | _ => .stuck
def pairT (mk mv : SE D) (env : DEnv) (acc : List (D × D)) (tp : List D) : RE (List (D × D)) := match mk env tp with
  | .ok k tp1 => (match mv env tp1 with
    | .ok v tp2 => putR acc k v tp2
    | _ => .stuck)
  | _ => .stuck
def dcTurn (tgt : D → Option (List D)) (is : List Nat) (mk mv : SE D) (env : DEnv) (acc : List (D × D)) (d : D) (tp : List D) : RE (List (D × D)) := match tgt d with
  | some ds => pairT mk mv (setAll env is ds) acc tp
  | none => .stuck
def dcE (mi : SE (List D)) (vs : List Nat) (tgt : D → Option (List D)) (is : List Nat) (mk mv : SE D) : SE D := fun env tp => (mi env tp).bind fun items tp1 => match foldR (dcTurn tgt is mk mv (wipeE env vs)) items [] tp1 with
  | .ok acc tp2 => .ok (.dic acc) tp2
  | _ => .stuck
def dcTurn2 (tgt : D → Option (List D)) (is : List Nat) (mi1 : SE (List D)) (vs1 : List Nat) (tgt1 : D → Option (List D)) (is1 : List Nat) (mk mv : SE D) (env : DEnv) (acc : List (D × D)) (d : D) (tp : List D) : RE (List (D × D)) := match tgt d with
  | some ds => (match mi1 (setAll env is ds) tp with
    | .ok items1 tp1 => foldR (dcTurn tgt1 is1 mk mv (wipeE (setAll env is ds) vs1)) items1 acc tp1
    | _ => .stuck)
  | none => .stuck
def dc2E (mi : SE (List D)) (vs : List Nat) (tgt : D → Option (List D)) (is : List Nat) (mi1 : SE (List D)) (vs1 : List Nat) (tgt1 : D → Option (List D)) (is1 : List Nat) (mk mv : SE D) : SE D := fun env tp => (mi env tp).bind fun items tp1 => match foldR (dcTurn2 tgt is mi1 vs1 tgt1 is1 mk mv (wipeE env vs)) items [] tp1 with
  | .ok acc tp2 => .ok (.dic acc) tp2
  | _ => .stuck
theorem foldR_cons {f : List (D × D) → D → List D → RE (List (D × D))} {d : D} {ds : List D} {acc z : List (D × D)} {tp tpE : List D} (h : foldR f (d :: ds) acc tp = .ok z tpE) : ∃ acc' tp', f acc d tp = .ok acc' tp' ∧ foldR f ds acc' tp' = .ok z tpE := by
  unfold foldR at h
  cases q : f acc d tp with
  | ok acc' tp' => rw [q] at h; exact ⟨acc', tp', rfl, h⟩
  | exn c fs t => rw [q] at h; cases h
  | stuck => rw [q] at h; cases h
theorem pairT_ok {mk mv : SE D} {env : DEnv} {acc z : List (D × D)} {tp tpE : List D} (h : pairT mk mv env acc tp = .ok z tpE) : ∃ k tp1 v q, mk env tp = .ok k tp1 ∧ mv env tp1 = .ok v tpE ∧ keyOf k = some q ∧ acc.length < sizeLine ∧ z = putP keyOf keyD acc q v := by
  unfold pairT at h
  cases q1 : mk env tp with
  | ok k tp1 =>
    rw [q1] at h
    simp only at h
    cases q2 : mv env tp1 with
    | ok v tp2 =>
      rw [q2] at h
      simp only at h
      unfold putR at h
      split at h
      · rename_i hl
        cases q3 : keyOf k with
        | some q =>
          rw [q3] at h
          simp only [RE.ok.injEq] at h
          obtain ⟨e1, e2⟩ := h
          subst e2
          exact ⟨k, tp1, v, q, rfl, q2, q3, hl, e1.symm⟩
        | none => rw [q3] at h; cases h
      · cases h
    | exn c fs t => rw [q2] at h; cases h
    | stuck => rw [q2] at h; cases h
  | exn c fs t => rw [q1] at h; cases h
  | stuck => rw [q1] at h; cases h
/-- what a turn's pair does to the world -/
theorem pair_sound {tk tv : TE} {mk mv : SE D} {Hs0 H0 Hs H : Hp} {σ : L2.St} {env : DEnv} {acc z : List (D × D)} {tp tpE : List D} {Dl : Addr} {kvs : List (Key × V)} {F : Hp → Prop}
    (hk : ∀ Hs0 H0 Hs H σ env tp Q, Rel K mg r O Hs0 H0 Hs H σ env tp → PostE K mg r E0 Hs H (mk env tp) Q → tk σ H Q)
    (hv : ∀ Hs0 H0 Hs H σ env tp Q, Rel K mg r O Hs0 H0 Hs H σ env tp → PostE K mg r E0 Hs H (mv env tp) Q → tv σ H Q)
    (R : Rel K mg r O Hs0 H0 Hs H σ env tp) (neD : Dl ≠ r) (fD : Hs Dl = none) (hD : H Dl = some (.dK kvs)) (rs : RepP K mg r Hs (kvs.map fun q => (keyD q.1, q.2)) acc) (h : pairT mk mv env acc tp = .ok z tpE)
    (next : ∀ Hs1 H1 q zv, Grow r Hs H Hs1 H1 → Wd K mg r Hs1 H1 tpE → Hs1 Dl = none → RepP K mg r Hs1 ((putK kvs q zv).map fun q => (keyD q.1, q.2)) z → F (upd H1 Dl (.dK (putK kvs q zv)))) :
    tk σ H fun y H9 => tv σ H9 fun b H10 => ∃ (kvs : List (Key × V)) (q : Key), y = kV q ∧ H10 Dl = some (.dK kvs) ∧ kvs.length < sizeLine ∧ F (upd H10 Dl (.dK (putK kvs q b))) := by
  obtain ⟨k, tp1, v, q, e1, e2, e3, hl, rfl⟩ := pairT_ok h
  refine hk _ _ _ _ _ _ _ _ R ?_
  rw [e1]
  intro y Hs1 H1 g1 w1 ry
  refine hv _ _ _ _ _ _ _ _ (R.grow g1 w1) ?_
  rw [e2]
  intro b Hs2 H2 g2 w2 rb
  have g := g1.trans g2
  refine ⟨kvs, q, repT_key (H := H1) ry.top e3, g.keep Dl _ hD neD fD, ?_, ?_⟩
  · have e := repP_len rs
    rw [List.length_map] at e
    omega
  · exact next Hs2 H2 q b g w2 (g.no fD hD neD) (put_rep keyOf_D rb (RepP.mono g.ex rs))
end
end G
set_option maxHeartbeats 1000000
namespace G
open PySem PySem.Spec PyProof.Rows L2
section
variable {r : Addr} {X : Cx} {K : PySem.W.Frag} {mg : Str → Option Value} {O : List Nat} {E : XK} {tt : TT}
theorem dc_sound {wi : TI} {g : TG} {tk tv : TE} {is vs : List Nat} {tgt : D → Option (List D)} {mi : SE (List D)} {mk mv : SE D}
    (hi : ∀ Hs0 H0 Hs H σ env tp Q, Rel K mg r O Hs0 H0 Hs H σ env tp → Post K mg r (fun Hs _ J items => WalksD K mg r J Hs items) E Hs H (mi env tp) Q → wi σ H Q)
    (hg : ∀ v d ds Hs H tp σ (Q : L2.St → Hp → Prop), Wd K mg r Hs H tp → RepD K mg r Hs v d → tgt d = some ds → (∀ vs, RepDs K mg r Hs vs ds → vs.length = is.length → Q (setAll σ is vs) H) → g v σ H Q)
    (ht : ∀ Hs0 H0 Hs H σ env tp Q, Rel K mg r O Hs0 H0 Hs H σ env tp → PostB K mg r E0 Hs H (yesT env tp) Q → tt σ H Q)
    (hk : ∀ Hs0 H0 Hs H σ env tp Q, Rel K mg r O Hs0 H0 Hs H σ env tp → PostE K mg r E0 Hs H (mk env tp) Q → tk σ H Q)
    (hv : ∀ Hs0 H0 Hs H σ env tp Q, Rel K mg r O Hs0 H0 Hs H σ env tp → PostE K mg r E0 Hs H (mv env tp) Q → tv σ H Q)
    (hvs : ∀ i ∈ vs, i ∉ O) (his : ∀ i ∈ is, i ∈ vs) :
    ∀ Hs0 H0 Hs H σ env tp Q, Rel K mg r O Hs0 H0 Hs H σ env tp → Post K mg r (Fresh K mg r H) E Hs H (dcE mi vs tgt is mk mv env tp) Q → tDc wi g tt tk tv vs σ H Q := by
  intro Hs0 H0 Hs H σ env tp Q R P
  refine hi _ _ _ _ _ _ _ _ R ?_
  unfold dcE at P
  cases q : mi env tp with
  | stuck => rw [q] at P; exact P.elim
  | exn cc fs tp1 => rw [q] at P; exact P
  | ok items tp1 =>
    rw [q] at P
    intro J Hs1 H1 ga w1 wd Dl hD
    simp only [RE.bind_ok] at P
    cases q2 : foldR (dcTurn tgt is mk mv (wipeE env vs)) items [] tp1 with
    | stuck => rw [q2] at P; exact P.elim
    | exn cc fs tp2 => rw [q2] at P; exact P.elim
    | ok all tpE =>
      rw [q2] at P
      have P : ∀ v Hs' H', Grow r Hs H Hs' H' → Wd K mg r Hs' H' tpE → Fresh K mg r H Hs' H' v (.dic all) → Q v H' := P
      obtain ⟨Gd, Y, wk, hG, hY⟩ := wd
      have R1 := R.grow ga w1
      obtain ⟨fD, neD⟩ := w1.fresh hD
      have h0D : H Dl = none := ga.free Dl hD
      have Rw := R1.wiped vs hvs
      obtain ⟨gl, wl⟩ := w1.lay (o := .dK []) hD
      obtain ⟨n1, n2⟩ := R.new_ne h0D neD
      have n3 : ∀ j ∈ O, (wipeE σ vs)[j]? ≠ some (some (.ref Dl)) := fun j hj z => n2 j hj (by rw [← z, wipe_get fun q => hvs j q hj])
      have hisO : ∀ i ∈ is, i ∉ O := fun i hi => hvs i (his i hi)
      let Pv : Nat → Hp → Prop := fun i H' => ∃ Hs2 kvs acc tp, Rel K mg r O Hs0 H0 Hs2 H' (wipeE σ vs) (wipeE env vs) tp ∧ Same Hs1 Hs2 ∧ Grow r Hs H Hs2 H' ∧ Hs2 Dl = none ∧ H' Dl = some (.dK kvs) ∧ RepP K mg r Hs2 (kvs.map fun q => (keyD q.1, q.2)) acc ∧
        foldR (dcTurn tgt is mk mv (wipeE env vs)) (items.drop i) acc tp = .ok all tpE
      have p0 : Pv 0 (upd H1 Dl (.dK [])) := ⟨Hs1, [], [], tp1, Rw.grow gl wl, Same.refl _, ga.trans gl, fD, upd_same, .nil, q2⟩
      refine ⟨fun i n H' => n = items.length - i ∧ i ≤ items.length ∧ Pv i H', ⟨items.length, by simp, Nat.zero_le _, p0⟩, ?_⟩
      rintro i n H2 ⟨rfl, hil, Hs2, kvs, acc, tp2, R2, e2, g2, f2, hD2, rs2, hc2⟩
      have gd := hG Hs2 H2 e2 R2.wd.sub
      by_cases hi2 : i < items.length
      case neg =>
        have e : i = items.length := by omega
        subst e
        refine .inl ⟨wk.stops _ gd, ?_⟩
        rw [List.drop_length] at hc2
        unfold foldR at hc2
        simp only [RE.ok.injEq] at hc2
        obtain ⟨hx, htp⟩ := hc2
        subst hx htp
        exact P _ Hs2 H2 g2 R2.wd ⟨Dl, rfl, h0D, f2, neD, kvs, hD2, rs2⟩
      refine .inr ⟨wk.goes i H2 hi2 gd, Pv (i + 1), fun H' p' => ⟨items.length - (i + 1), by omega, rfl, hi2, p'⟩, fun x H3 yy => ?_⟩
      obtain ⟨Hs3, d, g3, w3, hd, rd⟩ := hY i Hs2 H2 tp2 x H3 hi2 e2 R2.wd (wk.yields i H2 x H3 hi2 gd yy)
      rw [List.drop_eq_getElem_cons hi2] at hc2
      have hd' : items[i] = d := by rw [List.getElem?_eq_getElem hi2] at hd; exact Option.some.inj hd
      rw [hd'] at hc2
      obtain ⟨acc', tpI, hf, hrest⟩ := foldR_cons hc2
      unfold dcTurn at hf
      cases qt : tgt d with
      | none => rw [qt] at hf; cases hf
      | some es =>
        rw [qt] at hf
        simp only at hf
        rw [wipe_eq]
        refine hg x d es Hs3 H3 tp2 _ _ w3 rd qt fun ws rs hl => ⟨by rw [wipe_eq, wipe_setAll is _ _ his, wipe_wipe vs fun _ h => h], ?_⟩
        have R3 := rel_setAll is _ _ _ _ (R2.grow g3 w3) hisO rs hl
        have f3 := g3.no f2 hD2 neD
        have hD3 := g3.keep Dl _ hD2 neD f2
        refine ht _ _ _ _ _ _ _ _ R3 fun v Hs4 H4 g4 w4 ev => ?_
        subst ev
        have f4 := g4.no f3 hD3 neD
        have hD4 := g4.keep Dl _ hD3 neD f3
        refine iteT (pair_sound (F := Pv (i + 1)) hk hv (R3.grow g4 w4) neD f4 hD4 (RepP.mono (g3.ex.trans g4.ex) rs2) hf fun Hs5 H5 q zv g5 w5 f5 rp => ?_)
        have e5 := g3.ex.trans (g4.ex.trans g5.ex)
        exact ⟨Hs5, _, acc', tpI, (R2.grow (g3.trans (g4.trans g5)) w5).other f5 n1 neD n3 (fun xs z => by rw [g5.keep Dl _ hD4 neD f4] at z; first | exact st_no rfl xs (Option.some.inj z) | cases z), e2.trans e5, (g2.trans (g3.trans (g4.trans g5))).other h0D, f5, upd_same, rp, hrest⟩
theorem gf_dc {kx vx tg iter : Expr} {scope : Scope} {own : List (Str × Nat)} {pos : Pos} {wi : TI} {g : TG} {tk tv : TE} {is : List Nat} {tgt : D → Option (List D)} {mi : SE (List D)} {mk mv : SE D} (hc : X.calm = true) (hN : X.N.Nodup) (hi : GI K mg r X O E tg iter wi mi) (ok : BlkOk X.N X.env.scope scope own)
    (hg : ∀ s H C cl fp, GG K mg r (Dc2.BX X scope s H C cl fp) tg g is tgt) (ht : ∀ s H C cl fp, GTs K mg r (Dc2.BX X scope s H C cl fp) O E0 [] tt yesT)
    (hk : ∀ s H C cl fp, GE K mg r (Dc2.BX X scope s H C cl fp) O E0 kx tk mk) (hv : ∀ s H C cl fp, GE K mg r (Dc2.BX X scope s H C cl fp) O E0 vx tv mv)
    (hvs : ∀ i ∈ own.map (·.2), i ∉ O) (his : ∀ i ∈ is, i ∈ own.map (·.2)) (hs : ∀ x, foldedSetIterable iter X.env x = pure x := by intro _; rfl) :
    GF K mg r X O E (.DictComp kx vx [⟨tg, iter, [], 0⟩] scope pos) (tDc wi g tt tk tv (own.map (·.2))) (dcE mi (own.map (·.2)) tgt is mk mv) :=
  ⟨pe_dc hc hN hi.pe ok (fun s H C cl fp => (hg s H C cl fp).pe) (fun s H C cl fp => (ht s H C cl fp).pe) (fun s H C cl fp => (hk s H C cl fp).pe) (fun s H C cl fp => (hv s H C cl fp).pe) hs,
    dc_sound hi.snd (hg X.s_0 X.H_0 0 [] []).snd (ht X.s_0 X.H_0 0 [] []).snd (hk X.s_0 X.H_0 0 [] []).snd (hv X.s_0 X.H_0 0 [] []).snd hvs his⟩
theorem dc2_sound {wi wi1 : TI} {g g1 : TG} {tk tv : TE} {is vs is1 vs1 : List Nat} {tgt tgt1 : D → Option (List D)} {mi mi1 : SE (List D)} {mk mv : SE D}
    (hi : ∀ Hs0 H0 Hs H σ env tp Q, Rel K mg r O Hs0 H0 Hs H σ env tp → Post K mg r (fun Hs _ J items => WalksD K mg r J Hs items) E Hs H (mi env tp) Q → wi σ H Q)
    (hg : ∀ v d ds Hs H tp σ (Q : L2.St → Hp → Prop), Wd K mg r Hs H tp → RepD K mg r Hs v d → tgt d = some ds → (∀ vs, RepDs K mg r Hs vs ds → vs.length = is.length → Q (setAll σ is vs) H) → g v σ H Q)
    (hi1 : ∀ Hs0 H0 Hs H σ env tp Q, Rel K mg r O Hs0 H0 Hs H σ env tp → Post K mg r (fun Hs _ J items => WalksD K mg r J Hs items) E0 Hs H (mi1 env tp) Q → wi1 σ H Q)
    (hg1 : ∀ v d ds Hs H tp σ (Q : L2.St → Hp → Prop), Wd K mg r Hs H tp → RepD K mg r Hs v d → tgt1 d = some ds → (∀ vs, RepDs K mg r Hs vs ds → vs.length = is1.length → Q (setAll σ is1 vs) H) → g1 v σ H Q)
    (hk : ∀ Hs0 H0 Hs H σ env tp Q, Rel K mg r O Hs0 H0 Hs H σ env tp → PostE K mg r E0 Hs H (mk env tp) Q → tk σ H Q)
    (hv : ∀ Hs0 H0 Hs H σ env tp Q, Rel K mg r O Hs0 H0 Hs H σ env tp → PostE K mg r E0 Hs H (mv env tp) Q → tv σ H Q)
    (hvs : ∀ i ∈ vs, i ∉ O) (his : ∀ i ∈ is, i ∈ vs) (hv1 : ∀ i ∈ vs1, i ∈ vs) (his1 : ∀ i ∈ is1, i ∈ vs1) :
    ∀ Hs0 H0 Hs H σ env tp Q, Rel K mg r O Hs0 H0 Hs H σ env tp → Post K mg r (Fresh K mg r H) E Hs H (dc2E mi vs tgt is mi1 vs1 tgt1 is1 mk mv env tp) Q → Dc2.wants wi g wi1 g1 tk tv vs vs1 σ H Q := by
  intro Hs0 H0 Hs H σ env tp Q R P
  refine hi _ _ _ _ _ _ _ _ R ?_
  unfold dc2E at P
  cases q : mi env tp with
  | stuck => rw [q] at P; exact P.elim
  | exn cc fs tp1 => rw [q] at P; exact P
  | ok items tp1 =>
    rw [q] at P
    intro J Hs1 H1 ga w1 wd Dl hD
    simp only [RE.bind_ok] at P
    cases q2 : foldR (dcTurn2 tgt is mi1 vs1 tgt1 is1 mk mv (wipeE env vs)) items [] tp1 with
    | stuck => rw [q2] at P; exact P.elim
    | exn cc fs tp2 => rw [q2] at P; exact P.elim
    | ok all tpE =>
      rw [q2] at P
      have P : ∀ v Hs' H', Grow r Hs H Hs' H' → Wd K mg r Hs' H' tpE → Fresh K mg r H Hs' H' v (.dic all) → Q v H' := P
      obtain ⟨Gd, Y, wk, hG, hY⟩ := wd
      have R1 := R.grow ga w1
      obtain ⟨fD, neD⟩ := w1.fresh hD
      have h0D : H Dl = none := ga.free Dl hD
      have Rw := R1.wiped vs hvs
      obtain ⟨gl, wl⟩ := w1.lay (o := .dK []) hD
      obtain ⟨n1, n2⟩ := R.new_ne h0D neD
      have n3 : ∀ j ∈ O, (wipeE σ vs)[j]? ≠ some (some (.ref Dl)) := fun j hj z => n2 j hj (by rw [← z, wipe_get fun q => hvs j q hj])
      have hisO : ∀ i ∈ is, i ∉ O := fun i hi => hvs i (his i hi)
      have hv1O : ∀ i ∈ vs1, i ∉ O := fun i hi => hvs i (hv1 i hi)
      have his1O : ∀ i ∈ is1, i ∉ O := fun i hi => hv1O i (his1 i hi)
      let Pv : Nat → Hp → Prop := fun i H' => ∃ Hs2 kvs acc tp, Rel K mg r O Hs0 H0 Hs2 H' (wipeE σ vs) (wipeE env vs) tp ∧ Same Hs1 Hs2 ∧ Grow r Hs H Hs2 H' ∧ Hs2 Dl = none ∧ H' Dl = some (.dK kvs) ∧ RepP K mg r Hs2 (kvs.map fun q => (keyD q.1, q.2)) acc ∧
        foldR (dcTurn2 tgt is mi1 vs1 tgt1 is1 mk mv (wipeE env vs)) (items.drop i) acc tp = .ok all tpE
      have p0 : Pv 0 (upd H1 Dl (.dK [])) := ⟨Hs1, [], [], tp1, Rw.grow gl wl, Same.refl _, ga.trans gl, fD, upd_same, .nil, q2⟩
      refine ⟨fun i n H' => n = items.length - i ∧ i ≤ items.length ∧ Pv i H', ⟨items.length, by simp, Nat.zero_le _, p0⟩, ?_⟩
      rintro i n H2 ⟨rfl, hil, Hs2, kvs, acc, tp2, R2, e2, g2, f2, hD2, rs2, hc2⟩
      have gd := hG Hs2 H2 e2 R2.wd.sub
      by_cases hi2 : i < items.length
      case neg =>
        have e : i = items.length := by omega
        subst e
        refine .inl ⟨wk.stops _ gd, ?_⟩
        rw [List.drop_length] at hc2
        unfold foldR at hc2
        simp only [RE.ok.injEq] at hc2
        obtain ⟨hx, htp⟩ := hc2
        subst hx htp
        exact P _ Hs2 H2 g2 R2.wd ⟨Dl, rfl, h0D, f2, neD, kvs, hD2, rs2⟩
      refine .inr ⟨wk.goes i H2 hi2 gd, Pv (i + 1), fun H' p' => ⟨items.length - (i + 1), by omega, rfl, hi2, p'⟩, fun x H3 yy => ?_⟩
      obtain ⟨Hs3, d, g3, w3, hd, rd⟩ := hY i Hs2 H2 tp2 x H3 hi2 e2 R2.wd (wk.yields i H2 x H3 hi2 gd yy)
      rw [List.drop_eq_getElem_cons hi2] at hc2
      have hd' : items[i] = d := by rw [List.getElem?_eq_getElem hi2] at hd; exact Option.some.inj hd
      rw [hd'] at hc2
      obtain ⟨accT, tpI, hf, hrest⟩ := foldR_cons hc2
      unfold dcTurn2 at hf
      cases qt : tgt d with
      | none => rw [qt] at hf; cases hf
      | some es =>
        rw [qt] at hf
        simp only at hf
        rw [wipe_eq]
        refine hg x d es Hs3 H3 tp2 _ _ w3 rd qt fun ws rs hl => ⟨by rw [wipe_eq, wipe_setAll is _ _ his, wipe_wipe vs fun _ h => h], ?_⟩
        have R3 := rel_setAll is _ _ _ _ (R2.grow g3 w3) hisO rs hl
        have f3 := g3.no f2 hD2 neD
        have hD3 := g3.keep Dl _ hD2 neD f2
        refine hi1 _ _ _ _ _ _ _ _ R3 ?_
        cases qi : mi1 (setAll (wipeE env vs) is es) tp2 with
        | stuck => rw [qi] at hf; cases hf
        | exn cc fs tp5 => rw [qi] at hf; cases hf
        | ok items1 tpi =>
          rw [qi] at hf
          simp only at hf
          intro J1 Hs5 H5 g5 w5 wd1
          obtain ⟨Gd1, Y1, wk1, hG1, hY1⟩ := wd1
          have f5 := g5.no f3 hD3 neD
          have hD5 := g5.keep Dl _ hD3 neD f3
          have e5 := g3.ex.trans g5.ex
          have R5 := R3.grow g5 w5
          have Rb5 := R5.wiped vs1 hv1O
          have n3b : ∀ j ∈ O, (wipeE (setAll (wipeE σ vs) is ws) vs1)[j]? ≠ some (some (.ref Dl)) := fun j hj z => n3 j hj (by
            rw [← z, wipe_get fun q => hv1O j q hj, setAll_get is _ ws fun q => hisO j q hj])
          let Pv1 : Nat → Hp → Prop := fun j H' => ∃ Hs6 kvs' acc' tp', Rel K mg r O Hs0 H0 Hs6 H' (wipeE σ vs) (wipeE env vs) tp' ∧ Rel K mg r O Hs0 H0 Hs6 H' (wipeE (setAll (wipeE σ vs) is ws) vs1) (wipeE (setAll (wipeE env vs) is es) vs1) tp' ∧ Same Hs5 Hs6 ∧ Same Hs1 Hs6 ∧ Grow r Hs H Hs6 H' ∧ Hs6 Dl = none ∧ H' Dl = some (.dK kvs') ∧ RepP K mg r Hs6 (kvs'.map fun q => (keyD q.1, q.2)) acc' ∧
            foldR (dcTurn tgt1 is1 mk mv (wipeE (setAll (wipeE env vs) is es) vs1)) (items1.drop j) acc' tp' = .ok accT tpI
          have p1 : Pv1 0 H5 := ⟨Hs5, kvs, acc, tpi, R2.grow (g3.trans g5) w5, Rb5, Same.refl _, e2.trans e5, g2.trans (g3.trans g5), f5, hD5, RepP.mono e5 rs2, hf⟩
          refine ⟨fun j k H' => k = items1.length - j ∧ j ≤ items1.length ∧ Pv1 j H', ⟨items1.length, by simp, Nat.zero_le _, p1⟩, ?_⟩
          rintro j k H6 ⟨rfl, hjl, Hs6, kvs6, acc6, tp6, Ra6, Rb6, es6, e6, g6, f6, hD6, rs6, hc6⟩
          have gd1 := hG1 Hs6 H6 es6 Ra6.wd.sub
          by_cases hj2 : j < items1.length
          case neg =>
            have e : j = items1.length := by omega
            subst e
            refine .inl ⟨wk1.stops _ gd1, ?_⟩
            rw [List.drop_length] at hc6
            unfold foldR at hc6
            simp only [RE.ok.injEq] at hc6
            obtain ⟨hx, htp⟩ := hc6
            subst hx htp
            exact ⟨Hs6, kvs6, acc6, tp6, Ra6, e6, g6, f6, hD6, rs6, hrest⟩
          refine .inr ⟨wk1.goes j H6 hj2 gd1, Pv1 (j + 1), fun H' p' => ⟨items1.length - (j + 1), by omega, rfl, hj2, p'⟩, fun x1 H7 yy1 => ?_⟩
          obtain ⟨Hs7, d1, g7, w7, hd1, rd1⟩ := hY1 j Hs6 H6 tp6 x1 H7 hj2 es6 Ra6.wd (wk1.yields j H6 x1 H7 hj2 gd1 yy1)
          rw [List.drop_eq_getElem_cons hj2] at hc6
          have hd1' : items1[j] = d1 := by rw [List.getElem?_eq_getElem hj2] at hd1; exact Option.some.inj hd1
          rw [hd1'] at hc6
          obtain ⟨acc8, tp8, hf1, hrest1⟩ := foldR_cons hc6
          unfold dcTurn at hf1
          cases qt1 : tgt1 d1 with
          | none => rw [qt1] at hf1; cases hf1
          | some es1 =>
            rw [qt1] at hf1
            simp only at hf1
            rw [wipe_eq]
            refine hg1 x1 d1 es1 Hs7 H7 tp6 _ _ w7 rd1 qt1 fun ws1 rs1 hl1 => ⟨by rw [wipe_eq, wipe_setAll is1 _ _ his1, wipe_wipe vs1 fun _ h => h], ?_⟩
            have R7 := rel_setAll is1 _ _ _ _ (Rb6.grow g7 w7) his1O rs1 hl1
            have f7 := g7.no f6 hD6 neD
            have hD7 := g7.keep Dl _ hD6 neD f6
            refine pair_sound (F := Pv1 (j + 1)) hk hv R7 neD f7 hD7 (RepP.mono g7.ex rs6) hf1 fun Hs9 H9 q zv g9 w9 f9 rp => ?_
            have e9 := g7.ex.trans g9.ex
            exact ⟨Hs9, _, acc8, tp8, (Ra6.grow (g7.trans g9) w9).other f9 n1 neD n3 (fun xs z => by rw [g9.keep Dl _ hD7 neD f7] at z; first | exact st_no rfl xs (Option.some.inj z) | cases z), (Rb6.grow (g7.trans g9) w9).other f9 n1 neD n3b (fun xs z => by rw [g9.keep Dl _ hD7 neD f7] at z; first | exact st_no rfl xs (Option.some.inj z) | cases z), es6.trans e9, e6.trans e9, (g6.trans (g7.trans g9)).other h0D, f9, upd_same, rp, hrest1⟩
theorem gf_dc2 {kx vx tg iter tg1 iter1 : Expr} {scope : Scope} {own : List (Str × Nat)} {pos : Pos} {wi wi1 : TI} {g g1 : TG} {tk tv : TE} {is is1 vs1 : List Nat} {tgt tgt1 : D → Option (List D)} {mi mi1 : SE (List D)} {mk mv : SE D} (hc : X.calm = true) (hN : X.N.Nodup) (hi : GI K mg r X O E tg iter wi mi) (ok : BlkOk X.N X.env.scope scope own)
    (hg : ∀ s H C cl fp, GG K mg r (Dc2.BX X scope s H C cl fp) tg g is tgt) (hi1 : ∀ s H C cl fp, GI K mg r (Dc2.BX X scope s H C cl fp) O E0 tg1 iter1 wi1 mi1) (hg1 : ∀ s H C cl fp, GG K mg r (Dc2.BX X scope s H C cl fp) tg1 g1 is1 tgt1)
    (hk : ∀ s H C cl fp, GE K mg r (Dc2.BX X scope s H C cl fp) O E0 kx tk mk) (hv : ∀ s H C cl fp, GE K mg r (Dc2.BX X scope s H C cl fp) O E0 vx tv mv)
    (hvs : ∀ i ∈ own.map (·.2), i ∉ O) (his : ∀ i ∈ is, i ∈ own.map (·.2)) (hv1 : ∀ i ∈ vs1, i ∈ own.map (·.2)) (his1 : ∀ i ∈ is1, i ∈ vs1) (hs : ∀ x, foldedSetIterable iter X.env x = pure x := by intro _; rfl) (hs1 : ∀ env x, foldedSetIterable iter1 env x = pure x := by intro _ _; rfl) :
    GF K mg r X O E (.DictComp kx vx [⟨tg, iter, [], 0⟩, ⟨tg1, iter1, [], 0⟩] scope pos) (Dc2.wants wi g wi1 g1 tk tv (own.map (·.2)) vs1) (dc2E mi (own.map (·.2)) tgt is mi1 vs1 tgt1 is1 mk mv) :=
  ⟨Dc2.pe_dcTwo hc hN hi.pe ok hv1 (fun s H C cl fp => (hg s H C cl fp).pe) (fun s H C cl fp => (hi1 s H C cl fp).pe) (fun s H C cl fp => (hg1 s H C cl fp).pe) (fun s H C cl fp => (hk s H C cl fp).pe) (fun s H C cl fp => (hv s H C cl fp).pe) hs hs1,
    dc2_sound hi.snd (hg X.s_0 X.H_0 0 [] []).snd (hi1 X.s_0 X.H_0 0 [] []).snd (hg1 X.s_0 X.H_0 0 [] []).snd (hk X.s_0 X.H_0 0 [] []).snd (hv X.s_0 X.H_0 0 [] []).snd hvs his hv1 his1⟩
end
end G
set_option maxHeartbeats 1000000
namespace G
open PySem PySem.Spec PyProof.Rows L2
end G
set_option maxHeartbeats 1000000
namespace G
open PySem PySem.Spec PyProof.Rows L2
/-- the key of a tuple of texts -/
def kTx (ss : List Str) : List (Int ⊕ List Nat) := ss.map fun x => .inr x.cps.toList
def ltTx (a b : List Str) : Bool := lexLt itemOrd (kTx a) (kTx b)
def rSortTx (K : PySem.W.Frag) : List V → Hp → VK → Prop := fun vs H Q => ∃ (a : Addr) (xs : List V) (k : V → List Str), vs = [V.ref a] ∧ SqL K H a xs ∧ (∀ x ∈ xs, ∃ t, x = V.ref t ∧ k x ≠ [] ∧ H t = some (.tup ((k x).map V.str))) ∧
  ∀ ys p, ys.Perm xs → ys.Pairwise (fun x y => ltTx (k y) (k x) = false) → H p = none → Q (.ref p) (upd H p (.lst ys))
theorem tx_items : ∀ {ss : List Str} {us : List Value} (i : Nat), Vals (ss.map V.str) us → tupItems (fun _ => true) i us = some (kTx ss)
  | [], _, i, .nil => rfl
  | s :: ss, _ :: us, i, .cons r t => by
    obtain ⟨u, rfl⟩ := r
    have ih := tx_items (ss := ss) (i + 1) t
    show (if True then (tupItems (fun _ => true) (i + 1) us).map (Sum.inr s.cps.toList :: ·) else none) = _
    rw [if_pos trivial, ih]; rfl
theorem tx_key {h : Heap} {a : Addr} {o : Obj} {xs : Array Value} {n : Nat} {l : List (Int ⊕ List Nat)} (ho : h.get? a = some o) (hc : o.cls = .type "tuple") (hd : o.data = .seq xs n)
    (hi : tupItems (fun _ => true) 0 xs.toList = some l) : PyProof.Rows.G.tupKeyC h (fun _ => true) (.ref a) = some l := by
  unfold PyProof.Rows.G.tupKeyC
  have e1 : PyProof.Rows.G.isTupObj h (.ref a) = true := by simp [PyProof.Rows.G.isTupObj, ho, hc]
  rw [if_pos e1]
  simp only [tupKey, ho, hd]
  exact hi
/-- a tuple of texts at a value -/
def TxAt (h : Heap) (v : Value) (ss : List Str) : Prop := ∃ t o us n, v = Value.ref t ∧ h.get? t = some o ∧ o.cls = .type "tuple" ∧ o.data = .seq (List.toArray us) n ∧ Vals (ss.map V.str) us ∧ ss ≠ []
theorem tx_firsts {h : Heap} : ∀ {vs : List Value}, (∀ v ∈ vs, ∃ ss, TxAt h v ss) → ∃ fs, TupsOf h (fun _ => true) vs fs
  | [], _ => ⟨[], .nil⟩
  | v :: vs, hp => by
    obtain ⟨fs, h1⟩ := tx_firsts (vs := vs) fun v' hm => hp v' (List.mem_cons_of_mem _ hm)
    obtain ⟨ss, t, o, us, n, e, ho, hc, hd, hv, ne⟩ := hp v List.mem_cons_self
    cases ss with
    | nil => exact (ne rfl).elim
    | cons s ss =>
      cases hv with
      | cons r q =>
        rename_i u us
        obtain ⟨tk, rfl⟩ := r
        exact ⟨Value.str s tk :: fs, .cons ⟨t, o, _, n, e, ho, hc, hd, by simp, (fun z => by cases z), fun _ => ⟨s, tk, rfl⟩⟩ h1⟩
section
variable {X : Cx}
theorem cr_sortTx : CallR X (.builtin "sorted") (rSortTx X.K) := by
  intro pins s σ H vs us Q I r h
  obtain ⟨a, xs, k, rfl, hs, hx, q⟩ := h
  obtain ⟨its, rv, hl, hz⟩ := I.list hs
  obtain ⟨u, rfl, ru⟩ := vals1 r
  obtain rfl : u = Value.ref a := ru
  obtain ⟨e1, e2⟩ := refs_back rv fun x m => by
    obtain ⟨t, e, _⟩ := hx x m
    exact ⟨t, e⟩
  have tx : ∀ v ∈ its, TxAt s.heap v (k (backV v)) := fun v hv => by
    obtain ⟨t, rfl⟩ := e2 v hv
    have hm : V.ref t ∈ xs := by rw [e1]; exact List.mem_map.mpr ⟨_, hv, rfl⟩
    obtain ⟨t', e, ne, ht⟩ := hx _ hm
    cases e
    obtain ⟨_, its2, r2, o, ho, hc, n, hd⟩ := I.hok _ _ ht
    exact ⟨t, o, its2, n, rfl, ho, hc, hd, r2, ne⟩
  have key : ∀ v ∈ its, PyProof.Rows.G.tupKeyC s.heap (fun _ => true) v = some (kTx (k (backV v))) := fun v hv => by
    obtain ⟨t, o, us, n, rfl, ho, hc, hd, hv2, _⟩ := tx v hv
    exact tx_key ho hc hd (tx_items 0 hv2)
  obtain ⟨fs, hf⟩ := tx_firsts fun v hv => ⟨_, tx v hv⟩
  refine PyProof.Rows.G.sorted_tups hl.isList hf (fun v hv => ⟨_, key v hv⟩) (by rw [← rv.length]; exact hz) fun st' hp hst _ => ?_
  have hp2 : (arrOf st').toList.Perm (its.zip its) := by
    have e := Array.perm_iff_toList_perm.mp hp
    rwa [pairsOf_toList] at e
  have mem : ∀ p ∈ (arrOf st').toList, p.1 = p.2 ∧ p.1 ∈ its := fun p hp => mem_zip_self (hp2.mem_iff.mp hp)
  have eo : ((arrOf st').map (·.2)).toList = (arrOf st').toList.map (·.1) := by
    rw [Array.toList_map]
    exact List.map_congr_left fun p hp => (mem p hp).1.symm
  have ez : ∀ ls : List Value, (ls.zip ls).map (·.1) = ls := fun ls => by
    induction ls with
    | nil => rfl
    | cons x ls ih => rw [List.zip_cons_cons, List.map_cons, ih]
  have hp3 : ((arrOf st').toList.map (·.1)).Perm its := by
    have := hp2.map (·.1)
    rwa [ez] at this
  have hsz : (pairsOf its).size = (arrOf st').toList.length := by rw [pairsOf_size, hp2.length_eq, List.length_zip, Nat.min_self]
  have hpw : ((arrOf st').toList.map (·.1)).Pairwise (fun x y => ltTx (k (backV y)) (k (backV x)) = false) := by
    rw [List.pairwise_map, List.pairwise_iff_getElem]
    intro i j hi hj hij
    have := hst i j (Nat.le_of_lt hij) (by rw [hsz]; exact hj)
    have kk : ∀ m (hm : m < (arrOf st').toList.length), KK (PyProof.Rows.G.tupKindC s.heap (fun _ => true)) (arrOf st') m = kTx (k (backV ((arrOf st').toList[m]).1)) := fun m hm => by
      have e0 : (arrOf st')[m]? = some (arrOf st').toList[m] := by rw [← Array.getElem?_toList, List.getElem?_eq_getElem hm]
      unfold KK
      rw [e0]
      show (PyProof.Rows.G.tupKeyC s.heap (fun _ => true) ((arrOf st').toList[m]).1).getD [] = _
      rw [key _ (mem _ (List.getElem_mem hm)).2]; rfl
    rw [kk i hi, kk j hj] at this
    exact this
  obtain ⟨ep, he'⟩ := PyProof.Rows.sortedAll_at s.heap its ((arrOf st').map (·.2))
  have hob : (sortedAll s.heap its ((arrOf st').map (·.2))).get? (s.heap.objs.size + 1) = some (seqObj "list" ((arrOf st').toList.map (·.1)).toArray ep) := by
    rw [he', ← eo]
  have h3 : ∀ u ∈ (arrOf st').toList.map (·.1), ∃ a, u = Value.ref a := fun u hu => e2 u (hp3.mem_iff.mp hu)
  refine ⟨.ref (s.heap.objs.size + 1), upd H (s.heap.objs.size + 1) (.lst (((arrOf st').toList.map (·.1)).map backV)), I.laid (t' := s.toks) (fun b o e => PyProof.Rows.sortedAll_old e) (Nat.le_succ _) ⟨?_, (arrOf st').toList.map (·.1), ep, vals_back h3, hob⟩, rfl, q _ _ ?_ ?_ (I.hok.fresh (Nat.le_succ _))⟩
  · rw [List.length_map, hp3.length_eq, ← rv.length]; exact hz
  · rw [e1]; exact hp3.map backV
  · rw [List.pairwise_map]; exact hpw
end
def insTx (x : List Str) : List (List Str) → List (List Str)
  | [] => [x]
  | y :: ys => if ltTx y x then y :: insTx x ys else x :: y :: ys
def sortTx : List (List Str) → List (List Str)
  | [] => []
  | x :: xs => insTx x (sortTx xs)
theorem insTx_perm (x : List Str) : ∀ ys, (insTx x ys).Perm (x :: ys)
  | [] => .refl _
  | y :: ys => by
    unfold insTx
    split
    · exact ((insTx_perm x ys).cons y).trans (.swap _ _ _)
    · exact .refl _
theorem sortTx_perm : ∀ xs, (sortTx xs).Perm xs
  | [] => .refl _
  | x :: xs => (insTx_perm x _).trans ((sortTx_perm xs).cons x)
abbrev oTx : KeyOrd := listOrd itemOrd
theorem insTx_sorted (x : List Str) : ∀ {ys : List (List Str)}, ys.Pairwise (fun a b => ltTx b a = false) → (insTx x ys).Pairwise (fun a b => ltTx b a = false)
  | [], _ => List.pairwise_singleton _ _
  | y :: ys, h => by
    unfold insTx
    have h' := List.pairwise_cons.mp h
    cases c : ltTx y x with
    | true =>
      rw [if_pos rfl]
      refine List.pairwise_cons.mpr ⟨fun z hz => ?_, insTx_sorted x h'.2⟩
      rcases List.mem_cons.mp ((insTx_perm x ys).mem_iff.mp hz) with e | q
      · rw [e]; exact KeyOrd.kle_of_klt (O := oTx) (a := kTx y) (b := kTx x) c
      · exact h'.1 z q
    | false =>
      rw [if_neg (by simp)]
      refine List.pairwise_cons.mpr ⟨fun z hz => ?_, h⟩
      rcases List.mem_cons.mp hz with e | q
      · rw [e]; exact c
      · exact KeyOrd.kle_trans (O := oTx) (a := kTx x) (b := kTx y) (c := kTx z) c (h'.1 z q)
theorem sortTx_sorted : ∀ xs, (sortTx xs).Pairwise (fun a b => ltTx b a = false)
  | [] => .nil
  | x :: xs => insTx_sorted x (sortTx_sorted xs)
theorem kTx_inj : ∀ {a b : List Str}, kTx a = kTx b → a = b
  | [], [], _ => rfl
  | [], _ :: _, h => by cases h
  | _ :: _, [], h => by cases h
  | x :: a, y :: b, h => by
    have h : (Sum.inr x.cps.toList : Int ⊕ List Nat) :: kTx a = Sum.inr y.cps.toList :: kTx b := h
    injection h with h1 h2
    have e : x = y := by
      have e1 : x.cps.toList = y.cps.toList := Sum.inr.inj h1
      have e2 : x.cps = y.cps := Array.toList_inj.mp e1
      cases x; cases y; simp at e2; rw [e2]
    rw [e, kTx_inj h2]
theorem uniqTx : ∀ {xs ys : List (List Str)}, xs.Perm ys → xs.Pairwise (fun a b => ltTx b a = false) → ys.Pairwise (fun a b => ltTx b a = false) → xs = ys
  | [], ys, p, _, _ => p.nil_eq
  | x :: xs, [], p, _, _ => absurd p.symm.nil_eq (by simp)
  | x :: xs, y :: ys, p, h1, h2 => by
    have h1' := List.pairwise_cons.mp h1
    have h2' := List.pairwise_cons.mp h2
    have e : x = y := by
      have a : x ∈ y :: ys := p.mem_iff.mp List.mem_cons_self
      have b : y ∈ x :: xs := p.mem_iff.mpr List.mem_cons_self
      rcases List.mem_cons.mp a with e | a
      · exact e
      rcases List.mem_cons.mp b with e | b
      · exact e.symm
      exact kTx_inj (KeyOrd.kle_antisymm (O := oTx) (h1'.1 y b) (h2'.1 x a))
    subst e
    rw [uniqTx (List.Perm.cons_inv p) h1'.2 h2'.2]
def textsD : List D → Option (List (List Str))
  | [] => some []
  | .tup ds :: r => (unS ds).bind fun ss => if ss = [] then none else (textsD r).map (ss :: ·)
  | _ => none
theorem textsD_ok : ∀ {ds : List D} {xs : List (List Str)}, textsD ds = some xs → ds = (xs.map fun s => D.tup (s.map D.str)) ∧ ∀ s ∈ xs, s ≠ []
  | [], xs, h => by cases h; exact ⟨rfl, fun s hs => by cases hs⟩
  | d :: ds, xs, h => by
    cases d with
    | tup es =>
      obtain ⟨ss, h1, h2⟩ := Option.bind_eq_some_iff.mp (show (unS es).bind (fun ss => if ss = [] then none else (textsD ds).map (ss :: ·)) = some xs from h)
      split at h2
      · cases h2
      · rename_i ne
        obtain ⟨r, h3, rfl⟩ := Option.map_eq_some_iff.mp h2
        obtain ⟨a, b⟩ := textsD_ok h3
        refine ⟨by rw [a, unS_ok h1]; rfl, fun s hs => ?_⟩
        rcases List.mem_cons.mp hs with e | e
        · rw [e]; exact ne
        · exact b s e
    | _ => cases h
def unV : V → Str
  | .str s => s
  | _ => default
/-- the texts of the tuple at a value -/
def txV (H : Hp) : V → List Str
  | .ref t => match H t with
    | some (.tup vs) => vs.map unV
    | _ => []
  | _ => []
section
variable {r : Addr} {X : Cx} {K : PySem.W.Frag} {mg : Str → Option Value} {O : List Nat} {E : XK} {e a : Expr} {ts : TA} {ta : TE} {p pos : Pos} {ms : SE (List D)}
theorem txV_of {Hs : Hp} {v : V} {s : List Str} (h : RepD K mg r Hs v (.tup (s.map D.str))) : txV Hs v = s ∧ ∃ t, v = .ref t ∧ Hs t = some (.tup (s.map V.str)) := by
  generalize hd : D.tup (s.map D.str) = d at h
  cases h with
  | tup h1 h2 =>
    cases hd
    have e := RepDs.strs_of h2
    rw [e] at h1
    refine ⟨?_, _, rfl, h1⟩
    show (match Hs _ with | some (.tup vs) => vs.map unV | _ => []) = s
    rw [h1]
    show (s.map V.str).map unV = s
    rw [List.map_map]
    exact List.map_id s
  | _ => cases hd
theorem reps_tx {Hs : Hp} : ∀ {xs : List (List Str)} {vs : List V}, RepDs K mg r Hs vs (xs.map fun s => D.tup (s.map D.str)) → vs.map (txV Hs) = xs ∧ ∀ v ∈ vs, RepD K mg r Hs v (.tup ((txV Hs v).map D.str)) ∧ ∃ t, v = .ref t ∧ Hs t = some (.tup ((txV Hs v).map V.str))
  | [], _, .nil => ⟨rfl, fun v hv => by cases hv⟩
  | s :: xs, v :: vs, .cons h q => by
    obtain ⟨e1, e2⟩ := txV_of h
    obtain ⟨a, b⟩ := reps_tx q
    refine ⟨by rw [List.map_cons, e1, a], fun w hw => ?_⟩
    rcases List.mem_cons.mp hw with e | e
    · subst e
      rw [e1]; exact ⟨h, e2⟩
    · exact b w e
theorem reps_of {Hs : Hp} : ∀ {vs : List V}, (∀ v ∈ vs, RepD K mg r Hs v (.tup ((txV Hs v).map D.str))) → RepDs K mg r Hs vs ((vs.map (txV Hs)).map fun s => D.tup (s.map D.str))
  | [], _ => .nil
  | v :: vs, h => .cons (h v List.mem_cons_self) (reps_of fun w hw => h w (List.mem_cons_of_mem _ hw))
def sortTD : List D → Option D
  | [.lst xs] => (textsD xs).map fun ss => .lst ((sortTx ss).map fun s => .tup (s.map .str))
  | _ => none
theorem gf_sortTx (hm : X.mg "sorted" = none) (ha : GAO K mg r X O E [e] ts ms) (hg : Gl X "sorted" := by rfl) (he : starEach [e] X.env = (false, eval e X.env) :: starEach [] X.env := by rfl) (hpl : (backTo pos (starEach [] X.env)).any (·.1) = false := by rfl) (hK : X.K = K := by rfl) : GF K mg r X O E (.Call (.Name "sorted" p) [e] [] pos) (tCB (rSortTx K) ts) (callB sortTD ms) := by
  subst hK
  refine ⟨pe_callB (r := rSortTx X.K) cr_sortTx hg hm boot_sorted ha.pe (by decide) (by decide) he hpl, fun Hs0 H0 Hs H σ env tp Q Rl P => ?_⟩
  refine ha.snd _ _ _ _ _ _ _ _ Rl ?_
  unfold callB at P
  cases q : ms env tp with
  | stuck => rw [q] at P; exact P
  | exn cc fs tp1 => rw [q] at P; exact P
  | ok ds tp1 =>
    rw [q] at P
    intro xs Hs1 H1 g w rx
    obtain ⟨z, hz, k⟩ := Post.ok_of (show Post X.K mg r (Fresh X.K mg r H) E Hs H (RE.of (sortTD ds) tp1) Q from P)
    unfold sortTD at hz
    split at hz
    · obtain ⟨ss, h1, h2⟩ := Option.map_eq_some_iff.mp hz
      subst h2
      obtain ⟨x, rfl, h⟩ := paired1 rx
      obtain ⟨h4, h5⟩ := textsD_ok h1
      rw [h4] at h
      obtain ⟨p, vs, rfl, h6, h7⟩ := repT_lst w h
      obtain ⟨h8, h9⟩ := reps_tx h7
      refine ⟨p, vs, txV Hs1, rfl, .of h6, fun v hv => ?_, fun ys q hp hs hq => ?_⟩
      · obtain ⟨_, t, e1, e2⟩ := h9 v hv
        refine ⟨t, e1, ?_, (w.sub _ _ e2).tup⟩
        have : txV Hs1 v ∈ vs.map (txV Hs1) := List.mem_map.mpr ⟨v, hv, rfl⟩
        rw [h8] at this
        exact h5 _ this
      · have e : ys.map (txV Hs1) = sortTx ss := by
          refine uniqTx ?_ ?_ (sortTx_sorted ss)
          · have := hp.map (txV Hs1)
            rw [h8] at this
            exact this.trans (sortTx_perm ss).symm
          · rw [List.pairwise_map]; exact hs
        have hr := reps_of (K := X.K) (mg := mg) (r := r) (Hs := Hs1) (vs := ys) fun v hv => (h9 v (hp.mem_iff.mp hv)).1
        rw [e] at hr
        obtain ⟨a, b, c⟩ := fresh_new (o := .lst ys) (d := .lst ((sortTx ss).map fun s => .tup (s.map .str))) g w hq ⟨_, upd_same, hr⟩
        exact k _ _ _ a b c
    · cases hz
end
end G
set_option maxHeartbeats 1000000
namespace G
open PySem PySem.Spec PyProof.Rows L2
section
variable {r : Addr} {X : Cx} {K : PySem.W.Frag} {mg : Str → Option Value} {O : List Nat} {E : XK} {e : Expr} {es : List Expr} {ts : TA} {t : TE} {p : Pos}
def starA (m : SE D) (ms : SE (List D)) : SE (List D) := fun env tp => (m env tp).bind fun d tp1 => match itemsD d with
  | some xs => (ms env tp1).bind fun ys tp2 => .ok (xs ++ ys) tp2
  | none => .stuck
theorem ga_star {m : SE D} {ms : SE (List D)} (h : GE K mg r X O E e t m) (hs : GA K mg r X O E es ts ms) (hK : X.K = K := by rfl) (hst : starEach (.Starred e p :: es) X.env = (true, eval e X.env) :: starEach es X.env := by rfl) : GA K mg r X O E (.Starred e p :: es) (StX.tStar K t ts) (starA m ms) := by
  subst hK
  obtain ⟨ht, h1⟩ := h
  obtain ⟨hts, h2⟩ := hs
  refine ⟨StX.pa_star ht hts hst, fun Hs0 H0 Hs H σ env tp Q R P => ?_⟩
  refine h1 _ _ _ _ _ _ _ _ R (Post.bind P fun v Hs1 H1 d tp1 _ g w rv P1 => ?_)
  have go : ∀ (a : Addr) (vs : List V) (ds : List D), v = .ref a → (SqT X.K H1 a vs ∨ SqL X.K H1 a vs) → RepDs X.K mg r Hs1 vs ds → itemsD d = some ds → ∃ p xs, v = V.ref p ∧ (SqT X.K H1 p xs ∨ SqL X.K H1 p xs) ∧ ts σ H1 fun ys H2 => Q (xs ++ ys) H2 := fun a vs ds e1 e2 e3 e4 => by
    rw [e4] at P1
    refine ⟨a, vs, e1, e2, h2 _ _ _ _ _ _ _ _ (R.grow g w) (Post.bind P1 fun ys Hs2 H2 ds2 tp2 _ g2 w2 rs P2 => ?_)⟩
    exact P2 _ Hs2 H2 (Grow.refl _ _) w2 ((e3.mono g2.ex).append rs)
  cases d with
  | lst ds =>
    obtain ⟨a, vs, e1, e2, e3⟩ := repT_lst w (.inl rv)
    exact go a vs ds e1 (.inr (.of e2)) e3 rfl
  | tup ds =>
    obtain ⟨a, vs, e1, _, e2, e3⟩ := repT_tup w (.inl rv)
    exact go a vs ds e1 (.inl (.of e2)) e3 rfl
  | _ => exact P1.elim
end
end G
set_option maxHeartbeats 1000000
namespace G
open PySem PySem.Spec PyProof.Rows L2
section
variable {r : Addr} {X : Cx} {K : PySem.W.Frag} {mg : Str → Option Value} {O : List Nat} {E : XK} {e e2 : Expr} {ts : TA} {p pos : Pos} {ms : SE (List D)}
def maxD : List D → Option D
  | [.int i, .int j] => some (.int (if j > i then j else i))
  | [.lst xs] => (unI xs).bind fun ns => ns.max?.map .int
  | _ => none
abbrev rMaxB (K : PySem.W.Frag) : List V → Hp → VK → Prop := fun xs H Q => (∃ i j, xs = [.int i, .int j] ∧ Q (.int (if j > i then j else i)) H) ∨ rMax K xs H Q
theorem cs_max : CallS K mg r (rMaxB K) maxD := by
  intro Hs H tp xs ds z Q w rx hz k
  unfold maxD at hz
  split at hz
  · cases hz
    cases rx with
    | cons h1 t => cases t with
      | cons h2 t => cases t with
        | nil => exact .inl ⟨_, _, by rw [repT_int h1, repT_int h2], k _ _ _ (Grow.refl _ _) w (.int _)⟩
  · obtain ⟨ns, h1, h2⟩ := Option.bind_eq_some_iff.mp hz
    obtain ⟨m, h3, rfl⟩ := Option.map_eq_some_iff.mp h2
    obtain ⟨m1, m2⟩ := List.max?_eq_some_iff.mp h3
    obtain ⟨x, rfl, h⟩ := paired1 rx
    rw [unI_ok h1] at h
    obtain ⟨p, rfl, h4⟩ := lst_typed RepDs.ints_of w h
    refine .inr ⟨p, ns, rfl, .of h4, List.length_pos_of_mem m1, fun m' a b => ?_⟩
    have : m' = m := Int.le_antisymm (m2 m' a) (b m m1)
    rw [this]
    exact k _ _ _ (Grow.refl _ _) w (.int _)
  · cases hz
theorem ge_max (hc : X.calm = true) (hm : X.mg "max" = none) (ha : GAO K mg r X O E [e] ts ms) (hg : Gl X "max" := by rfl) (he : starEach [e] X.env = (false, eval e X.env) :: starEach [] X.env := by rfl) (hpl : (backTo pos (starEach [] X.env)).any (·.1) = false := by rfl) (hK : X.K = K := by rfl) : GE K mg r X O E (.Call (.Name "max" p) [e] [] pos) (tCB (rMaxB K) ts) (callB maxD ms) := by
  subst hK; exact ge_callB (R := rMaxB X.K) ((call_max2 hc).or (cr_max hc)) cs_max hm ha hg (by decide +kernel) (by decide) (by decide) he hpl
end
end G
set_option maxHeartbeats 1000000
namespace G
open PySem PySem.Spec PyProof.Rows L2
end G
set_option maxHeartbeats 1000000
namespace G
open PySem PySem.Spec PyProof.Rows L2
end G
set_option maxHeartbeats 1000000
namespace G
open PySem PySem.Spec PyProof.Rows L2
end G
set_option maxHeartbeats 1000000
namespace G
open PySem PySem.Spec PyProof.Rows L2
section
variable {r : Addr} {X : Cx} {K : PySem.W.Frag} {mg : Str → Option Value} {O : List Nat} {E : XK} {a : Expr} {ta : TE} {p pos apos mpos : Pos}
theorem preSum_list : ∀ is : List Int, preSum (fun i => is.getD i 0) is.length = is.sum
  | [] => rfl
  | x :: is => by
    show preSum (fun i => (x :: is).getD i 0) (is.length + 1) = _
    rw [PySem.W.kdu_shift, List.sum_cons, ← preSum_list is]
    rfl
theorem RepP.vals {Hs : Hp} : ∀ {ps : List (D × V)} {ds : List (D × D)}, RepP K mg r Hs ps ds → RepDs K mg r Hs (ps.map (·.2)) (ds.map (·.2))
  | _, _, .nil => .nil
  | _, _, .cons h q => .cons h (RepP.vals q)
end
end G
set_option maxHeartbeats 1000000
namespace RvT
open PySem PySem.Spec PyProof.Rows L2 HT
end RvT
namespace G
open PySem PySem.Spec PyProof.Rows L2 RvT
end G
set_option maxHeartbeats 1000000
namespace G
open PySem PySem.Spec PyProof.Rows L2
section
variable {r : Addr} {X : Cx} {K : PySem.W.Frag} {mg : Str → Option Value} {O : List Nat} {E : XK} {e : Expr} {te : TE} {apos cpos tpos : Pos} {elts : List Expr} {kk : Nat}
theorem upd_id {H : Hp} {p : Addr} {u : HO} (h : H p = some u) : upd H p u = H := by
  funext b
  by_cases z : b = p
  · subst z; rw [upd_same, h]
  · rw [upd_ne z]
theorem Wd.lock {Hs H : Hp} {tp : List D} {p : Addr} {o : Obj} {kvs : List (Key × V)} (w : Wd K mg r Hs H tp) (hs : Hs p = some (.dK kvs)) (hq : H p = some (.dK kvs) ∨ H p = some (.frz o (.dK kvs))) : Grow r Hs H (upd Hs p (.frz o (.dK kvs))) (upd H p (.frz o (.dK kvs))) ∧ Wd K mg r (upd Hs p (.frz o (.dK kvs))) (upd H p (.frz o (.dK kvs))) tp := by
  have ne : p ≠ r := w.ne hs
  have ex : Same Hs (upd Hs p (.frz o (.dK kvs))) := fun b u q => by
    by_cases z : b = p
    · subst z; rw [hs] at q; cases q; exact .inr (.inl ⟨rfl, o, upd_same⟩)
    · exact .inl (by rw [upd_ne z]; exact q)
  refine ⟨⟨fun b u q n hn => ?_, fun b q => upd_free q, ex, fun b u n q => ?_, fun b xs q => ?_⟩, ⟨fun b u q => ?_, ?_, ?_, fun b φ q => ?_⟩⟩
  · have z : b ≠ p := fun z => by rw [z, hs] at hn; cases hn
    rw [upd_ne z]; exact q
  · by_cases z : b = p
    · subst z; exact .inl ⟨_, hs⟩
    · rw [upd_ne z] at q; exact .inl ⟨_, q⟩
  · by_cases z : b = p
    · subst z
      rcases hq with y | y
      · exact (st_no rfl xs (Option.some.inj (y.symm.trans q))).elim
      · rw [upd_same, ← q]; exact y.symm
    · rw [upd_ne z]; exact q
  · by_cases z : b = p
    · subst z; rw [upd_same] at q; exact .inl (by rw [upd_same]; exact q)
    · rw [upd_ne z] at q
      rcases hq with y | y
      · exact (w.sub b u q).upd z (fun xs x => st_no rfl xs (Option.some.inj (y.symm.trans x)))
      · rw [upd_id y]; exact w.sub b u q
  · rw [upd_ne ne.symm]; exact w.tn
  · obtain ⟨vs, q, z⟩ := w.tH
    exact ⟨vs, by rw [upd_ne ne.symm]; exact q, z.mono ex⟩
  · by_cases z : b = p
    · subst z; rw [upd_same] at q; cases q
    · rw [upd_ne z] at q; exact w.nx b φ q
theorem RepP.len {Hs : Hp} : ∀ {a : List (D × V)} {ds : List (D × D)}, RepP K mg r Hs a ds → a.length = ds.length
  | _, _, .nil => rfl
  | _, _, .cons _ q => by simp only [List.length_cons, RepP.len q]
theorem rep_key {Hs : Hp} (k : Key) : RepD K mg r Hs (kV k) (keyD k) := by
  cases k with
  | inl i => exact .int i
  | inr s => exact .str s
end
end G
set_option maxHeartbeats 1000000
namespace SrtI
open PySem PySem.Spec PyProof.Rows PyProof.Rows.G PySem.W
section
variable {prog : Program} {w : World} {A : Around} {E : Value → Shared → Prop} {s : Shared} {r d : Addr} {es : Array DictEntry} {ep : Nat}
/-- the pair that stands at a -/
def PrAt (h : Heap) (a : Addr) (p : Int × Int) : Prop := ∃ t u, h.get? a = some { cls := .type "tuple", data := .seq #[.int p.1 t, .int p.2 u] }
theorem PrAt.keep {h h' : Heap} {a : Addr} {p : Int × Int} (x : PrAt h a p) (k : ∀ o, h.get? a = some o → h'.get? a = some o) : PrAt h' a p := by
  obtain ⟨t, u, e⟩ := x
  exact ⟨t, u, k _ e⟩
end
end SrtI
namespace G
open PySem PySem.Spec PyProof.Rows L2 SrtI
end G
set_option maxHeartbeats 1000000
namespace G
open PySem PySem.Spec PyProof.Rows L2 SrtI
def lII (a b : Int × Int) : Bool := decide (a.1 < b.1 ∨ (a.1 = b.1 ∧ a.2 < b.2))
end G
set_option maxHeartbeats 1000000
namespace MxI
open PySem PySem.Spec PyProof.Rows PySem.W SrtI G
theorem dl (a b : Int × Int) : dataLt (.tuple [.int a.1, .int a.2]) (.tuple [.int b.1, .int b.2]) = lII a b := by
  unfold lII dataLt
  by_cases h : a.1 < b.1
  · simp [keyToks, keyToksAll, PyProof.Rows.lexLt, itemOrd, itemLt, h]
  · by_cases h2 : b.1 < a.1
    · simp [keyToks, keyToksAll, PyProof.Rows.lexLt, itemOrd, itemLt, h, h2]; omega
    · have e : a.1 = b.1 := by omega
      by_cases h3 : a.2 < b.2
      · simp [keyToks, keyToksAll, PyProof.Rows.lexLt, itemOrd, itemLt, e, h3]
      · by_cases h4 : b.2 < a.2
        · simp [keyToks, keyToksAll, PyProof.Rows.lexLt, itemOrd, itemLt, e, h3, h4]
        · have e2 : a.2 = b.2 := by omega
          simp [keyToks, keyToksAll, PyProof.Rows.lexLt, itemOrd, itemLt, e, e2]
theorem al (a b : Int × Int) : alike (.tuple [.int a.1, .int a.2]) (.tuple [.int b.1, .int b.2]) = true := by simp [alike, alikeAll]
theorem dd (a : Int × Int) : (PyData.tuple [.int a.1, .int a.2]).depth ≤ 3 := by simp [PyData.depth, PyData.depthAll]
theorem PrAt.reads {h : Heap} {a : Addr} {p : Int × Int} (x : PrAt h a p) : Reads h (.ref a) (.tuple [.int p.1, .int p.2]) [] := by
  obtain ⟨t, u, e⟩ := x
  exact .tuple e rfl rfl (.cons (as := []) (bs := []) (.int _ _) (.cons (as := []) (bs := []) (.int _ _) .nil))
end MxI
namespace G
open PySem PySem.Spec PyProof.Rows L2 SrtI MxI
end G
set_option maxHeartbeats 1000000
namespace G
open PySem PySem.Spec PyProof.Rows L2
theorem each_vals : ∀ {bs : List (V × D)} {us : List Value}, Vals (bs.map (·.1)) us → PySem.W.EachIs (fun v b => RelV b.1 v) us bs
  | [], _, .nil => .nil
  | b :: bs, _ :: us, .cons r t => .cons r (each_vals t)
theorem each_and {R S : Value → V × D → Prop} : ∀ {bs : List (V × D)} {us : List Value}, PySem.W.EachIs R us bs → (∀ b ∈ bs, ∀ u, R u b → S u b) → PySem.W.EachIs S us bs
  | [], _, .nil, _ => .nil
  | b :: bs, _ :: us, .cons r t, h => .cons (h b List.mem_cons_self _ r) (each_and t fun c hc => h c (List.mem_cons_of_mem _ hc))
theorem reps_zip {K : PySem.W.Frag} {mg : Str → Option Value} {r : Addr} {Hs : Hp} : ∀ {vs : List V} {ds : List D}, RepDs K mg r Hs vs ds → (vs.zip ds).map (·.1) = vs ∧ (vs.zip ds).map (·.2) = ds ∧ ∀ b ∈ vs.zip ds, RepD K mg r Hs b.1 b.2
  | _, _, .nil => ⟨rfl, rfl, fun b hb => by cases hb⟩
  | v :: vs, d :: ds, .cons h q => by
    obtain ⟨a, b, c⟩ := reps_zip q
    refine ⟨by rw [List.zip_cons_cons, List.map_cons, a], by rw [List.zip_cons_cons, List.map_cons, b], fun x hx => ?_⟩
    rw [List.zip_cons_cons] at hx
    rcases List.mem_cons.mp hx with e | e
    · rw [e]; exact h
    · exact c x e
end G
set_option maxHeartbeats 1000000
namespace G
open PySem PySem.Spec PyProof.Rows L2
end G
set_option maxHeartbeats 1000000
namespace G
open PySem PySem.Spec PyProof.Rows L2
section
variable {r : Addr} {X : Cx} {K : PySem.W.Frag} {mg : Str → Option Value} {O : List Nat} {E : XK} {e tg : Expr} {te : TE}
def iKeysT (td : TE) : TI := fun σ H R => td σ H fun x H1 => ∃ (d : Addr) (kvs : List (List Key × V)), x = .ref d ∧ ((H1 d = some (.dT kvs) ∧ ∀ o, R (Itkt d o kvs) (upd H1 d (.frz o (.dT kvs)))) ∨ ∃ o, H1 d = some (.frz o (.dT kvs)) ∧ R (Itkt d o kvs) H1)
theorem pi_keysT (he : PE X e te) : PI X tg e (iKeysT te) := by
  refine ⟨fun pins s σ H R I h => ?_⟩
  refine thn (he.run pins s σ H _ I h) fun u s1 ⟨x, H1, I1, rx, d, kvs, ex, q⟩ => ?_
  subst ex
  obtain rfl : u = Value.ref d := rx
  obtain ⟨o, H2, I2, hd, q⟩ : ∃ o H2, Inv X pins σ H2 s1 ∧ H2 d = some (.frz o (.dT kvs)) ∧ R (Itkt d o kvs) H2 := by
    rcases q with ⟨hd, q⟩ | ⟨o, hd, q⟩
    · obtain ⟨o, I2⟩ := I1.lock hd trivial
      exact ⟨o, _, I2, upd_same, q o⟩
    · exact ⟨o, H1, I1, hd, q⟩
  obtain ⟨hs, hgd, hx, es, ep, hdt, hsz, ent⟩ := I2.frzT hd
  refine iter_keys hs hgd hx hdt (pi_one (tk := s1.toks) I2 _ (turn_keysT _ hdt) ⟨_, Heap.get?_push_size _ rfl, rfl, ?_⟩ q)
  rw [hsz] <;> rfl
theorem Wd.lockT {Hs H : Hp} {tp : List D} {p : Addr} {o : Obj} {kvs : List (List Key × V)} (w : Wd K mg r Hs H tp) (hs : Hs p = some (.dT kvs)) (hq : H p = some (.dT kvs) ∨ H p = some (.frz o (.dT kvs))) : Grow r Hs H (upd Hs p (.frz o (.dT kvs))) (upd H p (.frz o (.dT kvs))) ∧ Wd K mg r (upd Hs p (.frz o (.dT kvs))) (upd H p (.frz o (.dT kvs))) tp := by
  have ne : p ≠ r := w.ne hs
  have ex : Same Hs (upd Hs p (.frz o (.dT kvs))) := fun b u q => by
    by_cases z : b = p
    · subst z; rw [hs] at q; cases q; exact .inr (.inl ⟨rfl, o, upd_same⟩)
    · exact .inl (by rw [upd_ne z]; exact q)
  refine ⟨⟨fun b u q n hn => ?_, fun b q => upd_free q, ex, fun b u n q => ?_, fun b xs q => ?_⟩, ⟨fun b u q => ?_, ?_, ?_, fun b φ q => ?_⟩⟩
  · have z : b ≠ p := fun z => by rw [z, hs] at hn; cases hn
    rw [upd_ne z]; exact q
  · by_cases z : b = p
    · subst z; exact .inl ⟨_, hs⟩
    · rw [upd_ne z] at q; exact .inl ⟨_, q⟩
  · by_cases z : b = p
    · subst z
      rcases hq with y | y
      · exact (st_no rfl xs (Option.some.inj (y.symm.trans q))).elim
      · rw [upd_same, ← q]; exact y.symm
    · rw [upd_ne z]; exact q
  · by_cases z : b = p
    · subst z; rw [upd_same] at q; exact .inl (by rw [upd_same]; exact q)
    · rw [upd_ne z] at q
      rcases hq with y | y
      · exact (w.sub b u q).upd z (fun xs x => st_no rfl xs (Option.some.inj (y.symm.trans x)))
      · rw [upd_id y]; exact w.sub b u q
  · rw [upd_ne ne.symm]; exact w.tn
  · obtain ⟨vs, q, z⟩ := w.tH
    exact ⟨vs, by rw [upd_ne ne.symm]; exact q, z.mono ex⟩
  · by_cases z : b = p
    · subst z; rw [upd_same] at q; cases q
    · rw [upd_ne z] at q; exact w.nx b φ q
/-- a tuple may come to stand still at any time -/
theorem Wd.still {Hs H : Hp} {tp : List D} {q : Addr} {xs : List V} (w : Wd K mg r Hs H tp) (e : H q = some (.tup xs)) : ∃ Hs', Grow r Hs H Hs' H ∧ Wd K mg r Hs' H tp ∧ Hs' q = some (.tup xs) := by
  cases z : Hs q with
  | some u =>
    rcases w.sub _ _ z with y | ⟨_, o, y⟩ | ⟨_, _, _, y, _⟩
    · rw [e] at y
      have y := Option.some.inj y
      subst y
      exact ⟨Hs, Grow.refl _ _, w, z⟩
    · rw [e] at y; cases y
    · rw [e] at y; cases y
  | none =>
    have sm : Same Hs (upd Hs q (.tup xs)) := same_new z
    have ne : q ≠ r := fun y => by
      obtain ⟨vs, a, _⟩ := w.tH
      rw [← y, e] at a; cases a
    refine ⟨upd Hs q (.tup xs), ⟨fun b u a _ _ => a, fun b a => a, sm, fun b u n a => ?_, fun b ys a => a⟩, ⟨fun b u a => ?_, by rw [upd_ne ne.symm]; exact w.tn, ?_, fun b φ a => ?_⟩, upd_same⟩
    · by_cases y : b = q
      · subst y; exact .inr (.inr ⟨⟨.tup xs, rfl⟩, e⟩)
      · rw [upd_ne y] at a; exact .inl ⟨_, a⟩
    · by_cases y : b = q
      · subst y; rw [upd_same] at a; cases a; exact .inl e
      · rw [upd_ne y] at a; exact w.sub b u a
    · obtain ⟨vs, a, b⟩ := w.tH
      exact ⟨vs, a, b.mono sm⟩
    · by_cases y : b = q
      · subst y; rw [upd_same] at a; cases a
      · rw [upd_ne y] at a; exact w.nx b φ a
theorem rep_keys {Hs : Hp} : ∀ ks : List Key, RepDs K mg r Hs (ks.map kV) (ks.map keyD)
  | [] => .nil
  | k :: ks => .cons (rep_key k) (rep_keys ks)
theorem RepP.getT {Hs : Hp} : ∀ {kvs : List (List Key × V)} {ds : List (D × D)} {i : Nat} {k : List Key} {v : V}, RepP K mg r Hs (kvs.map fun q => (keyT q.1, q.2)) ds → kvs[i]? = some (k, v) → ∃ d, ds[i]? = some (keyT k, d) ∧ RepD K mg r Hs v d
  | [], _, _, _, _, _, h => by simp at h
  | p :: kvs, _, 0, k, v, .cons h hs, e => by
    have e : p = (k, v) := by simpa using e
    subst e; exact ⟨_, rfl, h⟩
  | p :: kvs, _, i + 1, k, v, .cons h hs, e => by
    obtain ⟨d, h1, h2⟩ := RepP.getT (i := i) hs (by simpa using e)
    exact ⟨d, by simpa using h1, h2⟩
def keysTD : D → Option (List D)
  | .dct ds => some (ds.map (·.1))
  | _ => none
def keysTI (m : SE D) : SE (List D) := fun env tp => (m env tp).bind fun d tp1 => RE.of (keysTD d) tp1
theorem walks_keysT {Hs : Hp} {p : Addr} {o : Obj} {kvs : List (List Key × V)} {ds : List (D × D)} (h : Hs p = some (.frz o (.dT kvs))) (hr : RepP K mg r Hs (kvs.map fun q => (keyT q.1, q.2)) ds) : WalksD K mg r (Itkt p o kvs) Hs (ds.map (·.1)) := by
  have hl : ds.length = kvs.length := by have := RepP.len hr; rw [List.length_map] at this; exact this.symm
  refine ⟨fun H => H p = some (.frz o (.dT kvs)), fun i H x H' => H' = H ∧ ∃ (k : List Key) (v : V) (q : Addr), kvs[i]? = some (k, v) ∧ x = .ref q ∧ H q = some (.tup (k.map kV)), ?_, fun Hs2 H e1 e2 => ((e1.trans e2) _ _ h).frz, fun i Hs2 H tp v H' hi e w y => ?_⟩
  · rw [List.length_map, hl]
    exact ⟨fun i H hi q => ⟨q, hi⟩, fun H q => ⟨q, Nat.le_refl _⟩, fun i H x H' hi q y => y⟩
  · obtain ⟨rfl, k, v', q, h1, rfl, hq⟩ := y
    obtain ⟨d, h2, h3⟩ := RepP.getT hr h1
    obtain ⟨Hs3, g3, w3, s3⟩ := w.still hq
    exact ⟨Hs3, keyT k, g3, w3, by rw [List.getElem?_map, h2]; rfl, .tup s3 (rep_keys k)⟩
theorem gi_keysT {m : SE D} (h : GE K mg r X O E e te m) : GI K mg r X O E tg e (iKeysT te) (keysTI m) := by
  refine ⟨pi_keysT h.pe, fun Hs0 H0 Hs H σ env tp Q R P => ?_⟩
  refine h.snd _ _ _ _ _ _ _ _ R (Post.bind P fun v Hs1 H1 d tp1 _ g w rv P1 => ?_)
  obtain ⟨items, hz, k⟩ := Post.ok_of P1
  unfold keysTD at hz
  split at hz
  · rename_i ds _
    cases hz
    cases rv with
    | dicT e1 e2 =>
      rename_i p kvs
      refine ⟨p, kvs, rfl, ?_⟩
      rcases e1 with e1 | ⟨o, e1⟩
      · rcases (w.sub _ _ e1).dic rfl with q | ⟨o, q⟩
        · refine .inl ⟨q, fun o => ?_⟩
          obtain ⟨g2, w2⟩ := w.lockT (o := o) e1 (.inl q)
          exact k _ _ _ g2 w2 (walks_keysT upd_same (RepP.mono g2.ex e2))
        · refine .inr ⟨o, q, ?_⟩
          obtain ⟨g2, w2⟩ := w.lockT (o := o) e1 (.inr q)
          have := k _ _ _ g2 w2 (walks_keysT upd_same (RepP.mono g2.ex e2))
          rwa [upd_id q] at this
      · exact .inr ⟨o, (w.sub _ _ e1).frz, k _ Hs1 H1 (Grow.refl _ _) w (walks_keysT e1 e2)⟩
  · cases hz
end
end G
set_option maxHeartbeats 1000000
namespace G
open PySem PySem.Spec PyProof.Rows L2
end G
set_option maxHeartbeats 1000000
namespace G
open PySem PySem.Spec PyProof.Rows L2
def ltPd (a b : PyData) : Bool := PySem.W.dataLt a b
def minFold {α : Type} (f : α → PyData) (x : α) (xs : List α) : α := xs.foldl (fun a y => if ltPd (f y) (f a) = true then y else a) x
def nonPd : PyData → Bool
  | .none => true
  | _ => false
def minOk (ds : List D) : Bool := ds.all D.okq && (ds.all fun d => ds.all fun e => PySem.W.alike d.pd e.pd) && ds.all fun d => !nonPd d.pd
theorem nonPd_ok {d : PyData} (h : nonPd d = false) : d ≠ .none := fun e => by rw [e] at h; cases h
def minDD : List D → Option D
  | [.lst (d :: ds)] => if minOk (d :: ds) then some (minFold D.pd d ds) else none
  | _ => none
theorem minFold_map {α β : Type} {f : α → PyData} {g : β → PyData} {u : α → β} (h : ∀ a, g (u a) = f a) (x : α) (xs : List α) : minFold g (u x) (xs.map u) = u (minFold f x xs) := by
  unfold minFold
  induction xs generalizing x with
  | nil => rfl
  | cons y ys ih =>
    rw [List.map_cons, List.foldl_cons, List.foldl_cons, h, h]
    by_cases c : ltPd (f y) (f x) = true
    · rw [if_pos c, if_pos c]; exact ih y
    · rw [if_neg c, if_neg c]; exact ih x
def rMinDat (K : PySem.W.Frag) : List V → Hp → VK → Prop := fun vs H Q => ∃ (a : Addr) (b : V × D) (bs : List (V × D)), vs = [V.ref a] ∧ SqL K H a ((b :: bs).map (·.1)) ∧ (∀ c ∈ b :: bs, Dp K H c.1 c.2.pd) ∧ minOk ((b :: bs).map (·.2)) = true ∧
  Q (minFold (fun c : V × D => c.2.pd) b bs).1 H
section
variable {X : Cx}
theorem reads_each {h : Heap} : ∀ {bs : List (V × D)} {us : List Value}, PySem.W.EachIs (fun v (b : V × D) => ∃ as, Reads h v b.2.pd as) us bs → ∃ as, ReadsAll h us (bs.map fun b => b.2.pd) as
  | [], _, .nil => ⟨_, .nil⟩
  | b :: bs, _ :: us, .cons ⟨a1, r⟩ t => by
    obtain ⟨a2, rs⟩ := reads_each t
    exact ⟨_, .cons r rs⟩
theorem cr_minDat (hc : X.calm = true) (hu : X.A.units + 64 < cLine) : CallR X (.builtin "min") (rMinDat X.K) := by
  intro pins s σ H vs us Q I r h
  obtain ⟨a, b, bs, rfl, hs, hd, ok, q⟩ := h
  obtain ⟨its, rv, hl, hz⟩ := I.list hs
  obtain ⟨u, rfl, ru⟩ := vals1 r
  obtain rfl : u = Value.ref a := ru
  unfold minOk at ok
  simp only [Bool.and_eq_true, Bool.or_eq_true, List.all_eq_true] at ok
  obtain ⟨⟨ok1, ok2⟩, ok3⟩ := ok
  have mem2 : ∀ c ∈ b :: bs, c.2 ∈ (b :: bs).map (·.2) := fun c hc => List.mem_map.mpr ⟨c, hc, rfl⟩
  have e := each_vals rv
  have er : PySem.W.EachIs (fun v (b : V × D) => ∃ as, Reads s.heap v b.2.pd as) its (b :: bs) := each_and e fun c hc u ru => Dp.reads I c.2.pd c.1 u (hd c hc) ru
  obtain ⟨as, hr⟩ := reads_each er
  have hn : its.length = bs.length + 1 := by have := rv.length; rw [List.length_map] at this; exact this.symm
  have hal : PySem.W.AlikeAll ((b :: bs).map fun b => b.2.pd) := by
    refine ⟨fun x hx y hy => ?_, fun x hx => ?_⟩
    · obtain ⟨c, hc, rfl⟩ := List.mem_map.mp hx
      obtain ⟨c', hc', rfl⟩ := List.mem_map.mp hy
      exact ok2 _ (mem2 c hc) _ (mem2 c' hc')
    · obtain ⟨c, hc, rfl⟩ := List.mem_map.mp hx
      exact nonPd_ok (by simpa using ok3 _ (mem2 c hc))
  have hdep : ∀ cs : List (V × D), (∀ c ∈ cs, c.2.pd.depth ≤ 60) → PyData.depthAll (cs.map fun b => b.2.pd) ≤ 60 := fun cs => by
    induction cs with
    | nil => exact fun _ => Nat.zero_le _
    | cons c cs ih => exact fun h => Nat.max_le.mpr ⟨h c List.mem_cons_self, ih fun d hd => h d (List.mem_cons_of_mem _ hd)⟩
  have hd60 : PyData.depthAll ((b :: bs).map fun b => b.2.pd) ≤ 60 := hdep _ fun c hc => by
    have := (okq_ok (ok1 _ (mem2 c hc))).2
    omega
  refine PySem.call_min_walkH (PySem.W.iter_listW (A := X.A.in1) (show X.A.in1.handled = none from I.ok.hd hc) hl.isList fun s₂ e2 W st hfp hw hk => ?_)
  refine ⟨_, _, _, _, _, _, _, s.heap, _, rfl, W, st, hfp, by rw [List.size_toArray]; omega, hw, hk, PySem.W.cmpIn_lt (A := X.A.in1) (vs := its.toArray) hr hal (by show X.A.units + 1 + _ < _; omega), fun v s' hP m => ?_⟩
  obtain ⟨h', tk, rfl, hk'⟩ := PySem.W.moved_old e2 rfl m
  have e1 : its.toArray.size - 1 = bs.length := by rw [List.size_toArray]; omega
  rw [e1] at hP
  have fe : (fun i j => PySem.W.dataLt (((b :: bs).map fun b => b.2.pd).getD i .none) (((b :: bs).map fun b => b.2.pd).getD j .none)) = fun i j => (fun x y : V × D => ltPd x.2.pd y.2.pd) ((b :: bs).getD i (.non, .non)) ((b :: bs).getD j (.non, .non)) := by
    funext i j
    have gd : ∀ k, ((b :: bs).map fun b => b.2.pd).getD k .none = ((b :: bs).getD k (.non, .non)).2.pd := fun k => by
      rw [List.getD_eq_getElem?_getD, List.getD_eq_getElem?_getD, List.getElem?_map]
      cases (b :: bs)[k]? <;> rfl
    show PySem.W.dataLt _ _ = PySem.W.dataLt _ _
    rw [gd, gd]
  obtain ⟨f1, f2⟩ := PySem.W.argBest_fold (fun x y : V × D => ltPd x.2.pd y.2.pd) (.non, .non) b bs bs.length (Nat.le_refl _)
  rw [List.take_length] at f2
  rw [fe] at hP
  generalize hix : argBest _ bs.length = ix at hP f1 f2
  have hi2 : ix < (b :: bs).length := by rw [List.length_cons]; omega
  have ev : ((b :: bs).map (·.1))[ix]? = some (minFold (fun c : V × D => c.2.pd) b bs).1 := by
    rw [List.getElem?_map, List.getElem?_eq_getElem hi2]
    have : (b :: bs).getD ix (.non, .non) = (b :: bs)[ix] := by rw [List.getD_eq_getElem?_getD, List.getElem?_eq_getElem hi2]; rfl
    rw [← this, f2]; rfl
  obtain ⟨u, hu, ru⟩ := rv.get ev
  have hP : its.toArray[ix]? = some v := hP
  rw [List.getElem?_toArray, hu] at hP
  cases hP
  exact ⟨_, H, I.kept (t' := tk) hk', ru, q⟩
end
section
variable {r : Addr} {X : Cx} {K : PySem.W.Frag} {mg : Str → Option Value} {O On Ol : List Nat} {E : XK} {e a c : Expr} {ts : TA} {ta : TE} {tt : TT} {p pos : Pos} {ms : SE (List D)}
theorem cs_minDat : CallS K mg r (rMinDat K) minDD := by
  intro Hs H tp xs ds z Q w rx hz k
  unfold minDD at hz
  split at hz
  · rename_i d0 ds0
    split at hz
    · rename_i ok
      cases hz
      obtain ⟨x, rfl, h⟩ := paired1 rx
      obtain ⟨p, vs, rfl, h6, h7⟩ := repT_lst w h
      cases h7 with
      | cons h8 h9 =>
        rename_i v0 vs0
        obtain ⟨z1, z2, z3⟩ := reps_zip h9
        have ok' := ok
        unfold minOk at ok'
        simp only [Bool.and_eq_true, List.all_eq_true] at ok'
        have all3 : ∀ b ∈ (v0, d0) :: vs0.zip ds0, RepD K mg r Hs b.1 b.2 := fun b hb => by
          rcases List.mem_cons.mp hb with e | e
          · rw [e]; exact h8
          · exact z3 b e
        have m2 : ((v0, d0) :: vs0.zip ds0).map (·.2) = d0 :: ds0 := by rw [List.map_cons, z2]
        have m1 : ((v0, d0) :: vs0.zip ds0).map (·.1) = v0 :: vs0 := by rw [List.map_cons, z1]
        have mf : (minFold (fun c : V × D => c.2.pd) (v0, d0) (vs0.zip ds0)) ∈ (v0, d0) :: vs0.zip ds0 := by
          have : ∀ (l : List (V × D)) (x : V × D), minFold (fun c : V × D => c.2.pd) x l = x ∨ minFold (fun c : V × D => c.2.pd) x l ∈ l := fun l => by
            induction l with
            | nil => exact fun x => .inl rfl
            | cons y l ih =>
              intro x
              show minFold _ (if _ then y else x) l = x ∨ minFold _ (if _ then y else x) l ∈ _
              split
              · rcases ih y with e | e
                · exact .inr (by rw [e]; exact List.mem_cons_self)
                · exact .inr (List.mem_cons_of_mem _ e)
              · rcases ih x with e | e
                · exact .inl e
                · exact .inr (List.mem_cons_of_mem _ e)
          rcases this (vs0.zip ds0) (v0, d0) with e | e
          · rw [e]; exact List.mem_cons_self
          · exact List.mem_cons_of_mem _ e
        have e2 : minFold D.pd d0 ds0 = (minFold (fun c : V × D => c.2.pd) (v0, d0) (vs0.zip ds0)).2 := by
          conv => lhs; rw [← z2]
          exact minFold_map (u := fun c : V × D => c.2) (fun _ => rfl) (v0, d0) _
        refine ⟨p, (v0, d0), vs0.zip ds0, rfl, ?_, fun b hb => ?_, ?_, k _ _ _ (Grow.refl _ _) w ?_⟩
        · rw [m1]; exact .of h6
        · have hm2 : b.2 ∈ d0 :: ds0 := by rw [← m2]; exact List.mem_map.mpr ⟨b, hb, rfl⟩
          exact RepD.dp w.sub (all3 b hb) (okq_ok (ok'.1.1 _ hm2)).1
        · rw [m2]; exact ok
        · rw [e2]; exact all3 _ mf
    · cases hz
  · cases hz
theorem ge_minDat (hc : X.calm = true) (hu : X.A.units + 64 < cLine) (hm : X.mg "min" = none) (ha : GAO K mg r X O E [e] ts ms) (hg : Gl X "min" := by rfl) (he : starEach [e] X.env = (false, eval e X.env) :: starEach [] X.env := by rfl) (hpl : (backTo pos (starEach [] X.env)).any (·.1) = false := by rfl) (hK : X.K = K := by rfl) : GE K mg r X O E (.Call (.Name "min" p) [e] [] pos) (tCB (rMinDat K) ts) (callB minDD ms) := by
  subst hK; exact ge_callB (R := rMinDat X.K) (cr_minDat hc hu) cs_minDat hm ha hg (by decide +kernel) (by decide) (by decide) he hpl
end
end G
set_option maxHeartbeats 1000000
namespace G
open PySem PySem.Spec PyProof.Rows L2
end G
set_option maxHeartbeats 1000000
namespace G
open PySem PySem.Spec PyProof.Rows L2
section
variable {r : Addr} {X : Cx} {K : PySem.W.Frag} {mg : Str → Option Value} {O : List Nat} {E : XK} {a : Expr} {ta : TE} {p pos apos mpos : Pos}
def tMaxVals (td : TE) : TE := fun σ H Q => td σ H fun x H1 => ∃ (a : Addr) (kvs : List (List Key × V)) (ns : List Int), x = .ref a ∧ Rd H1 a (.dT kvs) ∧ kvs.map (·.2) = ns.map V.int ∧ 0 < ns.length ∧ ∀ m, m ∈ ns → (∀ y, y ∈ ns → y ≤ m) → Q (.int m) H1
theorem pe_maxVals (hc : X.calm = true) (hg : Gl X "max") (hm : X.mg "max" = none) (hd : PE X a ta) (hbase : attributeBase a "values" X.env (eval a X.env) = eval a X.env := by rfl) (hline : (apos.endLine == mpos.line) = true := by rfl)
    (hse : starEach [Expr.Call (.Attribute a "values" apos) [] [] mpos] X.env = [(false, eval (Expr.Call (.Attribute a "values" apos) [] [] mpos) X.env)] := by rfl) :
    PE X (.Call (.Name "max" p) [.Call (.Attribute a "values" apos) [] [] mpos] [] pos) (tMaxVals ta) := by
  refine ⟨fun pins s σ H Q I h => ?_⟩
  refine wpAny_Call_Name_kw (ld_blt I hg hm (u := .builtin "max") (by first | rfl | decide +kernel) ?_ (by first | decide +kernel | decide) (by first | decide +kernel | decide))
  rw [hse]
  refine PySem.callWith_builtin1 (wpAny_Call_method0_late hbase hline (thn (hd.run pins s σ H _ I h) fun v s1 ⟨x, H1, I1, r1, a, kvs, ns, ex, ha, hv, hne, q⟩ => ?_))
  subst ex
  obtain rfl : v = Value.ref a := r1
  obtain ⟨hz, hsys, xs, pr, o, es, ep, ho, hex, hdat, he, hnd⟩ := (show ObjOk X.prog X.w H1 s1.heap a (.dT kvs) from ha.ok I1.hok)
  have l1 : es.size = xs.length := size_of_entries he
  have l2 : kvs.length = xs.length := Paired.length pr
  have raw : s1.heap.DictRaw a es ep := ⟨o, ho, hex, hdat⟩
  have hkn : kvs.length = ns.length := by have := congrArg List.length hv; rwa [List.length_map, List.length_map] at this
  have hn : es.size = ns.length := by omega
  refine ⟨"dict", "dict.values", F.plainAttrs_dict, F.slot_dict_values, F.type_dict_values, ⟨o, ho, hex.1⟩, fun b e => ?_, Calls.callWith_builtin rfl (PySem.evalArgs_none ?_)⟩
  · cases e
    exact ⟨o, ho, hex.2.1⟩
  refine call_meetsIn F.slot_dict_values ⟨o, ho, hex.1⟩ F.entry_dict_values (F.args_dict_values_1 _) (meets_dict_values_raw a hsys) ⟨⟨es, ep, raw⟩, ?_⟩
  have k1 : ∀ b u, s1.heap.get? b = some u → (s1.heap.push { cls := .type "dict_values", data := .fields #[.ref a] }).get? b = some u := fun b u e => Heap.get?_push_of_some _ e
  have raw1 : (s1.heap.push { cls := .type "dict_values", data := .fields #[.ref a] }).DictRaw a es ep := raw.at fun o e => k1 _ o e
  have hval : ∀ (i : Nat) (v : Value), (∃ hi : i < es.size, v = es[i].val) → ∃ t, v = Value.int (ns.getD i 0) t := fun i v ⟨hi, e⟩ => by
    have hi2 : i < kvs.length := by omega
    have hi3 : i < ns.length := by omega
    obtain ⟨b, hb, e1, e2, e3⟩ := paired_get pr (show kvs[i]? = some (kvs[i].1, kvs[i].2) from List.getElem?_eq_getElem hi2)
    have q := entry_at he i
    rw [hb, Array.getElem?_eq_getElem hi] at q
    have q := Option.some.inj q
    have ev : es[i].val = b.2.2 := by rw [q]; rfl
    have e4 : kvs[i].2 = V.int ns[i] := by
      have z : (kvs.map (·.2))[i]? = (ns.map V.int)[i]? := by rw [hv]
      rw [List.getElem?_map, List.getElem?_map, List.getElem?_eq_getElem hi2, List.getElem?_eq_getElem hi3] at z
      exact Option.some.inj z
    have hr : RelV kvs[i].2 b.2.2 := e3
    rw [e4] at hr
    obtain ⟨t, ht⟩ : ∃ t, b.2.2 = Value.int ns[i] t := hr
    have e5 : ns.getD i 0 = ns[i] := by rw [List.getD_eq_getElem?_getD, List.getElem?_eq_getElem hi3] <;> rfl
    exact ⟨t, by rw [e, ev, ht, e5]⟩
  have hlt : a < s1.heap.objs.size := Heap.lt_size ho
  have hsz : (s1.heap.push { cls := .type "dict_values", data := .fields #[.ref a] }).objs.size = s1.heap.objs.size + 1 := Heap.size_push _ _
  refine call_max_walk (wpAny_pyIter_values_raw (v := s1.heap.objs.size) (d := a) ⟨_, Heap.get?_push_size _ rfl, rfl, rfl⟩ raw1 ?_)
  refine ⟨(s1.heap.push { cls := .type "dict_values", data := .fields #[.ref a] }).objs.size, [(s1.heap.push { cls := .type "dict_values", data := .fields #[.ref a] }).objs.size, a], [(s1.heap.push { cls := .type "dict_values", data := .fields #[.ref a] }).objs.size], es.size, fun i v => ∃ t, v = .int (ns.getD i 0) t, _, fun i j => decide (ns.getD i 0 > ns.getD j 0), rfl,
    (Walks.rawValues (show X.A.in1.handled = none from I.ok.hd hc) _ a (by rw [hsz]; exact Nat.ne_of_lt (Nat.lt_succ_of_lt hlt)) es ep).mono_item fun i v hi h1 => hval i v h1, ⟨⟨_, Heap.get?_push_size _ rfl, rfl, rfl⟩, raw1.push _⟩, fun b hb => ?_, by omega, CmpOf.ints_gt (fun i => ns.getD i 0) (fun i v z => z), fun v h' tk hv' hk => ?_⟩
  · show b < ((s1.heap.push _).push _).objs.size
    rw [Heap.size_push]
    rcases List.mem_cons.mp hb with z | z
    · rw [z]
      exact Nat.lt_succ_self _
    · rw [List.mem_singleton.mp z, hsz]
      exact Nat.lt_succ_of_lt (Nat.lt_succ_of_lt hlt)
  · obtain ⟨t, rfl⟩ := hv'
    obtain ⟨m1', m2'⟩ := argBest_gt (fun i => ns.getD i 0) (es.size - 1)
    have m1 : argBest (fun i j => decide (ns.getD i 0 > ns.getD j 0)) (es.size - 1) ≤ es.size - 1 := m1'
    have m2 : ∀ j, j ≤ es.size - 1 → ns.getD j 0 ≤ ns.getD (argBest (fun i j => decide (ns.getD i 0 > ns.getD j 0)) (es.size - 1)) 0 := m2'
    have hk2 : ∀ b o, s1.heap.get? b = some o → h'.get? b = some o := fun b o e => hk b o (fun z => by
      have lt : b < s1.heap.objs.size := Heap.lt_size e
      have eb : b = s1.heap.objs.size + 1 := (List.mem_singleton.mp z).trans hsz
      exact absurd lt (by rw [eb]; exact Nat.not_lt.mpr (Nat.le_succ _))) (Heap.get?_push_of_some _ (k1 b o e))
    refine ⟨.int _, H1, I1.kept (t' := tk) hk2, ⟨t, rfl⟩, q _ (PySem.getD_mem (by omega)) fun y hy => ?_⟩
    obtain ⟨j, hj, e⟩ := List.mem_iff_getElem.mp hy
    have z := m2 j (by omega)
    have e3 : ns.getD j 0 = y := by rw [List.getD_eq_getElem?_getD, List.getElem?_eq_getElem hj, ← e] <;> rfl
    rw [e3] at z
    exact z
def maxVD : D → Option D
  | .dct kvs => (unI (kvs.map (·.2))).bind fun ns => ns.max?.map .int
  | _ => none
def maxVE (m : SE D) : SE D := fun env tp => (m env tp).bind fun d tp1 => RE.of (maxVD d) tp1
theorem ge_maxVals {m : SE D} (hc : X.calm = true) (hm : X.mg "max" = none) (h : GO K mg r X O E a ta m) (hg : Gl X "max" := by rfl) (hbase : attributeBase a "values" X.env (eval a X.env) = eval a X.env := by rfl) (hline : (apos.endLine == mpos.line) = true := by rfl)
    (hse : starEach [Expr.Call (.Attribute a "values" apos) [] [] mpos] X.env = [(false, eval (Expr.Call (.Attribute a "values" apos) [] [] mpos) X.env)] := by rfl) :
    GE K mg r X O E (.Call (.Name "max" p) [.Call (.Attribute a "values" apos) [] [] mpos] [] pos) (tMaxVals ta) (maxVE m) := by
  refine ⟨pe_maxVals hc hg hm h.pe hbase hline hse, fun Hs0 H0 Hs H σ env tp Q R P => ?_⟩
  refine h.snd _ _ _ _ _ _ _ _ R (Post.bind P fun v Hs1 H1 d tp1 _ g w rv P1 => ?_)
  obtain ⟨z, hz, k⟩ := Post.ok_of P1
  unfold maxVD at hz
  split at hz
  · rename_i ds _
    obtain ⟨ns, h1, h2⟩ := Option.bind_eq_some_iff.mp hz
    obtain ⟨m, h3, rfl⟩ := Option.map_eq_some_iff.mp h2
    obtain ⟨m1, m2⟩ := List.max?_eq_some_iff.mp h3
    obtain ⟨a, kvs, e0, e1, e2⟩ := repT_dct w rv
    have e3 := RepP.vals e2
    rw [unI_ok h1, List.map_map] at e3
    refine ⟨a, kvs, ns, e0, e1, RepDs.ints_of e3, List.length_pos_of_mem m1, fun m' a b => ?_⟩
    have : m' = m := Int.le_antisymm (m2 m' a) (b m m1)
    rw [this]
    exact k _ Hs1 H1 (Grow.refl _ _) w (.int _)
  · cases hz
end
end G
set_option maxHeartbeats 1000000
namespace G
open PySem PySem.Spec PyProof.Rows L2
def maxFold {α : Type} (f : α → PyData) (x : α) (xs : List α) : α := xs.foldl (fun a y => if ltPd (f a) (f y) = true then y else a) x
def maxDD : List D → Option D
  | [.lst (d :: ds)] => if minOk (d :: ds) then some (maxFold D.pd d ds) else none
  | _ => none
theorem maxFold_map {α β : Type} {f : α → PyData} {g : β → PyData} {u : α → β} (h : ∀ a, g (u a) = f a) (x : α) (xs : List α) : maxFold g (u x) (xs.map u) = u (maxFold f x xs) := by
  unfold maxFold
  induction xs generalizing x with
  | nil => rfl
  | cons y ys ih =>
    rw [List.map_cons, List.foldl_cons, List.foldl_cons, h, h]
    by_cases c : ltPd (f x) (f y) = true
    · rw [if_pos c, if_pos c]; exact ih y
    · rw [if_neg c, if_neg c]; exact ih x
def rMaxDat (K : PySem.W.Frag) : List V → Hp → VK → Prop := fun vs H Q => ∃ (a : Addr) (b : V × D) (bs : List (V × D)), vs = [V.ref a] ∧ SqL K H a ((b :: bs).map (·.1)) ∧ (∀ c ∈ b :: bs, Dp K H c.1 c.2.pd) ∧ minOk ((b :: bs).map (·.2)) = true ∧
  Q (maxFold (fun c : V × D => c.2.pd) b bs).1 H
section
variable {X : Cx}
theorem cr_maxDat (hc : X.calm = true) (hu : X.A.units + 64 < cLine) : CallR X (.builtin "max") (rMaxDat X.K) := by
  intro pins s σ H vs us Q I r h
  obtain ⟨a, b, bs, rfl, hs, hd, ok, q⟩ := h
  obtain ⟨its, rv, hl, hz⟩ := I.list hs
  obtain ⟨u, rfl, ru⟩ := vals1 r
  obtain rfl : u = Value.ref a := ru
  unfold minOk at ok
  simp only [Bool.and_eq_true, Bool.or_eq_true, List.all_eq_true] at ok
  obtain ⟨⟨ok1, ok2⟩, ok3⟩ := ok
  have mem2 : ∀ c ∈ b :: bs, c.2 ∈ (b :: bs).map (·.2) := fun c hc => List.mem_map.mpr ⟨c, hc, rfl⟩
  have e := each_vals rv
  have er : PySem.W.EachIs (fun v (b : V × D) => ∃ as, Reads s.heap v b.2.pd as) its (b :: bs) := each_and e fun c hc u ru => Dp.reads I c.2.pd c.1 u (hd c hc) ru
  obtain ⟨as, hr⟩ := reads_each er
  have hn : its.length = bs.length + 1 := by have := rv.length; rw [List.length_map] at this; exact this.symm
  have hal : PySem.W.AlikeAll ((b :: bs).map fun b => b.2.pd) := by
    refine ⟨fun x hx y hy => ?_, fun x hx => ?_⟩
    · obtain ⟨c, hc, rfl⟩ := List.mem_map.mp hx
      obtain ⟨c', hc', rfl⟩ := List.mem_map.mp hy
      exact ok2 _ (mem2 c hc) _ (mem2 c' hc')
    · obtain ⟨c, hc, rfl⟩ := List.mem_map.mp hx
      exact nonPd_ok (by simpa using ok3 _ (mem2 c hc))
  have hdep : ∀ cs : List (V × D), (∀ c ∈ cs, c.2.pd.depth ≤ 60) → PyData.depthAll (cs.map fun b => b.2.pd) ≤ 60 := fun cs => by
    induction cs with
    | nil => exact fun _ => Nat.zero_le _
    | cons c cs ih => exact fun h => Nat.max_le.mpr ⟨h c List.mem_cons_self, ih fun d hd => h d (List.mem_cons_of_mem _ hd)⟩
  have hd60 : PyData.depthAll ((b :: bs).map fun b => b.2.pd) ≤ 60 := hdep _ fun c hc => by
    have := (okq_ok (ok1 _ (mem2 c hc))).2
    omega
  refine PySem.call_max_walkH (PySem.W.iter_listW (A := X.A.in1) (show X.A.in1.handled = none from I.ok.hd hc) hl.isList fun s₂ e2 W st hfp hw hk => ?_)
  refine ⟨_, _, _, _, _, _, _, s.heap, _, rfl, W, st, hfp, by rw [List.size_toArray]; omega, hw, hk, PySem.W.cmpIn_gt (A := X.A.in1) (vs := its.toArray) hr hal (by show X.A.units + 1 + _ < _; omega), fun v s' hP m => ?_⟩
  obtain ⟨h', tk, rfl, hk'⟩ := PySem.W.moved_old e2 rfl m
  have e1 : its.toArray.size - 1 = bs.length := by rw [List.size_toArray]; omega
  rw [e1] at hP
  have fe : (fun i j => PySem.W.dataLt (((b :: bs).map fun b => b.2.pd).getD j .none) (((b :: bs).map fun b => b.2.pd).getD i .none)) = fun i j => (fun x y : V × D => ltPd y.2.pd x.2.pd) ((b :: bs).getD i (.non, .non)) ((b :: bs).getD j (.non, .non)) := by
    funext i j
    have gd : ∀ k, ((b :: bs).map fun b => b.2.pd).getD k .none = ((b :: bs).getD k (.non, .non)).2.pd := fun k => by
      rw [List.getD_eq_getElem?_getD, List.getD_eq_getElem?_getD, List.getElem?_map]
      cases (b :: bs)[k]? <;> rfl
    show PySem.W.dataLt _ _ = PySem.W.dataLt _ _
    rw [gd, gd]
  obtain ⟨f1, f2⟩ := PySem.W.argBest_fold (fun x y : V × D => ltPd y.2.pd x.2.pd) (.non, .non) b bs bs.length (Nat.le_refl _)
  rw [List.take_length] at f2
  rw [fe] at hP
  generalize hix : argBest _ bs.length = ix at hP f1 f2
  have hi2 : ix < (b :: bs).length := by rw [List.length_cons]; omega
  have ev : ((b :: bs).map (·.1))[ix]? = some (maxFold (fun c : V × D => c.2.pd) b bs).1 := by
    rw [List.getElem?_map, List.getElem?_eq_getElem hi2]
    have : (b :: bs).getD ix (.non, .non) = (b :: bs)[ix] := by rw [List.getD_eq_getElem?_getD, List.getElem?_eq_getElem hi2]; rfl
    rw [← this, f2]; rfl
  obtain ⟨u, hu, ru⟩ := rv.get ev
  have hP : its.toArray[ix]? = some v := hP
  rw [List.getElem?_toArray, hu] at hP
  cases hP
  exact ⟨_, H, I.kept (t' := tk) hk', ru, q⟩
end
section
variable {r : Addr} {X : Cx} {K : PySem.W.Frag} {mg : Str → Option Value} {O On Ol : List Nat} {E : XK} {e a c : Expr} {ts : TA} {ta : TE} {tt : TT} {p pos : Pos} {ms : SE (List D)}
theorem cs_maxDat : CallS K mg r (rMaxDat K) maxDD := by
  intro Hs H tp xs ds z Q w rx hz k
  unfold maxDD at hz
  split at hz
  · rename_i d0 ds0
    split at hz
    · rename_i ok
      cases hz
      obtain ⟨x, rfl, h⟩ := paired1 rx
      obtain ⟨p, vs, rfl, h6, h7⟩ := repT_lst w h
      cases h7 with
      | cons h8 h9 =>
        rename_i v0 vs0
        obtain ⟨z1, z2, z3⟩ := reps_zip h9
        have ok' := ok
        unfold minOk at ok'
        simp only [Bool.and_eq_true, List.all_eq_true] at ok'
        have all3 : ∀ b ∈ (v0, d0) :: vs0.zip ds0, RepD K mg r Hs b.1 b.2 := fun b hb => by
          rcases List.mem_cons.mp hb with e | e
          · rw [e]; exact h8
          · exact z3 b e
        have m2 : ((v0, d0) :: vs0.zip ds0).map (·.2) = d0 :: ds0 := by rw [List.map_cons, z2]
        have m1 : ((v0, d0) :: vs0.zip ds0).map (·.1) = v0 :: vs0 := by rw [List.map_cons, z1]
        have mf : (maxFold (fun c : V × D => c.2.pd) (v0, d0) (vs0.zip ds0)) ∈ (v0, d0) :: vs0.zip ds0 := by
          have : ∀ (l : List (V × D)) (x : V × D), maxFold (fun c : V × D => c.2.pd) x l = x ∨ maxFold (fun c : V × D => c.2.pd) x l ∈ l := fun l => by
            induction l with
            | nil => exact fun x => .inl rfl
            | cons y l ih =>
              intro x
              show maxFold _ (if _ then y else x) l = x ∨ maxFold _ (if _ then y else x) l ∈ _
              split
              · rcases ih y with e | e
                · exact .inr (by rw [e]; exact List.mem_cons_self)
                · exact .inr (List.mem_cons_of_mem _ e)
              · rcases ih x with e | e
                · exact .inl e
                · exact .inr (List.mem_cons_of_mem _ e)
          rcases this (vs0.zip ds0) (v0, d0) with e | e
          · rw [e]; exact List.mem_cons_self
          · exact List.mem_cons_of_mem _ e
        have e2 : maxFold D.pd d0 ds0 = (maxFold (fun c : V × D => c.2.pd) (v0, d0) (vs0.zip ds0)).2 := by
          conv => lhs; rw [← z2]
          exact maxFold_map (u := fun c : V × D => c.2) (fun _ => rfl) (v0, d0) _
        refine ⟨p, (v0, d0), vs0.zip ds0, rfl, ?_, fun b hb => ?_, ?_, k _ _ _ (Grow.refl _ _) w ?_⟩
        · rw [m1]; exact .of h6
        · have hm2 : b.2 ∈ d0 :: ds0 := by rw [← m2]; exact List.mem_map.mpr ⟨b, hb, rfl⟩
          exact RepD.dp w.sub (all3 b hb) (okq_ok (ok'.1.1 _ hm2)).1
        · rw [m2]; exact ok
        · rw [e2]; exact all3 _ mf
    · cases hz
  · cases hz
theorem ge_maxDat (hc : X.calm = true) (hu : X.A.units + 64 < cLine) (hm : X.mg "max" = none) (ha : GAO K mg r X O E [e] ts ms) (hg : Gl X "max" := by rfl) (he : starEach [e] X.env = (false, eval e X.env) :: starEach [] X.env := by rfl) (hpl : (backTo pos (starEach [] X.env)).any (·.1) = false := by rfl) (hK : X.K = K := by rfl) : GE K mg r X O E (.Call (.Name "max" p) [e] [] pos) (tCB (rMaxDat K) ts) (callB maxDD ms) := by
  subst hK; exact ge_callB (R := rMaxDat X.K) (cr_maxDat hc hu) cs_maxDat hm ha hg (by decide +kernel) (by decide) (by decide) he hpl
end
end G
set_option maxHeartbeats 1000000
namespace G
open PySem PySem.Spec PyProof.Rows L2
section
variable {r : Addr} {X : Cx} {K : PySem.W.Frag} {mg : Str → Option Value} {O : List Nat} {E : XK} {a : Expr} {ta : TE} {p pos apos mpos : Pos}
def tSumValsT (td : TE) : TE := fun σ H Q => td σ H fun x H1 => ∃ (a : Addr) (kvs : List (List Key × V)) (ns : List Int), x = .ref a ∧ Rd H1 a (.dT kvs) ∧ kvs.map (·.2) = ns.map V.int ∧ Q (.int ns.sum) H1
theorem pe_sumValsT (hc : X.calm = true) (hg : Gl X "sum") (hm : X.mg "sum" = none) (hd : PE X a ta) (hbase : attributeBase a "values" X.env (eval a X.env) = eval a X.env := by rfl) (hline : (apos.endLine == mpos.line) = true := by rfl)
    (hse : starEach [Expr.Call (.Attribute a "values" apos) [] [] mpos] X.env = [(false, eval (Expr.Call (.Attribute a "values" apos) [] [] mpos) X.env)] := by rfl) :
    PE X (.Call (.Name "sum" p) [.Call (.Attribute a "values" apos) [] [] mpos] [] pos) (tSumValsT ta) := by
  refine ⟨fun pins s σ H Q I h => ?_⟩
  refine wpAny_Call_Name_kw (ld_blt I hg hm (u := .builtin "sum") (by first | rfl | decide +kernel) ?_ (by first | decide +kernel | decide) (by first | decide +kernel | decide))
  rw [hse]
  refine PySem.callWith_builtin1 (wpAny_Call_method0_late hbase hline (thn (hd.run pins s σ H _ I h) fun v s1 ⟨x, H1, I1, r1, a, kvs, ns, ex, ha, hv, q⟩ => ?_))
  subst ex
  obtain rfl : v = Value.ref a := r1
  obtain ⟨hz, hsys, xs, pr, o, es, ep, ho, hex, hdat, he, hnd⟩ := (show ObjOk X.prog X.w H1 s1.heap a (.dT kvs) from ha.ok I1.hok)
  have l1 : es.size = xs.length := size_of_entries he
  have l2 : kvs.length = xs.length := Paired.length pr
  have raw : s1.heap.DictRaw a es ep := ⟨o, ho, hex, hdat⟩
  have hkn : kvs.length = ns.length := by have := congrArg List.length hv; rwa [List.length_map, List.length_map] at this
  have hn : es.size = ns.length := by omega
  refine ⟨"dict", "dict.values", F.plainAttrs_dict, F.slot_dict_values, F.type_dict_values, ⟨o, ho, hex.1⟩, fun b e => ?_, Calls.callWith_builtin rfl (PySem.evalArgs_none ?_)⟩
  · cases e
    exact ⟨o, ho, hex.2.1⟩
  refine call_meetsIn F.slot_dict_values ⟨o, ho, hex.1⟩ F.entry_dict_values (F.args_dict_values_1 _) (meets_dict_values_raw a hsys) ⟨⟨es, ep, raw⟩, ?_⟩
  have k1 : ∀ b u, s1.heap.get? b = some u → (s1.heap.push { cls := .type "dict_values", data := .fields #[.ref a] }).get? b = some u := fun b u e => Heap.get?_push_of_some _ e
  have raw1 : (s1.heap.push { cls := .type "dict_values", data := .fields #[.ref a] }).DictRaw a es ep := raw.at fun o e => k1 _ o e
  have hval : ∀ (i : Nat) (v : Value), (∃ hi : i < es.size, v = es[i].val) → ∃ t, v = Value.int (ns.getD i 0) t := fun i v ⟨hi, e⟩ => by
    have hi2 : i < kvs.length := by omega
    have hi3 : i < ns.length := by omega
    obtain ⟨b, hb, e1, e2, e3⟩ := paired_get pr (show kvs[i]? = some (kvs[i].1, kvs[i].2) from List.getElem?_eq_getElem hi2)
    have q := entry_at he i
    rw [hb, Array.getElem?_eq_getElem hi] at q
    have q := Option.some.inj q
    have ev : es[i].val = b.2.2 := by rw [q]; rfl
    have e4 : kvs[i].2 = V.int ns[i] := by
      have z : (kvs.map (·.2))[i]? = (ns.map V.int)[i]? := by rw [hv]
      rw [List.getElem?_map, List.getElem?_map, List.getElem?_eq_getElem hi2, List.getElem?_eq_getElem hi3] at z
      exact Option.some.inj z
    have hr : RelV kvs[i].2 b.2.2 := e3
    rw [e4] at hr
    obtain ⟨t, ht⟩ : ∃ t, b.2.2 = Value.int ns[i] t := hr
    have e5 : ns.getD i 0 = ns[i] := by rw [List.getD_eq_getElem?_getD, List.getElem?_eq_getElem hi3] <;> rfl
    exact ⟨t, by rw [e, ev, ht, e5]⟩
  have hlt : a < s1.heap.objs.size := Heap.lt_size ho
  have hsz : (s1.heap.push { cls := .type "dict_values", data := .fields #[.ref a] }).objs.size = s1.heap.objs.size + 1 := Heap.size_push _ _
  refine call_sum_walkAnyS (wpAny_pyIter_values_raw (v := s1.heap.objs.size) (d := a) ⟨_, Heap.get?_push_size _ rfl, rfl, rfl⟩ raw1 ?_)
  refine ⟨_, _, _, _, _, _, _, fun i => ns.getD i 0, rfl, (Walks.rawValues (A := X.A.in1) (show X.A.in1.handled = none from I.ok.hd hc) (s1.heap.push { cls := .type "dict_values", data := .fields #[.ref a] }).objs.size a (by rw [hsz]; exact Nat.ne_of_lt (Nat.lt_succ_of_lt hlt)) es ep).toS,
    ⟨⟨_, Heap.get?_push_size _ rfl, rfl, rfl⟩, raw1.push _⟩, fun b hb => ?_, hval, fun s' t' hm => ?_⟩
  · show b < ((s1.heap.push _).push _).objs.size
    rw [Heap.size_push, Heap.size_push]
    rw [hsz] at hb
    rcases List.mem_cons.mp hb with e | hb
    · rw [e]
      exact Nat.lt_succ_self _
    · have e : b = a := List.mem_singleton.mp hb
      rw [e]
      exact Nat.lt_succ_of_lt (Nat.lt_succ_of_lt hlt)
  · rw [Moved.eq_with hm, hn, preSum_list]
    refine ⟨.int _, H1, I1.kept (t' := s'.toks) fun b u e => hm.heap b u (fun hmem => ?_) (Heap.get?_push_of_some _ (k1 b u e)), ⟨t', rfl⟩, q⟩
    have e1 : b = (s1.heap.push { cls := .type "dict_values", data := .fields #[.ref a] }).objs.size := List.mem_singleton.mp hmem
    have e2 := Heap.lt_size e
    rw [hsz] at e1
    rw [e1] at e2
    exact absurd e2 (Nat.not_lt.mpr (Nat.le_succ _))
def sumVTD : D → Option D
  | .dct kvs => (unI (kvs.map (·.2))).map fun ns => .int ns.sum
  | _ => none
def sumVTE (m : SE D) : SE D := fun env tp => (m env tp).bind fun d tp1 => RE.of (sumVTD d) tp1
theorem ge_sumValsT {m : SE D} (hc : X.calm = true) (hm : X.mg "sum" = none) (h : GO K mg r X O E a ta m) (hg : Gl X "sum" := by rfl) (hbase : attributeBase a "values" X.env (eval a X.env) = eval a X.env := by rfl) (hline : (apos.endLine == mpos.line) = true := by rfl)
    (hse : starEach [Expr.Call (.Attribute a "values" apos) [] [] mpos] X.env = [(false, eval (Expr.Call (.Attribute a "values" apos) [] [] mpos) X.env)] := by rfl) :
    GE K mg r X O E (.Call (.Name "sum" p) [.Call (.Attribute a "values" apos) [] [] mpos] [] pos) (tSumValsT ta) (sumVTE m) := by
  refine ⟨pe_sumValsT hc hg hm h.pe hbase hline hse, fun Hs0 H0 Hs H σ env tp Q R P => ?_⟩
  refine h.snd _ _ _ _ _ _ _ _ R (Post.bind P fun v Hs1 H1 d tp1 _ g w rv P1 => ?_)
  obtain ⟨z, hz, k⟩ := Post.ok_of P1
  unfold sumVTD at hz
  split at hz
  · rename_i ds _
    obtain ⟨ns, h1, rfl⟩ := Option.map_eq_some_iff.mp hz
    obtain ⟨a, kvs, e0, e1, e2⟩ := repT_dct w rv
    have e3 := RepP.vals e2
    rw [unI_ok h1, List.map_map] at e3
    exact ⟨a, kvs, ns, e0, e1, RepDs.ints_of e3, k _ Hs1 H1 (Grow.refl _ _) w (.int _)⟩
  · cases hz
end
end G
set_option maxHeartbeats 1000000
namespace G
open PySem L2
theorem compL_pure {f : D → List D → RE (Option D)} {g : D → Option D} {tp : List D} : ∀ {items : List D}, (∀ d ∈ items, f d tp = .ok (g d) tp) → compL f items tp = .ok (items.filterMap g) tp
  | [], _ => rfl
  | d :: ds, h => by
    unfold compL
    rw [h d List.mem_cons_self]
    simp only
    rw [compL_pure fun d' hd => h d' (List.mem_cons_of_mem _ hd)]
    simp only [List.filterMap_cons]
    cases g d <;> rfl
theorem fm_if {b : D → Bool} {g : D → D} : ∀ items : List D, (items.filterMap fun d => if b d = true then some (g d) else none) = (items.filter b).map g
  | [] => rfl
  | d :: ds => by
    rw [List.filterMap_cons, List.filter_cons, fm_if ds]
    by_cases q : b d = true
    · simp [q]
    · simp [q]
theorem compE_filter {mi : SE (List D)} {vs : List Nat} {i : Nat} {c : SE Bool} {m : SE D} {env : DEnv} {tp tp1 : List D} {items : List D} {b : D → Bool} {g : D → D} (h1 : mi env tp = .ok items tp1) (hl : items.length ≤ sizeLine)
    (hc : ∀ d ∈ items, c ((wipeE env vs).set i (some d)) tp1 = .ok (b d) tp1) (h : ∀ d ∈ items, b d = true → m ((wipeE env vs).set i (some d)) tp1 = .ok (g d) tp1) : compE mi vs t1 [i] c m env tp = .ok (.lst ((items.filter b).map g)) tp1 := by
  unfold compE
  rw [h1]
  simp only [RE.bind_ok]
  rw [if_pos hl, compL_pure (g := fun d => if b d = true then some (g d) else none)]
  · rw [fm_if]
  · intro d hd
    unfold compTurn1 t1
    simp only [setAll]
    rw [hc d hd]
    simp only [RE.bind_ok]
    by_cases q : b d = true
    · rw [if_pos q, if_pos q, h d hd q]; rfl
    · rw [if_neg q, if_neg q]
/-- with draws: T holds of the tape -/
theorem compL_eff {T : List D → Prop} {R : D → D → Prop} {f : D → List D → RE (Option D)} : ∀ {items : List D} {tp : List D}, T tp → (∀ d ∈ items, ∀ tp, T tp → ∃ x tp', f d tp = .ok (some x) tp' ∧ T tp' ∧ R d x) → ∃ xs tp', compL f items tp = .ok xs tp' ∧ T tp' ∧ Paired R items xs
  | [], tp, ht, _ => ⟨[], tp, rfl, ht, .nil⟩
  | d :: ds, tp, ht, h => by
    obtain ⟨x, tp1, e1, t1, r1⟩ := h d List.mem_cons_self tp ht
    obtain ⟨xs, tp2, e2, t2, r2⟩ := compL_eff (items := ds) t1 fun d' hd => h d' (List.mem_cons_of_mem _ hd)
    refine ⟨x :: xs, tp2, ?_, t2, .cons r1 r2⟩
    unfold compL
    rw [e1]
    simp only
    rw [e2]
    rfl
theorem compE_eff {T : List D → Prop} {R : D → D → Prop} {mi : SE (List D)} {vs : List Nat} {i : Nat} {m : SE D} {env : DEnv} {tp tp1 : List D} {items : List D} (h1 : mi env tp = .ok items tp1) (ht : T tp1) (hl : items.length ≤ sizeLine)
    (h : ∀ d ∈ items, ∀ tp, T tp → ∃ x tp', m ((wipeE env vs).set i (some d)) tp = .ok x tp' ∧ T tp' ∧ R d x) : ∃ xs tp', compE mi vs t1 [i] yesT m env tp = .ok (.lst xs) tp' ∧ T tp' ∧ Paired R items xs := by
  obtain ⟨xs, tp', e, t, r⟩ := compL_eff (f := compTurn1 t1 [i] yesT m (wipeE env vs)) (items := items) ht (R := R) fun d hd tp ht => by
    obtain ⟨x, tp', e, t, r⟩ := h d hd tp ht
    refine ⟨x, tp', ?_, t, r⟩
    unfold compTurn1 t1
    simp only [setAll]
    unfold yesT
    simp only [RE.bind_ok, if_true]
    rw [e]
    rfl
  refine ⟨xs, tp', ?_, t, r⟩
  unfold compE
  rw [h1]
  simp only [RE.bind_ok]
  rw [if_pos hl, e]
/-- a loop by its invariant -/
theorem forL_inv {i : Nat} {body : SS} (I : Nat → DEnv → List D → Prop) : ∀ {items : List D} {env : DEnv} {tp : List D} (k : Nat), I k env tp → (∀ j d env tp, items[j]? = some d → I (k + j) env tp → ∃ env' tp', body (env.set i (some d)) tp = .nx env' tp' ∧ I (k + j + 1) env' tp') →
    ∃ env' tp', forL t1 [i] body items env tp = .nx env' tp' ∧ I (k + items.length) env' tp'
  | [], env, tp, k, h0, _ => ⟨env, tp, rfl, h0⟩
  | d :: ds, env, tp, k, h0, h => by
    obtain ⟨e1, tp1, q1, i1⟩ := h 0 d env tp rfl h0
    obtain ⟨e2, tp2, q2, i2⟩ := forL_inv I (items := ds) (k + 1) i1 fun j d' env tp hj hi => by
      have e : k + 1 + j = k + (j + 1) := by omega
      rw [e] at hi ⊢
      exact h (j + 1) d' env tp (by simpa using hj) hi
    refine ⟨e2, tp2, ?_, by rw [List.length_cons]; have e : k + (ds.length + 1) = k + 1 + ds.length := by omega
                            rw [e]; exact i2⟩
    unfold forL t1
    simp only [setAll]
    rw [q1]
    exact q2
abbrev Row := List Bool
abbrev Pic := List Row
def sg (b : Bool) : Nat := if b then 35 else 46
def rowS (r : Row) : Str := ⟨(r.map sg).toArray⟩
def picD (p : Pic) : D := .tup (p.map fun r => .str (rowS r))
structure PicOk (h w : Nat) (p : Pic) : Prop where
  len : p.length = h
  row : ∀ r ∈ p, r.length = w
  h1 : 1 ≤ h
  h30 : h ≤ 30
  w1 : 1 ≤ w
  w30 : w ≤ 30
theorem rowS_len (r : Row) : (rowS r).length = r.length := by
  show ((r.map sg).toArray).size = _
  rw [List.size_toArray, List.length_map]
theorem rowS_app (a b : Row) : rowS a ++ rowS b = rowS (a ++ b) := by
  show (⟨(a.map sg).toArray ++ (b.map sg).toArray⟩ : Str) = _
  unfold rowS
  rw [List.map_append, List.append_toArray]
theorem rowS_inj {a b : Row} (h : rowS a = rowS b) : a = b := by
  have h1 : (a.map sg).toArray = (b.map sg).toArray := congrArg Str.cps h
  have h2 : a.map sg = b.map sg := by
    have := congrArg Array.toList h1
    simpa using this
  have hs : ∀ x y, sg x = sg y → x = y := by decide
  exact List.map_inj_right (fun x y => hs x y) |>.mp h2
theorem str_black : ("#" : Str) = rowS [true] := by decide +kernel
theorem str_white : ("." : Str) = rowS [false] := by decide +kernel
theorem str_empty : ("" : Str) = rowS [] := by decide +kernel
theorem row_toList (r : Row) : (rowS r).cps.toList = r.map sg := by
  show ((r.map sg).toArray).toList = _
  simp
theorem row_cut (r : Row) (lo hi : Option Int) : cutS (rowS r) lo hi = rowS (cutD r lo hi) := by
  unfold cutS cutD
  rw [row_toList, rowS_len]
  unfold rowS
  rw [List.map_take, List.map_drop]
theorem atI_nat' {α : Type} (xs : List α) (j : Nat) : atI xs (j : Int) = xs[j]? := by
  unfold atI ixN
  rw [if_pos (by omega)]
  by_cases h : (j : Int) < xs.length
  · rw [if_pos h]; rfl
  · rw [if_neg h, List.getElem?_eq_none (by omega)]; rfl
theorem atI_int {α : Type} (xs : List α) {i : Int} (h : 0 ≤ i) : atI xs i = xs[i.toNat]? := by
  obtain ⟨j, rfl⟩ := Int.eq_ofNat_of_zero_le h
  rw [atI_nat', Int.toNat_natCast]
theorem glue_nil : ∀ ys : List Row, Str.join (rowS []) (ys.map rowS) = rowS ys.flatten
  | [] => rfl
  | [y] => by
    show rowS y = _
    simp
  | y :: z :: ys => by
    have ih := glue_nil (z :: ys)
    show (rowS y ++ rowS []) ++ Str.join (rowS []) ((z :: ys).map rowS) = _
    rw [ih, rowS_app, rowS_app]
    simp
theorem join_rows (ys : List Row) : Txt.join (rowS []) (ys.map rowS) = rowS ys.flatten := by
  rw [TL.join_eq, glue_nil]
theorem small_line {n : Nat} (h : n ≤ 1000000) : n ≤ sizeLine := by rw [sizeLine_eq]; omega
structure Tape (tp : List D) : Prop where
  ex : ∃ (ns : List Int) (pos seed rest : Int), tp = [.scr ns, .int pos, .int seed, .int rest] ∧ 0 ≤ pos ∧ 0 ≤ seed ∧ seed < 2147483647 ∧ ns.length ≤ 63
theorem tape0 (ns : List Int) (c : Int) (h : ns.length ≤ 63) (h0 : 0 ≤ c) (h1 : c < 2147483647) : Tape [.scr ns, .int 0, .int c, .int 0] := ⟨⟨ns, 0, c, 0, rfl, by omega, h0, h1, h⟩⟩
end G
set_option maxHeartbeats 1000000
namespace T
open PySem L2 G
abbrev eN (n : Nat) : D := .int (n : Int)
abbrev eZ (i : Int) : D := .int i
abbrev eB (b : Bool) : D := .bl b
abbrev eS (s : Str) : D := .str s
abbrev eR (r : Row) : D := .str (rowS r)
abbrev eG (b : Bool) : D := .str (rowS [b])
abbrev eU (_ : Unit) : D := .non
abbrev eL {α : Type} (e : α → D) (xs : List α) : D := .lst (xs.map e)
abbrev eT {α : Type} (e : α → D) (xs : List α) : D := .tup (xs.map e)
abbrev eP {α β : Type} (a : α → D) (b : β → D) (x : α × β) : D := .tup [a x.1, b x.2]
abbrev ePic (p : Pic) : D := eT eR p
structure EqE {α : Type} [DecidableEq α] (k : Nat) (e : α → D) : Prop where
  pl : ∀ x, (e x).pd.plain = true
  dp : ∀ x, (e x).pd.depth ≤ k
  eq : ∀ x y, PyData.eqv (e x).pd (e y).pd = decide (x = y)
theorem rowS_dec (a b : Row) : (rowS a == rowS b) = decide (a = b) := by
  by_cases h : a = b
  · subst h; simp
  · rw [decide_eq_false h]
    exact beq_eq_false_iff_ne.mpr fun e => h (rowS_inj e)
theorem qN : EqE 1 eN := ⟨fun _ => rfl, fun _ => by simp [D.pd, PyData.depth], fun x y => by
  show ((x : Int) == (y : Int)) = _
  by_cases h : x = y
  · subst h; simp
  · rw [decide_eq_false h]; exact beq_eq_false_iff_ne.mpr fun e => h (by omega)⟩
theorem qZ : EqE 1 eZ := ⟨fun _ => rfl, fun _ => by simp [D.pd, PyData.depth], fun x y => by
  show (x == y) = _
  by_cases h : x = y <;> simp [h]⟩
theorem qS : EqE 1 eS := ⟨fun _ => rfl, fun _ => by simp [D.pd, PyData.depth], fun x y => by
  show (x == y) = _
  by_cases h : x = y
  · subst h; simp
  · rw [decide_eq_false h]; exact beq_eq_false_iff_ne.mpr h⟩
theorem qG : EqE 1 eG := ⟨fun _ => rfl, fun _ => by simp [D.pd, PyData.depth], fun x y => by
  refine (rowS_dec [x] [y]).trans ?_
  cases x <;> cases y <;> rfl⟩
section
variable {α β γ δ : Type} [DecidableEq α] [DecidableEq β] [DecidableEq γ] [DecidableEq δ] {k k1 k2 k3 k4 : Nat} {e : α → D} {e1 : β → D} {e2 : γ → D} {e3 : δ → D}
theorem plainAll_map (h : EqE k e) (xs : List α) : PyData.plainAll (pdAll (xs.map e)) = true := by
  induction xs with
  | nil => rfl
  | cons x xs ih =>
    show PyData.plainAll ((e x).pd :: pdAll (xs.map e)) = true
    simp only [PyData.plainAll, h.pl x, ih, Bool.and_self]
theorem depthAll_map (h : EqE k e) (xs : List α) : PyData.depthAll (pdAll (xs.map e)) ≤ k := by
  induction xs with
  | nil => exact Nat.zero_le _
  | cons x xs ih =>
    show PyData.depthAll ((e x).pd :: pdAll (xs.map e)) ≤ k
    simp only [PyData.depthAll]
    have := h.dp x
    omega
theorem eqvAll_mapE (h : EqE k e) : ∀ xs ys : List α, PyData.eqvAll (pdAll (xs.map e)) (pdAll (ys.map e)) = decide (xs = ys)
  | [], [] => rfl
  | [], y :: ys => by show false = _; simp
  | x :: xs, [] => by show false = _; simp
  | x :: xs, y :: ys => by
    show (PyData.eqv (e x).pd (e y).pd && PyData.eqvAll (pdAll (xs.map e)) (pdAll (ys.map e))) = _
    rw [h.eq, eqvAll_mapE h xs ys]
    by_cases h1 : x = y <;> by_cases h2 : xs = ys <;> simp [h1, h2]
theorem qL (h : EqE k e) : EqE (k + 1) (eL e) := ⟨fun xs => by
    show (PyData.list (pdAll (xs.map e))).plain = true
    simp only [PyData.plain]; exact plainAll_map h xs, fun xs => by
    show (PyData.list (pdAll (xs.map e))).depth ≤ k + 1
    simp only [PyData.depth]
    have := depthAll_map h xs
    omega, fun xs ys => eqvAll_mapE h xs ys⟩
theorem qT (h : EqE k e) : EqE (k + 1) (eT e) := ⟨fun xs => by
    show (PyData.tuple (pdAll (xs.map e))).plain = true
    simp only [PyData.plain]; exact plainAll_map h xs, fun xs => by
    show (PyData.tuple (pdAll (xs.map e))).depth ≤ k + 1
    simp only [PyData.depth]
    have := depthAll_map h xs
    omega, fun xs ys => eqvAll_mapE h xs ys⟩
theorem okq_of (h : EqE k e) (hk : k ≤ 60) (x : α) : (e x).okq = true := by
  unfold D.okq
  have a := h.dp x
  rw [h.pl x, decide_eq_true (by omega : (e x).pd.depth ≤ 60)]; rfl
theorem eqD_E (h : EqE k e) (hk : k ≤ 60) (x y : α) : eqD (e x) (e y) = some (.bl (decide (x = y))) := by
  unfold eqD
  rw [okq_of h hk x, okq_of h hk y, h.eq]; rfl
theorem neD_E (h : EqE k e) (hk : k ≤ 60) (x y : α) : neD (e x) (e y) = some (.bl (decide (x ≠ y))) := by
  unfold neD
  rw [okq_of h hk x, okq_of h hk y, h.eq]
  by_cases q : x = y <;> simp [q]
theorem memD_E (h : EqE k e) (x : α) (xs : List α) : memD (e x) (xs.map e) = decide (x ∈ xs) := by
  unfold memD
  rw [List.any_map]
  by_cases q : x ∈ xs
  · rw [decide_eq_true q]
    exact List.any_eq_true.mpr ⟨x, q, by show PyData.eqv (e x).pd (e x).pd = true; rw [h.eq]; simp⟩
  · rw [decide_eq_false q]
    refine List.any_eq_false.mpr fun y hy => ?_
    show ¬ PyData.eqv (e y).pd (e x).pd = true
    rw [h.eq]
    intro z
    exact q (of_decide_eq_true z ▸ hy)
theorem inD_T (h : EqE k e) (hk : k ≤ 59) (x : α) (xs : List α) : inD (e x) (eT e xs) = some (.bl (decide (x ∈ xs))) := by
  show (if (e x).okq && (eT e xs).okq then some (D.bl (memD (e x) (xs.map e))) else none) = _
  rw [okq_of h (by omega) x, okq_of (qT h) (by omega) xs, memD_E h]; rfl
theorem notInD_L (h : EqE k e) (hk : k ≤ 59) (x : α) (xs : List α) : notInD (e x) (eL e xs) = some (.bl (decide (x ∉ xs))) := by
  show (if (e x).okq && (eL e xs).okq then some (D.bl (!memD (e x) (xs.map e))) else none) = _
  rw [okq_of h (by omega) x, okq_of (qL h) (by omega) xs, memD_E h]
  by_cases q : x ∈ xs <;> simp [q]
theorem notInD_T (h : EqE k e) (hk : k ≤ 59) (x : α) (xs : List α) : notInD (e x) (eT e xs) = some (.bl (decide (x ∉ xs))) := by
  show (if (e x).okq && (eT e xs).okq then some (D.bl (!memD (e x) (xs.map e))) else none) = _
  rw [okq_of h (by omega) x, okq_of (qT h) (by omega) xs, memD_E h]
  by_cases q : x ∈ xs <;> simp [q]
end
section
variable {α β γ δ : Type} {e : α → D} {e1 : β → D} {e2 : γ → D} {env : DEnv} {tp t1' t2' t3' t4' : List D} {m ma mb mc : SE D} {ms : SE (List D)} {c c2 : SE Bool} {P Q : Prop} [Decidable P] [Decidable Q]
theorem ev_v {i : Nat} {d : D} (h : env[i]? = some (some d)) : vE i env tp = .ok d tp := by unfold vE; rw [h]
theorem ev_cN (n : Nat) {i : Int} (h : i = (n : Int) := by rfl) : cE (.int i) env tp = .ok (eN n) tp := by rw [h]; rfl
theorem ev_c {d d' : D} (h : d = d') : cE d env tp = .ok d' tp := by rw [h]; rfl
theorem ev_bin {f : D → D → Option D} {a b z : D} (ha : ma env tp = .ok a t1') (hb : mb env t1' = .ok b t2') (h : f a b = some z) : binE f ma mb env tp = .ok z t2' := by
  unfold binE; rw [ha]; simp only [RE.bind_ok]; rw [hb]; simp only [RE.bind_ok]; rw [h]; rfl
theorem ev_un {f : D → Option D} {a z : D} (ha : ma env tp = .ok a t1') (h : f a = some z) : unE f ma env tp = .ok z t1' := by
  unfold unE; rw [ha]; simp only [RE.bind_ok]; rw [h]; rfl
theorem ev_callB {f : List D → Option D} {ds : List D} {z : D} (ha : ms env tp = .ok ds t1') (h : f ds = some z) : callB f ms env tp = .ok z t1' := by
  unfold callB; rw [ha]; simp only [RE.bind_ok]; rw [h]; rfl
theorem ev_meth {p : D → Bool} {f : D → D → Option D} {a b z : D} (ha : ma env tp = .ok a t1') (hp : p a = true) (hb : mb env t1' = .ok b t2') (h : f a b = some z) : methE p f ma mb env tp = .ok z t2' := by
  unfold methE; rw [ha]; simp only [RE.bind_ok]; rw [if_pos hp, hb]; simp only [RE.bind_ok]; rw [h]; rfl
theorem ev_nil : nilA env tp = .ok [] tp := rfl
theorem ev_cons {d : D} {ds : List D} (h : m env tp = .ok d t1') (hs : ms env t1' = .ok ds t2') : consA m ms env tp = .ok (d :: ds) t2' := by
  unfold consA; rw [h]; simp only [RE.bind_ok]; rw [hs]; rfl
theorem ev_call {n : Nat} {f : List D → List D → RE D} {ds : List D} {d : D} (hs : ms env tp = .ok ds t1') (hn : ds.length = n) (h : f ds t1' = .ok d t2') : callE n f ms env tp = .ok d t2' := by
  unfold callE; rw [hs]; simp only [RE.bind_ok]; rw [if_pos hn, h]
theorem ev_tup {ds : List D} (hs : ms env tp = .ok ds t1') (hn : decide (ds.length ≤ 1000000) = true) : tupE ms env tp = .ok (.tup ds) t1' := by
  unfold tupE; rw [hs]; simp only [RE.bind_ok]; rw [if_pos (small_line (of_decide_eq_true hn))]
theorem ev_lst {ds : List D} (hs : ms env tp = .ok ds t1') (hn : decide (ds.length ≤ 1000000) = true) : lstE ms env tp = .ok (.lst ds) t1' := by
  unfold lstE; rw [hs]; simp only [RE.bind_ok]; rw [if_pos (small_line (of_decide_eq_true hn))]
theorem ev_bool {b : Bool} (h : m env tp = .ok (.bl b) t1') : boolE m env tp = .ok b t1' := by
  unfold boolE; rw [h]; rfl
theorem ev_dec (b : Bool) (h : m env tp = .ok (.bl b) t1') : boolE m env tp = .ok (decide (b = true)) t1' := by
  rw [ev_bool h]; cases b <;> rfl
theorem ev_notT (h : c env tp = .ok (decide P) t1') : notT c env tp = .ok (decide (¬P)) t1' := by
  unfold notT; rw [h]; simp only [RE.bind_ok]; by_cases q : P <;> simp [q]
theorem ev_andT (h : c env tp = .ok (decide P) tp) (h2 : P → c2 env tp = .ok (decide Q) tp) : andT c c2 env tp = .ok (decide (P ∧ Q)) tp := by
  unfold andT; rw [h]; simp only [RE.bind_ok]
  by_cases q : P
  · rw [decide_eq_true q, if_pos rfl, h2 q]; simp [q]
  · rw [decide_eq_false q, if_neg (by decide)]; simp [q]
theorem ev_orT (h : c env tp = .ok (decide P) tp) (h2 : ¬P → c2 env tp = .ok (decide Q) tp) : orT c c2 env tp = .ok (decide (P ∨ Q)) tp := by
  unfold orT; rw [h]; simp only [RE.bind_ok]
  by_cases q : P
  · rw [decide_eq_true q, if_pos rfl]; simp [q]
  · rw [decide_eq_false q, if_neg (by decide), h2 q]; simp [q]
theorem ev_notE (h : m env tp = .ok (eB (decide P)) t1') : notE m env tp = .ok (eB (decide (¬P))) t1' := by
  unfold notE; rw [h]; simp only [RE.bind_ok]; by_cases q : P <;> simp [q, isB]
theorem ev_andE (h : ma env tp = .ok (eB (decide P)) tp) (h2 : P → mb env tp = .ok (eB (decide Q)) tp) : andE ma mb env tp = .ok (eB (decide (P ∧ Q))) tp := by
  unfold andE; rw [h]; simp only [RE.bind_ok]
  by_cases q : P
  · rw [decide_eq_true q]; rw [h2 q]; simp [q]
  · rw [decide_eq_false q]; simp [q]
theorem ev_ifE {x y : α} (h : c env tp = .ok (decide P) t1') (hp : P → ma env t1' = .ok (e x) t1') (hn : ¬P → mb env t1' = .ok (e y) t1') : ifE c ma mb env tp = .ok (e (if P then x else y)) t1' := by
  unfold ifE; rw [h]; simp only [RE.bind_ok]
  by_cases q : P
  · rw [decide_eq_true q, if_pos rfl, hp q, if_pos q]
  · rw [decide_eq_false q, if_neg (by decide), hn q, if_neg q]
theorem ev_decB (b : Bool) (h : m env tp = .ok (eB b) t1') : m env tp = .ok (eB (decide (b = true))) t1' := by
  rw [h]; cases b <;> rfl
theorem ev_add {x y : Nat} (ha : ma env tp = .ok (eN x) t1') (hb : mb env t1' = .ok (eN y) t2') : binE addD ma mb env tp = .ok (eN (x + y)) t2' :=
  (ev_bin ha hb rfl).trans (by simp)
theorem ev_sub {x y : Nat} (h : y ≤ x) (ha : ma env tp = .ok (eN x) t1') (hb : mb env t1' = .ok (eN y) t2') : binE subD ma mb env tp = .ok (eN (x - y)) t2' :=
  (ev_bin ha hb rfl).trans (by show RE.ok (D.int ((x : Int) - (y : Int))) t2' = RE.ok (D.int ((x - y : Nat) : Int)) t2'; rw [Int.ofNat_sub h])
theorem ev_mul {x y : Nat} (h : cMul x y = true) (ha : ma env tp = .ok (eN x) t1') (hb : mb env t1' = .ok (eN y) t2') : binE mulD ma mb env tp = .ok (eN (x * y)) t2' :=
  (ev_bin ha hb (by unfold mulD; simp only; rw [if_pos h])).trans (by simp)
theorem ev_pow {x y : Nat} (h : cPow x y = true) (ha : ma env tp = .ok (eN x) t1') (hb : mb env t1' = .ok (eN y) t2') : binE powD ma mb env tp = .ok (eN (x ^ y)) t2' :=
  (ev_bin ha hb (by unfold powD; simp only; rw [if_pos h])).trans (by simp)
theorem ev_shl {x y : Nat} (h : cPow x y = true) (ha : ma env tp = .ok (eN x) t1') (hb : mb env t1' = .ok (eN y) t2') : binE shlD ma mb env tp = .ok (eN (x * 2 ^ y)) t2' :=
  (ev_bin ha hb (by unfold shlD; simp only; rw [if_pos h])).trans (by simp)
theorem ev_shr {x y : Nat} (ha : ma env tp = .ok (eN x) t1') (hb : mb env t1' = .ok (eN y) t2') : binE shrD ma mb env tp = .ok (eN (x / 2 ^ y)) t2' :=
  (ev_bin ha hb (by unfold shrD; simp only; rw [if_pos (by omega)])).trans (by simp)
theorem ev_lt {x y : Nat} (ha : ma env tp = .ok (eN x) t1') (hb : mb env t1' = .ok (eN y) t2') : binE ltD ma mb env tp = .ok (eB (decide (x < y))) t2' :=
  (ev_bin ha hb rfl).trans (by simp)
theorem ev_gt {x y : Nat} (ha : ma env tp = .ok (eN x) t1') (hb : mb env t1' = .ok (eN y) t2') : binE gtD ma mb env tp = .ok (eB (decide (x > y))) t2' :=
  (ev_bin ha hb rfl).trans (by simp)
theorem ev_addZ {x y : Int} (ha : ma env tp = .ok (eZ x) t1') (hb : mb env t1' = .ok (eZ y) t2') : binE addD ma mb env tp = .ok (eZ (x + y)) t2' := ev_bin ha hb rfl
theorem ev_subZ {x y : Int} (ha : ma env tp = .ok (eZ x) t1') (hb : mb env t1' = .ok (eZ y) t2') : binE subD ma mb env tp = .ok (eZ (x - y)) t2' := ev_bin ha hb rfl
theorem ev_negZ {x : Int} (ha : ma env tp = .ok (eZ x) t1') : unE negD ma env tp = .ok (eZ (-x)) t1' := ev_un ha rfl
theorem ev_chLeLe {x y z : Nat} (ha : ma env tp = .ok (eN x) tp) (hb : mb env tp = .ok (eN y) tp) (hc : mc env tp = .ok (eN z) tp) : chainE leD leD ma mb mc env tp = .ok (eB (decide (x ≤ y ∧ y ≤ z))) tp := by
  unfold chainE; rw [ha]; simp only [RE.bind_ok]; rw [hb]; simp only [RE.bind_ok]
  by_cases q : x ≤ y
  · rw [show leD (eN x) (eN y) = some (.bl true) from by show some (D.bl (decide ((x : Int) ≤ y))) = _; rw [decide_eq_true (by omega)]]
    simp only; rw [hc]; simp only [RE.bind_ok]
    show RE.of (some (D.bl (decide ((y : Int) ≤ z)))) tp = _
    simp [q]
  · rw [show leD (eN x) (eN y) = some (.bl false) from by show some (D.bl (decide ((x : Int) ≤ y))) = _; rw [decide_eq_false (by omega)]]
    simp [q]
section
variable [DecidableEq α] {k : Nat}
theorem ev_eq {x y : α} (h : EqE k e) (hk : Nat.ble k 60 = true) (ha : ma env tp = .ok (e x) t1') (hb : mb env t1' = .ok (e y) t2') : binE eqD ma mb env tp = .ok (eB (decide (x = y))) t2' := ev_bin ha hb (eqD_E h (Nat.le_of_ble_eq_true hk) x y)
theorem ev_ne {x y : α} (h : EqE k e) (hk : Nat.ble k 60 = true) (ha : ma env tp = .ok (e x) t1') (hb : mb env t1' = .ok (e y) t2') : binE neD ma mb env tp = .ok (eB (decide (x ≠ y))) t2' := ev_bin ha hb (neD_E h (Nat.le_of_ble_eq_true hk) x y)
theorem ev_inT {x : α} {xs : List α} (h : EqE k e) (hk : Nat.ble k 59 = true) (ha : ma env tp = .ok (e x) t1') (hb : mb env t1' = .ok (eT e xs) t2') : binE inD ma mb env tp = .ok (eB (decide (x ∈ xs))) t2' := ev_bin ha hb (inD_T h (Nat.le_of_ble_eq_true hk) x xs)
theorem ev_ninL {x : α} {xs : List α} (h : EqE k e) (hk : Nat.ble k 59 = true) (ha : ma env tp = .ok (e x) t1') (hb : mb env t1' = .ok (eL e xs) t2') : binE notInD ma mb env tp = .ok (eB (decide (x ∉ xs))) t2' := ev_bin ha hb (notInD_L h (Nat.le_of_ble_eq_true hk) x xs)
theorem ev_ninT {x : α} {xs : List α} (h : EqE k e) (hk : Nat.ble k 59 = true) (ha : ma env tp = .ok (e x) t1') (hb : mb env t1' = .ok (eT e xs) t2') : binE notInD ma mb env tp = .ok (eB (decide (x ∉ xs))) t2' := ev_bin ha hb (notInD_T h (Nat.le_of_ble_eq_true hk) x xs)
end
theorem get!_map [Inhabited α] {xs : List α} {i : Nat} (h : i < xs.length) : atI (xs.map e) (i : Int) = some (e xs[i]!) := by
  rw [atI_nat', List.getElem?_map, List.getElem?_eq_getElem h, getElem!_pos xs i h]; rfl
theorem ev_ixL [Inhabited α] {xs : List α} {i : Nat} (h : i < xs.length) (ha : ma env tp = .ok (eL e xs) t1') (hb : mb env t1' = .ok (eN i) t2') : binE ixD ma mb env tp = .ok (e xs[i]!) t2' := ev_bin ha hb (get!_map h)
theorem ev_ixT [Inhabited α] {xs : List α} {i : Nat} (h : i < xs.length) (ha : ma env tp = .ok (eT e xs) t1') (hb : mb env t1' = .ok (eN i) t2') : binE ixD ma mb env tp = .ok (e xs[i]!) t2' := ev_bin ha hb (get!_map h)
theorem get!_row {r : Row} {i : Nat} (hl : r.length ≤ 1000000) (h : i < r.length) : ixD (eR r) (eN i) = some (eG r[i]!) := by
  show (if (rowS r).length ≤ sizeLine then (atI (rowS r).cps.toList (i : Int)).map (fun c => D.str ⟨#[c]⟩) else none) = _
  rw [rowS_len, if_pos (small_line hl), row_toList, atI_nat', List.getElem?_map, List.getElem?_eq_getElem h, getElem!_pos r i h]; rfl
theorem ev_ixR {r : Row} {i : Nat} (h : r.length ≤ 1000000 ∧ i < r.length) (ha : ma env tp = .ok (eR r) t1') (hb : mb env t1' = .ok (eN i) t2') : binE ixD ma mb env tp = .ok (eG r[i]!) t2' := ev_bin ha hb (get!_row h.1 h.2)
theorem ev_fst {x : α × β} (ha : ma env tp = .ok (eP e e1 x) t1') (hb : mb env t1' = .ok (.int 0) t2') : binE ixD ma mb env tp = .ok (e x.1) t2' := ev_bin ha hb rfl
theorem ev_snd {x : α × β} (ha : ma env tp = .ok (eP e e1 x) t1') (hb : mb env t1' = .ok (.int 1) t2') : binE ixD ma mb env tp = .ok (e1 x.2) t2' := ev_bin ha hb rfl
theorem ev_lenL {xs : List α} (h : m env tp = .ok (eL e xs) t1') : callB lenD (consA m nilA) env tp = .ok (eN xs.length) t1' :=
  ev_callB (ev_cons h ev_nil) (by show some (D.int ((xs.map e).length : Int)) = _; rw [List.length_map])
theorem ev_lenT {xs : List α} (h : m env tp = .ok (eT e xs) t1') : callB lenD (consA m nilA) env tp = .ok (eN xs.length) t1' :=
  ev_callB (ev_cons h ev_nil) (by show some (D.int ((xs.map e).length : Int)) = _; rw [List.length_map])
theorem ev_lenR {r : Row} (hl : r.length ≤ 1000000) (h : m env tp = .ok (eR r) t1') : callB lenD (consA m nilA) env tp = .ok (eN r.length) t1' :=
  ev_callB (ev_cons h ev_nil) (by show (if (rowS r).length ≤ sizeLine then some (D.int ((rowS r).length : Int)) else none) = _; rw [rowS_len, if_pos (small_line hl)])
theorem ev_tupleL {xs : List α} (h : m env tp = .ok (eL e xs) t1') : callB tupleD (consA m nilA) env tp = .ok (eT e xs) t1' := ev_callB (ev_cons h ev_nil) rfl
theorem ev_listT {xs : List α} (h : m env tp = .ok (eT e xs) t1') : callB listD (consA m nilA) env tp = .ok (eL e xs) t1' := ev_callB (ev_cons h ev_nil) rfl
theorem ev_catL {xs ys : List α} (h : xs.length + ys.length ≤ 1000000) (ha : ma env tp = .ok (eL e xs) t1') (hb : mb env t1' = .ok (eL e ys) t2') : binE addD ma mb env tp = .ok (eL e (xs ++ ys)) t2' :=
  ev_bin ha hb (by show (if (xs.map e).length + (ys.map e).length ≤ sizeLine then some (D.lst (xs.map e ++ ys.map e)) else none) = _; rw [List.length_map, List.length_map, if_pos (small_line h), ← List.map_append])
theorem ev_catT {xs ys : List α} (h : xs.length + ys.length ≤ 1000000) (ha : ma env tp = .ok (eT e xs) t1') (hb : mb env t1' = .ok (eT e ys) t2') : binE addD ma mb env tp = .ok (eT e (xs ++ ys)) t2' :=
  ev_bin ha hb (by show (if (xs.map e).length + (ys.map e).length ≤ sizeLine then some (D.tup (xs.map e ++ ys.map e)) else none) = _; rw [List.length_map, List.length_map, if_pos (small_line h), ← List.map_append])
theorem ev_catR {xs ys : Row} (h : xs.length + ys.length ≤ 1000000) (ha : ma env tp = .ok (eR xs) t1') (hb : mb env t1' = .ok (eR ys) t2') : binE addD ma mb env tp = .ok (eR (xs ++ ys)) t2' :=
  ev_bin ha hb (by show (if (rowS xs).length + (rowS ys).length ≤ sizeLine then some (D.str (rowS xs ++ rowS ys)) else none) = _; rw [rowS_len, rowS_len, if_pos (small_line h), rowS_app])
theorem flatten_rep1 (n : Nat) (x : D) : (List.replicate n [x]).flatten = List.replicate n x := by
  induction n with
  | zero => rfl
  | succ n ih => rw [List.replicate_succ, List.flatten_cons, ih, List.replicate_succ]; rfl
theorem ev_repT1 {x : α} {n : Nat} (h : 1 ≤ n ∧ n ≤ 1000) (ha : ma env tp = .ok (eT e [x]) t1') (hb : mb env t1' = .ok (eN n) t2') : binE mulD ma mb env tp = .ok (eT e (List.replicate n x)) t2' :=
  ev_bin ha hb (by
    show (if cRepT 1 (n : Int) then some (D.tup (List.replicate (n : Int).toNat [e x]).flatten) else none) = _
    have c : cRepT 1 (n : Int) = true := by
      unfold cRepT
      have a1 : (0 : Int) ≤ n := by omega
      have a3 : (n : Int) ≤ 1000 := by omega
      rw [decide_eq_true a1, decide_eq_true a3]; rfl
    rw [if_pos c, Int.toNat_natCast, flatten_rep1, ← List.map_replicate])
theorem cut_toL {α : Type} (xs : List α) (k : Nat) : cutD xs none (some (k : Int)) = xs.take k := by
  unfold cutD
  rw [HT.sIx_none, HT.sIx_nat, List.drop_zero, Nat.sub_zero]
  by_cases h : k ≤ xs.length
  · rw [Nat.min_eq_left h]
  · rw [Nat.min_eq_right (by omega), List.take_of_length_le (by omega), List.take_of_length_le (by omega)]
theorem cut_bothL {α : Type} (xs : List α) (a b : Nat) : cutD xs (some (a : Int)) (some (b : Int)) = (xs.drop a).take (b - a) := by
  unfold cutD
  rw [HT.sIx_nat, HT.sIx_nat]
  by_cases h : a ≤ xs.length
  · rw [Nat.min_eq_left h]
    by_cases h2 : b ≤ xs.length
    · rw [Nat.min_eq_left h2]
    · rw [Nat.min_eq_right (by omega : xs.length ≤ b), List.take_of_length_le (by rw [List.length_drop]; omega), List.take_of_length_le (by rw [List.length_drop]; omega)]
  · rw [Nat.min_eq_right (by omega : xs.length ≤ a), List.drop_of_length_le (Nat.le_refl _), List.drop_of_length_le (show xs.length ≤ a by omega)]; simp
theorem ev_optN : optI none env tp = .ok none tp := rfl
theorem ev_optS {i : Int} (h : m env tp = .ok (.int i) t1') : optI (some m) env tp = .ok (some i) t1' := by
  unfold optI; simp only; rw [h]; rfl
theorem ev_sl {a z : D} {ml mh : SE (Option Int)} {lo hi : Option Int} (ha : m env tp = .ok a t1') (hl : ml env t1' = .ok lo t2') (hh : mh env t2' = .ok hi t3') (h : sliceD a lo hi = some z) : sliceE m ml mh env tp = .ok z t3' := by
  unfold sliceE; rw [ha]; simp only [RE.bind_ok]; rw [hl]; simp only [RE.bind_ok]; rw [hh]; simp only [RE.bind_ok]; rw [h]; rfl
theorem ev_toT {xs : List α} {k : Nat} (ha : m env tp = .ok (eT e xs) t1') (hh : mb env t1' = .ok (eN k) t2') : sliceE m (optI none) (optI (some mb)) env tp = .ok (eT e (xs.take k)) t2' :=
  ev_sl ha ev_optN (ev_optS hh) (by show some (D.tup (cutD (xs.map e) none (some (k : Int)))) = _; rw [cut_toL, ← List.map_take])
theorem sl_row {r : Row} {lo hi : Option Int} (h : r.length ≤ 1000000) : sliceD (eR r) lo hi = some (eR (cutD r lo hi)) := by
  show (if (rowS r).length ≤ sizeLine then some (D.str (cutS (rowS r) lo hi)) else none) = _
  rw [rowS_len, if_pos (small_line h), row_cut]
theorem ev_cutR {xs : Row} {k l : Nat} (h : xs.length ≤ 1000000) (ha : m env tp = .ok (eR xs) t1') (hl : ma env t1' = .ok (eN k) t2') (hh : mb env t2' = .ok (eN l) t3') : sliceE m (optI (some ma)) (optI (some mb)) env tp = .ok (eR ((xs.drop k).take (l - k))) t3' :=
  ev_sl ha (ev_optS hl) (ev_optS hh) (by rw [sl_row h, cut_bothL])
end
end T
set_option maxHeartbeats 1000000
namespace T
open PySem L2 G
theorem kb_NoneType_str : kitB "NoneType" "str" = some false := by decide +kernel
theorem kb_NoneType_tuple : kitB "NoneType" "tuple" = some false := by decide +kernel
theorem kb_bool_str : kitB "bool" "str" = some false := by decide +kernel
theorem kb_bool_tuple : kitB "bool" "tuple" = some false := by decide +kernel
theorem kb_int_int : kitB "int" "int" = some true := by decide +kernel
theorem kb_int_str : kitB "int" "str" = some false := by decide +kernel
theorem kb_int_bool : kitB "int" "bool" = some false := by decide +kernel
theorem kb_int_tuple : kitB "int" "tuple" = some false := by decide +kernel
theorem kb_str_str : kitB "str" "str" = some true := by decide +kernel
theorem kb_str_tuple : kitB "str" "tuple" = some false := by decide +kernel
theorem kb_tuple_str : kitB "tuple" "str" = some false := by decide +kernel
theorem kb_tuple_tuple : kitB "tuple" "tuple" = some true := by decide +kernel
theorem kb_list_str : kitB "list" "str" = some false := by decide +kernel
theorem kb_list_tuple : kitB "list" "tuple" = some false := by decide +kernel
section
variable {α β γ δ : Type} {e : α → D} {e1 : β → D} {e2 : γ → D} {env : DEnv} {tp t1' t2' t3' t4' : List D} {m ma mb mc : SE D} {mi mi1 : SE (List D)} {ms : SE (List D)} {c c1 : SE Bool}
theorem ev_isi {d : D} {a n : String} {b : Bool} (ha : ma env tp = .ok d t1') (ht : tyN d = some a) (hk : kitB a n = some b) : callB isiD (consA ma (consA (cE (.ty n)) nilA)) env tp = .ok (eB b) t1' := by
  refine ev_callB (ds := [d, .ty n]) (ev_cons ha (ev_cons (m := cE (.ty n)) rfl ev_nil)) ?_
  show (tyN d).bind (fun t => (kitB t n).map D.bl) = some (.bl b)
  rw [ht]
  show (kitB a n).map D.bl = some (.bl b)
  rw [hk]; rfl
theorem it_L {xs : List α} (h : m env tp = .ok (eL e xs) t1') : seqI m env tp = .ok (xs.map e) t1' := by unfold seqI; rw [h]; rfl
theorem it_T {xs : List α} (h : m env tp = .ok (eT e xs) t1') : seqI m env tp = .ok (xs.map e) t1' := by unfold seqI; rw [h]; rfl
theorem row_items (r : Row) : seqD (eR r) = some (r.map eG) := by
  show some ((rowS r).cps.toList.map fun c => D.str ⟨#[c]⟩) = _
  rw [row_toList, List.map_map]; rfl
theorem it_R {r : Row} (h : m env tp = .ok (eR r) t1') : seqI m env tp = .ok (r.map eG) t1' := by
  unfold seqI; rw [h]; simp only [RE.bind_ok]; rw [row_items]; rfl
theorem rangeL_N (n : Nat) : rangeL 0 (n : Int) = (List.range n).map eN := by
  unfold rangeL
  rw [Int.sub_zero, Int.toNat_natCast]
  exact List.map_congr_left fun a _ => by rw [Int.zero_add]
theorem rangeL_N2 (a n : Nat) : rangeL (a : Int) (n : Int) = (List.range' a (n - a)).map eN := by
  unfold rangeL
  have : ((n : Int) - (a : Int)).toNat = n - a := by omega
  rw [this, List.range'_eq_map_range, List.map_map]
  exact List.map_congr_left fun b _ => by simp
theorem cRg_nat {n : Nat} (h : n ≤ 1073741824) : cRg (n : Int) = true := by
  unfold cRg
  have h1 : -(2 ^ 62) ≤ (n : Int) := by omega
  have h2 : (n : Int) < 2 ^ 62 := by omega
  rw [decide_eq_true h1, decide_eq_true h2]; rfl
theorem range1D_i {i : Int} (h : cRg i = true) : range1D [.int i] = some (rangeL 0 i) := by
  show (if cRg i then some (rangeL 0 i) else none) = _
  rw [if_pos h]
theorem range1D_N {n : Nat} (hn : n ≤ 1073741824) : range1D [eN n] = some ((List.range n).map eN) := by
  rw [← rangeL_N]; exact range1D_i (cRg_nat hn)
theorem ev_rangeI {f : List D → Option (List D)} {ds its : List D} (h : ms env tp = .ok ds t1') (hf : f ds = some its) : rangeI f ms env tp = .ok its t1' := by
  unfold rangeI; rw [h]; simp only [RE.bind_ok]; rw [hf]; rfl
theorem it_range {n : Nat} (hn : n ≤ 1073741824) (h : m env tp = .ok (eN n) t1') : rangeI range1D (consA m nilA) env tp = .ok ((List.range n).map eN) t1' :=
  ev_rangeI (ev_cons h ev_nil) (range1D_N hn)
/-- the pairs of places and things -/
def enumP {α : Type} (xs : List α) : List (Nat × α) := xs.mapIdx fun i x => (i, x)
theorem numD_map (xs : List α) : numD (xs.map e) = (enumP xs).map (eP eN e) := by
  unfold numD enumP
  refine List.ext_getElem? fun i => ?_
  rw [List.getElem?_mapIdx, List.getElem?_map, List.getElem?_map, List.getElem?_mapIdx]
  cases xs[i]? <;> rfl
theorem it_enum {xs : List α} (h : seqD d = some (xs.map e)) (hm : m env tp = .ok d t1') : rangeI enumD (consA m nilA) env tp = .ok ((enumP xs).map (eP eN e)) t1' := by
  unfold rangeI; rw [ev_cons hm ev_nil]; simp only [RE.bind_ok]
  show RE.of ((seqD d).map numD) t1' = _
  rw [h]
  show RE.of (some (numD (xs.map e))) t1' = _
  rw [numD_map]; rfl
theorem it_enumT {xs : List α} (hm : m env tp = .ok (eT e xs) t1') : rangeI enumD (consA m nilA) env tp = .ok ((enumP xs).map (eP eN e)) t1' := it_enum rfl hm
theorem it_enumR {xs : Row} (hm : m env tp = .ok (eR xs) t1') : rangeI enumD (consA m nilA) env tp = .ok ((enumP xs).map (eP eN eG)) t1' := it_enum (row_items xs) hm
theorem compL_mapP {f : D → List D → RE (Option D)} {g : α → β} {P : α → Prop} [DecidablePred P] : ∀ {xs : List α}, (∀ x ∈ xs, f (e x) tp = .ok (if P x then some (e1 (g x)) else none) tp) → compL f (xs.map e) tp = .ok (((xs.filter fun x => decide (P x)).map g).map e1) tp
  | [], _ => rfl
  | x :: xs, h => by
    rw [List.map_cons]
    unfold compL
    rw [h x List.mem_cons_self]
    simp only
    rw [compL_mapP fun y hy => h y (List.mem_cons_of_mem _ hy)]
    by_cases q : P x <;> simp [q]
theorem ev_comp {vs is : List Nat} {tgt : D → Option (List D)} {xs : List α} {ds : α → List D} {g : α → β} {P : α → Prop} [DecidablePred P] (hi : mi env tp = .ok (xs.map e) t1') (hl : xs.length ≤ 1000000) (ht : ∀ x, tgt (e x) = some (ds x))
    (hc : ∀ x ∈ xs, c (setAll (wipeE env vs) is (ds x)) t1' = .ok (decide (P x)) t1') (hm : ∀ x ∈ xs, P x → m (setAll (wipeE env vs) is (ds x)) t1' = .ok (e1 (g x)) t1') :
    compE mi vs tgt is c m env tp = .ok (eL e1 ((xs.filter fun x => decide (P x)).map g)) t1' := by
  unfold compE
  rw [hi]
  simp only [RE.bind_ok]
  rw [if_pos (small_line (by rw [List.length_map]; exact hl)), compL_mapP (e := e) (e1 := e1) (g := g) (P := P)]
  intro x hx
  unfold compTurn1
  rw [ht]
  simp only
  rw [hc x hx]
  simp only [RE.bind_ok]
  by_cases q : P x
  · rw [if_pos (decide_eq_true q), hm x hx q, if_pos q]; rfl
  · rw [if_neg (by simp [q]), if_neg q]
theorem filter_tt {α : Type} (xs : List α) : (xs.filter fun _ => decide True) = xs := List.filter_eq_self.mpr fun _ _ => rfl
theorem ev_compY {vs is : List Nat} {tgt : D → Option (List D)} {xs : List α} {ds : α → List D} {g : α → β} (hi : mi env tp = .ok (xs.map e) t1') (hl : xs.length ≤ 1000000) (ht : ∀ x, tgt (e x) = some (ds x))
    (hm : ∀ x ∈ xs, m (setAll (wipeE env vs) is (ds x)) t1' = .ok (e1 (g x)) t1') :
    compE mi vs tgt is yesT m env tp = .ok (eL e1 (xs.map g)) t1' := by
  have := ev_comp (c := yesT) (P := fun _ => True) (g := g) (e1 := e1) (vs := vs) hi hl ht (fun x hx => rfl) (fun x hx _ => hm x hx)
  rw [this, filter_tt]
theorem compLL_map {f : D → List D → RE (List D)} {g : α → List β} : ∀ {xs : List α}, (∀ x ∈ xs, f (e x) tp = .ok ((g x).map e1) tp) → compLL f (xs.map e) tp = .ok ((xs.flatMap g).map e1) tp
  | [], _ => rfl
  | x :: xs, h => by
    rw [List.map_cons]
    unfold compLL
    rw [h x List.mem_cons_self]
    simp only
    rw [compLL_map fun y hy => h y (List.mem_cons_of_mem _ hy)]
    simp
/-- two clauses; no test at the first -/
theorem ev_comp2 {vs is vs1 is1 : List Nat} {tgt tgt1 : D → Option (List D)} {xs : List α} {ds : α → List D} {ys : α → List β} {ds1 : β → List D} {g : α → β → γ} {P : α → β → Prop} [∀ x, DecidablePred (P x)] (hi : mi env tp = .ok (xs.map e) t1') (ht : ∀ x, tgt (e x) = some (ds x))
    (hi1 : ∀ x ∈ xs, mi1 (setAll (wipeE env vs) is (ds x)) t1' = .ok ((ys x).map e1) t1') (ht1 : ∀ y, tgt1 (e1 y) = some (ds1 y))
    (hc : ∀ x ∈ xs, ∀ y ∈ ys x, c1 (setAll (wipeE (setAll (wipeE env vs) is (ds x)) vs1) is1 (ds1 y)) t1' = .ok (decide (P x y)) t1')
    (hm : ∀ x ∈ xs, ∀ y ∈ ys x, P x y → m (setAll (wipeE (setAll (wipeE env vs) is (ds x)) vs1) is1 (ds1 y)) t1' = .ok (e2 (g x y)) t1')
    (hl : (xs.flatMap fun x => ((ys x).filter fun y => decide (P x y)).map (g x)).length ≤ 1000000) :
    comp2E mi vs tgt is yesT mi1 vs1 tgt1 is1 c1 m env tp = .ok (eL e2 (xs.flatMap fun x => ((ys x).filter fun y => decide (P x y)).map (g x))) t1' := by
  unfold comp2E
  rw [hi]
  simp only [RE.bind_ok]
  rw [compLL_map (e := e) (e1 := e2) (g := fun x => ((ys x).filter fun y => decide (P x y)).map (g x))]
  · simp only
    rw [if_pos (small_line (by rw [List.length_map]; exact hl))]
  · intro x hx
    unfold compTurn2
    rw [ht]
    simp only
    unfold yesT
    simp only [RE.bind_ok, if_true]
    rw [hi1 x hx]
    simp only [RE.bind_ok]
    rw [compL_mapP (e := e1) (e1 := e2) (g := g x) (P := P x)]
    intro y hy
    unfold compTurn1
    rw [ht1]
    simp only
    rw [hc x hx y hy]
    simp only [RE.bind_ok]
    by_cases q : P x y
    · rw [if_pos (decide_eq_true q), hm x hx y hy q, if_pos q]; rfl
    · rw [if_neg (by simp [q]), if_neg q]
theorem ev_comp2Y {vs is vs1 is1 : List Nat} {tgt tgt1 : D → Option (List D)} {xs : List α} {ds : α → List D} {ys : α → List β} {ds1 : β → List D} {g : α → β → γ} (hi : mi env tp = .ok (xs.map e) t1') (ht : ∀ x, tgt (e x) = some (ds x))
    (hi1 : ∀ x ∈ xs, mi1 (setAll (wipeE env vs) is (ds x)) t1' = .ok ((ys x).map e1) t1') (ht1 : ∀ y, tgt1 (e1 y) = some (ds1 y))
    (hm : ∀ x ∈ xs, ∀ y ∈ ys x, m (setAll (wipeE (setAll (wipeE env vs) is (ds x)) vs1) is1 (ds1 y)) t1' = .ok (e2 (g x y)) t1')
    (hl : (xs.flatMap fun x => (ys x).map (g x)).length ≤ 1000000) :
    comp2E mi vs tgt is yesT mi1 vs1 tgt1 is1 yesT m env tp = .ok (eL e2 (xs.flatMap fun x => (ys x).map (g x))) t1' := by
  have := ev_comp2 (c1 := yesT) (P := fun _ _ => True) (g := g) (e2 := e2) (vs := vs) (vs1 := vs1) hi ht hi1 ht1 (fun x hx y hy => rfl) (fun x hx y hy _ => hm x hx y hy) (by simp only [filter_tt]; exact hl)
  rw [this]
  simp only [filter_tt]
theorem unB_map (bs : List Bool) : unB (bs.map eB) = some bs := by
  induction bs with
  | nil => rfl
  | cons b bs ih => show (unB (bs.map eB)).map (b :: ·) = _; rw [ih]; rfl
theorem unI_mapZ (ns : List Int) : unI (ns.map eZ) = some ns := by
  induction ns with
  | nil => rfl
  | cons b bs ih => show (unI (bs.map eZ)).map (b :: ·) = _; rw [ih]; rfl
theorem unS_mapR (ns : List Row) : unS (ns.map eR) = some (ns.map rowS) := by
  induction ns with
  | nil => rfl
  | cons b bs ih => show (unS (bs.map eR)).map (rowS b :: ·) = _; rw [ih]; rfl
theorem ev_allY {xs : List α} {R : α → Prop} [DecidablePred R] {dq : Decidable (∀ x ∈ xs, R x)} (h : m env tp = .ok (eL eB (xs.map fun x => decide (R x))) t1') : callB allD (consA m nilA) env tp = .ok (eB (@decide _ dq)) t1' :=
  ev_callB (ev_cons h ev_nil) (by
    show (unB ((xs.map fun x => decide (R x)).map eB)).map (fun bs => D.bl (bs.all id)) = _
    rw [unB_map]
    show some (D.bl ((xs.map fun x => decide (R x)).all id)) = _
    congr 2
    rw [List.all_map]
    by_cases q : ∀ x ∈ xs, R x
    · rw [decide_eq_true q]; exact List.all_eq_true.mpr fun x hx => by simp [q x hx]
    · rw [decide_eq_false q]
      cases z : xs.all (id ∘ fun x => decide (R x)) with
      | false => rfl
      | true => exact (q fun x hx => by have := List.all_eq_true.mp z x hx; simpa using this).elim)
theorem ev_anyY {xs : List α} {R : α → Prop} [DecidablePred R] {dq : Decidable (∃ x ∈ xs, R x)} (h : m env tp = .ok (eL eB (xs.map fun x => decide (R x))) t1') : callB anyD (consA m nilA) env tp = .ok (eB (@decide _ dq)) t1' :=
  ev_callB (ev_cons h ev_nil) (by
    show (unB ((xs.map fun x => decide (R x)).map eB)).map (fun bs => D.bl (bs.any id)) = _
    rw [unB_map]
    show some (D.bl ((xs.map fun x => decide (R x)).any id)) = _
    congr 2
    rw [List.any_map]
    by_cases q : ∃ x ∈ xs, R x
    · rw [decide_eq_true q]
      obtain ⟨x, hx, r⟩ := q
      exact List.any_eq_true.mpr ⟨x, hx, by simp [r]⟩
    · rw [decide_eq_false q]
      refine List.any_eq_false.mpr fun x hx => ?_
      intro z
      exact q ⟨x, hx, by simpa using z⟩)
theorem ev_sumZ {xs : List Int} (h : m env tp = .ok (eL eZ xs) t1') : callB sum2D (consA m nilA) env tp = .ok (eZ xs.sum) t1' :=
  ev_callB (ev_cons h ev_nil) (by
    show (unI (xs.map eZ)).map (fun bs => D.int bs.sum) = _
    rw [unI_mapZ]; rfl)
theorem rg1_i {k : List D → D} {i : Int} (hc : cRgOk 0 i = true) (h : m env tp = .ok (.int i) t1') : rg1E k m env tp = .ok (k (rangeL 0 i)) t1' := by
  unfold rg1E; rw [h]; simp only [RE.bind_ok]; rw [if_pos hc]
theorem rg2_i {k : List D → D} {i j : Int} (hc : cRgOk i j = true) (ha : ma env tp = .ok (.int i) t1') (h : m env t1' = .ok (.int j) t2') : rg2E k ma m env tp = .ok (k (rangeL i j)) t2' := by
  unfold rg2E; rw [ha]; simp only [RE.bind_ok]; rw [h]; simp only [RE.bind_ok]; rw [if_pos hc]
theorem cRgOk_i {i j : Int} (h1 : cRg i = true) (h2 : cRg j = true) (h3 : (j - i).toNat ≤ 16777216) : cRgOk i j = true := by
  unfold cRgOk; rw [h1, h2, decide_eq_true h3]; rfl
theorem cRg_zero : cRg 0 = true := by decide +kernel
theorem ev_rg1L {n : Nat} (hn : n ≤ 16777216) (h : m env tp = .ok (eN n) t1') : rg1E .lst m env tp = .ok (eL eN (List.range n)) t1' := by
  rw [rg1_i (cRgOk_i cRg_zero (cRg_nat (show n ≤ 1073741824 by omega)) (by omega)) h, rangeL_N]
theorem ev_rg1T {n : Nat} (hn : n ≤ 16777216) (h : m env tp = .ok (eN n) t1') : rg1E .tup m env tp = .ok (eT eN (List.range n)) t1' := by
  rw [rg1_i (cRgOk_i cRg_zero (cRg_nat (show n ≤ 1073741824 by omega)) (by omega)) h, rangeL_N]
theorem flatten_sing (bs : List Bool) : (bs.map fun b => [b]).flatten = bs := by
  induction bs with
  | nil => rfl
  | cons b bs ih => rw [List.map_cons, List.flatten_cons, ih]; rfl
theorem sum_lens (bs : List Row) : ((bs.map rowS).map (·.length)).sum = (bs.map (·.length)).sum := by
  rw [List.map_map]; congr 1; exact List.map_congr_left fun a _ => rowS_len a
theorem sum_ones {α : Type} (xs : List α) : (xs.map fun _ => 1).sum = xs.length := by
  induction xs with
  | nil => rfl
  | cons x xs ih => rw [List.map_cons, List.sum_cons, ih, List.length_cons]; omega
theorem join_R {d : D} {bs : List Row} (hd : itemsD d = some (bs.map eR)) (h : (bs.map (·.length)).sum ≤ 16777216) : joinD (.str "") d = some (eR bs.flatten) := by
  unfold joinD
  simp only
  rw [hd]
  simp only [Option.bind_some]
  rw [unS_mapR]
  simp only [Option.bind_some]
  have e : ("" : Str) = rowS [] := by decide +kernel
  rw [e, rowS_len, sum_lens, if_pos (by simpa using h), join_rows]
theorem ev_joinR {bs : List Row} (h : (bs.map (·.length)).sum ≤ 16777216) (hb : mb env tp = .ok (eL eR bs) t1') : methE isStrD joinD (cE (.str "")) mb env tp = .ok (eR bs.flatten) t1' :=
  ev_meth rfl rfl hb (join_R (d := eL eR bs) rfl h)
theorem ev_joinG {bs : List Bool} (h : bs.length ≤ 16777216) (hb : mb env tp = .ok (eL eG bs) t1') : methE isStrD joinD (cE (.str "")) mb env tp = .ok (eR bs) t1' := by
  have e : bs.map eG = (bs.map fun b => [b]).map eR := by rw [List.map_map]; rfl
  have := ev_joinR (bs := bs.map fun b => [b]) (by rw [List.map_map]; show (bs.map fun _ => 1).sum ≤ 16777216; rw [sum_ones]; exact h) (hb.trans (by show RE.ok (D.lst (bs.map eG)) t1' = _; rw [e]))
  rw [this, flatten_sing]
end
end T
set_option maxHeartbeats 1000000
namespace T
open PySem L2 G
abbrev Wn := DEnv → List D → Prop
abbrev Wr := D → List D → Prop
/-- N behind it, R where it returns, B where it breaks, C where it goes on with the next turn -/
inductive WP (N : Wn) (R : Wr) (B C : Wn) : RS → Prop
  | nx {e : DEnv} {t : List D} : N e t → WP N R B C (.nx e t)
  | rt {d : D} {t : List D} : R d t → WP N R B C (.rt d t)
  | bk {e : DEnv} {t : List D} : B e t → WP N R B C (.bk e t)
  | ct {e : DEnv} {t : List D} : C e t → WP N R B C (.ct e t)
abbrev At (s : SS) (env : DEnv) (tp : List D) : RS := s env tp
def no : Wn := fun _ _ => False
section
variable {α β γ δ : Type} {e : α → D} {e1 : β → D} {env : DEnv} {tp t1' t2' : List D} {m ma mb mc : SE D} {mi : SE (List D)} {ms : SE (List D)} {c : SE Bool} {N : Wn} {R : Wr} {B C : Wn} {s s1 s2 : SS} {P : Prop} [Decidable P]
theorem wp_seq (h : WP (fun e t => WP N R B C (s2 e t)) R B C (s1 env tp)) : WP N R B C (seqS s1 s2 env tp) := by
  unfold seqS
  cases q : s1 env tp with
  | nx e t => rw [q] at h; cases h with | nx h => exact h
  | rt d t => rw [q] at h; cases h with | rt h => exact .rt h
  | bk e t => rw [q] at h; cases h with | bk h => exact .bk h
  | ct e t => rw [q] at h; cases h with | ct h => exact .ct h
  | exn a b t => rw [q] at h; cases h
  | stuck => rw [q] at h; cases h
theorem wp_skip (h : N env tp) : WP N R B C (skipS env tp) := .nx h
theorem wp_set {i : Nat} {d : D} (h : m env tp = .ok d t1') (hn : N (env.set i (some d)) t1') : WP N R B C (setS i m env tp) := by
  unfold setS; rw [h]; exact .nx hn
theorem wp_setF {i : Nat} {d : D} (h : m env tp = .ok d t1') (hi : decide (i < env.length) = true) (hn : N (env.set i (some d)) t1') : WP N R B C (setFS i m env tp) := by
  unfold setFS; rw [h]
  show WP N R B C (if i < env.length then .nx (env.set i (some d)) t1' else .stuck)
  rw [if_pos (of_decide_eq_true hi)]; exact .nx hn
theorem wp_ret {d : D} (h : m env tp = .ok d t1') (hr : R d t1') : WP N R B C (retS m env tp) := by
  unfold retS; rw [h]; exact .rt hr
theorem wp_drop {d : D} (h : m env tp = .ok d t1') (hn : N env t1') : WP N R B C (dropS m env tp) := by
  unfold dropS; rw [h]; exact .nx hn
theorem wp_if (h : c env tp = .ok (decide P) t1') (hp : P → WP N R B C (s1 env t1')) (hn : ¬P → WP N R B C (s2 env t1')) : WP N R B C (ifS c s1 s2 env tp) := by
  unfold ifS; rw [h]
  show WP N R B C (if decide P = true then s1 env t1' else s2 env t1')
  by_cases q : P
  · rw [if_pos (decide_eq_true q)]; exact hp q
  · rw [if_neg (by simp [q])]; exact hn q
theorem wp_ifJ (J : DEnv → List D → Prop) (h : c env tp = .ok (decide P) t1') (hp : P → WP J R B C (s1 env t1')) (hn : ¬P → WP J R B C (s2 env t1')) (hJ : ∀ e t, J e t → N e t) : WP N R B C (ifS c s1 s2 env tp) := by
  have key : ∀ r : RS, WP J R B C r → WP N R B C r := fun r h => by
    cases h with
    | nx h => exact .nx (hJ _ _ h)
    | rt h => exact .rt h
    | bk h => exact .bk h
    | ct h => exact .ct h
  exact key _ (wp_if h hp hn)
theorem ev_as {x y : α} (h : x = y) {e : α → D} {r : RE D} {t : List D} (p : r = .ok (e y) t) : r = .ok (e x) t := by rw [h]; exact p
theorem ev_tt (h : P) {t : List D} : (RE.ok (eB (decide P)) t : RE D) = .ok (.bl true) t := by rw [decide_eq_true h]
theorem ev_truN {x : Nat} (h : m env tp = .ok (eN x) t1') : truE m env tp = .ok (decide (x ≠ 0)) t1' := by
  unfold truE; rw [h]
  show RE.ok (((x : Int)) != 0) t1' = _
  congr 1
  by_cases q : x = 0
  · subst q; rfl
  · rw [decide_eq_true q]; exact bne_iff_ne.mpr (by omega)
theorem ev_compI {vs is : List Nat} {tgt : D → Option (List D)} {xs : List α} {ds : α → List D} {P : α → Prop} [DecidablePred P] (hi : mi env tp = .ok (xs.map e) t1') (hl : xs.length ≤ 1000000) (ht : ∀ x, tgt (e x) = some (ds x))
    (hc : ∀ x ∈ xs, c (setAll (wipeE env vs) is (ds x)) t1' = .ok (decide (P x)) t1') (hm : ∀ x ∈ xs, P x → m (setAll (wipeE env vs) is (ds x)) t1' = .ok (e x) t1') :
    compE mi vs tgt is c m env tp = .ok (eL e (xs.filter fun x => decide (P x))) t1' := by
  have := ev_comp (g := fun x => x) (e1 := e) (vs := vs) hi hl ht hc hm
  rw [this]
  simp
theorem wp_app {i : Nat} {xs : List α} {x : α} (he : env[i]? = some (some (eL e xs))) (h : m env tp = .ok (e x) t1') (hl : xs.length < 1000000) (hn : N (env.set i (some (eL e (xs ++ [x])))) t1') : WP N R B C (appS i m env tp) := by
  unfold appS
  rw [he]
  simp only
  rw [h]
  show WP N R B C (if (xs.map e).length < sizeLine then .nx (env.set i (some (.lst (xs.map e ++ [e x])))) t1' else .stuck)
  rw [List.length_map, if_pos (by have := small_line (Nat.le_refl 1000000); omega)]
  rw [show xs.map e ++ [e x] = (xs ++ [x]).map e from by rw [List.map_append]; rfl]
  exact .nx hn
theorem wp_par {is : List Nat} {ds : List D} (h : ms env tp = .ok ds t1') (hi : is.all (fun i => decide (i < env.length)) = true) (hn : N (setAll env is ds) t1') : WP N R B C (parS is ms env tp) := by
  unfold parS; rw [h]
  show WP N R B C (if is.all (fun i => decide (i < env.length)) = true then .nx (setAll env is ds) t1' else .stuck)
  rw [if_pos hi]; exact .nx hn
theorem wp_unp {n : Nat} {is : List Nat} {d : D} {ds : List D} (h : m env tp = .ok d t1') (ht : tN n d = some ds) (hn : N (setAll env is ds) t1') : WP N R B C (unpS n is m env tp) := by
  unfold unpS; rw [h]
  show WP N R B C (match tN n d with
    | some ds => .nx (setAll env is ds) t1'
    | none => .stuck)
  rw [ht]; exact .nx hn
theorem WP.imp {N' : Wn} {R' : Wr} {B' C' : Wn} {r : RS} (h : WP N R B C r) (hn : ∀ e t, N e t → N' e t) (hr : ∀ d t, R d t → R' d t) (hb : ∀ e t, B e t → B' e t) (hc : ∀ e t, C e t → C' e t) : WP N' R' B' C' r := by
  cases h with
  | nx h => exact .nx (hn _ _ h)
  | rt h => exact .rt (hr _ _ h)
  | bk h => exact .bk (hb _ _ h)
  | ct h => exact .ct (hc _ _ h)
theorem wp_forL {tgt : D → Option (List D)} {is : List Nat} {ds : α → List D} (I : Nat → Wn) (ht : ∀ x, tgt (e x) = some (ds x)) : ∀ (xs : List α) (k : Nat) (env : DEnv) (tp : List D), I k env tp →
    (∀ j x env t, xs[j]? = some x → I (k + j) env t → WP (I (k + j + 1)) R N (I (k + j + 1)) (s (setAll env is (ds x)) t)) → (∀ env t, I (k + xs.length) env t → N env t) → WP N R B C (forL tgt is s (xs.map e) env tp)
  | [], k, env, tp, h0, _, he => .nx (he env tp h0)
  | x :: xs, k, env, tp, h0, hs, he => by
    rw [List.map_cons]
    unfold forL
    rw [ht]
    simp only
    have h1 := hs 0 x env tp rfl h0
    have ih : ∀ env tp, I (k + 1) env tp → WP N R B C (forL tgt is s (xs.map e) env tp) := fun env tp hi => wp_forL I ht xs (k + 1) env tp hi (fun j y env t hj hi => by
      have q : k + 1 + j = k + (j + 1) := by omega
      rw [q] at hi ⊢
      exact hs (j + 1) y env t (by simpa using hj) hi) (fun env t hi => he env t (by rw [List.length_cons, show k + (xs.length + 1) = k + 1 + xs.length from by omega]; exact hi))
    cases q : s (setAll env is (ds x)) tp with
    | nx e t => rw [q] at h1; cases h1 with | nx h1 => exact ih e t h1
    | rt d t => rw [q] at h1; cases h1 with | rt h1 => exact .rt h1
    | bk e t => rw [q] at h1; cases h1 with | bk h1 => exact .nx h1
    | ct e t => rw [q] at h1; cases h1 with | ct h1 => exact ih e t h1
    | exn a b t => rw [q] at h1; cases h1
    | stuck => rw [q] at h1; cases h1
theorem wp_for {tgt : D → Option (List D)} {is : List Nat} {xs : List α} {ds : α → List D} (I : Nat → Wn) (hi : mi env tp = .ok (xs.map e) t1') (ht : ∀ x, tgt (e x) = some (ds x)) (h0 : I 0 env t1')
    (hs : ∀ k x env t, xs[k]? = some x → I k env t → WP (I (k + 1)) R N (I (k + 1)) (s (setAll env is (ds x)) t)) (he : ∀ env t, I xs.length env t → N env t) : WP N R B C (forS mi tgt is s env tp) := by
  unfold forS; rw [hi]
  exact wp_forL I ht xs 0 env t1' h0 (fun j x env t hj q => by rw [Nat.zero_add] at q ⊢; exact hs j x env t hj q) (fun env t q => he env t (by rw [Nat.zero_add] at q; exact q))
theorem wp_whileF (I : Nat → Wn) (hs : ∀ n env t, I n env t → ∃ (P : Prop) (dp : Decidable P), c env t = .ok (@decide P dp) t ∧ (P → WP (fun e t => ∃ n', n' < n ∧ I n' e t) R N (fun e t => ∃ n', n' < n ∧ I n' e t) (s env t)) ∧ (¬P → N env t)) : ∀ (f n : Nat) (env : DEnv) (tp : List D), n < f → I n env tp → WP N R B C (whileF c s f env tp)
  | 0, n, env, tp, hf, h0 => by omega
  | f + 1, n, env, tp, hf, h0 => by
    unfold whileF
    obtain ⟨P, dp, e1, e2, e3⟩ := hs n env tp h0
    rw [e1]
    show WP N R B C (if @decide P dp = true then _ else RS.nx env tp)
    by_cases q : P
    · rw [if_pos (decide_eq_true q)]
      have h1 := e2 q
      have ih : ∀ e t, (∃ n', n' < n ∧ I n' e t) → WP N R B C (whileF c s f e t) := fun e t ⟨n', l, i⟩ => wp_whileF I hs f n' e t (by omega) i
      cases q : s env tp with
      | nx e t => rw [q] at h1; cases h1 with | nx h1 => exact ih e t h1
      | rt d t => rw [q] at h1; cases h1 with | rt h1 => exact .rt h1
      | bk e t => rw [q] at h1; cases h1 with | bk h1 => exact .nx h1
      | ct e t => rw [q] at h1; cases h1 with | ct h1 => exact ih e t h1
      | exn a b t => rw [q] at h1; cases h1
      | stuck => rw [q] at h1; cases h1
    · rw [if_neg (by simp [q])]; exact .nx (e3 q)
theorem wp_while {f : Nat} (I : Nat → Wn) (h0 : ∃ n, n < f ∧ I n env tp) (hs : ∀ n env t, I n env t → ∃ (P : Prop) (dp : Decidable P), c env t = .ok (@decide P dp) t ∧ (P → WP (fun e t => ∃ n', n' < n ∧ I n' e t) R N (fun e t => ∃ n', n' < n ∧ I n' e t) (s env t)) ∧ (¬P → N env t)) : WP N R B C (whileS f c s env tp) := by
  obtain ⟨n, l, i⟩ := h0
  exact wp_whileF I hs f n env tp l i
/-- a def of data -/
theorem wp_def {n : Nat} {ds : List D} {Q : D → List D → Prop} (h : WP (fun _ t => Q .non t) Q no no (s (ds.map some ++ List.replicate (n - ds.length) none) tp)) : ∃ d t, defD n s ds tp = .ok d t ∧ Q d t := by
  unfold defD
  cases q : s (ds.map some ++ List.replicate (n - ds.length) none) tp with
  | nx e t => rw [q] at h; cases h with | nx h => exact ⟨.non, t, rfl, h⟩
  | rt d t => rw [q] at h; cases h with | rt h => exact ⟨d, t, rfl, h⟩
  | bk e t => rw [q] at h; cases h with | bk h => exact h.elim
  | ct e t => rw [q] at h; cases h with | ct h => exact h.elim
  | exn a b t => rw [q] at h; cases h
  | stuck => rw [q] at h; cases h
theorem wp_law {ns : List Int} {n : Nat} (h : WP no (fun d t => d = .bl true) no no (s (some (.scr ns) :: some .tape :: List.replicate n none) tp)) : ∃ t, retR (s (some (.scr ns) :: some .tape :: List.replicate n none) tp) = .ok (.bl true) t := by
  cases q : s (some (.scr ns) :: some .tape :: List.replicate n none) tp with
  | nx e t => rw [q] at h; cases h with | nx h => exact h.elim
  | rt d t => rw [q] at h; cases h with | rt h => exact ⟨t, by rw [show d = .bl true from h]; rfl⟩
  | bk e t => rw [q] at h; cases h with | bk h => exact h.elim
  | ct e t => rw [q] at h; cases h with | ct h => exact h.elim
  | exn a b t => rw [q] at h; cases h
  | stuck => rw [q] at h; cases h
end
end T
set_option maxHeartbeats 1000000
namespace T
open PySem L2 G
abbrev eD {β : Type} (e : β → D) (d : List (Nat × β)) : D := .dic (d.map fun p => (eN p.1, e p.2))
abbrev dkeys {β : Type} (d : List (Nat × β)) : List Nat := d.map (·.1)
def dget {β : Type} : List (Nat × β) → Nat → Option β
  | [], _ => none
  | (a, b) :: r, k => if a = k then some b else dget r k
def dput {β : Type} (d : List (Nat × β)) (k : Nat) (v : β) : List (Nat × β) := if (dget d k).isSome = true then d.map (fun p => if p.1 = k then (p.1, v) else p) else d ++ [(k, v)]
def dictOf {β : Type} (ps : List (Nat × β)) : List (Nat × β) := ps.foldl (fun d p => dput d p.1 p.2) []
section
variable {α β γ δ : Type} {e : β → D} {e1 : α → D} {e2 : γ → D} {env : DEnv} {tp t1' t2' t3' : List D} {m ma mb mc mk mv : SE D} {mi mi1 : SE (List D)} {c : SE Bool}
theorem key_eqN {a k : Nat} : (keyOf (eN a) = some (.inl (k : Int))) ↔ a = k := by
  show (some (Sum.inl (a : Int)) = some (Sum.inl (k : Int)) : Prop) ↔ _
  constructor
  · intro h; have := Sum.inl.inj (Option.some.inj h); omega
  · rintro rfl; rfl
theorem find_T (k : Nat) : ∀ d : List (Nat × β), findP keyOf (d.map fun p => (eN p.1, e p.2)) (.inl (k : Int)) = (dget d k).map e
  | [] => rfl
  | (a, b) :: r => by
    rw [List.map_cons]
    unfold findP dget
    by_cases q : a = k
    · rw [if_pos (key_eqN.mpr q), if_pos q]; rfl
    · rw [if_neg (fun z => q (key_eqN.mp z)), if_neg q]; exact find_T k r
theorem dget_isSome {d : List (Nat × β)} {k : Nat} : (dget d k).isSome = true ↔ k ∈ dkeys d := by
  induction d with
  | nil => simp [dget]
  | cons p r ih =>
    unfold dget
    by_cases q : p.1 = k
    · simp [q]
    · rw [if_neg q, ih]; simp [Ne.symm q]
theorem put_T (d : List (Nat × β)) (k : Nat) (v : β) : putP keyOf keyD (d.map fun p => (eN p.1, e p.2)) (.inl (k : Int)) (e v) = (dput d k v).map fun p => (eN p.1, e p.2) := by
  unfold putP dput
  rw [find_T, Option.isSome_map]
  by_cases q : (dget d k).isSome = true
  · rw [if_pos q, if_pos q, List.map_map, List.map_map]
    refine List.map_congr_left fun p _ => ?_
    show (if keyOf (eN p.1) = some (.inl (k : Int)) then (eN p.1, e v) else (eN p.1, e p.2)) = _
    by_cases z : p.1 = k
    · rw [if_pos (key_eqN.mpr z)]; simp [z]
    · rw [if_neg fun y => z (key_eqN.mp y)]; simp [z]
  · rw [if_neg q, if_neg q, List.map_append]; rfl
theorem dget_N (d : List (Nat × β)) (k : Nat) : dgetD (eD e d) (eN k) = some ((dget d k).map e) := by
  show some (findP keyOf (d.map fun p => (eN p.1, e p.2)) (.inl (k : Int))) = _
  rw [find_T]
theorem ev_inK {x : Nat} {d : List (Nat × β)} (ha : ma env tp = .ok (eN x) t1') (hb : mb env t1' = .ok (eD e d) t2') : binE (inKD false) ma mb env tp = .ok (eB (decide (x ∈ dkeys d))) t2' :=
  ev_bin ha hb (by
    unfold inKD
    rw [dget_N]
    show some (D.bl ((dget d x).map e).isSome) = _
    rw [Option.isSome_map]
    congr 2
    by_cases q : x ∈ dkeys d
    · rw [decide_eq_true q]; exact dget_isSome.mpr q
    · rw [decide_eq_false q]
      cases z : (dget d x).isSome with
      | false => rfl
      | true => exact (q (dget_isSome.mp z)).elim)
theorem ev_ninK {x : Nat} {d : List (Nat × β)} (ha : ma env tp = .ok (eN x) t1') (hb : mb env t1' = .ok (eD e d) t2') : binE (inKD true) ma mb env tp = .ok (eB (decide (x ∉ dkeys d))) t2' :=
  ev_bin ha hb (by
    unfold inKD
    rw [dget_N]
    show some (D.bl (!((dget d x).map e).isSome)) = _
    rw [Option.isSome_map]
    congr 2
    by_cases q : x ∈ dkeys d
    · rw [decide_eq_false (by simp [q])]
      rw [dget_isSome.mpr q]; rfl
    · rw [decide_eq_true q]
      cases z : (dget d x).isSome with
      | false => rfl
      | true => exact (q (dget_isSome.mp z)).elim)
theorem ev_ixK [Inhabited β] {x : Nat} {d : List (Nat × β)} (h : x ∈ dkeys d) (ha : ma env tp = .ok (eD e d) t1') (hb : mb env t1' = .ok (eN x) t2') : binE ixKD ma mb env tp = .ok (e ((dget d x).getD default)) t2' :=
  ev_bin ha hb (by
    unfold ixKD
    rw [dget_N]
    have := dget_isSome.mpr h
    cases z : dget d x with
    | none => rw [z] at this; cases this
    | some v => rfl)
theorem len_dput (d : List (Nat × β)) (k : Nat) (v : β) : (dput d k v).length ≤ d.length + 1 := by
  unfold dput
  split
  · rw [List.length_map]; omega
  · rw [List.length_append, List.length_singleton]; omega
theorem fold_T {f : List (D × D) → D → List D → RE (List (D × D))} {h : List (Nat × β) → α → List (Nat × β)} : ∀ {xs : List α} {d : List (Nat × β)},
    (∀ x ∈ xs, ∀ d : List (Nat × β), d.length < 1000000 → f (d.map fun p => (eN p.1, e p.2)) (e1 x) tp = .ok ((h d x).map fun p => (eN p.1, e p.2)) tp) → (∀ x ∈ xs, ∀ d, (h d x).length ≤ d.length + 1) → d.length + xs.length ≤ 1000000 →
    foldR f (xs.map e1) (d.map fun p => (eN p.1, e p.2)) tp = .ok ((xs.foldl h d).map fun p => (eN p.1, e p.2)) tp
  | [], d, _, _, _ => rfl
  | x :: xs, d, hf, hl, hn => by
    rw [List.map_cons]
    unfold foldR
    rw [List.length_cons] at hn
    rw [hf x List.mem_cons_self d (by omega)]
    simp only
    have := hl x List.mem_cons_self d
    exact fold_T (fun y hy => hf y (List.mem_cons_of_mem _ hy)) (fun y hy => hl y (List.mem_cons_of_mem _ hy)) (by omega)
theorem pair_T {k : Nat} {v : β} {d : List (Nat × β)} (hl : d.length < 1000000) (hk : mk env tp = .ok (eN k) tp) (hv : mv env tp = .ok (e v) tp) : pairT mk mv env (d.map fun p => (eN p.1, e p.2)) tp = .ok ((dput d k v).map fun p => (eN p.1, e p.2)) tp := by
  unfold pairT
  rw [hk]; simp only
  rw [hv]; simp only
  unfold putR
  rw [List.length_map, if_pos (by have := small_line (Nat.le_refl 1000000); omega)]
  show RE.ok (putP keyOf keyD (d.map fun p => (eN p.1, e p.2)) (.inl (k : Int)) (e v)) tp = _
  rw [put_T]
theorem dictOf_map (g : α → Nat × β) (xs : List α) : dictOf (xs.map g) = xs.foldl (fun d x => dput d (g x).1 (g x).2) [] := by
  unfold dictOf; rw [List.foldl_map]
theorem ev_dc {vs is : List Nat} {tgt : D → Option (List D)} {xs : List α} {ds : α → List D} {k : α → Nat} {v : α → β} (hi : mi env tp = .ok (xs.map e1) t1') (hl : xs.length ≤ 1000000) (ht : ∀ x, tgt (e1 x) = some (ds x))
    (hk : ∀ x ∈ xs, mk (setAll (wipeE env vs) is (ds x)) t1' = .ok (eN (k x)) t1') (hv : ∀ x ∈ xs, mv (setAll (wipeE env vs) is (ds x)) t1' = .ok (e (v x)) t1') :
    dcE mi vs tgt is mk mv env tp = .ok (eD e (dictOf (xs.map fun x => (k x, v x)))) t1' := by
  unfold dcE
  rw [hi]
  simp only [RE.bind_ok]
  have := fold_T (f := dcTurn tgt is mk mv (wipeE env vs)) (e := e) (e1 := e1) (tp := t1') (h := fun d x => dput d (k x) (v x)) (xs := xs) (d := []) (fun x hx d hd => by
    unfold dcTurn
    rw [ht]
    exact pair_T hd (hk x hx) (hv x hx)) (fun x _ d => len_dput _ _ _) (by simpa using hl)
  rw [show ([] : List (D × D)) = (([] : List (Nat × β)).map fun p => (eN p.1, e p.2)) from rfl, this]
  simp only
  rw [dictOf_map]
theorem ev_dc2 {vs is vs1 is1 : List Nat} {tgt tgt1 : D → Option (List D)} {xs : List α} {ds : α → List D} {ys : α → List γ} {ds1 : γ → List D} {k : α → γ → Nat} {v : α → γ → β} (hi : mi env tp = .ok (xs.map e1) t1') (ht : ∀ x, tgt (e1 x) = some (ds x))
    (hi1 : ∀ x ∈ xs, mi1 (setAll (wipeE env vs) is (ds x)) t1' = .ok ((ys x).map e2) t1') (ht1 : ∀ y, tgt1 (e2 y) = some (ds1 y))
    (hk : ∀ x ∈ xs, ∀ y ∈ ys x, mk (setAll (wipeE (setAll (wipeE env vs) is (ds x)) vs1) is1 (ds1 y)) t1' = .ok (eN (k x y)) t1')
    (hv : ∀ x ∈ xs, ∀ y ∈ ys x, mv (setAll (wipeE (setAll (wipeE env vs) is (ds x)) vs1) is1 (ds1 y)) t1' = .ok (e (v x y)) t1')
    (hl : (xs.flatMap ys).length ≤ 1000000) :
    dc2E mi vs tgt is mi1 vs1 tgt1 is1 mk mv env tp = .ok (eD e (dictOf (xs.flatMap fun x => (ys x).map fun y => (k x y, v x y)))) t1' := by
  unfold dc2E
  rw [hi]
  simp only [RE.bind_ok]
  have key : ∀ (zs : List α) (d : List (Nat × β)), (∀ x ∈ zs, x ∈ xs) → d.length + (zs.flatMap ys).length ≤ 1000000 → foldR (dcTurn2 tgt is mi1 vs1 tgt1 is1 mk mv (wipeE env vs)) (zs.map e1) (d.map fun p => (eN p.1, e p.2)) t1' =
      .ok ((zs.foldl (fun d x => (ys x).foldl (fun d y => dput d (k x y) (v x y)) d) d).map fun p => (eN p.1, e p.2)) t1' := by
    intro zs
    induction zs with
    | nil => intro d _ _; rfl
    | cons x zs ih =>
      intro d hz hn
      rw [List.flatMap_cons, List.length_append] at hn
      rw [List.map_cons]
      unfold foldR
      have hx := hz x List.mem_cons_self
      have one : dcTurn2 tgt is mi1 vs1 tgt1 is1 mk mv (wipeE env vs) (d.map fun p => (eN p.1, e p.2)) (e1 x) t1' = .ok (((ys x).foldl (fun d y => dput d (k x y) (v x y)) d).map fun p => (eN p.1, e p.2)) t1' := by
        unfold dcTurn2
        rw [ht]
        simp only
        rw [hi1 x hx]
        simp only
        exact fold_T (e := e) (e1 := e2) (h := fun d y => dput d (k x y) (v x y)) (fun y hy d hd => by
          unfold dcTurn
          rw [ht1]
          exact pair_T hd (hk x hx y hy) (hv x hx y hy)) (fun y _ d => len_dput _ _ _) (by omega)
      rw [one]
      simp only
      have len : ∀ (us : List γ) (d : List (Nat × β)), (us.foldl (fun d y => dput d (k x y) (v x y)) d).length ≤ d.length + us.length := by
        intro us
        induction us with
        | nil => intro d; exact Nat.le_refl _
        | cons u us ih2 =>
          intro d
          rw [List.foldl_cons, List.length_cons]
          have a := ih2 (dput d (k x u) (v x u))
          have b := len_dput d (k x u) (v x u)
          omega
      have := len (ys x) d
      exact ih _ (fun z h => hz z (List.mem_cons_of_mem _ h)) (by omega)
  have := key xs [] (fun _ h => h) (by simpa using hl)
  rw [show ([] : List (D × D)) = (([] : List (Nat × β)).map fun p => (eN p.1, e p.2)) from rfl, this]
  simp only
  congr 2
  unfold dictOf
  rw [List.foldl_flatMap]
  congr 1
  congr 1
  funext d x
  rw [List.foldl_map]
theorem wp_dset {N : Wn} {R : Wr} {B C : Wn} {i k : Nat} {v : β} {d : List (Nat × β)} (he : env[i]? = some (some (eD e d))) (hv : mv env tp = .ok (e v) t1') (hk : mk env t1' = .ok (eN k) t2') (hl : d.length < 1000000) (hn : N (env.set i (some (eD e (dput d k v)))) t2') : WP N R B C (dsetS i mk mv env tp) := by
  unfold dsetS
  rw [he]
  simp only
  rw [hv]
  show WP N R B C ((mk env t1').bindS fun k tp2 => (match putD (eD e d) k (e v) with
    | some d' => RS.nx (env.set i (some d')) tp2
    | none => RS.stuck))
  rw [hk]
  have : putD (eD e d) (eN k) (e v) = some (eD e (dput d k v)) := by
    show (if (d.map fun p => (eN p.1, e p.2)).length < sizeLine then some (D.dic (putP keyOf keyD (d.map fun p => (eN p.1, e p.2)) (.inl (k : Int)) (e v))) else none) = _
    rw [List.length_map, if_pos (by have := small_line (Nat.le_refl 1000000); omega), put_T]
  show WP N R B C (match putD (eD e d) (eN k) (e v) with
    | some d' => RS.nx (env.set i (some d')) t2'
    | none => RS.stuck)
  rw [this]
  exact .nx hn
theorem dkeys_dput {d : List (Nat × β)} {k x : Nat} {v : β} : x ∈ dkeys (dput d k v) ↔ x ∈ dkeys d ∨ x = k := by
  unfold dput
  by_cases q : (dget d k).isSome = true
  · rw [if_pos q]
    have hk := dget_isSome.mp q
    have e : dkeys (d.map fun p => if p.1 = k then (p.1, v) else p) = dkeys d := by
      unfold dkeys
      rw [List.map_map]
      refine List.map_congr_left fun p _ => ?_
      show (if p.1 = k then (p.1, v) else p).1 = p.1
      split <;> rfl
    rw [e]
    exact ⟨.inl, fun h => h.elim id fun h => h ▸ hk⟩
  · rw [if_neg q]
    unfold dkeys
    rw [List.map_append, List.mem_append]
    simp
theorem dkeys_fold {ps : List (Nat × β)} {x : Nat} : ∀ {d : List (Nat × β)}, x ∈ dkeys (ps.foldl (fun d p => dput d p.1 p.2) d) ↔ x ∈ dkeys d ∨ x ∈ dkeys ps := by
  induction ps with
  | nil => intro d; simp
  | cons p ps ih =>
    intro d
    rw [List.foldl_cons, ih, dkeys_dput]
    simp only [List.map_cons, List.mem_cons]
    exact or_assoc
theorem mem_dictOf {ps : List (Nat × β)} {x : Nat} : x ∈ dkeys (dictOf ps) ↔ x ∈ dkeys ps := by
  unfold dictOf; rw [dkeys_fold]; simp
end
end T
set_option maxHeartbeats 1000000
namespace T
open PySem L2 G
end T
namespace T
open PySem L2 G
structure KeyE {κ : Type} (e1 : κ → D) where
  q : κ → List Key
  of : ∀ k, keysOf (e1 k) = some (q k)
  kd : ∀ k, keyT (q k) = e1 k
  inj : ∀ a b, q a = q b → a = b
abbrev eDT {κ β : Type} (e1 : κ → D) (e : β → D) (d : List (κ × β)) : D := .dct (d.map fun p => (e1 p.1, e p.2))
abbrev gkeys {κ β : Type} (d : List (κ × β)) : List κ := d.map (·.1)
def gget {κ β : Type} [DecidableEq κ] : List (κ × β) → κ → Option β
  | [], _ => none
  | (a, b) :: r, k => if a = k then some b else gget r k
def gput {κ β : Type} [DecidableEq κ] (d : List (κ × β)) (k : κ) (v : β) : List (κ × β) := if (gget d k).isSome = true then d.map (fun p => if p.1 = k then (p.1, v) else p) else d ++ [(k, v)]
section
variable {κ β α : Type} [DecidableEq κ] {e1 : κ → D} {e : β → D} {env : DEnv} {tp t1' t2' t3' : List D} {m ma mb mc mk mv : SE D}
theorem KeyE.eq (h : KeyE e1) {a k : κ} : keysOf (e1 a) = some (h.q k) ↔ a = k := by
  rw [h.of]
  exact ⟨fun z => h.inj _ _ (Option.some.inj z), fun z => by rw [z]⟩
theorem gfind (h : KeyE e1) (k : κ) : ∀ d : List (κ × β), findP keysOf (d.map fun p => (e1 p.1, e p.2)) (h.q k) = (gget d k).map e
  | [] => rfl
  | (a, b) :: r => by
    rw [List.map_cons]
    unfold findP gget
    by_cases q : a = k
    · rw [if_pos (h.eq.mpr q), if_pos q]; rfl
    · rw [if_neg (fun z => q (h.eq.mp z)), if_neg q]; exact gfind h k r
theorem gget_isSome {d : List (κ × β)} {k : κ} : (gget d k).isSome = true ↔ k ∈ gkeys d := by
  induction d with
  | nil => simp [gget]
  | cons p r ih =>
    unfold gget
    by_cases q : p.1 = k
    · simp [q]
    · rw [if_neg q, ih]; simp [Ne.symm q]
theorem gput_T (h : KeyE e1) (d : List (κ × β)) (k : κ) (v : β) : putP keysOf keyT (d.map fun p => (e1 p.1, e p.2)) (h.q k) (e v) = (gput d k v).map fun p => (e1 p.1, e p.2) := by
  unfold putP gput
  rw [gfind, Option.isSome_map]
  by_cases q : (gget d k).isSome = true
  · rw [if_pos q, if_pos q, List.map_map, List.map_map]
    refine List.map_congr_left fun p _ => ?_
    show (if keysOf (e1 p.1) = some (h.q k) then (e1 p.1, e v) else (e1 p.1, e p.2)) = _
    by_cases z : p.1 = k
    · rw [if_pos (h.eq.mpr z)]; simp [z]
    · rw [if_neg fun y => z (h.eq.mp y)]; simp [z]
  · rw [if_neg q, if_neg q, List.map_append]
    show _ ++ [(keyT (h.q k), e v)] = _ ++ [(e1 k, e v)]
    rw [h.kd]
theorem gget_N (h : KeyE e1) (d : List (κ × β)) (k : κ) : dgetD (eDT e1 e d) (e1 k) = some ((gget d k).map e) := by
  show (keysOf (e1 k)).map (fun q => findP keysOf (d.map fun p => (e1 p.1, e p.2)) q) = _
  rw [h.of]
  show some (findP keysOf (d.map fun p => (e1 p.1, e p.2)) (h.q k)) = _
  rw [gfind]
theorem ev_inDT (h : KeyE e1) {x : κ} {d : List (κ × β)} [Decidable (x ∈ gkeys d)] (ha : ma env tp = .ok (e1 x) t1') (hb : mb env t1' = .ok (eDT e1 e d) t2') : binE (inKD false) ma mb env tp = .ok (eB (decide (x ∈ gkeys d))) t2' :=
  ev_bin ha hb (by
    unfold inKD
    rw [gget_N h]
    show some (D.bl ((gget d x).map e).isSome) = _
    rw [Option.isSome_map]
    congr 2
    by_cases q : x ∈ gkeys d
    · rw [decide_eq_true q]; exact gget_isSome.mpr q
    · rw [decide_eq_false q]
      cases z : (gget d x).isSome with
      | false => rfl
      | true => exact (q (gget_isSome.mp z)).elim)
theorem ev_ninDT (h : KeyE e1) {x : κ} {d : List (κ × β)} [Decidable (x ∈ gkeys d)] [Decidable (x ∉ gkeys d)] (ha : ma env tp = .ok (e1 x) t1') (hb : mb env t1' = .ok (eDT e1 e d) t2') : binE (inKD true) ma mb env tp = .ok (eB (decide (x ∉ gkeys d))) t2' :=
  ev_bin ha hb (by
    unfold inKD
    rw [gget_N h]
    show some (D.bl (!((gget d x).map e).isSome)) = _
    rw [Option.isSome_map]
    congr 2
    by_cases q : x ∈ gkeys d
    · rw [decide_eq_false (by simp [q])]
      rw [gget_isSome.mpr q]; rfl
    · rw [decide_eq_true q]
      cases z : (gget d x).isSome with
      | false => rfl
      | true => exact (q (gget_isSome.mp z)).elim)
theorem ev_ixDT (h : KeyE e1) [Inhabited β] {x : κ} {d : List (κ × β)} (hk : x ∈ gkeys d) (ha : ma env tp = .ok (eDT e1 e d) t1') (hb : mb env t1' = .ok (e1 x) t2') : binE ixKD ma mb env tp = .ok (e ((gget d x).getD default)) t2' :=
  ev_bin ha hb (by
    unfold ixKD
    rw [gget_N h]
    obtain ⟨v, hv⟩ := Option.isSome_iff_exists.mp (gget_isSome.mpr hk)
    rw [hv]; rfl)
theorem wp_dsetT (h : KeyE e1) {N : Wn} {R : Wr} {B C : Wn} {i : Nat} {k : κ} {v : β} {d : List (κ × β)} (he : env[i]? = some (some (eDT e1 e d))) (hv : mv env tp = .ok (e v) t1') (hk : mk env t1' = .ok (e1 k) t2') (hl : d.length < 1000000) (hn : N (env.set i (some (eDT e1 e (gput d k v)))) t2') : WP N R B C (dsetS i mk mv env tp) := by
  unfold dsetS
  rw [he]
  simp only
  rw [hv]
  show WP N R B C ((mk env t1').bindS fun k tp2 => (match putD (eDT e1 e d) k (e v) with
    | some d' => RS.nx (env.set i (some d')) tp2
    | none => RS.stuck))
  rw [hk]
  have : putD (eDT e1 e d) (e1 k) (e v) = some (eDT e1 e (gput d k v)) := by
    show (if (d.map fun p => (e1 p.1, e p.2)).length < sizeLine then (keysOf (e1 k)).map (fun q => D.dct (putP keysOf keyT (d.map fun p => (e1 p.1, e p.2)) q (e v))) else none) = _
    rw [List.length_map, if_pos (by have := small_line (Nat.le_refl 1000000); omega), h.of]
    show some (D.dct (putP keysOf keyT (d.map fun p => (e1 p.1, e p.2)) (h.q k) (e v))) = _
    rw [gput_T]
  show WP N R B C (match putD (eDT e1 e d) (e1 k) (e v) with
    | some d' => RS.nx (env.set i (some d')) t2'
    | none => RS.stuck)
  rw [this]
  exact .nx hn
end
end T
namespace T
open PySem L2 G
section
variable {env : DEnv} {tp : List D} {ma mb mc : SE D}
theorem ev_chLeLeZ {x y z : Int} (ha : ma env tp = .ok (eZ x) tp) (hb : mb env tp = .ok (eZ y) tp) (hc : mc env tp = .ok (eZ z) tp) : chainE leD leD ma mb mc env tp = .ok (eB (decide (x ≤ y ∧ y ≤ z))) tp := by
  unfold chainE; rw [ha]; simp only [RE.bind_ok]; rw [hb]; simp only [RE.bind_ok]
  by_cases q : x ≤ y
  · rw [show leD (eZ x) (eZ y) = some (.bl true) from by show some (D.bl (decide (x ≤ y))) = _; rw [decide_eq_true q]]
    simp only; rw [hc]; simp only [RE.bind_ok]
    show RE.of (some (D.bl (decide (y ≤ z)))) tp = _
    simp [q]
  · rw [show leD (eZ x) (eZ y) = some (.bl false) from by show some (D.bl (decide (x ≤ y))) = _; rw [decide_eq_false q]]
    simp [q]
end
end T
set_option maxHeartbeats 1000000
namespace T
open PySem L2 G
end T
set_option maxHeartbeats 1000000
namespace T
open PySem L2 G
end T
set_option maxHeartbeats 1000000
namespace T
open PySem L2 G
theorem keysL_rows (p : Pic) : keysOf (ePic p) = some (p.map fun r => Sum.inr (rowS r)) := by
  have e : ePic p = keyT (p.map fun r => Sum.inr (rowS r)) := by
    show D.tup (p.map eR) = D.tup ((p.map fun r => (Sum.inr (rowS r) : Key)).map keyD)
    rw [List.map_map]; rfl
  rw [e, keysOf_T]
def kePic : KeyE (eT eR) where
  q := fun p => p.map fun r => Sum.inr (rowS r)
  of := keysL_rows
  kd := fun p => by
    show D.tup ((p.map fun r => (Sum.inr (rowS r) : Key)).map keyD) = D.tup (p.map eR)
    rw [List.map_map]; rfl
  inj := fun a b h => by
    have h : a.map (fun r => (Sum.inr (rowS r) : Key)) = b.map fun r => Sum.inr (rowS r) := h
    exact (List.map_inj_right fun x y e => rowS_inj (Sum.inr.inj e)).mp h
section
variable {κ β : Type} {e1 : κ → D} {e : β → D} {env : DEnv} {tp t1' t2' : List D} {m ma mb : SE D}
theorem it_keysT {d : List (κ × β)} (h : m env tp = .ok (eDT e1 e d) t1') : keysTI m env tp = .ok ((gkeys d).map e1) t1' := by
  unfold keysTI; rw [h]; simp only [RE.bind_ok]
  show RE.ok ((d.map fun p => (e1 p.1, e p.2)).map (·.1)) t1' = _
  rw [List.map_map]
  show _ = RE.ok ((d.map (·.1)).map e1) t1'
  rw [List.map_map]; rfl
end
end T
set_option maxHeartbeats 1000000
namespace T
open PySem L2 G
end T
set_option maxHeartbeats 1000000
namespace T
open PySem L2 G
def minBy {α : Type} [Inhabited α] (e : α → D) : List α → α
  | [] => default
  | x :: xs => minFold (fun a => (e a).pd) x xs
structure MinE {α : Type} (e : α → D) : Prop where
  ok : ∀ x, (e x).okq = true
  al : ∀ x y, PySem.W.alike (e x).pd (e y).pd = true
  nn : ∀ x, nonPd (e x).pd = false
section
variable {α : Type} {e : α → D} {env : DEnv} {tp t1' : List D} {m : SE D}
theorem minOk_of (h : MinE e) (xs : List α) : minOk (xs.map e) = true := by
  unfold minOk
  have h1 : (xs.map e).all D.okq = true := List.all_eq_true.mpr fun d hd => by
    obtain ⟨x, _, rfl⟩ := List.mem_map.mp hd
    exact h.ok x
  have h2 : ((xs.map e).all fun d => (xs.map e).all fun f => PySem.W.alike d.pd f.pd) = true := List.all_eq_true.mpr fun d hd => List.all_eq_true.mpr fun f hf => by
    obtain ⟨x, _, rfl⟩ := List.mem_map.mp hd
    obtain ⟨y, _, rfl⟩ := List.mem_map.mp hf
    exact h.al x y
  have h3 : ((xs.map e).all fun d => !nonPd d.pd) = true := List.all_eq_true.mpr fun d hd => by
    obtain ⟨x, _, rfl⟩ := List.mem_map.mp hd
    rw [h.nn x]; rfl
  rw [h1, h2, h3]; rfl
theorem ev_minDat [Inhabited α] {xs : List α} (h : MinE e) (hne : xs ≠ []) (ha : m env tp = .ok (eL e xs) t1') : callB minDD (consA m nilA) env tp = .ok (e (minBy e xs)) t1' :=
  ev_callB (ev_cons ha ev_nil) (by
    cases xs with
    | nil => exact (hne rfl).elim
    | cons x xs =>
      show (if minOk ((x :: xs).map e) = true then some (minFold D.pd (e x) (xs.map e)) else none) = _
      rw [if_pos (minOk_of h (x :: xs)), minFold_map (f := fun a => (e a).pd) (u := e) (fun _ => rfl)]
      rfl)
end
theorem lt_asym {a b : PyData} (h : ltPd a b = true) : ltPd b a = false := by
  unfold ltPd PySem.W.dataLt at *
  cases z : PyProof.Rows.lexLt PyProof.Rows.itemOrd (PySem.W.keyToks b) (PySem.W.keyToks a) with
  | false => rfl
  | true =>
    have := PyProof.Rows.lex_trans _ _ _ h z
    rw [PyProof.Rows.lex_irrefl] at this
    cases this
end T
set_option maxHeartbeats 1000000
namespace T
open PySem L2 G
end T
set_option maxHeartbeats 1000000
namespace T
open PySem L2 G
def maxBy {α : Type} [Inhabited α] (e : α → D) : List α → α
  | [] => default
  | x :: xs => maxFold (fun a => (e a).pd) x xs
section
variable {α : Type} {e : α → D} {env : DEnv} {tp t1' : List D} {m : SE D}
theorem ev_maxDat [Inhabited α] {xs : List α} (h : MinE e) (hne : xs ≠ []) (ha : m env tp = .ok (eL e xs) t1') : callB maxDD (consA m nilA) env tp = .ok (e (maxBy e xs)) t1' :=
  ev_callB (ev_cons ha ev_nil) (by
    cases xs with
    | nil => exact (hne rfl).elim
    | cons x xs =>
      show (if minOk ((x :: xs).map e) = true then some (maxFold D.pd (e x) (xs.map e)) else none) = _
      rw [if_pos (minOk_of h (x :: xs)), maxFold_map (f := fun a => (e a).pd) (u := e) (fun _ => rfl)]
      rfl)
theorem ev_maxLZ {xs : List Int} (h : xs ≠ []) (hm : m env tp = .ok (eL eZ xs) t1') : callB maxD (consA m nilA) env tp = .ok (eZ (xs.max?.getD 0)) t1' :=
  ev_callB (ev_cons hm ev_nil) (by
    show (unI (xs.map eZ)).bind (fun ns => ns.max?.map D.int) = _
    rw [unI_mapZ]
    show xs.max?.map D.int = _
    cases z : xs.max? with
    | none => exact absurd (List.max?_eq_none_iff.mp z) h
    | some x => rfl)
theorem maxFold_spec {f : α → PyData} : ∀ (xs : List α) (x : α), maxFold f x xs ∈ x :: xs ∧ ∀ y ∈ x :: xs, ltPd (f (maxFold f x xs)) (f y) = false := by
  have tr : ∀ {a b c : PyData}, ltPd a b = false → ltPd b c = false → ltPd a c = false := fun {a b c} h1 h2 => by
    unfold ltPd PySem.W.dataLt at *
    cases z : PyProof.Rows.lexLt PyProof.Rows.itemOrd (PySem.W.keyToks a) (PySem.W.keyToks c) with
    | false => rfl
    | true =>
      by_cases q : PyProof.Rows.lexLt PyProof.Rows.itemOrd (PySem.W.keyToks b) (PySem.W.keyToks a) = true
      · have := PyProof.Rows.lex_trans _ _ _ q z
        rw [this] at h2; cases h2
      · have q : PyProof.Rows.lexLt PyProof.Rows.itemOrd (PySem.W.keyToks b) (PySem.W.keyToks a) = false := by simpa using q
        have := PyProof.Rows.lex_total _ _ h1 q
        rw [this] at z
        rw [h2] at z; cases z
  intro xs
  induction xs with
  | nil => exact fun x => ⟨List.mem_singleton.mpr rfl, fun y hy => by
      rw [List.mem_singleton.mp hy]
      unfold ltPd PySem.W.dataLt
      exact PyProof.Rows.lex_irrefl _⟩
  | cons y ys ih =>
    intro x
    show maxFold f (if ltPd (f x) (f y) = true then y else x) ys ∈ _ ∧ ∀ z ∈ _, ltPd (f (maxFold f (if ltPd (f x) (f y) = true then y else x) ys)) (f z) = false
    by_cases c : ltPd (f x) (f y) = true
    · rw [if_pos c]
      obtain ⟨a, b⟩ := ih y
      refine ⟨List.mem_cons_of_mem _ a, fun z hz => ?_⟩
      rcases List.mem_cons.mp hz with e | e
      · subst e
        exact tr (b y List.mem_cons_self) (lt_asym c)
      · exact b z e
    · rw [if_neg c]
      have c : ltPd (f x) (f y) = false := by simpa using c
      obtain ⟨a, b⟩ := ih x
      refine ⟨?_, fun z hz => ?_⟩
      · rcases List.mem_cons.mp a with e | e
        · rw [e]; exact List.mem_cons_self
        · exact List.mem_cons_of_mem _ (List.mem_cons_of_mem _ e)
      · rcases List.mem_cons.mp hz with e | e
        · subst e; exact b z List.mem_cons_self
        · rcases List.mem_cons.mp e with e | e
          · subst e
            exact tr (b x List.mem_cons_self) c
          · exact b z (List.mem_cons_of_mem _ e)
theorem maxBy_spec [Inhabited α] {xs : List α} (h : xs ≠ []) : maxBy e xs ∈ xs ∧ ∀ y ∈ xs, ltPd (e (maxBy e xs)).pd (e y).pd = false := by
  cases xs with
  | nil => exact (h rfl).elim
  | cons x xs => exact maxFold_spec (f := fun a => (e a).pd) xs x
end
abbrev strPdZ (r : Row) : PyData := .str (rowS r)
theorem pd_rowsZ : ∀ p : Pic, pdAll (p.map eR) = p.map strPdZ
  | [] => rfl
  | r :: p => by
    show (eR r).pd :: pdAll (p.map eR) = _
    rw [pd_rowsZ p]; rfl
theorem alike_rowsZ : ∀ p q : Pic, PySem.W.alikeAll (p.map strPdZ) (q.map strPdZ) = true
  | [], q => by cases q <;> rfl
  | r :: p, [] => rfl
  | r :: p, s :: q => by
    show (PySem.W.alike (strPdZ r) (strPdZ s) && PySem.W.alikeAll (p.map strPdZ) (q.map strPdZ)) = true
    rw [alike_rowsZ p q]; rfl
theorem plain_rowsZ : ∀ p : Pic, PyData.plainAll (p.map strPdZ) = true
  | [] => rfl
  | r :: p => by
    show (PyData.plain (strPdZ r) && PyData.plainAll (p.map strPdZ)) = true
    rw [plain_rowsZ p]; rfl
theorem depth_rowsZ : ∀ p : Pic, PyData.depthAll (p.map strPdZ) ≤ 1
  | [] => Nat.zero_le _
  | r :: p => Nat.max_le.mpr ⟨by show PyData.depth (strPdZ r) ≤ 1; simp [PyData.depth], depth_rowsZ p⟩
theorem pd_PicZ (p : Pic) : (eT eR p).pd = .tuple (p.map strPdZ) := by
  show PyData.tuple (pdAll (p.map eR)) = _
  rw [pd_rowsZ]
theorem pd_ZP (x : Int × Pic) : (eP eZ (eT eR) x).pd = .tuple [.int x.1, .tuple (x.2.map strPdZ)] := by
  show PyData.tuple [_, (eT eR x.2).pd] = _
  rw [pd_PicZ]; rfl
theorem min_ZP : MinE (eP eZ (eT eR)) where
  ok := fun x => by
    unfold D.okq
    rw [pd_ZP]
    have h1 : (PyData.tuple [.int x.1, .tuple (x.2.map strPdZ)]).plain = true := by
      show (true && (PyData.plainAll (x.2.map strPdZ) && true)) = true
      rw [plain_rowsZ x.2]; rfl
    have h2 : (PyData.tuple [.int x.1, .tuple (x.2.map strPdZ)]).depth ≤ 60 := by
      have := depth_rowsZ x.2
      simp only [PyData.depth, PyData.depthAll]; omega
    rw [h1, decide_eq_true h2]; rfl
  al := fun x y => by
    rw [pd_ZP, pd_ZP]
    show (true && (PySem.W.alikeAll (x.2.map strPdZ) (y.2.map strPdZ) && true)) = true
    rw [alike_rowsZ x.2 y.2]; rfl
  nn := fun x => by rw [pd_ZP]; rfl
theorem min_ZN : MinE (eP eZ eN) where
  ok := fun x => by simp [D.okq, eP, D.pd, pdAll, PyData.plain, PyData.plainAll, PyData.depth, PyData.depthAll]
  al := fun x y => by simp [eP, D.pd, pdAll, PySem.W.alike, PySem.W.alikeAll]
  nn := fun x => rfl
theorem lt_fst {x y : Int} {as bs : List PyData} (h : x < y) : ltPd (.tuple (.int x :: as)) (.tuple (.int y :: bs)) = true := by
  unfold ltPd
  rw [PySem.W.dataLt_tuple]
  show PyProof.Rows.lexLt PyProof.Rows.itemOrd (.inl x :: _) (.inl y :: _) = true
  rw [PyProof.Rows.lex_diff (fun e => by have := Sum.inl.inj e; omega)]
  exact decide_eq_true h
theorem maxZP_spec {xs : List (Int × Pic)} (h : xs ≠ []) : maxBy (eP eZ (eT eR)) xs ∈ xs ∧ ∀ y ∈ xs, y.1 ≤ (maxBy (eP eZ (eT eR)) xs).1 := by
  obtain ⟨a, b⟩ := maxBy_spec (e := eP eZ (eT eR)) h
  refine ⟨a, fun y hy => Int.not_lt.mp fun z => ?_⟩
  have := b y hy
  rw [pd_ZP, pd_ZP, lt_fst z] at this
  cases this
end T
set_option maxHeartbeats 1000000
namespace T
open PySem L2 G
section
variable {κ : Type} {e1 : κ → D} {env : DEnv} {tp t1' : List D} {m : SE D}
theorem valsZ (d : List (κ × Int)) : (d.map fun p => (e1 p.1, eZ p.2)).map (·.2) = (d.map (·.2)).map eZ := by
  rw [List.map_map, List.map_map]; rfl
theorem ev_maxVTZ {d : List (κ × Int)} (hd : d ≠ []) (h : m env tp = .ok (eDT e1 eZ d) t1') : maxVE m env tp = .ok (eZ ((d.map (·.2)).max?.getD 0)) t1' := by
  unfold maxVE; rw [h]; simp only [RE.bind_ok]
  show RE.of ((unI ((d.map fun p => (e1 p.1, eZ p.2)).map (·.2))).bind fun ns => ns.max?.map D.int) t1' = _
  rw [valsZ, unI_mapZ]
  show RE.of ((d.map (·.2)).max?.map D.int) t1' = _
  cases z : (d.map (·.2)).max? with
  | none => exact absurd (List.map_eq_nil_iff.mp (List.max?_eq_none_iff.mp z)) hd
  | some x => rfl
theorem ev_sumVTZ {d : List (κ × Int)} (h : m env tp = .ok (eDT e1 eZ d) t1') : sumVTE m env tp = .ok (eZ ((d.map (·.2)).sum)) t1' := by
  unfold sumVTE; rw [h]; simp only [RE.bind_ok]
  show RE.of ((unI ((d.map fun p => (e1 p.1, eZ p.2)).map (·.2))).map fun ns => D.int ns.sum) t1' = _
  rw [valsZ, unI_mapZ]; rfl
end
end T
set_option maxHeartbeats 1000000
namespace T
open PySem L2 G
abbrev eV (d : D) : D := d
/-- a value whose type is told -/
def kn (d : D) : Bool := (tyN d).isSome
def isSt : D → Bool | .str _ => true | _ => false
def isTu : D → Bool | .tup _ => true | _ => false
def Okk (f : List D → RE D) : Prop := ∀ tp, ∃ d, f tp = .ok d tp
section
variable {env : DEnv} {tp t1' t2' : List D} {m ma mb mc : SE D} {ms : SE (List D)} {mi : SE (List D)} {c c2 : SE Bool} {x y : Bool} {d : D} {z : Str} {fs : List (Str × D)}
theorem Okk.of {f : List D → RE D} {d : D} (h : ∀ tp, f tp = .ok d tp) : Okk f := fun tp => ⟨d, h tp⟩
theorem q_str (ha : ma env tp = .ok d t1') (k : kn d = true) : callB isiD (consA ma (consA (cE (.ty "str")) nilA)) env tp = .ok (eB (isSt d)) t1' := by
  cases d with
  | non => exact T.ev_isi ha rfl kb_NoneType_str
  | bl b => exact T.ev_isi ha rfl kb_bool_str
  | int i => exact T.ev_isi ha rfl kb_int_str
  | str s => exact T.ev_isi ha rfl kb_str_str
  | tup xs => exact T.ev_isi ha rfl kb_tuple_str
  | lst xs => exact T.ev_isi ha rfl kb_list_str
  | _ => cases k
theorem q_tuple (ha : ma env tp = .ok d t1') (k : kn d = true) : callB isiD (consA ma (consA (cE (.ty "tuple")) nilA)) env tp = .ok (eB (isTu d)) t1' := by
  cases d with
  | non => exact T.ev_isi ha rfl kb_NoneType_tuple
  | bl b => exact T.ev_isi ha rfl kb_bool_tuple
  | int i => exact T.ev_isi ha rfl kb_int_tuple
  | str s => exact T.ev_isi ha rfl kb_str_tuple
  | tup xs => exact T.ev_isi ha rfl kb_tuple_tuple
  | lst xs => exact T.ev_isi ha rfl kb_list_tuple
  | _ => cases k
theorem b_and (ha : ma env tp = .ok (eB x) t1') (hb : x = true → mb env t1' = .ok (eB y) t1') : andE ma mb env tp = .ok (eB (x && y)) t1' := by
  unfold andE; rw [ha]
  cases x with
  | true => rw [RE.bind_ok]; simp only [isB]; exact hb rfl
  | false => rfl
theorem c_not (ha : c env tp = .ok x t1') : notT c env tp = .ok (!x) t1' := by
  unfold notT; rw [ha]; rfl
theorem c_or (ha : c env tp = .ok x t1') (hb : x = false → c2 env t1' = .ok y t1') : orT c c2 env tp = .ok (x || y) t1' := by
  unfold orT; rw [ha]
  cases x with
  | true => rfl
  | false => rw [RE.bind_ok]; rw [if_neg (by decide)]; exact hb rfl
theorem b_all {α : Type} {xs : List α} {f : α → Bool} (h : m env tp = .ok (.lst (xs.map fun x => eB (f x))) t1') : callB allD (consA m nilA) env tp = .ok (eB (xs.all f)) t1' := ev_callB (T.ev_cons h T.ev_nil) (by
  show (unB (xs.map fun x => eB (f x))).map (fun bs => D.bl (bs.all id)) = _
  have e : (xs.map fun x => eB (f x)) = (xs.map f).map eB := by rw [List.map_map]; rfl
  rw [e, unB_map]
  show some (D.bl ((xs.map f).all id)) = _
  rw [List.all_map]; rfl)
theorem b_comp {vs is : List Nat} {α : Type} {e : α → D} {xs : List α} {g : α → D} (hi : mi env tp = .ok (xs.map e) t1') (hl : xs.length ≤ 1000000) (hm : ∀ x ∈ xs, m (setAll (wipeE env vs) is [e x]) t1' = .ok (g x) t1') :
    compE mi vs t1 is yesT m env tp = .ok (.lst (xs.map g)) t1' := by
  have := T.ev_compY (e := e) (e1 := eV) (g := g) (vs := vs) (is := is) (ds := fun x => [e x]) (tgt := t1) hi hl (fun _ => rfl) hm
  rw [this]
  show RE.ok (D.lst ((xs.map g).map eV)) t1' = _
  rw [show (eV : D → D) = id from rfl, List.map_id]
theorem b_leLe {a b e : Int} (ha : ma env tp = .ok (.int a) tp) (hb : mb env tp = .ok (.int b) tp) (hc : mc env tp = .ok (.int e) tp) : chainE leD leD ma mb mc env tp = .ok (eB (decide (a ≤ b ∧ b ≤ e))) tp := T.ev_chLeLeZ ha hb hc
theorem c_notF (ha : c env tp = .ok false t1') : notT c env tp = .ok true t1' := c_not ha
theorem c_notT (ha : c env tp = .ok true t1') : notT c env tp = .ok false t1' := c_not ha
theorem c_orL (ha : c env tp = .ok true t1') : orT c c2 env tp = .ok true t1' := c_or (y := true) ha nofun
theorem c_orR (ha : c env tp = .ok false t1') (hb : c2 env t1' = .ok y t2') : orT c c2 env tp = .ok y t2' := by
  unfold orT; rw [ha, RE.bind_ok, if_neg (by decide)]; exact hb
theorem xs_ifF {s1 s2 : SS} {r : RS} (h : c env tp = .ok false t1') (h2 : s2 env t1' = r) : ifS c s1 s2 env tp = r := by
  unfold ifS; rw [h]; simp only [RE.bindS_ok, Bool.false_eq_true, if_false]; exact h2
theorem xs_rt {s1 s2 : SS} (h : s1 env tp = .rt d t1') : seqS s1 s2 env tp = .rt d t1' := by
  unfold seqS; rw [h]
theorem xs_skip : skipS env tp = .nx env tp := rfl
end
end T
set_option maxHeartbeats 1000000
namespace T
open PySem L2 G
section
variable {env : DEnv} {tp t1' t2' : List D} {m : SE D} {ms : SE (List D)}
theorem xs_nx {s1 s2 : SS} {e : DEnv} {r : RS} (h : s1 env tp = .nx e t1') (h2 : s2 e t1' = r) : seqS s1 s2 env tp = r := by
  unfold seqS; rw [h]; exact h2
theorem xs_set {i : Nat} {d : D} (h : m env tp = .ok d t1') : setS i m env tp = .nx (env.set i (some d)) t1' := by
  unfold setS; rw [h]; rfl
theorem xs_if {b : SE Bool} {s1 s2 : SS} {r : RS} (h : b env tp = .ok true t1') (h2 : s1 env t1' = r) : ifS b s1 s2 env tp = r := by
  unfold ifS; rw [h]; simp only [RE.bindS_ok, if_true]; exact h2
theorem xs_ret {d : D} (h : m env tp = .ok d t1') : retS m env tp = .rt d t1' := by
  unfold retS; rw [h]; rfl
end
end T
set_option maxHeartbeats 4000000
namespace W
open PySem L2 G
/-- what the top leaves -/
structure Tx (K : PySem.W.Frag) (mg : Str → Option Value) : Prop where
  all : mg "all" = none
  any : mg "any" = none
  bool : mg "bool" = none
  enumerate : mg "enumerate" = none
  int : mg "int" = none
  isinstance : mg "isinstance" = none
  len : mg "len" = none
  list : mg "list" = none
  max : mg "max" = none
  min : mg "min" = none
  range : mg "range" = none
  sorted : mg "sorted" = none
  str : mg "str" = none
  sum : mg "sum" = none
  super : mg "super" = none
  tuple : mg "tuple" = none
  MOST_SIDE : ∃ t, mg "MOST_SIDE" = some (.int 30 t)
  BLACK : ∃ t, mg "BLACK" = some (.str "#" t)
  WHITE : ∃ t, mg "WHITE" = some (.str "." t)
  MOST_WORTH : ∃ t, mg "MOST_WORTH" = some (.int 1000000 t)
  MOST_LINES : ∃ t, mg "MOST_LINES" = some (.int 8 t)
  f_is_int : ∃ f fd, FunD K "is_int" "is_int" (defArgs (top 9)) (defBody (top 9)) (defScope (top 9)) [] [] f fd ∧ mg "is_int" = some (.ref f)
  f_is_in : ∃ f fd, FunD K "is_in" "is_in" (defArgs (top 10)) (defBody (top 10)) (defScope (top 10)) [] [] f fd ∧ mg "is_in" = some (.ref f)
  f_is_picture : ∃ f fd, FunD K "is_picture" "is_picture" (defArgs (top 11)) (defBody (top 11)) (defScope (top 11)) [] [] f fd ∧ mg "is_picture" = some (.ref f)
  f_need_picture : ∃ f fd, FunD K "need_picture" "need_picture" (defArgs (top 12)) (defBody (top 12)) (defScope (top 12)) [] [] f fd ∧ mg "need_picture" = some (.ref f)
  f_lines_of : ∃ f fd, FunD K "lines_of" "lines_of" (defArgs (top 13)) (defBody (top 13)) (defScope (top 13)) [] [] f fd ∧ mg "lines_of" = some (.ref f)
  f_leads_to : ∃ f fd, FunD K "leads_to" "leads_to" (defArgs (top 15)) (defBody (top 15)) (defScope (top 15)) [] [] f fd ∧ mg "leads_to" = some (.ref f)
  f_layers_of : ∃ f fd, FunD K "layers_of" "layers_of" (defArgs (top 16)) (defBody (top 16)) (defScope (top 16)) [] [] f fd ∧ mg "layers_of" = some (.ref f)
  f_core_of : ∃ f fd, FunD K "core_of" "core_of" (defArgs (top 17)) (defBody (top 17)) (defScope (top 17)) [] [] f fd ∧ mg "core_of" = some (.ref f)
  f_is_free_of : ∃ f fd, FunD K "is_free_of" "is_free_of" (defArgs (top 18)) (defBody (top 18)) (defScope (top 18)) [] [] f fd ∧ mg "is_free_of" = some (.ref f)
  f_by_layers : ∃ f fd, FunD K "by_layers" "by_layers" (defArgs (top 20)) (defBody (top 20)) (defScope (top 20)) [] [] f fd ∧ mg "by_layers" = some (.ref f)
  f_masks : ∃ f fd, FunD K "masks" "masks" (defArgs (top 22)) (defBody (top 22)) (defScope (top 22)) [] [] f fd ∧ mg "masks" = some (.ref f)
  f_layerings : ∃ f fd, FunD K "layerings" "layerings" (defArgs (top 23)) (defBody (top 23)) (defScope (top 23)) [] [] f fd ∧ mg "layerings" = some (.ref f)
  f_is_table : ∃ f fd, FunD K "is_table" "is_table" (defArgs (top 27)) (defBody (top 27)) (defScope (top 27)) [] [] f fd ∧ mg "is_table" = some (.ref f)
  f_need_table : ∃ f fd, FunD K "need_table" "need_table" (defArgs (top 28)) (defBody (top 28)) (defScope (top 28)) [] [] f fd ∧ mg "need_table" = some (.ref f)
  f_worth_of : ∃ f fd, FunD K "worth_of" "worth_of" (defArgs (top 29)) (defBody (top 29)) (defScope (top 29)) [] [] f fd ∧ mg "worth_of" = some (.ref f)
  f_worth : ∃ f fd, FunD K "worth" "worth" (defArgs (top 30)) (defBody (top 30)) (defScope (top 30)) [] [] f fd ∧ mg "worth" = some (.ref f)
  f_free_pictures : ∃ f fd, FunD K "free_pictures" "free_pictures" (defArgs (top 31)) (defBody (top 31)) (defScope (top 31)) [] [] f fd ∧ mg "free_pictures" = some (.ref f)
  f_need_small_table : ∃ f fd, FunD K "need_small_table" "need_small_table" (defArgs (top 32)) (defBody (top 32)) (defScope (top 32)) [] [] f fd ∧ mg "need_small_table" = some (.ref f)
  f_best_free : ∃ f fd, FunD K "best_free" "best_free" (defArgs (top 33)) (defBody (top 33)) (defScope (top 33)) [] [] f fd ∧ mg "best_free" = some (.ref f)
  f_shows_best_free : ∃ f fd, FunD K "shows_best_free" "shows_best_free" (defArgs (top 34)) (defBody (top 34)) (defScope (top 34)) [] [] f fd ∧ mg "shows_best_free" = some (.ref f)
  f_free_worth_sum : ∃ f fd, FunD K "free_worth_sum" "free_worth_sum" (defArgs (top 35)) (defBody (top 35)) (defScope (top 35)) [] [] f fd ∧ mg "free_worth_sum" = some (.ref f)
  f_best_numbers : ∃ f fd, FunD K "best_numbers" "best_numbers" (defArgs (top 36)) (defBody (top 36)) (defScope (top 36)) [] [] f fd ∧ mg "best_numbers" = some (.ref f)
  f_best_last : ∃ f fd, FunD K "best_last" "best_last" (defArgs (top 37)) (defBody (top 37)) (defScope (top 37)) [] [] f fd ∧ mg "best_last" = some (.ref f)
  f_law_taken : ∃ f fd, FunD K "_law_taken" "_law_taken" (defArgs (top 39)) (defBody (top 39)) (defScope (top 39)) [] [] f fd ∧ mg "_law_taken" = some (.ref f)
  f_law_pick : ∃ f fd, FunD K "_law_pick" "_law_pick" (defArgs (top 40)) (defBody (top 40)) (defScope (top 40)) [] [] f fd ∧ mg "_law_pick" = some (.ref f)
  f_law_alike : ∃ f fd, FunD K "_law_alike" "_law_alike" (defArgs (top 41)) (defBody (top 41)) (defScope (top 41)) [] [] f fd ∧ mg "_law_alike" = some (.ref f)
  f_law_any : ∃ f fd, FunD K "_law_any" "_law_any" (defArgs (top 42)) (defBody (top 42)) (defScope (top 42)) [] [] f fd ∧ mg "_law_any" = some (.ref f)
  f_law_paint : ∃ f fd, FunD K "_law_paint" "_law_paint" (defArgs (top 43)) (defBody (top 43)) (defScope (top 43)) [] [] f fd ∧ mg "_law_paint" = some (.ref f)
  f_law_layers : ∃ f fd, FunD K "_law_layers" "_law_layers" (defArgs (top 44)) (defBody (top 44)) (defScope (top 44)) [] [] f fd ∧ mg "_law_layers" = some (.ref f)
  f_law_core : ∃ f fd, FunD K "_law_core" "_law_core" (defArgs (top 45)) (defBody (top 45)) (defScope (top 45)) [] [] f fd ∧ mg "_law_core" = some (.ref f)
  f_law_all : ∃ f fd, FunD K "_law_all" "_law_all" (defArgs (top 46)) (defBody (top 46)) (defScope (top 46)) [] [] f fd ∧ mg "_law_all" = some (.ref f)
section
variable {P : Program} {w : World} {K : PySem.W.Frag} {mg : Str → Option Value} {base : Heap} {r : Addr}
abbrev s_is_int : Stmt := top 9
theorem sc_is_int : FnScope ["value"] ["value"] (defScope s_is_int) := ⟨rfl, rfl, rfl, by decide +kernel, rfl, by decide +kernel, by decide +kernel⟩
def b_is_int : SS := retS (andE (callB isiD (consA (vE 0) (consA (cE (.ty "int")) (nilA)))) (notE (callB isiD (consA (vE 0) (consA (cE (.ty "bool")) (nilA))))))
def m_is_int : List D → List D → RE D := defD 1 b_is_int
theorem d_is_int (T : Tx K mg) : DefOk P w K mg base CX0 r "is_int" 1 1 m_is_int := by
  obtain ⟨f, fd, F, hm⟩ := T.f_is_int
  refine fn_def (k := 0) F sc_is_int hm (fun _ _ _ _ _ _ us hl => match us, hl with | [_], _ => rfl) (fun cdv A outer s H E hr => ?_) (m := b_is_int)
  exact ⟨_, _, (gss_one (gs_ret (On := []) (ge_and (ge_isi T.isinstance (gao_cons ((ge_var 0)).go (gao_cons ((ge_ty T.int)).go gao_nil))) (ge_one (ge_not (ge_isi T.isinstance (gao_cons ((ge_var 0)).go (gao_cons ((ge_ty T.bool)).go gao_nil))))))))⟩
abbrev s_is_picture : Stmt := top 11
theorem sc_is_picture : FnScope ["value", "row", "sign"] ["value"] (defScope s_is_picture) := ⟨rfl, rfl, rfl, by decide +kernel, rfl, by decide +kernel, by decide +kernel⟩
def b_is_picture : SS := seqS (ifS (orT (notT (boolE (callB isiD (consA (vE 0) (consA (cE (.ty "tuple")) (nilA)))))) (notT (boolE (chainE leD leD (cE (.int 1)) (callB lenD (consA (vE 0) (nilA))) (cE (.int 30)))))) (retS (cE (.bl false))) (skipS)) (seqS (ifS (orT (notT (boolE (callB allD (consA (compE (seqI (vE 0)) [1] t1 [1] (yesT) (callB isiD (consA (vE 1) (consA (cE (.ty "str")) (nilA))))) (nilA))))) (notT (boolE (chainE leD leD (cE (.int 1)) (callB lenD (consA (binE ixD (vE 0) (cE (.int 0))) (nilA))) (cE (.int 30)))))) (retS (cE (.bl false))) (skipS)) (retS (callB allD (consA (compE (seqI (vE 0)) [1] t1 [1] (yesT) (andE (binE eqD (callB lenD (consA (vE 1) (nilA))) (callB lenD (consA (binE ixD (vE 0) (cE (.int 0))) (nilA)))) (callB allD (consA (compE (seqI (vE 1)) [2] t1 [2] (yesT) (binE inD (vE 2) (tupE (consA (cE (.str "#")) (consA (cE (.str ".")) (nilA)))))) (nilA))))) (nilA)))))
def m_is_picture : List D → List D → RE D := defD 3 b_is_picture
theorem d_is_picture (T : Tx K mg) : DefOk P w K mg base CX0 r "is_picture" 1 1 m_is_picture := by
  obtain ⟨f, fd, F, hm⟩ := T.f_is_picture
  refine fn_def (k := 0) F sc_is_picture hm (fun _ _ _ _ _ _ us hl => match us, hl with | [_], _ => rfl) (fun cdv A outer s H E hr => ?_) (m := b_is_picture)
  exact ⟨_, _, (gss_cons (gs_if ((gw_or (gt_not (gt_val (ge_isi T.isinstance (gao_cons ((ge_var 0)).go (gao_cons ((ge_ty T.tuple)).go gao_nil))))) (gw_or1 (gt_not (gt_leLe (ge_int).go ((ge_len T.len (gao_cons ((ge_var 0)).go gao_nil))).go ((ge_gint T.MOST_SIDE)).go))))).gt (gss_one (gs_ret (On := []) ge_bl)) (GSs.post (On' := []) (by decide) gss_nil)) (gss_cons (gs_if ((gw_or (gt_not (gt_val (ge_all rfl T.all (gao_cons (((gf_lc (own := [("row", 1)]) rfl sc_is_picture.nd (gi_seq (ge_var 0)) (blkOk_by (by kernel_rfl)) (fun _ _ _ _ _ => (gg_name 1 sc_is_picture.nd)) (fun _ _ _ _ _ => gts_nil) (fun _ _ _ _ _ => (ge_isi T.isinstance (gao_cons ((ge_var 1)).go (gao_cons ((ge_ty T.str)).go gao_nil)))) (by decide) (by decide))).ge).go gao_nil)))) (gw_or1 (gt_not (gt_leLe (ge_int).go ((ge_len T.len (gao_cons ((ge_sub1 ((ge_var 0)).go (ge_int).go)).go gao_nil))).go ((ge_gint T.MOST_SIDE)).go))))).gt (gss_one (gs_ret (On := []) ge_bl)) (GSs.post (On' := []) (by decide) gss_nil)) (gss_one (gs_ret (On := []) (ge_all rfl T.all (gao_cons (((gf_lc (own := [("row", 1)]) rfl sc_is_picture.nd (gi_seq (ge_var 0)) (blkOk_by (by kernel_rfl)) (fun _ _ _ _ _ => (gg_name 1 sc_is_picture.nd)) (fun _ _ _ _ _ => gts_nil) (fun _ _ _ _ _ => (ge_and (ge_eq hr.units ((ge_len T.len (gao_cons ((ge_var 1)).go gao_nil))).go ((ge_len T.len (gao_cons ((ge_sub1 ((ge_var 0)).go (ge_int).go)).go gao_nil))).go) (ge_one (ge_all rfl T.all (gao_cons (((gf_lc (own := [("sign", 2)]) rfl sc_is_picture.nd (gi_seq (ge_var 1)) (blkOk_by (by kernel_rfl)) (fun _ _ _ _ _ => (gg_name 2 sc_is_picture.nd)) (fun _ _ _ _ _ => gts_nil) (fun _ _ _ _ _ => (ge_in hr.units ((ge_var 2)).go ((ge_tup (ga_cons (ge_gstr T.BLACK) (ga_cons (ge_gstr T.WHITE) ga_nil)))).go)) (by decide) (by decide))).ge).go gao_nil))))) (by decide) (by decide))).ge).go gao_nil))))))⟩
abbrev s_lines_of : Stmt := top 13
theorem sc_lines_of : FnScope ["picture"] ["picture"] (defScope s_lines_of) := ⟨rfl, rfl, rfl, by decide +kernel, rfl, by decide +kernel, by decide +kernel⟩
def b_lines_of : SS := retS (binE addD (callB lenD (consA (vE 0) (nilA))) (callB lenD (consA (binE ixD (vE 0) (cE (.int 0))) (nilA))))
def m_lines_of : List D → List D → RE D := defD 1 b_lines_of
theorem d_lines_of (T : Tx K mg) : DefOk P w K mg base CX0 r "lines_of" 1 1 m_lines_of := by
  obtain ⟨f, fd, F, hm⟩ := T.f_lines_of
  refine fn_def (k := 0) F sc_lines_of hm (fun _ _ _ _ _ _ us hl => match us, hl with | [_], _ => rfl) (fun cdv A outer s H E hr => ?_) (m := b_lines_of)
  exact ⟨_, _, (gss_one (gs_ret (On := []) (ge_add ((ge_len T.len (gao_cons ((ge_var 0)).go gao_nil))).go ((ge_len T.len (gao_cons ((ge_sub1 ((ge_var 0)).go (ge_int).go)).go gao_nil))).go)))⟩
abbrev s_leads_to : Stmt := top 15
theorem sc_leads_to : FnScope ["picture", "line", "high", "at", "sign", "row"] ["picture", "line"] (defScope s_leads_to) := ⟨rfl, rfl, rfl, by decide +kernel, rfl, by decide +kernel, by decide +kernel⟩
def b_leads_to : SS := seqS (setS 2 (callB lenD (consA (vE 0) (nilA)))) (seqS (ifS (boolE (binE ltD (vE 1) (vE 2))) (retS (compE (rangeI enumD (consA (binE ixD (vE 0) (vE 1)) (nilA))) [3, 4] (tN 2) [3, 4] (boolE (binE neD (vE 4) (cE (.str "#")))) (binE addD (vE 2) (vE 3)))) (skipS)) (retS (compE (rangeI enumD (consA (vE 0) (nilA))) [3, 5] (tN 2) [3, 5] (boolE (binE eqD (binE ixD (vE 5) (binE subD (vE 1) (vE 2))) (cE (.str "#")))) (vE 3))))
def m_leads_to : List D → List D → RE D := defD 6 b_leads_to
theorem d_leads_to (T : Tx K mg) : DefOk P w K mg base CX0 r "leads_to" 1 2 m_leads_to := by
  obtain ⟨f, fd, F, hm⟩ := T.f_leads_to
  refine fn_def (k := 0) F sc_leads_to hm (fun _ _ _ _ _ _ us hl => match us, hl with | [_, _], _ => rfl) (fun cdv A outer s H E hr => ?_) (m := b_leads_to)
  exact ⟨_, _, (gss_cons (GS.post (On' := []) (by decide) (gs_set 2 sc_leads_to.nd (ge_len T.len (gao_cons ((ge_var 0)).go gao_nil)))) (gss_cons (gs_if (gt_lt ((ge_var 1)).go ((ge_var 2)).go) (gss_one (gs_ret (On := []) ((gf_lc (own := [("at", 3), ("sign", 4)]) rfl sc_leads_to.nd (gi_enum T.enumerate (ga_cons (ge_sub1 ((ge_var 0)).go ((ge_var 1)).go) ga_nil)) (blkOk_by (by kernel_rfl)) (fun _ _ _ _ _ => (gg_tup rfl (ggs_cons 3 sc_leads_to.nd (ggs_cons 4 sc_leads_to.nd ggs_nil)) rfl)) (fun _ _ _ _ _ => (gts_one (gt_ne hr.units ((ge_var 4)).go ((ge_gstr T.BLACK)).go))) (fun _ _ _ _ _ => (ge_add ((ge_var 2)).go ((ge_var 3)).go)) (by decide) (by decide))).ge)) (GSs.post (On' := []) (by decide) gss_nil)) (gss_one (gs_ret (On := []) ((gf_lc (own := [("at", 3), ("row", 5)]) rfl sc_leads_to.nd (gi_enum T.enumerate (ga_cons (ge_var 0) ga_nil)) (blkOk_by (by kernel_rfl)) (fun _ _ _ _ _ => (gg_tup rfl (ggs_cons 3 sc_leads_to.nd (ggs_cons 5 sc_leads_to.nd ggs_nil)) rfl)) (fun _ _ _ _ _ => (gts_one (gt_eq hr.units ((ge_sub1 ((ge_var 5)).go ((ge_sub ((ge_var 1)).go ((ge_var 2)).go)).go)).go ((ge_gstr T.BLACK)).go))) (fun _ _ _ _ _ => (ge_var 3)) (by decide) (by decide))).ge))))⟩
abbrev s_by_layers : Stmt := top 20
theorem sc_by_layers : FnScope ["rows", "columns", "told", "later", "at", "some", "line", "found", "row", "spot"] ["rows", "columns", "told"] (defScope s_by_layers) := ⟨rfl, rfl, rfl, by decide +kernel, rfl, by decide +kernel, by decide +kernel⟩
def b_by_layers : SS := seqS (setFS 3 (cE (.dic []))) (seqS (forS (rangeI enumD (consA (vE 2) (nilA))) (tN 2) [4, 5] (forS (seqI (vE 5)) t1 [6] (dsetS 3 (vE 6) (vE 4)))) (seqS (setFS 7 (lstE (nilA))) (seqS (forS (rangeI range1D (consA (vE 0) (nilA))) t1 [8] (appS 7 (methE isStrD joinD (cE (.str "")) (compE (rangeI range1D (consA (vE 1) (nilA))) [9] t1 [9] (yesT) (ifE (boolE (binE ltD (binE ixKD (vE 3) (vE 8)) (binE ixKD (vE 3) (binE addD (vE 0) (vE 9))))) (cE (.str "#")) (cE (.str "."))))))) (retS (callB tupleD (consA (vE 7) (nilA)))))))
def m_by_layers : List D → List D → RE D := defD 10 b_by_layers
theorem d_by_layers (T : Tx K mg) : DefOk P w K mg base CX0 r "by_layers" 1 3 m_by_layers := by
  obtain ⟨f, fd, F, hm⟩ := T.f_by_layers
  refine fn_def (k := 0) F sc_by_layers hm (fun _ _ _ _ _ _ us hl => match us, hl with | [_, _, _], _ => rfl) (fun cdv A outer s H E hr => ?_) (m := b_by_layers)
  exact ⟨_, _, (gss_cons (GS.post (On' := [3]) (by decide) (gs_setF 3 sc_by_layers.nd gf_dnew)) (gss_cons (gs_for .never rfl (gi_enum T.enumerate (ga_cons (ge_var 2) ga_nil)) (gg_tup rfl (ggs_cons 4 sc_by_layers.nd (ggs_cons 5 sc_by_layers.nd ggs_nil)) rfl) (GSs.post (On' := [3]) (by decide) (gss_one (gs_for .never rfl (gi_seq (ge_var 5)) (gg_name 6 sc_by_layers.nd) (GSs.post (On' := [3]) (by decide) (gss_one (gs_dset 3 hr.units (by decide) (ge_var 6) (ge_var 4)))) (by decide) (fun d ds h => by cases h; rfl)))) (by decide) (fun d ds h => tN_len h)) (gss_cons (GS.post (On' := [3, 7]) (by decide) (gs_setF 7 sc_by_layers.nd (gf_lst ga_nil))) (gss_cons (gs_for .never rfl (gi_range1 T.range (gao_cons ((ge_var 0)).go gao_nil)) (gg_name 8 sc_by_layers.nd) (GSs.post (On' := [3, 7]) (by decide) (gss_one (gs_append 7 (by decide) (ge_join (ge_str).go (((gf_lc (own := [("spot", 9)]) rfl sc_by_layers.nd (gi_range1 T.range (gao_cons ((ge_var 1)).go gao_nil)) (blkOk_by (by kernel_rfl)) (fun _ _ _ _ _ => (gg_name 9 sc_by_layers.nd)) (fun _ _ _ _ _ => gts_nil) (fun _ _ _ _ _ => (ge_ifExp (gt_lt ((ge_ixK hr.units (go_own 3) ((ge_var 8)).go)).go ((ge_ixK hr.units (go_own 3) ((ge_add ((ge_var 0)).go ((ge_var 9)).go)).go)).go) (ge_gstr T.BLACK) (ge_gstr T.WHITE))) (by decide) (by decide))).ge).go)))) (by decide) (fun d ds h => by cases h; rfl)) (gss_one (gs_ret (On := []) (ge_tuple T.tuple (gao_cons (go_own 7) gao_nil))))))))⟩
abbrev s_masks : Stmt := top 22
theorem sc_masks : FnScope ["many", "found", "one", "told"] ["many"] (defScope s_masks) := ⟨rfl, rfl, rfl, by decide +kernel, rfl, by decide +kernel, by decide +kernel⟩
def b_masks : SS := seqS (setS 1 (lstE (consA (tupE (nilA)) (nilA)))) (seqS (forS (rangeI range1D (consA (vE 0) (nilA))) t1 [2] (setS 1 (binE addD (vE 1) (compE (seqI (vE 1)) [3] t1 [3] (yesT) (tupE (starA (vE 3) (consA (vE 2) (nilA)))))))) (retS (vE 1)))
def m_masks : List D → List D → RE D := defD 4 b_masks
theorem d_masks (T : Tx K mg) : DefOk P w K mg base CX0 r "masks" 1 1 m_masks := by
  obtain ⟨f, fd, F, hm⟩ := T.f_masks
  refine fn_def (k := 0) F sc_masks hm (fun _ _ _ _ _ _ us hl => match us, hl with | [_], _ => rfl) (fun cdv A outer s H E hr => ?_) (m := b_masks)
  exact ⟨_, _, (gss_cons (GS.post (On' := []) (by decide) (gs_set 1 sc_masks.nd ((gf_lst (ga_cons (ge_tup ga_nil) ga_nil))).ge)) (gss_cons (gs_for .never rfl (gi_range1 T.range (gao_cons ((ge_var 0)).go gao_nil)) (gg_name 2 sc_masks.nd) (GSs.post (On' := []) (by decide) (gss_one (GS.post (On' := []) (by decide) (gs_set 1 sc_masks.nd (ge_add ((ge_var 1)).go (((gf_lc (own := [("told", 3)]) rfl sc_masks.nd (gi_seq (ge_var 1)) (blkOk_by (by kernel_rfl)) (fun _ _ _ _ _ => (gg_name 3 sc_masks.nd)) (fun _ _ _ _ _ => gts_nil) (fun _ _ _ _ _ => (ge_tup (ga_star (ge_var 3) (ga_cons (ge_var 2) ga_nil)))) (by decide) (by decide))).ge).go))))) (by decide) (fun d ds h => by cases h; rfl)) (gss_one (gs_ret (On := []) (ge_var 1)))))⟩
abbrev s_worth_of : Stmt := top 29
theorem sc_worth_of : FnScope ["picture", "worths", "at", "row", "spot", "sign"] ["picture", "worths"] (defScope s_worth_of) := ⟨rfl, rfl, rfl, by decide +kernel, rfl, by decide +kernel, by decide +kernel⟩
def b_worth_of : SS := retS (callB sum2D (consA (comp2E (rangeI enumD (consA (vE 0) (nilA))) [2, 3, 4, 5] (tN 2) [2, 3] (yesT) (rangeI enumD (consA (vE 3) (nilA))) [4, 5] (tN 2) [4, 5] (boolE (binE eqD (vE 5) (cE (.str "#")))) (binE ixD (binE ixD (vE 1) (vE 2)) (vE 4))) (nilA)))
def m_worth_of : List D → List D → RE D := defD 6 b_worth_of
theorem d_worth_of (T : Tx K mg) : DefOk P w K mg base CX0 r "worth_of" 1 2 m_worth_of := by
  obtain ⟨f, fd, F, hm⟩ := T.f_worth_of
  refine fn_def (k := 0) F sc_worth_of hm (fun _ _ _ _ _ _ us hl => match us, hl with | [_, _], _ => rfl) (fun cdv A outer s H E hr => ?_) (m := b_worth_of)
  exact ⟨_, _, (gss_one (gs_ret (On := []) (ge_sum2 rfl T.sum (gao_cons (((gf_lc2 (own := [("at", 2), ("row", 3), ("spot", 4), ("sign", 5)]) (vs1 := [4, 5]) rfl sc_worth_of.nd (gi_enum T.enumerate (ga_cons (ge_var 0) ga_nil)) (blkOk_by (by kernel_rfl)) (fun _ _ _ _ _ => (gg_tup rfl (ggs_cons 2 sc_worth_of.nd (ggs_cons 3 sc_worth_of.nd ggs_nil)) rfl)) (fun _ _ _ _ _ => gts_nil) (fun _ _ _ _ _ => (gi_enum T.enumerate (ga_cons (ge_var 3) ga_nil))) (fun _ _ _ _ _ => (gg_tup rfl (ggs_cons 4 sc_worth_of.nd (ggs_cons 5 sc_worth_of.nd ggs_nil)) rfl)) (fun _ _ _ _ _ => (gts_one (gt_eq hr.units ((ge_var 5)).go ((ge_gstr T.BLACK)).go))) (fun _ _ _ _ _ => (ge_sub1 ((ge_sub1 ((ge_var 1)).go ((ge_var 2)).go)).go ((ge_var 4)).go)) (by decide) (by decide) (by decide) (by decide))).ge).go gao_nil))))⟩
abbrev s_law_taken : Stmt := top 39
theorem sc_law_taken : FnScope ["_law_row", "_law_many", "_law_found", "_law_cell"] ["_law_row", "_law_many"] (defScope s_law_taken) := ⟨rfl, rfl, rfl, by decide +kernel, rfl, by decide +kernel, by decide +kernel⟩
def b_law_taken : SS := seqS (ifS (boolE (binE gtD (tixE (vE 0) (cE (.int 3))) (cE (.int 0)))) (seqS (setS 2 (binE modD (callB intD (consA (tixE (vE 0) (cE (.int 3))) (nilA))) (vE 1))) (seqS (tsetS 3 (vE 0) (cE (.int 3)) (binE fdivD (tixE (vE 0) (cE (.int 3))) (vE 1))) (retS (vE 2)))) (skipS)) (seqS (tsetS 1 (vE 0) (cE (.int 1)) (binE addD (tixE (vE 0) (cE (.int 1))) (cE (.int 1)))) (seqS (ifS (boolE (binE gtD (tixE (vE 0) (cE (.int 1))) (callB lenD (consA (tixE (vE 0) (cE (.int 0))) (nilA))))) (seqS (tsetS 2 (vE 0) (cE (.int 2)) (binE modD (callB intD (consA (binE addD (binE mulD (tixE (vE 0) (cE (.int 2))) (cE (.int 48271))) (cE (.int 11))) (nilA))) (cE (.int 2147483647)))) (retS (binE modD (callB intD (consA (binE fdivD (tixE (vE 0) (cE (.int 2))) (cE (.int 7))) (nilA))) (vE 1)))) (skipS)) (seqS (setS 3 (binE ixD (tixE (vE 0) (cE (.int 0))) (binE subD (tixE (vE 0) (cE (.int 1))) (cE (.int 1))))) (seqS (tsetS 2 (vE 0) (cE (.int 2)) (binE modD (callB intD (consA (binE addD (binE addD (binE mulD (tixE (vE 0) (cE (.int 2))) (cE (.int 48271))) (vE 3)) (cE (.int 11))) (nilA))) (cE (.int 2147483647)))) (seqS (ifS (boolE (binE geD (vE 3) (binE powD (cE (.int 10)) (cE (.int 18))))) (tsetS 3 (vE 0) (cE (.int 3)) (binE fdivD (vE 3) (vE 1))) (skipS)) (retS (binE modD (callB intD (consA (vE 3) (nilA))) (vE 1))))))))
def m_law_taken : List D → List D → RE D := defD 4 b_law_taken
theorem d_law_taken (T : Tx K mg) : DefOk P w K mg base CX0 r "_law_taken" 1 2 m_law_taken := by
  obtain ⟨f, fd, F, hm⟩ := T.f_law_taken
  refine fn_def (k := 0) F sc_law_taken hm (fun _ _ _ _ _ _ us hl => match us, hl with | [_, _], _ => rfl) (fun cdv A outer s H E hr => ?_) (m := b_law_taken)
  exact ⟨_, _, (gss_cons (gs_if (gt_gt ((ge_tix ((ge_var 0)).go (ge_int).go)).go (ge_int).go) (gss_cons (GS.post (On' := []) (by decide) (gs_set 2 sc_law_taken.nd (ge_mod ((ge_int1 T.int (gao_cons ((ge_tix ((ge_var 0)).go (ge_int).go)).go gao_nil))).go ((ge_var 1)).go))) (gss_cons (gs_tset 3 (ge_fdiv ((ge_tix ((ge_var 0)).go (ge_int).go)).go ((ge_var 1)).go) ((ge_var 0)).go (ge_int).go) (gss_one (gs_ret (On := []) (ge_var 2))))) (GSs.post (On' := []) (by decide) gss_nil)) (gss_cons (gs_tset 1 (ge_add ((ge_tix ((ge_var 0)).go (ge_int).go)).go (ge_int).go) ((ge_var 0)).go (ge_int).go) (gss_cons (gs_if (gt_gt ((ge_tix ((ge_var 0)).go (ge_int).go)).go ((ge_len T.len (gao_cons ((ge_tix ((ge_var 0)).go (ge_int).go)).go gao_nil))).go) (gss_cons (gs_tset 2 (ge_mod ((ge_int1 T.int (gao_cons ((ge_add ((ge_mul ((ge_tix ((ge_var 0)).go (ge_int).go)).go (ge_int).go)).go (ge_int).go)).go gao_nil))).go (ge_int).go) ((ge_var 0)).go (ge_int).go) (gss_one (gs_ret (On := []) (ge_mod ((ge_int1 T.int (gao_cons ((ge_fdiv ((ge_tix ((ge_var 0)).go (ge_int).go)).go (ge_int).go)).go gao_nil))).go ((ge_var 1)).go)))) (GSs.post (On' := []) (by decide) gss_nil)) (gss_cons (GS.post (On' := []) (by decide) (gs_set 3 sc_law_taken.nd (ge_sub1 ((ge_tix ((ge_var 0)).go (ge_int).go)).go ((ge_sub ((ge_tix ((ge_var 0)).go (ge_int).go)).go (ge_int).go)).go))) (gss_cons (gs_tset 2 (ge_mod ((ge_int1 T.int (gao_cons ((ge_add ((ge_add ((ge_mul ((ge_tix ((ge_var 0)).go (ge_int).go)).go (ge_int).go)).go ((ge_var 3)).go)).go (ge_int).go)).go gao_nil))).go (ge_int).go) ((ge_var 0)).go (ge_int).go) (gss_cons (gs_if (gt_ge ((ge_var 3)).go ((ge_pow (ge_int).go (ge_int).go)).go) (GSs.post (On' := []) (by decide) (gss_one (gs_tset 3 (ge_fdiv ((ge_var 3)).go ((ge_var 1)).go) ((ge_var 0)).go (ge_int).go))) (GSs.post (On' := []) (by decide) gss_nil)) (gss_one (gs_ret (On := []) (ge_mod ((ge_int1 T.int (gao_cons ((ge_var 3)).go gao_nil))).go ((ge_var 1)).go)))))))))⟩
abbrev s_law_alike : Stmt := top 41
theorem sc_law_alike : FnScope ["_law_found", "_law_due", "_law_k"] ["_law_found", "_law_due"] (defScope s_law_alike) := ⟨rfl, rfl, rfl, by decide +kernel, rfl, by decide +kernel, by decide +kernel⟩
def b_law_alike (rec : List D → List D → RE D) : SS := seqS (ifS (boolE (callB isiD (consA (vE 1) (consA (tupE (consA (cE (.ty "tuple")) (consA (cE (.ty "list")) (nilA)))) (nilA))))) (seqS (ifS (orT (notT (boolE (callB isiD (consA (vE 0) (consA (tupE (consA (cE (.ty "tuple")) (consA (cE (.ty "list")) (nilA)))) (nilA)))))) (boolE (binE neD (callB isiD (consA (vE 0) (consA (cE (.ty "list")) (nilA)))) (callB isiD (consA (vE 1) (consA (cE (.ty "list")) (nilA))))))) (retS (cE (.bl false))) (skipS)) (seqS (ifS (boolE (binE neD (callB lenD (consA (vE 0) (nilA))) (callB lenD (consA (vE 1) (nilA))))) (retS (cE (.bl false))) (skipS)) (retS (binE eqD (compE (rangeI range1D (consA (callB lenD (consA (vE 1) (nilA))) (nilA))) [2] t1 [2] (notT (boolE (callE 2 rec (consA (binE ixD (vE 0) (vE 2)) (consA (binE ixD (vE 1) (vE 2)) (nilA)))))) (vE 2)) (lstE (nilA)))))) (skipS)) (seqS (ifS (orT (boolE (binE isNoneD (vE 1) (cE .non))) (boolE (callB isiD (consA (vE 1) (consA (cE (.ty "str")) (nilA)))))) (retS (andE (binE eqD (vE 0) (vE 1)) (binE eqD (callB isiD (consA (vE 0) (consA (cE (.ty "str")) (nilA)))) (callB isiD (consA (vE 1) (consA (cE (.ty "str")) (nilA))))))) (skipS)) (retS (andE (callB isiD (consA (vE 0) (consA (cE (.ty "int")) (nilA)))) (andE (binE eqD (callB isiD (consA (vE 0) (consA (cE (.ty "bool")) (nilA)))) (callB isiD (consA (vE 1) (consA (cE (.ty "bool")) (nilA))))) (binE eqD (vE 0) (vE 1))))))
def m_law_alike : Nat → List D → List D → RE D
  | 0 => fun _ _ => .stuck
  | n + 1 => defD 3 (b_law_alike (m_law_alike n))
theorem d_law_alike (T : Tx K mg) : ∀ n : Nat, DefOk P w K mg base CX0 r "_law_alike" (n + 1) 2 (m_law_alike n)
  | 0 => by
    obtain ⟨f, fd, F, hm⟩ := T.f_law_alike
    exact def_stuck (ps := ["_law_found", "_law_due"]) F hm (fun _ _ _ _ _ _ us hl => match us, hl with | [_, _], _ => rfl)
  | n + 1 => by
    have ih := d_law_alike T n
    obtain ⟨f, fd, F, hm⟩ := T.f_law_alike
    refine fn_def (k := n + 1) F sc_law_alike hm (fun _ _ _ _ _ _ us hl => match us, hl with | [_, _], _ => rfl) (fun cdv A outer s H E hr => ?_) (m := b_law_alike (m_law_alike n))
    exact ⟨_, _, (gss_cons (gs_if (gt_val (ge_isi T.isinstance (gao_cons ((ge_var 1)).go (gao_cons ((ge_tup (ga_cons (ge_ty T.tuple) (ga_cons (ge_ty T.list) ga_nil)))).go gao_nil)))) (gss_cons (gs_if ((gw_or (gt_not (gt_val (ge_isi T.isinstance (gao_cons ((ge_var 0)).go (gao_cons ((ge_tup (ga_cons (ge_ty T.tuple) (ga_cons (ge_ty T.list) ga_nil)))).go gao_nil))))) (gw_or1 (gt_ne hr.units ((ge_isi T.isinstance (gao_cons ((ge_var 0)).go (gao_cons ((ge_ty T.list)).go gao_nil)))).go ((ge_isi T.isinstance (gao_cons ((ge_var 1)).go (gao_cons ((ge_ty T.list)).go gao_nil)))).go)))).gt (gss_one (gs_ret (On := []) ge_bl)) (GSs.post (On' := []) (by decide) gss_nil)) (gss_cons (gs_if (gt_ne hr.units ((ge_len T.len (gao_cons ((ge_var 0)).go gao_nil))).go ((ge_len T.len (gao_cons ((ge_var 1)).go gao_nil))).go) (gss_one (gs_ret (On := []) ge_bl)) (GSs.post (On' := []) (by decide) gss_nil)) (gss_one (gs_ret (On := []) (ge_eq hr.units (((gf_lc (own := [("_law_k", 2)]) rfl sc_law_alike.nd (gi_range1 T.range (gao_cons ((ge_len T.len (gao_cons ((ge_var 1)).go gao_nil))).go gao_nil)) (blkOk_by (by kernel_rfl)) (fun _ _ _ _ _ => (gg_name 2 sc_law_alike.nd)) (fun _ _ _ _ _ => (gts_one (gt_not (gt_val (ge_call ih (hr.mono (by omega)) pass0 (ga_cons (ge_sub1 ((ge_var 0)).go ((ge_var 2)).go) (ga_cons (ge_sub1 ((ge_var 1)).go ((ge_var 2)).go) ga_nil))))))) (fun _ _ _ _ _ => (ge_var 2)) (by decide) (by decide))).ge).go (((gf_lst ga_nil)).ge).go))))) (GSs.post (On' := []) (by decide) gss_nil)) (gss_cons (gs_if ((gw_or (gt_is ((ge_var 1)).go (ge_non).go) (gw_or1 (gt_val (ge_isi T.isinstance (gao_cons ((ge_var 1)).go (gao_cons ((ge_ty T.str)).go gao_nil))))))).gt (gss_one (gs_ret (On := []) (ge_and (ge_eq hr.units ((ge_var 0)).go ((ge_var 1)).go) (ge_one (ge_eq hr.units ((ge_isi T.isinstance (gao_cons ((ge_var 0)).go (gao_cons ((ge_ty T.str)).go gao_nil)))).go ((ge_isi T.isinstance (gao_cons ((ge_var 1)).go (gao_cons ((ge_ty T.str)).go gao_nil)))).go))))) (GSs.post (On' := []) (by decide) gss_nil)) (gss_one (gs_ret (On := []) (ge_and (ge_isi T.isinstance (gao_cons ((ge_var 0)).go (gao_cons ((ge_ty T.int)).go gao_nil))) (ge_and (ge_eq hr.units ((ge_isi T.isinstance (gao_cons ((ge_var 0)).go (gao_cons ((ge_ty T.bool)).go gao_nil)))).go ((ge_isi T.isinstance (gao_cons ((ge_var 1)).go (gao_cons ((ge_ty T.bool)).go gao_nil)))).go) (ge_one (ge_eq hr.units ((ge_var 0)).go ((ge_var 1)).go))))))))⟩
abbrev s_law_paint : Stmt := top 43
theorem sc_law_paint : FnScope ["_law_picture", "_law_line", "_law_found", "_law_at", "_law_told", "_law_spot"] ["_law_picture", "_law_line"] (defScope s_law_paint) := ⟨rfl, rfl, rfl, by decide +kernel, rfl, by decide +kernel, by decide +kernel⟩
def b_law_paint : SS := seqS (setFS 2 (lstE (nilA))) (seqS (forS (rangeI range1D (consA (callB lenD (consA (vE 0) (nilA))) (nilA))) t1 [3] (seqS (setS 4 (cE (.str ""))) (seqS (forS (rangeI range1D (consA (callB lenD (consA (binE ixD (vE 0) (cE (.int 0))) (nilA))) (nilA))) t1 [5] (setS 4 (binE addD (vE 4) (ifE (boolE (binE eqD (vE 1) (vE 3))) (cE (.str "#")) (ifE (boolE (binE eqD (vE 1) (binE addD (callB lenD (consA (vE 0) (nilA))) (vE 5)))) (cE (.str ".")) (binE ixD (binE ixD (vE 0) (vE 3)) (vE 5))))))) (appS 2 (vE 4))))) (retS (callB tupleD (consA (vE 2) (nilA)))))
def m_law_paint : List D → List D → RE D := defD 6 b_law_paint
theorem d_law_paint (T : Tx K mg) : DefOk P w K mg base CX0 r "_law_paint" 1 2 m_law_paint := by
  obtain ⟨f, fd, F, hm⟩ := T.f_law_paint
  refine fn_def (k := 0) F sc_law_paint hm (fun _ _ _ _ _ _ us hl => match us, hl with | [_, _], _ => rfl) (fun cdv A outer s H E hr => ?_) (m := b_law_paint)
  exact ⟨_, _, (gss_cons (GS.post (On' := [2]) (by decide) (gs_setF 2 sc_law_paint.nd (gf_lst ga_nil))) (gss_cons (gs_for .never rfl (gi_range1 T.range (gao_cons ((ge_len T.len (gao_cons ((ge_var 0)).go gao_nil))).go gao_nil)) (gg_name 3 sc_law_paint.nd) (GSs.post (On' := [2]) (by decide) (gss_cons (GS.post (On' := [2]) (by decide) (gs_set 4 sc_law_paint.nd ge_str)) (gss_cons (gs_for .never rfl (gi_range1 T.range (gao_cons ((ge_len T.len (gao_cons ((ge_sub1 ((ge_var 0)).go (ge_int).go)).go gao_nil))).go gao_nil)) (gg_name 5 sc_law_paint.nd) (GSs.post (On' := [2]) (by decide) (gss_one (GS.post (On' := [2]) (by decide) (gs_set 4 sc_law_paint.nd (ge_add ((ge_var 4)).go ((ge_ifExp (gt_eq hr.units ((ge_var 1)).go ((ge_var 3)).go) ge_str (ge_ifExp (gt_eq hr.units ((ge_var 1)).go ((ge_add ((ge_len T.len (gao_cons ((ge_var 0)).go gao_nil))).go ((ge_var 5)).go)).go) ge_str (ge_sub1 ((ge_sub1 ((ge_var 0)).go ((ge_var 3)).go)).go ((ge_var 5)).go)))).go))))) (by decide) (fun d ds h => by cases h; rfl)) (gss_one (gs_append 2 (by decide) (ge_var 4)))))) (by decide) (fun d ds h => by cases h; rfl)) (gss_one (gs_ret (On := []) (ge_tuple T.tuple (gao_cons (go_own 2) gao_nil))))))⟩
abbrev s_law_layers : Stmt := top 44
theorem sc_law_layers : FnScope ["_law_picture", "_law_high", "_law_wide", "_law_found", "_law_rows", "_law_columns", "_law_turn", "_law_full", "_law_at", "_law_spot", "_law_empty"] ["_law_picture"] (defScope s_law_layers) := ⟨rfl, rfl, rfl, by decide +kernel, rfl, by decide +kernel, by decide +kernel⟩
def b_law_layers : SS := seqS (parS [1, 2, 3] (consA (callB lenD (consA (vE 0) (nilA))) (consA (callB lenD (consA (binE ixD (vE 0) (cE (.int 0))) (nilA))) (consA (lstE (nilA)) (nilA))))) (seqS (parS [4, 5] (consA (rg1E .lst (vE 1)) (consA (rg1E .lst (vE 2)) (nilA)))) (seqS (forS (rangeI range1D (consA (binE addD (vE 1) (vE 2)) (nilA))) t1 [6] (seqS (setS 7 (compE (seqI (vE 4)) [8] t1 [8] (boolE (binE eqD (compE (seqI (vE 5)) [9] t1 [9] (boolE (binE eqD (binE ixD (binE ixD (vE 0) (vE 8)) (vE 9)) (cE (.str ".")))) (cE (.int 1))) (lstE (nilA)))) (vE 8))) (seqS (setS 10 (compE (seqI (vE 5)) [9] t1 [9] (boolE (binE eqD (compE (seqI (vE 4)) [8] t1 [8] (boolE (binE eqD (binE ixD (binE ixD (vE 0) (vE 8)) (vE 9)) (cE (.str "#")))) (cE (.int 1))) (lstE (nilA)))) (vE 9))) (ifS (boolE (binE neD (vE 7) (lstE (nilA)))) (seqS (appS 3 (vE 7)) (setS 4 (compE (seqI (vE 4)) [8] t1 [8] (boolE (binE notInD (vE 8) (vE 7))) (vE 8)))) (ifS (boolE (binE neD (vE 10) (lstE (nilA)))) (seqS (appS 3 (compE (seqI (vE 10)) [9] t1 [9] (yesT) (binE addD (vE 1) (vE 9)))) (setS 5 (compE (seqI (vE 5)) [9] t1 [9] (boolE (binE notInD (vE 9) (vE 10))) (vE 9)))) (skipS)))))) (retS (vE 3))))
def m_law_layers : List D → List D → RE D := defD 11 b_law_layers
theorem d_law_layers (T : Tx K mg) : DefOk P w K mg base CX0 r "_law_layers" 1 1 m_law_layers := by
  obtain ⟨f, fd, F, hm⟩ := T.f_law_layers
  refine fn_def (k := 0) F sc_law_layers hm (fun _ _ _ _ _ _ us hl => match us, hl with | [_], _ => rfl) (fun cdv A outer s H E hr => ?_) (m := b_law_layers)
  exact ⟨_, _, (gss_cons (GS.post (On' := [3]) (by decide) (gs_tup (gak_st (ge_len T.len (gao_cons ((ge_var 0)).go gao_nil)) (gak_st (ge_len T.len (gao_cons ((ge_sub1 ((ge_var 0)).go (ge_int).go)).go gao_nil)) (gak_fr (gf_lst ga_nil) gak_nil))) (ggs_cons 1 sc_law_layers.nd (ggs_cons 2 sc_law_layers.nd (ggs_cons 3 sc_law_layers.nd ggs_nil))))) (gss_cons (GS.post (On' := [3]) (by decide) (gs_tup (gak_st ((gf_listRg1 T.list T.range ((ge_var 1)).go)).ge (gak_st ((gf_listRg1 T.list T.range ((ge_var 2)).go)).ge gak_nil)) (ggs_cons 4 sc_law_layers.nd (ggs_cons 5 sc_law_layers.nd ggs_nil)))) (gss_cons (gs_for .never rfl (gi_range1 T.range (gao_cons ((ge_add ((ge_var 1)).go ((ge_var 2)).go)).go gao_nil)) (gg_name 6 sc_law_layers.nd) (GSs.post (On' := [3]) (by decide) (gss_cons (GS.post (On' := [3]) (by decide) (gs_set 7 sc_law_layers.nd ((gf_lc (own := [("_law_at", 8)]) rfl sc_law_layers.nd (gi_seq (ge_var 4)) (blkOk_by (by kernel_rfl)) (fun _ _ _ _ _ => (gg_name 8 sc_law_layers.nd)) (fun _ _ _ _ _ => (gts_one (gt_eq hr.units (((gf_lc (own := [("_law_spot", 9)]) rfl sc_law_layers.nd (gi_seq (ge_var 5)) (blkOk_by (by kernel_rfl)) (fun _ _ _ _ _ => (gg_name 9 sc_law_layers.nd)) (fun _ _ _ _ _ => (gts_one (gt_eq hr.units ((ge_sub1 ((ge_sub1 ((ge_var 0)).go ((ge_var 8)).go)).go ((ge_var 9)).go)).go (ge_str).go))) (fun _ _ _ _ _ => ge_int) (by decide) (by decide))).ge).go (((gf_lst ga_nil)).ge).go))) (fun _ _ _ _ _ => (ge_var 8)) (by decide) (by decide))).ge)) (gss_cons (GS.post (On' := [3]) (by decide) (gs_set 10 sc_law_layers.nd ((gf_lc (own := [("_law_spot", 9)]) rfl sc_law_layers.nd (gi_seq (ge_var 5)) (blkOk_by (by kernel_rfl)) (fun _ _ _ _ _ => (gg_name 9 sc_law_layers.nd)) (fun _ _ _ _ _ => (gts_one (gt_eq hr.units (((gf_lc (own := [("_law_at", 8)]) rfl sc_law_layers.nd (gi_seq (ge_var 4)) (blkOk_by (by kernel_rfl)) (fun _ _ _ _ _ => (gg_name 8 sc_law_layers.nd)) (fun _ _ _ _ _ => (gts_one (gt_eq hr.units ((ge_sub1 ((ge_sub1 ((ge_var 0)).go ((ge_var 8)).go)).go ((ge_var 9)).go)).go (ge_str).go))) (fun _ _ _ _ _ => ge_int) (by decide) (by decide))).ge).go (((gf_lst ga_nil)).ge).go))) (fun _ _ _ _ _ => (ge_var 9)) (by decide) (by decide))).ge)) (gss_one (gs_if (gt_ne hr.units ((ge_var 7)).go (((gf_lst ga_nil)).ge).go) (GSs.post (On' := [3]) (by decide) (gss_cons (gs_append 3 (by decide) (ge_var 7)) (gss_one (GS.post (On' := [3]) (by decide) (gs_set 4 sc_law_layers.nd ((gf_lc (own := [("_law_at", 8)]) rfl sc_law_layers.nd (gi_seq (ge_var 4)) (blkOk_by (by kernel_rfl)) (fun _ _ _ _ _ => (gg_name 8 sc_law_layers.nd)) (fun _ _ _ _ _ => (gts_one (gt_notIn hr.units ((ge_var 8)).go ((ge_var 7)).go))) (fun _ _ _ _ _ => (ge_var 8)) (by decide) (by decide))).ge))))) (GSs.post (On' := [3]) (by decide) (gss_one (gs_if (gt_ne hr.units ((ge_var 10)).go (((gf_lst ga_nil)).ge).go) (GSs.post (On' := [3]) (by decide) (gss_cons (gs_append 3 (by decide) ((gf_lc (own := [("_law_spot", 9)]) rfl sc_law_layers.nd (gi_seq (ge_var 10)) (blkOk_by (by kernel_rfl)) (fun _ _ _ _ _ => (gg_name 9 sc_law_layers.nd)) (fun _ _ _ _ _ => gts_nil) (fun _ _ _ _ _ => (ge_add ((ge_var 1)).go ((ge_var 9)).go)) (by decide) (by decide))).ge) (gss_one (GS.post (On' := [3]) (by decide) (gs_set 5 sc_law_layers.nd ((gf_lc (own := [("_law_spot", 9)]) rfl sc_law_layers.nd (gi_seq (ge_var 5)) (blkOk_by (by kernel_rfl)) (fun _ _ _ _ _ => (gg_name 9 sc_law_layers.nd)) (fun _ _ _ _ _ => (gts_one (gt_notIn hr.units ((ge_var 9)).go ((ge_var 10)).go))) (fun _ _ _ _ _ => (ge_var 9)) (by decide) (by decide))).ge))))) (GSs.post (On' := [3]) (by decide) gss_nil))))))))) (by decide) (fun d ds h => by cases h; rfl)) (gss_one (gs_retO (On := []) 3 (by decide))))))⟩
abbrev s_law_all : Stmt := top 46
theorem sc_law_all : FnScope ["_law_high", "_law_wide", "_law_found", "_law_mask", "_law_told", "_law_at"] ["_law_high", "_law_wide"] (defScope s_law_all) := ⟨rfl, rfl, rfl, by decide +kernel, rfl, by decide +kernel, by decide +kernel⟩
def b_law_all : SS := seqS (setFS 2 (lstE (nilA))) (seqS (forS (rangeI range1D (consA (binE shlD (cE (.int 1)) (binE mulD (vE 0) (vE 1))) (nilA))) t1 [3] (seqS (setS 4 (methE isStrD joinD (cE (.str "")) (compE (rangeI range1D (consA (binE mulD (vE 0) (vE 1)) (nilA))) [5] t1 [5] (yesT) (ifE (truE (binE bandD (binE shrD (vE 3) (vE 5)) (cE (.int 1)))) (cE (.str "#")) (cE (.str ".")))))) (appS 2 (callB tupleD (consA (compE (rangeI range1D (consA (vE 0) (nilA))) [5] t1 [5] (yesT) (sliceE (vE 4) (optI (some (binE mulD (vE 5) (vE 1)))) (optI (some (binE addD (binE mulD (vE 5) (vE 1)) (vE 1)))))) (nilA)))))) (retS (callB sortTD (consA (vE 2) (nilA)))))
def m_law_all : List D → List D → RE D := defD 6 b_law_all
theorem d_law_all (T : Tx K mg) : DefOk P w K mg base CX0 r "_law_all" 1 2 m_law_all := by
  obtain ⟨f, fd, F, hm⟩ := T.f_law_all
  refine fn_def (k := 0) F sc_law_all hm (fun _ _ _ _ _ _ us hl => match us, hl with | [_, _], _ => rfl) (fun cdv A outer s H E hr => ?_) (m := b_law_all)
  exact ⟨_, _, (gss_cons (GS.post (On' := [2]) (by decide) (gs_setF 2 sc_law_all.nd (gf_lst ga_nil))) (gss_cons (gs_for .never rfl (gi_range1 T.range (gao_cons ((ge_shl (ge_int).go ((ge_mul ((ge_var 0)).go ((ge_var 1)).go)).go)).go gao_nil)) (gg_name 3 sc_law_all.nd) (GSs.post (On' := [2]) (by decide) (gss_cons (GS.post (On' := [2]) (by decide) (gs_set 4 sc_law_all.nd (ge_join (ge_str).go (((gf_lc (own := [("_law_at", 5)]) rfl sc_law_all.nd (gi_range1 T.range (gao_cons ((ge_mul ((ge_var 0)).go ((ge_var 1)).go)).go gao_nil)) (blkOk_by (by kernel_rfl)) (fun _ _ _ _ _ => (gg_name 5 sc_law_all.nd)) (fun _ _ _ _ _ => gts_nil) (fun _ _ _ _ _ => (ge_ifExp (gt_truth ((ge_band ((ge_shr ((ge_var 3)).go ((ge_var 5)).go)).go (ge_int).go)).go) ge_str ge_str)) (by decide) (by decide))).ge).go))) (gss_one (gs_append 2 (by decide) (ge_tuple T.tuple (gao_cons (((gf_lc (own := [("_law_at", 5)]) rfl sc_law_all.nd (gi_range1 T.range (gao_cons ((ge_var 0)).go gao_nil)) (blkOk_by (by kernel_rfl)) (fun _ _ _ _ _ => (gg_name 5 sc_law_all.nd)) (fun _ _ _ _ _ => gts_nil) (fun _ _ _ _ _ => (ge_slice ((ge_var 4)).go (gp_some (ge_mul ((ge_var 5)).go ((ge_var 1)).go)) (gp_some (ge_add ((ge_mul ((ge_var 5)).go ((ge_var 1)).go)).go ((ge_var 1)).go)))) (by decide) (by decide))).ge).go gao_nil)))))) (by decide) (fun d ds h => by cases h; rfl)) (gss_one (gs_ret (On := []) ((gf_sortTx T.sorted (gao_cons (go_own 2) gao_nil))).ge))))⟩
abbrev s_is_in : Stmt := top 10
theorem sc_is_in : FnScope ["value", "least", "most"] ["value", "least", "most"] (defScope s_is_in) := ⟨rfl, rfl, rfl, by decide +kernel, rfl, by decide +kernel, by decide +kernel⟩
def b_is_in : SS := retS (andE (callE 1 m_is_int (consA (vE 0) (nilA))) (chainE leD leD (vE 1) (vE 0) (vE 2)))
def m_is_in : List D → List D → RE D := defD 3 b_is_in
theorem d_is_in (T : Tx K mg) : DefOk P w K mg base CX0 r "is_in" 2 3 m_is_in := by
  obtain ⟨f, fd, F, hm⟩ := T.f_is_in
  refine fn_def (k := 1) F sc_is_in hm (fun _ _ _ _ _ _ us hl => match us, hl with | [_, _, _], _ => rfl) (fun cdv A outer s H E hr => ?_) (m := b_is_in)
  exact ⟨_, _, (gss_one (gs_ret (On := []) (ge_and (ge_call (d_is_int T) (hr.mono (by decide)) pass0 (ga_cons (ge_var 0) ga_nil)) (ge_one (ge_leLe ((ge_var 1)).go ((ge_var 0)).go ((ge_var 2)).go)))))⟩
abbrev s_need_picture : Stmt := top 12
theorem sc_need_picture : FnScope ["value"] ["value"] (defScope s_need_picture) := ⟨rfl, rfl, rfl, by decide +kernel, rfl, by decide +kernel, by decide +kernel⟩
def b_need_picture : SS := ifS (notT (boolE (callE 1 m_is_picture (consA (vE 0) (nilA))))) ((fun _ _ => .stuck)) (skipS)
def m_need_picture : List D → List D → RE D := defD 1 b_need_picture
theorem d_need_picture (T : Tx K mg) : DefOk P w K mg base CX0 r "need_picture" 2 1 m_need_picture := by
  obtain ⟨f, fd, F, hm⟩ := T.f_need_picture
  refine fn_def (k := 1) F sc_need_picture hm (fun _ _ _ _ _ _ us hl => match us, hl with | [_], _ => rfl) (fun cdv A outer s H E hr => ?_) (m := b_need_picture)
  exact ⟨_, _, (gss_one (gs_if (gt_not (gt_val (ge_call (d_is_picture T) (hr.mono (by decide)) pass0 (ga_cons (ge_var 0) ga_nil)))) (gss_one (gs_never (On := []))) (GSs.post (On' := []) (by decide) gss_nil)))⟩
abbrev s_layers_of : Stmt := top 16
theorem sc_layers_of : FnScope ["picture", "left", "found", "ways", "line", "told", "some", "other", "gone"] ["picture"] (defScope s_layers_of) := ⟨rfl, rfl, rfl, by decide +kernel, rfl, by decide +kernel, by decide +kernel⟩
def b_layers_of : SS := seqS (parS [1, 2] (consA (rg1E .lst (callE 1 m_lines_of (consA (vE 0) (nilA)))) (consA (lstE (nilA)) (nilA)))) (seqS (setS 3 (compE (seqI (vE 1)) [4] t1 [4] (yesT) (callE 2 m_leads_to (consA (vE 0) (consA (vE 4) (nilA)))))) (whileS 1000000 (boolE (cE (.bl true))) (seqS (setS 5 (dcE (seqI (vE 1)) [4] t1 [4] (vE 4) (cE (.bl true)))) (seqS (setS 6 (compE (seqI (vE 1)) [4] t1 [4] (notT (boolE (callB anyD (consA (compE (seqI (binE ixD (vE 3) (vE 4))) [7] t1 [7] (yesT) (binE (inKD false) (vE 7) (vE 5))) (nilA))))) (vE 4))) (seqS (ifS (boolE (binE eqD (vE 6) (lstE (nilA)))) (retS (vE 2)) (skipS)) (seqS (appS 2 (vE 6)) (seqS (setS 8 (dcE (seqI (vE 6)) [4] t1 [4] (vE 4) (cE (.bl true)))) (setS 1 (compE (seqI (vE 1)) [4] t1 [4] (boolE (binE (inKD true) (vE 4) (vE 8))) (vE 4))))))))))
def m_layers_of : List D → List D → RE D := defD 9 b_layers_of
theorem d_layers_of (T : Tx K mg) : DefOk P w K mg base CX0 r "layers_of" 2 1 m_layers_of := by
  obtain ⟨f, fd, F, hm⟩ := T.f_layers_of
  refine fn_def (k := 1) F sc_layers_of hm (fun _ _ _ _ _ _ us hl => match us, hl with | [_], _ => rfl) (fun cdv A outer s H E hr => ?_) (m := b_layers_of)
  exact ⟨_, _, (gss_cons (GS.post (On' := [2]) (by decide) (gs_par2 1 2 sc_layers_of.nd (gak_st ((gf_listRg1 T.list T.range ((ge_call (d_lines_of T) (hr.mono (by decide)) pass0 (ga_cons (ge_var 0) ga_nil))).go)).ge (gak_fr (gf_lst ga_nil) gak_nil)))) (gss_cons (GS.post (On' := [2]) (by decide) (gs_set 3 sc_layers_of.nd ((gf_lc (own := [("line", 4)]) rfl sc_layers_of.nd (gi_seq (ge_var 1)) (blkOk_by (by kernel_rfl)) (fun _ _ _ _ _ => (gg_name 4 sc_layers_of.nd)) (fun _ _ _ _ _ => gts_nil) (fun _ _ _ _ _ => (ge_call (d_leads_to T) (hr.mono (by decide)) pass0 (ga_cons (ge_var 0) (ga_cons (ge_var 4) ga_nil)))) (by decide) (by decide))).ge)) (gss_one (gs_while 1000000 .never (gt_val ge_bl) (GSs.post (On' := [2]) (by decide) (gss_cons (GS.post (On' := [2]) (by decide) (gs_set 5 sc_layers_of.nd ((gf_dc (own := [("line", 4)]) rfl sc_layers_of.nd (gi_seq (ge_var 1)) (blkOk_by (by kernel_rfl)) (fun _ _ _ _ _ => (gg_name 4 sc_layers_of.nd)) (fun _ _ _ _ _ => gts_nil) (fun _ _ _ _ _ => (ge_var 4)) (fun _ _ _ _ _ => ge_bl) (by decide) (by decide))).ge)) (gss_cons (GS.post (On' := [2]) (by decide) (gs_setLc (i := 6) (lc_stmt (own := [("line", 4)]) rfl sc_layers_of.nd (gi_seq (ge_var 1)) (blkOk_by (by kernel_rfl)) (fun _ _ _ _ _ => (gg_name 4 sc_layers_of.nd)) (fun _ _ _ _ _ => (gts_one (gt_not (gt_val (ge_any rfl T.any (gao_cons (((gf_lc (own := [("other", 7)]) rfl sc_layers_of.nd (gi_seq (ge_sub1 ((ge_var 3)).go ((ge_var 4)).go)) (blkOk_by (by kernel_rfl)) (fun _ _ _ _ _ => (gg_name 7 sc_layers_of.nd)) (fun _ _ _ _ _ => gts_nil) (fun _ _ _ _ _ => (ge_inK hr.units ((ge_var 7)).go ((ge_var 5)).go)) (by decide) (by decide))).ge).go gao_nil)))))) (fun _ _ _ _ _ => (ge_var 4)) (by decide) (by decide)))) (gss_cons (gs_if (gt_eq hr.units ((ge_var 6)).go (((gf_lst ga_nil)).ge).go) (gss_one (gs_retO (On := [2]) 2 (by decide))) (GSs.post (On' := [2]) (by decide) gss_nil)) (gss_cons (gs_append 2 (by decide) (ge_var 6)) (gss_cons (GS.post (On' := [2]) (by decide) (gs_set 8 sc_layers_of.nd ((gf_dc (own := [("line", 4)]) rfl sc_layers_of.nd (gi_seq (ge_var 6)) (blkOk_by (by kernel_rfl)) (fun _ _ _ _ _ => (gg_name 4 sc_layers_of.nd)) (fun _ _ _ _ _ => gts_nil) (fun _ _ _ _ _ => (ge_var 4)) (fun _ _ _ _ _ => ge_bl) (by decide) (by decide))).ge)) (gss_one (GS.post (On' := [2]) (by decide) (gs_setLc (i := 1) (lc_stmt (own := [("line", 4)]) rfl sc_layers_of.nd (gi_seq (ge_var 1)) (blkOk_by (by kernel_rfl)) (fun _ _ _ _ _ => (gg_name 4 sc_layers_of.nd)) (fun _ _ _ _ _ => (gts_one (gt_notInK hr.units ((ge_var 4)).go ((ge_var 8)).go))) (fun _ _ _ _ _ => (ge_var 4)) (by decide) (by decide)))))))))))))))⟩
abbrev s_layerings : Stmt := top 23
theorem sc_layerings : FnScope ["rows", "columns", "is_rows", "found", "some", "mask", "told", "at", "left", "line", "rest", "more"] ["rows", "columns", "is_rows"] (defScope s_layerings) := ⟨rfl, rfl, rfl, by decide +kernel, rfl, by decide +kernel, by decide +kernel⟩
def b_layerings (rec : List D → List D → RE D) : SS := seqS (ifS (andT (boolE (binE eqD (vE 0) (tupE (nilA)))) (boolE (binE eqD (vE 1) (tupE (nilA))))) (retS (lstE (consA (tupE (nilA)) (nilA)))) (skipS)) (seqS (parS [3, 4] (consA (lstE (nilA)) (consA (ifE (boolE (vE 2)) (vE 0) (vE 1)) (nilA)))) (seqS (forS (seqI (callE 1 m_masks (consA (callB lenD (consA (vE 4) (nilA))) (nilA)))) t1 [5] (ifS (boolE (binE neD (vE 5) (tupE (nilA)))) (seqS (setS 6 (callB tupleD (consA (compE (seqI (vE 5)) [7] t1 [7] (yesT) (binE ixD (vE 4) (vE 7))) (nilA)))) (seqS (setS 8 (callB tupleD (consA (compE (seqI (vE 4)) [9] t1 [9] (boolE (binE notInD (vE 9) (vE 6))) (vE 9)) (nilA)))) (seqS (setS 10 (ifE (boolE (vE 2)) (callE 3 rec (consA (vE 8) (consA (vE 1) (consA (cE (.bl false)) (nilA))))) (callE 3 rec (consA (vE 0) (consA (vE 8) (consA (cE (.bl true)) (nilA))))))) (setS 3 (binE addD (vE 3) (compE (seqI (vE 10)) [11] t1 [11] (yesT) (tupE (consA (vE 6) (starA (vE 11) (nilA)))))))))) (skipS))) (retS (vE 3))))
def m_layerings : Nat → List D → List D → RE D
  | 0 => fun _ _ => .stuck
  | n + 1 => defD 12 (b_layerings (m_layerings n))
theorem d_layerings (T : Tx K mg) : ∀ n : Nat, DefOk P w K mg base CX0 r "layerings" (n + 2) 3 (m_layerings n)
  | 0 => by
    obtain ⟨f, fd, F, hm⟩ := T.f_layerings
    exact def_stuck (ps := ["rows", "columns", "is_rows"]) F hm (fun _ _ _ _ _ _ us hl => match us, hl with | [_, _, _], _ => rfl)
  | n + 1 => by
    have ih := d_layerings T n
    obtain ⟨f, fd, F, hm⟩ := T.f_layerings
    refine fn_def (k := n + 2) F sc_layerings hm (fun _ _ _ _ _ _ us hl => match us, hl with | [_, _, _], _ => rfl) (fun cdv A outer s H E hr => ?_) (m := b_layerings (m_layerings n))
    exact ⟨_, _, (gss_cons (gs_if ((gw_and (gt_eq hr.units ((ge_var 0)).go ((ge_tup ga_nil)).go) (gw_and1 (gt_eq hr.units ((ge_var 1)).go ((ge_tup ga_nil)).go)))).gt (gss_one (gs_ret (On := []) ((gf_lst (ga_cons (ge_tup ga_nil) ga_nil))).ge)) (GSs.post (On' := []) (by decide) gss_nil)) (gss_cons (GS.post (On' := []) (by decide) (gs_tup (gak_st ((gf_lst ga_nil)).ge (gak_st (ge_ifExp (gt_val (ge_var 2)) (ge_var 0) (ge_var 1)) gak_nil)) (ggs_cons 3 sc_layerings.nd (ggs_cons 4 sc_layerings.nd ggs_nil)))) (gss_cons (gs_for .never rfl (gi_seq (ge_call (d_masks T) (hr.mono (by omega)) pass0 (ga_cons (ge_len T.len (gao_cons ((ge_var 4)).go gao_nil)) ga_nil))) (gg_name 5 sc_layerings.nd) (GSs.post (On' := []) (by decide) (gss_one (gs_if (gt_ne hr.units ((ge_var 5)).go ((ge_tup ga_nil)).go) (GSs.post (On' := []) (by decide) (gss_cons (GS.post (On' := []) (by decide) (gs_set 6 sc_layerings.nd (ge_tuple T.tuple (gao_cons (((gf_lc (own := [("at", 7)]) rfl sc_layerings.nd (gi_seq (ge_var 5)) (blkOk_by (by kernel_rfl)) (fun _ _ _ _ _ => (gg_name 7 sc_layerings.nd)) (fun _ _ _ _ _ => gts_nil) (fun _ _ _ _ _ => (ge_sub1 ((ge_var 4)).go ((ge_var 7)).go)) (by decide) (by decide))).ge).go gao_nil)))) (gss_cons (GS.post (On' := []) (by decide) (gs_set 8 sc_layerings.nd (ge_tuple T.tuple (gao_cons (((gf_lc (own := [("line", 9)]) rfl sc_layerings.nd (gi_seq (ge_var 4)) (blkOk_by (by kernel_rfl)) (fun _ _ _ _ _ => (gg_name 9 sc_layerings.nd)) (fun _ _ _ _ _ => (gts_one (gt_notIn hr.units ((ge_var 9)).go ((ge_var 6)).go))) (fun _ _ _ _ _ => (ge_var 9)) (by decide) (by decide))).ge).go gao_nil)))) (gss_cons (GS.post (On' := []) (by decide) (gs_set 10 sc_layerings.nd (ge_ifExp (gt_val (ge_var 2)) (ge_call ih (hr.mono (by omega)) pass0 (ga_cons (ge_var 8) (ga_cons (ge_var 1) (ga_cons ge_bl ga_nil)))) (ge_call ih (hr.mono (by omega)) pass0 (ga_cons (ge_var 0) (ga_cons (ge_var 8) (ga_cons ge_bl ga_nil))))))) (gss_one (GS.post (On' := []) (by decide) (gs_set 3 sc_layerings.nd (ge_add ((ge_var 3)).go (((gf_lc (own := [("more", 11)]) rfl sc_layerings.nd (gi_seq (ge_var 10)) (blkOk_by (by kernel_rfl)) (fun _ _ _ _ _ => (gg_name 11 sc_layerings.nd)) (fun _ _ _ _ _ => gts_nil) (fun _ _ _ _ _ => (ge_tup (ga_cons (ge_var 6) (ga_star (ge_var 11) ga_nil)))) (by decide) (by decide))).ge).go)))))))) (GSs.post (On' := []) (by decide) gss_nil)))) (by decide) (fun d ds h => by cases h; rfl)) (gss_one (gs_ret (On := []) (ge_var 3))))))⟩
abbrev s_law_pick : Stmt := top 40
theorem sc_law_pick : FnScope ["_law_row", "_law_things"] ["_law_row", "_law_things"] (defScope s_law_pick) := ⟨rfl, rfl, rfl, by decide +kernel, rfl, by decide +kernel, by decide +kernel⟩
def b_law_pick : SS := retS (binE ixD (vE 1) (callE 2 m_law_taken (consA (vE 0) (consA (callB lenD (consA (vE 1) (nilA))) (nilA)))))
def m_law_pick : List D → List D → RE D := defD 2 b_law_pick
theorem d_law_pick (T : Tx K mg) : DefOk P w K mg base CX0 r "_law_pick" 2 2 m_law_pick := by
  obtain ⟨f, fd, F, hm⟩ := T.f_law_pick
  refine fn_def (k := 1) F sc_law_pick hm (fun _ _ _ _ _ _ us hl => match us, hl with | [_, _], _ => rfl) (fun cdv A outer s H E hr => ?_) (m := b_law_pick)
  exact ⟨_, _, (gss_one (gs_ret (On := []) (ge_sub1 ((ge_var 1)).go ((ge_call (d_law_taken T) (hr.mono (by decide)) pass0 (ga_cons (ge_var 0) (ga_cons (ge_len T.len (gao_cons ((ge_var 1)).go gao_nil)) ga_nil)))).go)))⟩
abbrev s_law_core : Stmt := top 45
theorem sc_law_core : FnScope ["_law_picture", "_law_told", "_law_some", "_law_line"] ["_law_picture"] (defScope s_law_core) := ⟨rfl, rfl, rfl, by decide +kernel, rfl, by decide +kernel, by decide +kernel⟩
def b_law_core : SS := seqS (setS 1 (lstE (nilA))) (seqS (forS (seqI (callE 1 m_law_layers (consA (vE 0) (nilA)))) t1 [2] (setS 1 (binE addD (vE 1) (vE 2)))) (retS (compE (rangeI range1D (consA (binE addD (callB lenD (consA (vE 0) (nilA))) (callB lenD (consA (binE ixD (vE 0) (cE (.int 0))) (nilA)))) (nilA))) [3] t1 [3] (boolE (binE notInD (vE 3) (vE 1))) (vE 3))))
def m_law_core : List D → List D → RE D := defD 4 b_law_core
theorem d_law_core (T : Tx K mg) : DefOk P w K mg base CX0 r "_law_core" 2 1 m_law_core := by
  obtain ⟨f, fd, F, hm⟩ := T.f_law_core
  refine fn_def (k := 1) F sc_law_core hm (fun _ _ _ _ _ _ us hl => match us, hl with | [_], _ => rfl) (fun cdv A outer s H E hr => ?_) (m := b_law_core)
  exact ⟨_, _, (gss_cons (GS.post (On' := []) (by decide) (gs_set 1 sc_law_core.nd ((gf_lst ga_nil)).ge)) (gss_cons (gs_for .never rfl (gi_seq (ge_call (d_law_layers T) (hr.mono (by decide)) pass0 (ga_cons (ge_var 0) ga_nil))) (gg_name 2 sc_law_core.nd) (GSs.post (On' := []) (by decide) (gss_one (GS.post (On' := []) (by decide) (gs_set 1 sc_law_core.nd (ge_add ((ge_var 1)).go ((ge_var 2)).go))))) (by decide) (fun d ds h => by cases h; rfl)) (gss_one (gs_ret (On := []) ((gf_lc (own := [("_law_line", 3)]) rfl sc_law_core.nd (gi_range1 T.range (gao_cons ((ge_add ((ge_len T.len (gao_cons ((ge_var 0)).go gao_nil))).go ((ge_len T.len (gao_cons ((ge_sub1 ((ge_var 0)).go (ge_int).go)).go gao_nil))).go)).go gao_nil)) (blkOk_by (by kernel_rfl)) (fun _ _ _ _ _ => (gg_name 3 sc_law_core.nd)) (fun _ _ _ _ _ => (gts_one (gt_notIn hr.units ((ge_var 3)).go ((ge_var 1)).go))) (fun _ _ _ _ _ => (ge_var 3)) (by decide) (by decide))).ge))))⟩
abbrev s_core_of : Stmt := top 17
theorem sc_core_of : FnScope ["picture", "told", "some", "line"] ["picture"] (defScope s_core_of) := ⟨rfl, rfl, rfl, by decide +kernel, rfl, by decide +kernel, by decide +kernel⟩
def b_core_of : SS := seqS (setS 1 (dc2E (seqI (callE 1 m_layers_of (consA (vE 0) (nilA)))) [2, 3] t1 [2] (seqI (vE 2)) [3] t1 [3] (vE 3) (cE (.bl true)))) (retS (compE (rangeI range1D (consA (callE 1 m_lines_of (consA (vE 0) (nilA))) (nilA))) [3] t1 [3] (boolE (binE (inKD true) (vE 3) (vE 1))) (vE 3)))
def m_core_of : List D → List D → RE D := defD 4 b_core_of
theorem d_core_of (T : Tx K mg) : DefOk P w K mg base CX0 r "core_of" 3 1 m_core_of := by
  obtain ⟨f, fd, F, hm⟩ := T.f_core_of
  refine fn_def (k := 2) F sc_core_of hm (fun _ _ _ _ _ _ us hl => match us, hl with | [_], _ => rfl) (fun cdv A outer s H E hr => ?_) (m := b_core_of)
  exact ⟨_, _, (gss_cons (GS.post (On' := []) (by decide) (gs_set 1 sc_core_of.nd ((gf_dc2 (own := [("some", 2), ("line", 3)]) (vs1 := [3]) rfl sc_core_of.nd (gi_seq (ge_call (d_layers_of T) (hr.mono (by decide)) pass0 (ga_cons (ge_var 0) ga_nil))) (blkOk_by (by kernel_rfl)) (fun _ _ _ _ _ => (gg_name 2 sc_core_of.nd)) (fun _ _ _ _ _ => (gi_seq (ge_var 2))) (fun _ _ _ _ _ => (gg_name 3 sc_core_of.nd)) (fun _ _ _ _ _ => (ge_var 3)) (fun _ _ _ _ _ => ge_bl) (by decide) (by decide) (by decide) (by decide))).ge)) (gss_one (gs_ret (On := []) ((gf_lc (own := [("line", 3)]) rfl sc_core_of.nd (gi_range1 T.range (gao_cons ((ge_call (d_lines_of T) (hr.mono (by decide)) pass0 (ga_cons (ge_var 0) ga_nil))).go gao_nil)) (blkOk_by (by kernel_rfl)) (fun _ _ _ _ _ => (gg_name 3 sc_core_of.nd)) (fun _ _ _ _ _ => (gts_one (gt_notInK hr.units ((ge_var 3)).go ((ge_var 1)).go))) (fun _ _ _ _ _ => (ge_var 3)) (by decide) (by decide))).ge)))⟩
abbrev s_is_table : Stmt := top 27
theorem sc_is_table : FnScope ["value", "row", "worth"] ["value"] (defScope s_is_table) := ⟨rfl, rfl, rfl, by decide +kernel, rfl, by decide +kernel, by decide +kernel⟩
def b_is_table : SS := seqS (ifS (orT (notT (boolE (callB isiD (consA (vE 0) (consA (cE (.ty "tuple")) (nilA)))))) (orT (notT (boolE (chainE leD leD (cE (.int 1)) (callB lenD (consA (vE 0) (nilA))) (cE (.int 30))))) (notT (boolE (callB allD (consA (compE (seqI (vE 0)) [1] t1 [1] (yesT) (callB isiD (consA (vE 1) (consA (cE (.ty "tuple")) (nilA))))) (nilA))))))) (retS (cE (.bl false))) (skipS)) (seqS (ifS (orT (notT (boolE (chainE leD leD (cE (.int 1)) (callB lenD (consA (binE ixD (vE 0) (cE (.int 0))) (nilA))) (cE (.int 30))))) (notT (boolE (callB allD (consA (compE (seqI (vE 0)) [1] t1 [1] (yesT) (binE eqD (callB lenD (consA (vE 1) (nilA))) (callB lenD (consA (binE ixD (vE 0) (cE (.int 0))) (nilA))))) (nilA)))))) (retS (cE (.bl false))) (skipS)) (retS (callB allD (consA (comp2E (seqI (vE 0)) [1, 2] t1 [1] (yesT) (seqI (vE 1)) [2] t1 [2] (yesT) (callE 3 m_is_in (consA (vE 2) (consA (unE negD (cE (.int 1000000))) (consA (cE (.int 1000000)) (nilA)))))) (nilA)))))
def m_is_table : List D → List D → RE D := defD 3 b_is_table
theorem d_is_table (T : Tx K mg) : DefOk P w K mg base CX0 r "is_table" 3 1 m_is_table := by
  obtain ⟨f, fd, F, hm⟩ := T.f_is_table
  refine fn_def (k := 2) F sc_is_table hm (fun _ _ _ _ _ _ us hl => match us, hl with | [_], _ => rfl) (fun cdv A outer s H E hr => ?_) (m := b_is_table)
  exact ⟨_, _, (gss_cons (gs_if ((gw_or (gt_not (gt_val (ge_isi T.isinstance (gao_cons ((ge_var 0)).go (gao_cons ((ge_ty T.tuple)).go gao_nil))))) (gw_or (gt_not (gt_leLe (ge_int).go ((ge_len T.len (gao_cons ((ge_var 0)).go gao_nil))).go (ge_int).go)) (gw_or1 (gt_not (gt_val (ge_all rfl T.all (gao_cons (((gf_lc (own := [("row", 1)]) rfl sc_is_table.nd (gi_seq (ge_var 0)) (blkOk_by (by kernel_rfl)) (fun _ _ _ _ _ => (gg_name 1 sc_is_table.nd)) (fun _ _ _ _ _ => gts_nil) (fun _ _ _ _ _ => (ge_isi T.isinstance (gao_cons ((ge_var 1)).go (gao_cons ((ge_ty T.tuple)).go gao_nil)))) (by decide) (by decide))).ge).go gao_nil)))))))).gt (gss_one (gs_ret (On := []) ge_bl)) (GSs.post (On' := []) (by decide) gss_nil)) (gss_cons (gs_if ((gw_or (gt_not (gt_leLe (ge_int).go ((ge_len T.len (gao_cons ((ge_sub1 ((ge_var 0)).go (ge_int).go)).go gao_nil))).go (ge_int).go)) (gw_or1 (gt_not (gt_val (ge_all rfl T.all (gao_cons (((gf_lc (own := [("row", 1)]) rfl sc_is_table.nd (gi_seq (ge_var 0)) (blkOk_by (by kernel_rfl)) (fun _ _ _ _ _ => (gg_name 1 sc_is_table.nd)) (fun _ _ _ _ _ => gts_nil) (fun _ _ _ _ _ => (ge_eq hr.units ((ge_len T.len (gao_cons ((ge_var 1)).go gao_nil))).go ((ge_len T.len (gao_cons ((ge_sub1 ((ge_var 0)).go (ge_int).go)).go gao_nil))).go)) (by decide) (by decide))).ge).go gao_nil))))))).gt (gss_one (gs_ret (On := []) ge_bl)) (GSs.post (On' := []) (by decide) gss_nil)) (gss_one (gs_ret (On := []) (ge_all rfl T.all (gao_cons (((gf_lc2 (own := [("row", 1), ("worth", 2)]) (vs1 := [2]) rfl sc_is_table.nd (gi_seq (ge_var 0)) (blkOk_by (by kernel_rfl)) (fun _ _ _ _ _ => (gg_name 1 sc_is_table.nd)) (fun _ _ _ _ _ => gts_nil) (fun _ _ _ _ _ => (gi_seq (ge_var 1))) (fun _ _ _ _ _ => (gg_name 2 sc_is_table.nd)) (fun _ _ _ _ _ => gts_nil) (fun _ _ _ _ _ => (ge_call (d_is_in T) (hr.mono (by decide)) pass0 (ga_cons (ge_var 2) (ga_cons (ge_neg ((ge_gint T.MOST_WORTH)).go) (ga_cons (ge_gint T.MOST_WORTH) ga_nil))))) (by decide) (by decide) (by decide) (by decide))).ge).go gao_nil))))))⟩
abbrev s_law_any : Stmt := top 42
theorem sc_law_any : FnScope ["_law_row", "_law_high", "_law_wide", "_law_often", "_law_found", "_law_at", "_law_spot"] ["_law_row", "_law_high", "_law_wide"] (defScope s_law_any) := ⟨rfl, rfl, rfl, by decide +kernel, rfl, by decide +kernel, by decide +kernel⟩
def b_law_any : SS := seqS (parS [3, 4] (consA (callE 2 m_law_pick (consA (vE 0) (consA (lstE (consA (cE (.int 2)) (consA (cE (.int 2)) (consA (cE (.int 3)) (consA (cE (.int 4)) (nilA)))))) (nilA)))) (consA (lstE (nilA)) (nilA)))) (seqS (forS (rangeI range1D (consA (vE 1) (nilA))) t1 [5] (appS 4 (methE isStrD joinD (cE (.str "")) (compE (rangeI range1D (consA (vE 2) (nilA))) [6] t1 [6] (yesT) (ifE (boolE (binE eqD (callE 2 m_law_taken (consA (vE 0) (consA (vE 3) (nilA)))) (cE (.int 0)))) (cE (.str "#")) (cE (.str "."))))))) (retS (callB tupleD (consA (vE 4) (nilA)))))
def m_law_any : List D → List D → RE D := defD 7 b_law_any
theorem d_law_any (T : Tx K mg) : DefOk P w K mg base CX0 r "_law_any" 3 3 m_law_any := by
  obtain ⟨f, fd, F, hm⟩ := T.f_law_any
  refine fn_def (k := 2) F sc_law_any hm (fun _ _ _ _ _ _ us hl => match us, hl with | [_, _, _], _ => rfl) (fun cdv A outer s H E hr => ?_) (m := b_law_any)
  exact ⟨_, _, (gss_cons (GS.post (On' := [4]) (by decide) (gs_tup (gak_st (ge_call (d_law_pick T) (hr.mono (by decide)) pass0 (ga_cons (ge_var 0) (ga_cons ((gf_lst (ga_cons ge_int (ga_cons ge_int (ga_cons ge_int (ga_cons ge_int ga_nil)))))).ge ga_nil))) (gak_fr (gf_lst ga_nil) gak_nil)) (ggs_cons 3 sc_law_any.nd (ggs_cons 4 sc_law_any.nd ggs_nil)))) (gss_cons (gs_for .never rfl (gi_range1 T.range (gao_cons ((ge_var 1)).go gao_nil)) (gg_name 5 sc_law_any.nd) (GSs.post (On' := [4]) (by decide) (gss_one (gs_append 4 (by decide) (ge_join (ge_str).go (((gf_lc (own := [("_law_spot", 6)]) rfl sc_law_any.nd (gi_range1 T.range (gao_cons ((ge_var 2)).go gao_nil)) (blkOk_by (by kernel_rfl)) (fun _ _ _ _ _ => (gg_name 6 sc_law_any.nd)) (fun _ _ _ _ _ => gts_nil) (fun _ _ _ _ _ => (ge_ifExp (gt_eq hr.units ((ge_call (d_law_taken T) (hr.mono (by decide)) pass0 (ga_cons (ge_var 0) (ga_cons (ge_var 3) ga_nil)))).go (ge_int).go) ge_str ge_str)) (by decide) (by decide))).ge).go)))) (by decide) (fun d ds h => by cases h; rfl)) (gss_one (gs_ret (On := []) (ge_tuple T.tuple (gao_cons (go_own 4) gao_nil))))))⟩
abbrev s_is_free_of : Stmt := top 18
theorem sc_is_free_of : FnScope ["picture"] ["picture"] (defScope s_is_free_of) := ⟨rfl, rfl, rfl, by decide +kernel, rfl, by decide +kernel, by decide +kernel⟩
def b_is_free_of : SS := retS (binE eqD (callE 1 m_core_of (consA (vE 0) (nilA))) (lstE (nilA)))
def m_is_free_of : List D → List D → RE D := defD 1 b_is_free_of
theorem d_is_free_of (T : Tx K mg) : DefOk P w K mg base CX0 r "is_free_of" 4 1 m_is_free_of := by
  obtain ⟨f, fd, F, hm⟩ := T.f_is_free_of
  refine fn_def (k := 3) F sc_is_free_of hm (fun _ _ _ _ _ _ us hl => match us, hl with | [_], _ => rfl) (fun cdv A outer s H E hr => ?_) (m := b_is_free_of)
  exact ⟨_, _, (gss_one (gs_ret (On := []) (ge_eq hr.units ((ge_call (d_core_of T) (hr.mono (by decide)) pass0 (ga_cons (ge_var 0) ga_nil))).go (((gf_lst ga_nil)).ge).go)))⟩
abbrev s_need_table : Stmt := top 28
theorem sc_need_table : FnScope ["value"] ["value"] (defScope s_need_table) := ⟨rfl, rfl, rfl, by decide +kernel, rfl, by decide +kernel, by decide +kernel⟩
def b_need_table : SS := ifS (notT (boolE (callE 1 m_is_table (consA (vE 0) (nilA))))) ((fun _ _ => .stuck)) (skipS)
def m_need_table : List D → List D → RE D := defD 1 b_need_table
theorem d_need_table (T : Tx K mg) : DefOk P w K mg base CX0 r "need_table" 4 1 m_need_table := by
  obtain ⟨f, fd, F, hm⟩ := T.f_need_table
  refine fn_def (k := 3) F sc_need_table hm (fun _ _ _ _ _ _ us hl => match us, hl with | [_], _ => rfl) (fun cdv A outer s H E hr => ?_) (m := b_need_table)
  exact ⟨_, _, (gss_one (gs_if (gt_not (gt_val (ge_call (d_is_table T) (hr.mono (by decide)) pass0 (ga_cons (ge_var 0) ga_nil)))) (gss_one (gs_never (On := []))) (GSs.post (On' := []) (by decide) gss_nil)))⟩
abbrev s_worth : Stmt := top 30
theorem sc_worth : FnScope ["picture", "worths"] ["picture", "worths"] (defScope s_worth) := ⟨rfl, rfl, rfl, by decide +kernel, rfl, by decide +kernel, by decide +kernel⟩
def b_worth : SS := seqS (dropS (callE 1 m_need_picture (consA (vE 0) (nilA)))) (seqS (dropS (callE 1 m_need_table (consA (vE 1) (nilA)))) (seqS (ifS (orT (boolE (binE neD (callB lenD (consA (vE 1) (nilA))) (callB lenD (consA (vE 0) (nilA))))) (boolE (binE neD (callB lenD (consA (binE ixD (vE 1) (cE (.int 0))) (nilA))) (callB lenD (consA (binE ixD (vE 0) (cE (.int 0))) (nilA)))))) ((fun _ _ => .stuck)) (skipS)) (retS (callE 2 m_worth_of (consA (vE 0) (consA (vE 1) (nilA)))))))
def m_worth : List D → List D → RE D := defD 2 b_worth
theorem d_worth (T : Tx K mg) : DefOk P w K mg base CX0 r "worth" 5 2 m_worth := by
  obtain ⟨f, fd, F, hm⟩ := T.f_worth
  refine fn_def (k := 4) F sc_worth hm (fun _ _ _ _ _ _ us hl => match us, hl with | [_, _], _ => rfl) (fun cdv A outer s H E hr => ?_) (m := b_worth)
  exact ⟨_, _, (gss_cons (gs_drop (ge_call (d_need_picture T) (hr.mono (by decide)) pass0 (ga_cons (ge_var 0) ga_nil))) (gss_cons (gs_drop (ge_call (d_need_table T) (hr.mono (by decide)) pass0 (ga_cons (ge_var 1) ga_nil))) (gss_cons (gs_if ((gw_or (gt_ne hr.units ((ge_len T.len (gao_cons ((ge_var 1)).go gao_nil))).go ((ge_len T.len (gao_cons ((ge_var 0)).go gao_nil))).go) (gw_or1 (gt_ne hr.units ((ge_len T.len (gao_cons ((ge_sub1 ((ge_var 1)).go (ge_int).go)).go gao_nil))).go ((ge_len T.len (gao_cons ((ge_sub1 ((ge_var 0)).go (ge_int).go)).go gao_nil))).go)))).gt (gss_one (gs_never (On := []))) (GSs.post (On' := []) (by decide) gss_nil)) (gss_one (gs_ret (On := []) (ge_call (d_worth_of T) (hr.mono (by decide)) pass0 (ga_cons (ge_var 0) (ga_cons (ge_var 1) ga_nil))))))))⟩
abbrev s_need_small_table : Stmt := top 32
theorem sc_need_small_table : FnScope ["value"] ["value"] (defScope s_need_small_table) := ⟨rfl, rfl, rfl, by decide +kernel, rfl, by decide +kernel, by decide +kernel⟩
def b_need_small_table : SS := seqS (dropS (callE 1 m_need_table (consA (vE 0) (nilA)))) (ifS (boolE (binE gtD (binE addD (callB lenD (consA (vE 0) (nilA))) (callB lenD (consA (binE ixD (vE 0) (cE (.int 0))) (nilA)))) (cE (.int 8)))) ((fun _ _ => .stuck)) (skipS))
def m_need_small_table : List D → List D → RE D := defD 1 b_need_small_table
theorem d_need_small_table (T : Tx K mg) : DefOk P w K mg base CX0 r "need_small_table" 5 1 m_need_small_table := by
  obtain ⟨f, fd, F, hm⟩ := T.f_need_small_table
  refine fn_def (k := 4) F sc_need_small_table hm (fun _ _ _ _ _ _ us hl => match us, hl with | [_], _ => rfl) (fun cdv A outer s H E hr => ?_) (m := b_need_small_table)
  exact ⟨_, _, (gss_cons (gs_drop (ge_call (d_need_table T) (hr.mono (by decide)) pass0 (ga_cons (ge_var 0) ga_nil))) (gss_one (gs_if (gt_gt ((ge_add ((ge_len T.len (gao_cons ((ge_var 0)).go gao_nil))).go ((ge_len T.len (gao_cons ((ge_sub1 ((ge_var 0)).go (ge_int).go)).go gao_nil))).go)).go ((ge_gint T.MOST_LINES)).go) (gss_one (gs_never (On := []))) (GSs.post (On' := []) (by decide) gss_nil))))⟩
abbrev s_best_last : Stmt := top 37
theorem sc_best_last : FnScope ["picture", "worths", "whole", "told", "at", "row", "gain", "spot", "sign", "loss", "best", "line"] ["picture", "worths"] (defScope s_best_last) := ⟨rfl, rfl, rfl, by decide +kernel, rfl, by decide +kernel, by decide +kernel⟩
def b_best_last : SS := seqS (dropS (callE 1 m_need_picture (consA (vE 0) (nilA)))) (seqS (dropS (callE 1 m_need_table (consA (vE 1) (nilA)))) (seqS (ifS (orT (boolE (binE neD (callB lenD (consA (vE 1) (nilA))) (callB lenD (consA (vE 0) (nilA))))) (boolE (binE neD (callB lenD (consA (binE ixD (vE 1) (cE (.int 0))) (nilA))) (callB lenD (consA (binE ixD (vE 0) (cE (.int 0))) (nilA)))))) ((fun _ _ => .stuck)) (skipS)) (seqS (parS [2, 3] (consA (callE 2 m_worth_of (consA (vE 0) (consA (vE 1) (nilA)))) (consA (lstE (nilA)) (nilA)))) (seqS (forS (rangeI enumD (consA (vE 0) (nilA))) (tN 2) [4, 5] (seqS (setS 6 (callB sum2D (consA (compE (rangeI enumD (consA (vE 5) (nilA))) [7, 8] (tN 2) [7, 8] (boolE (binE neD (vE 8) (cE (.str "#")))) (binE ixD (binE ixD (vE 1) (vE 4)) (vE 7))) (nilA)))) (appS 3 (tupE (consA (unE negD (binE addD (vE 2) (vE 6))) (consA (vE 4) (nilA))))))) (seqS (forS (rangeI range1D (consA (callB lenD (consA (binE ixD (vE 0) (cE (.int 0))) (nilA))) (nilA))) t1 [7] (seqS (setS 9 (callB sum2D (consA (compE (rangeI enumD (consA (vE 0) (nilA))) [4, 5] (tN 2) [4, 5] (boolE (binE eqD (binE ixD (vE 5) (vE 7)) (cE (.str "#")))) (binE ixD (binE ixD (vE 1) (vE 4)) (vE 7))) (nilA)))) (appS 3 (tupE (consA (unE negD (binE subD (vE 2) (vE 9))) (consA (binE addD (callB lenD (consA (vE 0) (nilA))) (vE 7)) (nilA))))))) (seqS (unpS 2 [10, 11] (callB minDD (consA (vE 3) (nilA)))) (retS (tupE (consA (unE negD (vE 10)) (consA (vE 11) (nilA)))))))))))
def m_best_last : List D → List D → RE D := defD 12 b_best_last
theorem d_best_last (T : Tx K mg) : DefOk P w K mg base CX0 r "best_last" 5 2 m_best_last := by
  obtain ⟨f, fd, F, hm⟩ := T.f_best_last
  refine fn_def (k := 4) F sc_best_last hm (fun _ _ _ _ _ _ us hl => match us, hl with | [_, _], _ => rfl) (fun cdv A outer s H E hr => ?_) (m := b_best_last)
  exact ⟨_, _, (gss_cons (gs_drop (ge_call (d_need_picture T) (hr.mono (by decide)) pass0 (ga_cons (ge_var 0) ga_nil))) (gss_cons (gs_drop (ge_call (d_need_table T) (hr.mono (by decide)) pass0 (ga_cons (ge_var 1) ga_nil))) (gss_cons (gs_if ((gw_or (gt_ne hr.units ((ge_len T.len (gao_cons ((ge_var 1)).go gao_nil))).go ((ge_len T.len (gao_cons ((ge_var 0)).go gao_nil))).go) (gw_or1 (gt_ne hr.units ((ge_len T.len (gao_cons ((ge_sub1 ((ge_var 1)).go (ge_int).go)).go gao_nil))).go ((ge_len T.len (gao_cons ((ge_sub1 ((ge_var 0)).go (ge_int).go)).go gao_nil))).go)))).gt (gss_one (gs_never (On := []))) (GSs.post (On' := []) (by decide) gss_nil)) (gss_cons (GS.post (On' := [3]) (by decide) (gs_par2 2 3 sc_best_last.nd (gak_st (ge_call (d_worth_of T) (hr.mono (by decide)) pass0 (ga_cons (ge_var 0) (ga_cons (ge_var 1) ga_nil))) (gak_fr (gf_lst ga_nil) gak_nil)))) (gss_cons (gs_for .never rfl (gi_enum T.enumerate (ga_cons (ge_var 0) ga_nil)) (gg_tup rfl (ggs_cons 4 sc_best_last.nd (ggs_cons 5 sc_best_last.nd ggs_nil)) rfl) (GSs.post (On' := [3]) (by decide) (gss_cons (GS.post (On' := [3]) (by decide) (gs_set 6 sc_best_last.nd (ge_sum2 rfl T.sum (gao_cons (((gf_lc (own := [("spot", 7), ("sign", 8)]) rfl sc_best_last.nd (gi_enum T.enumerate (ga_cons (ge_var 5) ga_nil)) (blkOk_by (by kernel_rfl)) (fun _ _ _ _ _ => (gg_tup rfl (ggs_cons 7 sc_best_last.nd (ggs_cons 8 sc_best_last.nd ggs_nil)) rfl)) (fun _ _ _ _ _ => (gts_one (gt_ne hr.units ((ge_var 8)).go ((ge_gstr T.BLACK)).go))) (fun _ _ _ _ _ => (ge_sub1 ((ge_sub1 ((ge_var 1)).go ((ge_var 4)).go)).go ((ge_var 7)).go)) (by decide) (by decide))).ge).go gao_nil)))) (gss_one (gs_append 3 (by decide) (ge_tup (ga_cons (ge_neg ((ge_add ((ge_var 2)).go ((ge_var 6)).go)).go) (ga_cons (ge_var 4) ga_nil))))))) (by decide) (fun d ds h => tN_len h)) (gss_cons (gs_for .never rfl (gi_range1 T.range (gao_cons ((ge_len T.len (gao_cons ((ge_sub1 ((ge_var 0)).go (ge_int).go)).go gao_nil))).go gao_nil)) (gg_name 7 sc_best_last.nd) (GSs.post (On' := [3]) (by decide) (gss_cons (GS.post (On' := [3]) (by decide) (gs_set 9 sc_best_last.nd (ge_sum2 rfl T.sum (gao_cons (((gf_lc (own := [("at", 4), ("row", 5)]) rfl sc_best_last.nd (gi_enum T.enumerate (ga_cons (ge_var 0) ga_nil)) (blkOk_by (by kernel_rfl)) (fun _ _ _ _ _ => (gg_tup rfl (ggs_cons 4 sc_best_last.nd (ggs_cons 5 sc_best_last.nd ggs_nil)) rfl)) (fun _ _ _ _ _ => (gts_one (gt_eq hr.units ((ge_sub1 ((ge_var 5)).go ((ge_var 7)).go)).go ((ge_gstr T.BLACK)).go))) (fun _ _ _ _ _ => (ge_sub1 ((ge_sub1 ((ge_var 1)).go ((ge_var 4)).go)).go ((ge_var 7)).go)) (by decide) (by decide))).ge).go gao_nil)))) (gss_one (gs_append 3 (by decide) (ge_tup (ga_cons (ge_neg ((ge_sub ((ge_var 2)).go ((ge_var 9)).go)).go) (ga_cons (ge_add ((ge_len T.len (gao_cons ((ge_var 0)).go gao_nil))).go ((ge_var 7)).go) ga_nil))))))) (by decide) (fun d ds h => by cases h; rfl)) (gss_cons (gs_unp (ge_minDat rfl hr.units T.min (gao_cons (go_own 3) gao_nil)) (ggs_cons 10 sc_best_last.nd (ggs_cons 11 sc_best_last.nd ggs_nil)) (by decide)) (gss_one (gs_ret (On := []) (ge_tup (ga_cons (ge_neg ((ge_var 10)).go) (ga_cons (ge_var 11) ga_nil))))))))))))⟩
abbrev s_free_pictures : Stmt := top 31
theorem sc_free_pictures : FnScope ["rows", "columns", "lines", "others", "both", "told"] ["rows", "columns"] (defScope s_free_pictures) := ⟨rfl, rfl, rfl, by decide +kernel, rfl, by decide +kernel, by decide +kernel⟩
def b_free_pictures : SS := seqS (parS [2, 3] (consA (rg1E .tup (vE 0)) (consA (rg2E .tup (vE 0) (binE addD (vE 0) (vE 1))) (nilA)))) (seqS (setS 4 (binE addD (callE 3 (m_layerings 9) (consA (vE 2) (consA (vE 3) (consA (cE (.bl true)) (nilA))))) (callE 3 (m_layerings 9) (consA (vE 2) (consA (vE 3) (consA (cE (.bl false)) (nilA))))))) (retS (compE (seqI (vE 4)) [5] t1 [5] (yesT) (callE 3 m_by_layers (consA (vE 0) (consA (vE 1) (consA (vE 5) (nilA))))))))
def m_free_pictures : List D → List D → RE D := defD 6 b_free_pictures
theorem d_free_pictures (T : Tx K mg) : DefOk P w K mg base CX0 r "free_pictures" 12 2 m_free_pictures := by
  obtain ⟨f, fd, F, hm⟩ := T.f_free_pictures
  refine fn_def (k := 11) F sc_free_pictures hm (fun _ _ _ _ _ _ us hl => match us, hl with | [_, _], _ => rfl) (fun cdv A outer s H E hr => ?_) (m := b_free_pictures)
  exact ⟨_, _, (gss_cons (GS.post (On' := []) (by decide) (gs_par2 2 3 sc_free_pictures.nd (gak_st (ge_tupRg1 T.tuple T.range ((ge_var 0)).go) (gak_st (ge_tupRg2 T.tuple T.range ((ge_var 0)).go ((ge_add ((ge_var 0)).go ((ge_var 1)).go)).go) gak_nil)))) (gss_cons (GS.post (On' := []) (by decide) (gs_set 4 sc_free_pictures.nd (ge_add ((ge_call (d_layerings T 9) (hr.mono (by decide)) pass0 (ga_cons (ge_var 2) (ga_cons (ge_var 3) (ga_cons ge_bl ga_nil))))).go ((ge_call (d_layerings T 9) (hr.mono (by decide)) pass0 (ga_cons (ge_var 2) (ga_cons (ge_var 3) (ga_cons ge_bl ga_nil))))).go))) (gss_one (gs_ret (On := []) ((gf_lc (own := [("told", 5)]) rfl sc_free_pictures.nd (gi_seq (ge_var 4)) (blkOk_by (by kernel_rfl)) (fun _ _ _ _ _ => (gg_name 5 sc_free_pictures.nd)) (fun _ _ _ _ _ => gts_nil) (fun _ _ _ _ _ => (ge_call (d_by_layers T) (hr.mono (by decide)) pass0 (ga_cons (ge_var 0) (ga_cons (ge_var 1) (ga_cons (ge_var 5) ga_nil))))) (by decide) (by decide))).ge))))⟩
abbrev s_best_free : Stmt := top 33
theorem sc_best_free : FnScope ["worths", "picture"] ["worths"] (defScope s_best_free) := ⟨rfl, rfl, rfl, by decide +kernel, rfl, by decide +kernel, by decide +kernel⟩
def b_best_free : SS := seqS (dropS (callE 1 m_need_small_table (consA (vE 0) (nilA)))) (retS (callB maxDD (consA (compE (seqI (callE 2 m_free_pictures (consA (callB lenD (consA (vE 0) (nilA))) (consA (callB lenD (consA (binE ixD (vE 0) (cE (.int 0))) (nilA))) (nilA))))) [1] t1 [1] (yesT) (tupE (consA (callE 2 m_worth_of (consA (vE 1) (consA (vE 0) (nilA)))) (consA (vE 1) (nilA))))) (nilA))))
def m_best_free : List D → List D → RE D := defD 2 b_best_free
theorem d_best_free (T : Tx K mg) : DefOk P w K mg base CX0 r "best_free" 13 1 m_best_free := by
  obtain ⟨f, fd, F, hm⟩ := T.f_best_free
  refine fn_def (k := 12) F sc_best_free hm (fun _ _ _ _ _ _ us hl => match us, hl with | [_], _ => rfl) (fun cdv A outer s H E hr => ?_) (m := b_best_free)
  exact ⟨_, _, (gss_cons (gs_drop (ge_call (d_need_small_table T) (hr.mono (by decide)) pass0 (ga_cons (ge_var 0) ga_nil))) (gss_one (gs_ret (On := []) (ge_maxDat rfl hr.units T.max (gao_cons (((gf_lc (own := [("picture", 1)]) rfl sc_best_free.nd (gi_seq (ge_call (d_free_pictures T) (hr.mono (by decide)) pass0 (ga_cons (ge_len T.len (gao_cons ((ge_var 0)).go gao_nil)) (ga_cons (ge_len T.len (gao_cons ((ge_sub1 ((ge_var 0)).go (ge_int).go)).go gao_nil)) ga_nil)))) (blkOk_by (by kernel_rfl)) (fun _ _ _ _ _ => (gg_name 1 sc_best_free.nd)) (fun _ _ _ _ _ => gts_nil) (fun _ _ _ _ _ => (ge_tup (ga_cons (ge_call (d_worth_of T) (hr.mono (by decide)) pass0 (ga_cons (ge_var 1) (ga_cons (ge_var 0) ga_nil))) (ga_cons (ge_var 1) ga_nil)))) (by decide) (by decide))).ge).go gao_nil)))))⟩
abbrev s_free_worth_sum : Stmt := top 35
theorem sc_free_worth_sum : FnScope ["worths", "picture"] ["worths"] (defScope s_free_worth_sum) := ⟨rfl, rfl, rfl, by decide +kernel, rfl, by decide +kernel, by decide +kernel⟩
def b_free_worth_sum : SS := seqS (dropS (callE 1 m_need_small_table (consA (vE 0) (nilA)))) (retS (callB sum2D (consA (compE (seqI (callE 2 m_free_pictures (consA (callB lenD (consA (vE 0) (nilA))) (consA (callB lenD (consA (binE ixD (vE 0) (cE (.int 0))) (nilA))) (nilA))))) [1] t1 [1] (yesT) (callE 2 m_worth_of (consA (vE 1) (consA (vE 0) (nilA))))) (nilA))))
def m_free_worth_sum : List D → List D → RE D := defD 2 b_free_worth_sum
theorem d_free_worth_sum (T : Tx K mg) : DefOk P w K mg base CX0 r "free_worth_sum" 13 1 m_free_worth_sum := by
  obtain ⟨f, fd, F, hm⟩ := T.f_free_worth_sum
  refine fn_def (k := 12) F sc_free_worth_sum hm (fun _ _ _ _ _ _ us hl => match us, hl with | [_], _ => rfl) (fun cdv A outer s H E hr => ?_) (m := b_free_worth_sum)
  exact ⟨_, _, (gss_cons (gs_drop (ge_call (d_need_small_table T) (hr.mono (by decide)) pass0 (ga_cons (ge_var 0) ga_nil))) (gss_one (gs_ret (On := []) (ge_sum2 rfl T.sum (gao_cons (((gf_lc (own := [("picture", 1)]) rfl sc_free_worth_sum.nd (gi_seq (ge_call (d_free_pictures T) (hr.mono (by decide)) pass0 (ga_cons (ge_len T.len (gao_cons ((ge_var 0)).go gao_nil)) (ga_cons (ge_len T.len (gao_cons ((ge_sub1 ((ge_var 0)).go (ge_int).go)).go gao_nil)) ga_nil)))) (blkOk_by (by kernel_rfl)) (fun _ _ _ _ _ => (gg_name 1 sc_free_worth_sum.nd)) (fun _ _ _ _ _ => gts_nil) (fun _ _ _ _ _ => (ge_call (d_worth_of T) (hr.mono (by decide)) pass0 (ga_cons (ge_var 1) (ga_cons (ge_var 0) ga_nil)))) (by decide) (by decide))).ge).go gao_nil)))))⟩
abbrev s_best_numbers : Stmt := top 36
theorem sc_best_numbers : FnScope ["worths", "told", "picture", "many"] ["worths"] (defScope s_best_numbers) := ⟨rfl, rfl, rfl, by decide +kernel, rfl, by decide +kernel, by decide +kernel⟩
def b_best_numbers : SS := seqS (dropS (callE 1 m_need_small_table (consA (vE 0) (nilA)))) (seqS (setS 1 (compE (seqI (callE 2 m_free_pictures (consA (callB lenD (consA (vE 0) (nilA))) (consA (callB lenD (consA (binE ixD (vE 0) (cE (.int 0))) (nilA))) (nilA))))) [2] t1 [2] (yesT) (callE 2 m_worth_of (consA (vE 2) (consA (vE 0) (nilA)))))) (retS (callB lenD (consA (compE (seqI (vE 1)) [3] t1 [3] (boolE (binE eqD (vE 3) (callB maxD (consA (vE 1) (nilA))))) (cE (.int 1))) (nilA)))))
def m_best_numbers : List D → List D → RE D := defD 4 b_best_numbers
theorem d_best_numbers (T : Tx K mg) : DefOk P w K mg base CX0 r "best_numbers" 13 1 m_best_numbers := by
  obtain ⟨f, fd, F, hm⟩ := T.f_best_numbers
  refine fn_def (k := 12) F sc_best_numbers hm (fun _ _ _ _ _ _ us hl => match us, hl with | [_], _ => rfl) (fun cdv A outer s H E hr => ?_) (m := b_best_numbers)
  exact ⟨_, _, (gss_cons (gs_drop (ge_call (d_need_small_table T) (hr.mono (by decide)) pass0 (ga_cons (ge_var 0) ga_nil))) (gss_cons (GS.post (On' := []) (by decide) (gs_set 1 sc_best_numbers.nd ((gf_lc (own := [("picture", 2)]) rfl sc_best_numbers.nd (gi_seq (ge_call (d_free_pictures T) (hr.mono (by decide)) pass0 (ga_cons (ge_len T.len (gao_cons ((ge_var 0)).go gao_nil)) (ga_cons (ge_len T.len (gao_cons ((ge_sub1 ((ge_var 0)).go (ge_int).go)).go gao_nil)) ga_nil)))) (blkOk_by (by kernel_rfl)) (fun _ _ _ _ _ => (gg_name 2 sc_best_numbers.nd)) (fun _ _ _ _ _ => gts_nil) (fun _ _ _ _ _ => (ge_call (d_worth_of T) (hr.mono (by decide)) pass0 (ga_cons (ge_var 2) (ga_cons (ge_var 0) ga_nil)))) (by decide) (by decide))).ge)) (gss_one (gs_ret (On := []) (ge_len T.len (gao_cons (((gf_lc (own := [("many", 3)]) rfl sc_best_numbers.nd (gi_seq (ge_var 1)) (blkOk_by (by kernel_rfl)) (fun _ _ _ _ _ => (gg_name 3 sc_best_numbers.nd)) (fun _ _ _ _ _ => (gts_one (gt_eq hr.units ((ge_var 3)).go ((ge_max rfl T.max (gao_cons ((ge_var 1)).go gao_nil))).go))) (fun _ _ _ _ _ => ge_int) (by decide) (by decide))).ge).go gao_nil))))))⟩
abbrev s_shows_best_free : Stmt := top 34
theorem sc_shows_best_free : FnScope ["worths", "value", "best"] ["worths", "value"] (defScope s_shows_best_free) := ⟨rfl, rfl, rfl, by decide +kernel, rfl, by decide +kernel, by decide +kernel⟩
def b_shows_best_free : SS := seqS (setS 2 (binE ixD (callE 1 m_best_free (consA (vE 0) (nilA))) (cE (.int 0)))) (seqS (ifS (orT (notT (boolE (callE 1 m_is_picture (consA (vE 1) (nilA))))) (orT (boolE (binE neD (callB lenD (consA (vE 1) (nilA))) (callB lenD (consA (vE 0) (nilA))))) (boolE (binE neD (callB lenD (consA (binE ixD (vE 1) (cE (.int 0))) (nilA))) (callB lenD (consA (binE ixD (vE 0) (cE (.int 0))) (nilA))))))) (retS (cE (.bl false))) (skipS)) (retS (andE (callE 1 m_is_free_of (consA (vE 1) (nilA))) (binE eqD (callE 2 m_worth_of (consA (vE 1) (consA (vE 0) (nilA)))) (vE 2)))))
def m_shows_best_free : List D → List D → RE D := defD 3 b_shows_best_free
theorem d_shows_best_free (T : Tx K mg) : DefOk P w K mg base CX0 r "shows_best_free" 14 2 m_shows_best_free := by
  obtain ⟨f, fd, F, hm⟩ := T.f_shows_best_free
  refine fn_def (k := 13) F sc_shows_best_free hm (fun _ _ _ _ _ _ us hl => match us, hl with | [_, _], _ => rfl) (fun cdv A outer s H E hr => ?_) (m := b_shows_best_free)
  exact ⟨_, _, (gss_cons (GS.post (On' := []) (by decide) (gs_set 2 sc_shows_best_free.nd (ge_sub1 ((ge_call (d_best_free T) (hr.mono (by decide)) pass0 (ga_cons (ge_var 0) ga_nil))).go (ge_int).go))) (gss_cons (gs_if ((gw_or (gt_not (gt_val (ge_call (d_is_picture T) (hr.mono (by decide)) pass0 (ga_cons (ge_var 1) ga_nil)))) (gw_or (gt_ne hr.units ((ge_len T.len (gao_cons ((ge_var 1)).go gao_nil))).go ((ge_len T.len (gao_cons ((ge_var 0)).go gao_nil))).go) (gw_or1 (gt_ne hr.units ((ge_len T.len (gao_cons ((ge_sub1 ((ge_var 1)).go (ge_int).go)).go gao_nil))).go ((ge_len T.len (gao_cons ((ge_sub1 ((ge_var 0)).go (ge_int).go)).go gao_nil))).go))))).gt (gss_one (gs_ret (On := []) ge_bl)) (GSs.post (On' := []) (by decide) gss_nil)) (gss_one (gs_ret (On := []) (ge_and (ge_call (d_is_free_of T) (hr.mono (by decide)) pass0 (ga_cons (ge_var 1) ga_nil)) (ge_one (ge_eq hr.units ((ge_call (d_worth_of T) (hr.mono (by decide)) pass0 (ga_cons (ge_var 1) (ga_cons (ge_var 0) ga_nil)))).go ((ge_var 2)).go)))))))⟩
abbrev s_law : Stmt := top 47
theorem sc_law : FnScope ["_law_script", "_law_row", "_law_high", "_law_wide", "_law_table", "_law_at", "_law_spot", "_law_worths", "_law_free", "_law_picture", "_law_best", "_law_there", "_law_here", "_law_told", "_law_line", "_law_sums", "_law_value", "_law_fits"] ["_law_script"] (defScope s_law) := ⟨rfl, rfl, rfl, by decide +kernel, rfl, by decide +kernel, by decide +kernel⟩
def b_law : SS := seqS (unpS 2 [2, 3] (callE 2 m_law_pick (consA (vE 1) (consA (lstE (consA (tupE (consA (cE (.int 1)) (consA (cE (.int 1)) (nilA)))) (consA (tupE (consA (cE (.int 1)) (consA (cE (.int 4)) (nilA)))) (consA (tupE (consA (cE (.int 2)) (consA (cE (.int 2)) (nilA)))) (consA (tupE (consA (cE (.int 2)) (consA (cE (.int 3)) (nilA)))) (consA (tupE (consA (cE (.int 3)) (consA (cE (.int 2)) (nilA)))) (consA (tupE (consA (cE (.int 2)) (consA (cE (.int 4)) (nilA)))) (consA (tupE (consA (cE (.int 4)) (consA (cE (.int 1)) (nilA)))) (consA (tupE (consA (cE (.int 3)) (consA (cE (.int 1)) (nilA)))) (nilA)))))))))) (nilA))))) (seqS (setFS 4 (lstE (nilA))) (seqS (forS (rangeI range1D (consA (vE 2) (nilA))) t1 [5] (appS 4 (callB tupleD (consA (compE (rangeI range1D (consA (vE 3) (nilA))) [6] t1 [6] (yesT) (callE 2 m_law_pick (consA (vE 1) (consA (lstE (consA (unE negD (cE (.int 9))) (consA (unE negD (cE (.int 3))) (consA (unE negD (cE (.int 1))) (consA (cE (.int 0)) (consA (cE (.int 1)) (consA (cE (.int 2)) (consA (cE (.int 5)) (consA (binE powD (cE (.int 10)) (cE (.int 6))) (nilA)))))))))) (nilA))))) (nilA))))) (seqS (setS 7 (callB tupleD (consA (vE 4) (nilA)))) (seqS (setFS 8 (cE (.dct []))) (seqS (forS (seqI (callE 2 m_law_all (consA (vE 2) (consA (vE 3) (nilA))))) t1 [9] (ifS (boolE (binE eqD (callE 1 m_law_core (consA (vE 9) (nilA))) (lstE (nilA)))) (dsetS 8 (vE 9) (callB sum2D (consA (compE (rangeI range1D (consA (vE 2) (nilA))) [5] t1 [5] (yesT) (callB sum2D (consA (compE (rangeI range1D (consA (vE 3) (nilA))) [6] t1 [6] (boolE (binE eqD (binE ixD (binE ixD (vE 9) (vE 5)) (vE 6)) (cE (.str "#")))) (binE ixD (binE ixD (vE 7) (vE 5)) (vE 6))) (nilA)))) (nilA)))) (skipS))) (seqS (setS 10 (callE 1 m_best_free (consA (vE 7) (nilA)))) (seqS (ifS (orT (notT (boolE (callB isiD (consA (vE 10) (consA (cE (.ty "tuple")) (nilA)))))) (notT (boolE (callE 2 (m_law_alike 6) (consA (binE ixD (vE 10) (cE (.int 0))) (consA (maxVE (vE 8)) (nilA))))))) (retS (cE (.bl false))) (skipS)) (seqS (ifS (orT (boolE (binE (inKD true) (binE ixD (vE 10) (cE (.int 1))) (vE 8))) (boolE (binE neD (binE ixKD (vE 8) (binE ixD (vE 10) (cE (.int 1)))) (binE ixD (vE 10) (cE (.int 0)))))) (retS (cE (.bl false))) (skipS)) (seqS (ifS (notT (boolE (callE 2 (m_law_alike 6) (consA (callE 1 m_best_numbers (consA (vE 7) (nilA))) (consA (callB lenD (consA (compE (keysTI (vE 8)) [11] t1 [11] (boolE (binE eqD (binE ixKD (vE 8) (vE 11)) (binE ixD (vE 10) (cE (.int 0))))) (cE (.int 1))) (nilA))) (nilA)))))) (retS (cE (.bl false))) (skipS)) (seqS (ifS (notT (boolE (callE 2 (m_law_alike 6) (consA (callE 1 m_free_worth_sum (consA (vE 7) (nilA))) (consA (sumVTE (vE 8)) (nilA)))))) (retS (cE (.bl false))) (skipS)) (seqS (setS 9 (callE 3 m_law_any (consA (vE 1) (consA (vE 2) (consA (vE 3) (nilA)))))) (seqS (setS 12 (callB sum2D (consA (compE (rangeI range1D (consA (vE 2) (nilA))) [5] t1 [5] (yesT) (callB sum2D (consA (compE (rangeI range1D (consA (vE 3) (nilA))) [6] t1 [6] (boolE (binE eqD (binE ixD (binE ixD (vE 9) (vE 5)) (vE 6)) (cE (.str "#")))) (binE ixD (binE ixD (vE 7) (vE 5)) (vE 6))) (nilA)))) (nilA)))) (seqS (ifS (notT (boolE (callE 2 (m_law_alike 6) (consA (callE 2 m_worth (consA (vE 9) (consA (vE 7) (nilA)))) (consA (vE 12) (nilA)))))) (retS (cE (.bl false))) (skipS)) (seqS (setFS 13 (lstE (nilA))) (seqS (forS (rangeI range1D (consA (binE addD (vE 2) (vE 3)) (nilA))) t1 [14] (seqS (setS 11 (callE 2 m_law_paint (consA (vE 9) (consA (vE 14) (nilA))))) (seqS (setS 15 (compE (rangeI range1D (consA (vE 2) (nilA))) [5] t1 [5] (yesT) (callB sum2D (consA (compE (rangeI range1D (consA (vE 3) (nilA))) [6] t1 [6] (boolE (binE eqD (binE ixD (binE ixD (vE 11) (vE 5)) (vE 6)) (cE (.str "#")))) (binE ixD (binE ixD (vE 7) (vE 5)) (vE 6))) (nilA))))) (appS 13 (tupE (consA (binE subD (cE (.int 0)) (callB sum2D (consA (vE 15) (nilA)))) (consA (vE 14) (nilA)))))))) (seqS (ifS (notT (boolE (callE 2 (m_law_alike 6) (consA (callE 2 m_best_last (consA (vE 9) (consA (vE 7) (nilA)))) (consA (tupE (consA (binE subD (cE (.int 0)) (binE ixD (callB minDD (consA (vE 13) (nilA))) (cE (.int 0)))) (consA (binE ixD (callB minDD (consA (vE 13) (nilA))) (cE (.int 1))) (nilA)))) (nilA)))))) (retS (cE (.bl false))) (skipS)) (seqS (forS (seqI (lstE (consA (binE ixD (vE 10) (cE (.int 1))) (consA (vE 9) (consA (callB listD (consA (binE ixD (vE 10) (cE (.int 1))) (nilA))) (consA (cE .non) (consA (binE addD (binE ixD (vE 10) (cE (.int 1))) (sliceE (binE ixD (vE 10) (cE (.int 1))) (optI none) (optI (some (cE (.int 1)))))) (consA (cE (.int 5)) (consA (tupE (nilA)) (consA (binE mulD (tupE (consA (cE (.str "#")) (nilA))) (vE 2)) (nilA))))))))))) t1 [16] (seqS (setS 17 (andE (callB isiD (consA (vE 16) (consA (cE (.ty "tuple")) (nilA)))) (andE (binE (inKD false) (vE 16) (vE 8)) (binE eqD (binE ixKD (vE 8) (vE 16)) (binE ixD (vE 10) (cE (.int 0))))))) (ifS (notT (boolE (callE 2 (m_law_alike 6) (consA (callE 2 m_shows_best_free (consA (vE 7) (consA (vE 16) (nilA)))) (consA (vE 17) (nilA)))))) (retS (cE (.bl false))) (skipS)))) (retS (cE (.bl true))))))))))))))))))))
theorem law_body (T : Tx K mg) {f : Addr} {qual : Str} (r : Addr) (cdv : Value) (A : Around) (outer : List Env) (s : Shared) (H : Hp) (E : XK) (hr : Room 14 (A.deeper (PyProof.Rows.envOfC qual (defScope s_law) s.heap.objs.size f cdv))) : ∃ On u, GSs K mg r (cxOf CX0 P w K mg base ["_law_script", "_law_row", "_law_high", "_law_wide", "_law_table", "_law_at", "_law_spot", "_law_worths", "_law_free", "_law_picture", "_law_best", "_law_there", "_law_here", "_law_told", "_law_line", "_law_sums", "_law_value", "_law_fits"] qual (defScope s_law) f cdv A outer s H E).nox E0 [] On [] (defBody s_law).tail u b_law := by
  exact ⟨_, _, (gss_cons (gs_unp (ge_call (d_law_pick T) (hr.mono (by decide)) pass0 (ga_cons (ge_var 1) (ga_cons ((gf_lst (ga_cons (ge_tup (ga_cons ge_int (ga_cons ge_int ga_nil))) (ga_cons (ge_tup (ga_cons ge_int (ga_cons ge_int ga_nil))) (ga_cons (ge_tup (ga_cons ge_int (ga_cons ge_int ga_nil))) (ga_cons (ge_tup (ga_cons ge_int (ga_cons ge_int ga_nil))) (ga_cons (ge_tup (ga_cons ge_int (ga_cons ge_int ga_nil))) (ga_cons (ge_tup (ga_cons ge_int (ga_cons ge_int ga_nil))) (ga_cons (ge_tup (ga_cons ge_int (ga_cons ge_int ga_nil))) (ga_cons (ge_tup (ga_cons ge_int (ga_cons ge_int ga_nil))) ga_nil)))))))))).ge ga_nil))) (ggs_cons 2 sc_law.nd (ggs_cons 3 sc_law.nd ggs_nil)) (by decide)) (gss_cons (GS.post (On' := [4]) (by decide) (gs_setF 4 sc_law.nd (gf_lst ga_nil))) (gss_cons (gs_for .never rfl (gi_range1 T.range (gao_cons ((ge_var 2)).go gao_nil)) (gg_name 5 sc_law.nd) (GSs.post (On' := [4]) (by decide) (gss_one (gs_append 4 (by decide) (ge_tuple T.tuple (gao_cons (((gf_lc (own := [("_law_spot", 6)]) rfl sc_law.nd (gi_range1 T.range (gao_cons ((ge_var 3)).go gao_nil)) (blkOk_by (by kernel_rfl)) (fun _ _ _ _ _ => (gg_name 6 sc_law.nd)) (fun _ _ _ _ _ => gts_nil) (fun _ _ _ _ _ => (ge_call (d_law_pick T) (hr.mono (by decide)) pass0 (ga_cons (ge_var 1) (ga_cons ((gf_lst (ga_cons (ge_neg (ge_int).go) (ga_cons (ge_neg (ge_int).go) (ga_cons (ge_neg (ge_int).go) (ga_cons ge_int (ga_cons ge_int (ga_cons ge_int (ga_cons ge_int (ga_cons (ge_pow (ge_int).go (ge_int).go) ga_nil)))))))))).ge ga_nil)))) (by decide) (by decide))).ge).go gao_nil))))) (by decide) (fun d ds h => by cases h; rfl)) (gss_cons (GS.post (On' := [4]) (by decide) (gs_set 7 sc_law.nd (ge_tuple T.tuple (gao_cons (go_own 4) gao_nil)))) (gss_cons (GS.post (On' := [4, 8]) (by decide) (gs_setF 8 sc_law.nd gf_dnewT)) (gss_cons (gs_for .never rfl (gi_seq (ge_call (d_law_all T) (hr.mono (by decide)) pass0 (ga_cons (ge_var 2) (ga_cons (ge_var 3) ga_nil)))) (gg_name 9 sc_law.nd) (GSs.post (On' := [4, 8]) (by decide) (gss_one (gs_if (gt_eq hr.units ((ge_call (d_law_core T) (hr.mono (by decide)) pass0 (ga_cons (ge_var 9) ga_nil))).go (((gf_lst ga_nil)).ge).go) (GSs.post (On' := [4, 8]) (by decide) (gss_one (gs_dset 8 hr.units (by decide) (ge_var 9) (ge_sum2 rfl T.sum (gao_cons (((gf_lc (own := [("_law_at", 5)]) rfl sc_law.nd (gi_range1 T.range (gao_cons ((ge_var 2)).go gao_nil)) (blkOk_by (by kernel_rfl)) (fun _ _ _ _ _ => (gg_name 5 sc_law.nd)) (fun _ _ _ _ _ => gts_nil) (fun _ _ _ _ _ => (ge_sum2 rfl T.sum (gao_cons (((gf_lc (own := [("_law_spot", 6)]) rfl sc_law.nd (gi_range1 T.range (gao_cons ((ge_var 3)).go gao_nil)) (blkOk_by (by kernel_rfl)) (fun _ _ _ _ _ => (gg_name 6 sc_law.nd)) (fun _ _ _ _ _ => (gts_one (gt_eq hr.units ((ge_sub1 ((ge_sub1 ((ge_var 9)).go ((ge_var 5)).go)).go ((ge_var 6)).go)).go (ge_str).go))) (fun _ _ _ _ _ => (ge_sub1 ((ge_sub1 ((ge_var 7)).go ((ge_var 5)).go)).go ((ge_var 6)).go)) (by decide) (by decide))).ge).go gao_nil))) (by decide) (by decide))).ge).go gao_nil))))) (GSs.post (On' := [4, 8]) (by decide) gss_nil)))) (by decide) (fun d ds h => by cases h; rfl)) (gss_cons (GS.post (On' := [4, 8]) (by decide) (gs_set 10 sc_law.nd (ge_call (d_best_free T) (hr.mono (by decide)) pass0 (ga_cons (ge_var 7) ga_nil)))) (gss_cons (gs_if ((gw_or (gt_not (gt_val (ge_isi T.isinstance (gao_cons ((ge_var 10)).go (gao_cons ((ge_ty T.tuple)).go gao_nil))))) (gw_or1 (gt_not (gt_val (ge_call (d_law_alike T 6) (hr.mono (by decide)) pass0 (ga_cons (ge_sub1 ((ge_var 10)).go (ge_int).go) (ga_cons (ge_maxVals rfl T.max (go_own 8)) ga_nil)))))))).gt (gss_one (gs_ret (On := [4, 8]) ge_bl)) (GSs.post (On' := [4, 8]) (by decide) gss_nil)) (gss_cons (gs_if ((gw_or (gt_notInK hr.units ((ge_sub1 ((ge_var 10)).go (ge_int).go)).go (go_own 8)) (gw_or1 (gt_ne hr.units ((ge_ixK hr.units (go_own 8) ((ge_sub1 ((ge_var 10)).go (ge_int).go)).go)).go ((ge_sub1 ((ge_var 10)).go (ge_int).go)).go)))).gt (gss_one (gs_ret (On := [4, 8]) ge_bl)) (GSs.post (On' := [4, 8]) (by decide) gss_nil)) (gss_cons (GS.pre (O' := [4]) (by decide) (gs_if (gt_not (gt_val (ge_call (d_law_alike T 6) (hr.mono (by decide)) pass0 (ga_cons (ge_call (d_best_numbers T) (hr.mono (by decide)) pass0 (ga_cons (ge_var 7) ga_nil)) (ga_cons (ge_len T.len (gao_cons (((gf_lc (own := [("_law_there", 11)]) rfl sc_law.nd (gi_keysT (ge_var 8)) (blkOk_by (by kernel_rfl)) (fun _ _ _ _ _ => (gg_name 11 sc_law.nd)) (fun _ _ _ _ _ => (gts_one (gt_eq hr.units ((ge_ixK hr.units ((ge_var 8)).go ((ge_var 11)).go)).go ((ge_sub1 ((ge_var 10)).go (ge_int).go)).go))) (fun _ _ _ _ _ => ge_int) (by decide) (by decide))).ge).go gao_nil)) ga_nil))))) (gss_one (gs_ret (On := [4]) ge_bl)) (GSs.post (On' := [4]) (by decide) gss_nil))) (gss_cons (gs_if (gt_not (gt_val (ge_call (d_law_alike T 6) (hr.mono (by decide)) pass0 (ga_cons (ge_call (d_free_worth_sum T) (hr.mono (by decide)) pass0 (ga_cons (ge_var 7) ga_nil)) (ga_cons (ge_sumValsT rfl T.sum ((ge_var 8)).go) ga_nil))))) (gss_one (gs_ret (On := [4]) ge_bl)) (GSs.post (On' := [4]) (by decide) gss_nil)) (gss_cons (GS.post (On' := [4]) (by decide) (gs_set 9 sc_law.nd (ge_call (d_law_any T) (hr.mono (by decide)) pass0 (ga_cons (ge_var 1) (ga_cons (ge_var 2) (ga_cons (ge_var 3) ga_nil)))))) (gss_cons (GS.post (On' := [4]) (by decide) (gs_set 12 sc_law.nd (ge_sum2 rfl T.sum (gao_cons (((gf_lc (own := [("_law_at", 5)]) rfl sc_law.nd (gi_range1 T.range (gao_cons ((ge_var 2)).go gao_nil)) (blkOk_by (by kernel_rfl)) (fun _ _ _ _ _ => (gg_name 5 sc_law.nd)) (fun _ _ _ _ _ => gts_nil) (fun _ _ _ _ _ => (ge_sum2 rfl T.sum (gao_cons (((gf_lc (own := [("_law_spot", 6)]) rfl sc_law.nd (gi_range1 T.range (gao_cons ((ge_var 3)).go gao_nil)) (blkOk_by (by kernel_rfl)) (fun _ _ _ _ _ => (gg_name 6 sc_law.nd)) (fun _ _ _ _ _ => (gts_one (gt_eq hr.units ((ge_sub1 ((ge_sub1 ((ge_var 9)).go ((ge_var 5)).go)).go ((ge_var 6)).go)).go (ge_str).go))) (fun _ _ _ _ _ => (ge_sub1 ((ge_sub1 ((ge_var 7)).go ((ge_var 5)).go)).go ((ge_var 6)).go)) (by decide) (by decide))).ge).go gao_nil))) (by decide) (by decide))).ge).go gao_nil)))) (gss_cons (gs_if (gt_not (gt_val (ge_call (d_law_alike T 6) (hr.mono (by decide)) pass0 (ga_cons (ge_call (d_worth T) (hr.mono (by decide)) pass0 (ga_cons (ge_var 9) (ga_cons (ge_var 7) ga_nil))) (ga_cons (ge_var 12) ga_nil))))) (gss_one (gs_ret (On := [4]) ge_bl)) (GSs.post (On' := [4]) (by decide) gss_nil)) (gss_cons (GS.post (On' := [4, 13]) (by decide) (gs_setF 13 sc_law.nd (gf_lst ga_nil))) (gss_cons (gs_for .never rfl (gi_range1 T.range (gao_cons ((ge_add ((ge_var 2)).go ((ge_var 3)).go)).go gao_nil)) (gg_name 14 sc_law.nd) (GSs.post (On' := [4, 13]) (by decide) (gss_cons (GS.post (On' := [4, 13]) (by decide) (gs_set 11 sc_law.nd (ge_call (d_law_paint T) (hr.mono (by decide)) pass0 (ga_cons (ge_var 9) (ga_cons (ge_var 14) ga_nil))))) (gss_cons (GS.post (On' := [4, 13]) (by decide) (gs_setLc (i := 15) (lc_stmt (own := [("_law_at", 5)]) rfl sc_law.nd (gi_range1 T.range (gao_cons ((ge_var 2)).go gao_nil)) (blkOk_by (by kernel_rfl)) (fun _ _ _ _ _ => (gg_name 5 sc_law.nd)) (fun _ _ _ _ _ => gts_nil) (fun _ _ _ _ _ => (ge_sum2 rfl T.sum (gao_cons (((gf_lc (own := [("_law_spot", 6)]) rfl sc_law.nd (gi_range1 T.range (gao_cons ((ge_var 3)).go gao_nil)) (blkOk_by (by kernel_rfl)) (fun _ _ _ _ _ => (gg_name 6 sc_law.nd)) (fun _ _ _ _ _ => (gts_one (gt_eq hr.units ((ge_sub1 ((ge_sub1 ((ge_var 11)).go ((ge_var 5)).go)).go ((ge_var 6)).go)).go (ge_str).go))) (fun _ _ _ _ _ => (ge_sub1 ((ge_sub1 ((ge_var 7)).go ((ge_var 5)).go)).go ((ge_var 6)).go)) (by decide) (by decide))).ge).go gao_nil))) (by decide) (by decide)))) (gss_one (gs_append 13 (by decide) (ge_tup (ga_cons (ge_sub (ge_int).go ((ge_sum2 rfl T.sum (gao_cons ((ge_var 15)).go gao_nil))).go) (ga_cons (ge_var 14) ga_nil)))))))) (by decide) (fun d ds h => by cases h; rfl)) (gss_cons (gs_if (gt_not (gt_val (ge_call (d_law_alike T 6) (hr.mono (by decide)) pass0 (ga_cons (ge_call (d_best_last T) (hr.mono (by decide)) pass0 (ga_cons (ge_var 9) (ga_cons (ge_var 7) ga_nil))) (ga_cons (ge_tup (ga_cons (ge_sub (ge_int).go ((ge_sub1 ((ge_minDat rfl hr.units T.min (gao_cons (go_own 13) gao_nil))).go (ge_int).go)).go) (ga_cons (ge_sub1 ((ge_minDat rfl hr.units T.min (gao_cons (go_own 13) gao_nil))).go (ge_int).go) ga_nil))) ga_nil))))) (gss_one (gs_ret (On := [4, 13]) ge_bl)) (GSs.post (On' := [4, 13]) (by decide) gss_nil)) (gss_cons (gs_for .never rfl (gi_seq ((gf_lst (ga_cons (ge_sub1 ((ge_var 10)).go (ge_int).go) (ga_cons (ge_var 9) (ga_cons ((gf_list1 T.list (gao_cons ((ge_sub1 ((ge_var 10)).go (ge_int).go)).go gao_nil))).ge (ga_cons ge_non (ga_cons (ge_add ((ge_sub1 ((ge_var 10)).go (ge_int).go)).go ((ge_slice ((ge_sub1 ((ge_var 10)).go (ge_int).go)).go gp_none (gp_some ge_int))).go) (ga_cons ge_int (ga_cons (ge_tup ga_nil) (ga_cons (ge_mul ((ge_tup (ga_cons ge_str ga_nil))).go ((ge_var 2)).go) ga_nil)))))))))).ge) (gg_name 16 sc_law.nd) (GSs.post (On' := [4, 13]) (by decide) (gss_cons (GS.post (On' := [4, 13]) (by decide) (gs_set 17 sc_law.nd (ge_and (ge_isi T.isinstance (gao_cons ((ge_var 16)).go (gao_cons ((ge_ty T.tuple)).go gao_nil))) (ge_and (ge_inK hr.units ((ge_var 16)).go ((ge_var 8)).go) (ge_one (ge_eq hr.units ((ge_ixK hr.units ((ge_var 8)).go ((ge_var 16)).go)).go ((ge_sub1 ((ge_var 10)).go (ge_int).go)).go)))))) (gss_one (gs_if (gt_not (gt_val (ge_call (d_law_alike T 6) (hr.mono (by decide)) pass0 (ga_cons (ge_call (d_shows_best_free T) (hr.mono (by decide)) pass0 (ga_cons (ge_var 7) (ga_cons (ge_var 16) ga_nil))) (ga_cons (ge_var 17) ga_nil))))) (gss_one (gs_ret (On := [4, 13]) ge_bl)) (GSs.post (On' := [4, 13]) (by decide) gss_nil))))) (by decide) (fun d ds h => by cases h; rfl)) (gss_one (gs_ret (On := []) ge_bl))))))))))))))))))))⟩
end
end W
set_option maxHeartbeats 1000000
namespace W
open PySem L2 G
theorem log_small {m : Int} (h : m ≤ 2 ^ 30) (h1 : 1 ≤ m) : cDiv m = true := by
  unfold cDiv
  have : m.natAbs.log2 < 9000 := by
    have : m.natAbs.log2 < 31 := (Nat.log2_lt (by omega)).mpr (by omega)
    omega
  simp [this]; omega
theorem mul_small {i j : Int} (hi : 0 ≤ i) (hi2 : i < 2147483648) (hj : 0 ≤ j) (hj2 : j < 2147483648) : cMul i j = true := by
  unfold cMul
  have k : ∀ x : Int, 0 ≤ x → x < 2147483648 → x.natAbs.log2 ≤ 32 := fun x h1 h2 => by
    rcases Nat.eq_zero_or_pos x.natAbs with e | e
    · rw [e]; decide
    · have : x.natAbs.log2 < 32 := (Nat.log2_lt (by omega)).mpr (by omega)
      omega
  have := k i hi hi2
  have := k j hj hj2
  exact decide_eq_true (by omega)
theorem taken_ok {tp : List D} {m : Int} (h : Tape tp) (hm : 1 ≤ m) (hM : m ≤ 2 ^ 30) : ∃ v tp', m_law_taken [.tape, .int m] tp = .ok (.int v) tp' ∧ Tape tp' ∧ 0 ≤ v ∧ v < m := by
  obtain ⟨⟨ns, pos, seed, rest, rfl, p0, s0, s1, nl⟩⟩ := h
  have cd := log_small hM hm
  have cm : cMul seed 48271 = true := mul_small s0 (by omega) (by decide) (by decide)
  have m0 : (0 : Int) < m := by omega
  have c7 : cDiv 7 = true := by decide +kernel
  have a0 : ∀ a b c d : D, atI [a, b, c, d] 0 = some a := fun _ _ _ _ => rfl
  have a1 : ∀ a b c d : D, atI [a, b, c, d] 1 = some b := fun _ _ _ _ => rfl
  have a2 : ∀ a b c d : D, atI [a, b, c, d] 2 = some c := fun _ _ _ _ => rfl
  have a3 : ∀ a b c d : D, atI [a, b, c, d] 3 = some d := fun _ _ _ _ => rfl
  have i1 : ixN 4 1 = some 1 := rfl
  have i2 : ixN 4 2 = some 2 := rfl
  have i3 : ixN 4 3 = some 3 := rfl
  have b7 : (0 : Int) < 2147483647 := by decide
  by_cases c1 : 0 < rest
  · refine ⟨rest % m, [.scr ns, .int pos, .int seed, .int (rest / m)], ?_, ⟨⟨ns, pos, seed, _, rfl, p0, s0, s1, nl⟩⟩, Int.emod_nonneg _ (by omega), Int.emod_lt_of_pos _ m0⟩
    simp -implicitDefEqProofs only [m_law_taken, b_law_taken, defD, retR, seqS, ifS, setS, retS, skipS, dropS, parS, setAll, vE, cE, binE, chainE, callB, consA, nilA, tupE, lstE, boolE, isB, notT, orT, andT, andE, orE, notE, callE, tixE, tsetS, sliceE, optI, methE, seqI, rangeI, RE.bind_ok, RE.bindS, RE.of_some, RE.of_none, List.map_cons, List.map_nil, List.length_cons, List.length_nil, List.replicate, List.cons_append, List.nil_append, List.getElem?_cons_zero, List.getElem?_cons_succ, List.set_cons_zero, List.set_cons_succ, if_true, if_false, Nat.zero_add, Nat.reduceAdd, Nat.reduceSub, decide_true, decide_false, Bool.false_eq_true, Option.map_some, Option.bind_some, a0, a1, a2, a3, i1, i2, i3, gtD, modD, fdivD, intD, c1, cd, m0]
  · by_cases c2 : (ns.length : Int) < pos + 1
    · refine ⟨((seed * 48271 + 11) % 2147483647 / 7) % m, [.scr ns, .int (pos + 1), .int ((seed * 48271 + 11) % 2147483647), .int rest], ?_, ⟨⟨ns, _, _, _, rfl, by omega, by omega, by omega, nl⟩⟩, Int.emod_nonneg _ (by omega), Int.emod_lt_of_pos _ m0⟩
      simp -implicitDefEqProofs only [m_law_taken, b_law_taken, defD, retR, seqS, ifS, setS, retS, skipS, dropS, parS, setAll, vE, cE, binE, chainE, callB, consA, nilA, tupE, lstE, boolE, isB, notT, orT, andT, andE, orE, notE, callE, tixE, tsetS, sliceE, optI, methE, seqI, rangeI, RE.bind_ok, RE.bindS, RE.of_some, RE.of_none, List.map_cons, List.map_nil, List.length_cons, List.length_nil, List.replicate, List.cons_append, List.nil_append, List.getElem?_cons_zero, List.getElem?_cons_succ, List.set_cons_zero, List.set_cons_succ, if_true, if_false, Nat.zero_add, Nat.reduceAdd, Nat.reduceSub, decide_true, decide_false, Bool.false_eq_true, Option.map_some, Option.bind_some, a0, a1, a2, a3, i1, i2, i3, gtD, modD, fdivD, intD, c1, cd, m0, addD, mulD, lenD, c2, cm, b7, c7]
    · have hp : pos.toNat < ns.length := by omega
      have e : atI ns (pos + 1 - 1) = some (ns[pos.toNat]) := by
        have : pos + 1 - 1 = pos := by omega
        rw [this, atI_int ns p0, List.getElem?_eq_getElem hp]
      have cp : cPow 10 18 = true := by decide +kernel
      generalize hc : ns[pos.toNat] = c at e
      have ev : ∀ q : Prop, ∀ [Decidable q], q = ((10 : Int) ^ (Int.toNat 18) ≤ c) → True := fun _ _ _ => trivial
      by_cases c3 : (10 : Int) ^ (Int.toNat 18) ≤ c
      · refine ⟨c % m, [.scr ns, .int (pos + 1), .int ((seed * 48271 + c + 11) % 2147483647), .int (c / m)], ?_, ⟨⟨ns, _, _, _, rfl, by omega, by omega, by omega, nl⟩⟩, Int.emod_nonneg _ (by omega), Int.emod_lt_of_pos _ m0⟩
        simp -implicitDefEqProofs only [m_law_taken, b_law_taken, defD, retR, seqS, ifS, setS, retS, skipS, dropS, parS, setAll, vE, cE, binE, chainE, callB, consA, nilA, tupE, lstE, boolE, isB, notT, orT, andT, andE, orE, notE, callE, tixE, tsetS, sliceE, optI, methE, seqI, rangeI, RE.bind_ok, RE.bindS, RE.of_some, RE.of_none, List.map_cons, List.map_nil, List.length_cons, List.length_nil, List.replicate, List.cons_append, List.nil_append, List.getElem?_cons_zero, List.getElem?_cons_succ, List.set_cons_zero, List.set_cons_succ, if_true, if_false, Nat.zero_add, Nat.reduceAdd, Nat.reduceSub, decide_true, decide_false, Bool.false_eq_true, Option.map_some, Option.bind_some, a0, a1, a2, a3, i1, i2, i3, gtD, geD, modD, fdivD, intD, c1, cd, m0, addD, subD, mulD, powD, lenD, ixD, c2, cm, b7, c7, e, cp, c3]
      · refine ⟨c % m, [.scr ns, .int (pos + 1), .int ((seed * 48271 + c + 11) % 2147483647), .int rest], ?_, ⟨⟨ns, _, _, _, rfl, by omega, by omega, by omega, nl⟩⟩, Int.emod_nonneg _ (by omega), Int.emod_lt_of_pos _ m0⟩
        simp -implicitDefEqProofs only [m_law_taken, b_law_taken, defD, retR, seqS, ifS, setS, retS, skipS, dropS, parS, setAll, vE, cE, binE, chainE, callB, consA, nilA, tupE, lstE, boolE, isB, notT, orT, andT, andE, orE, notE, callE, tixE, tsetS, sliceE, optI, methE, seqI, rangeI, RE.bind_ok, RE.bindS, RE.of_some, RE.of_none, List.map_cons, List.map_nil, List.length_cons, List.length_nil, List.replicate, List.cons_append, List.nil_append, List.getElem?_cons_zero, List.getElem?_cons_succ, List.set_cons_zero, List.set_cons_succ, if_true, if_false, Nat.zero_add, Nat.reduceAdd, Nat.reduceSub, decide_true, decide_false, Bool.false_eq_true, Option.map_some, Option.bind_some, a0, a1, a2, a3, i1, i2, i3, gtD, geD, modD, fdivD, intD, c1, cd, m0, addD, subD, mulD, powD, lenD, ixD, c2, cm, b7, c7, e, cp, c3]
end W
set_option maxHeartbeats 1000000
namespace W
open PySem L2 G
theorem eqD_int (a b : Int) : eqD (.int a) (.int b) = some (.bl (decide (a = b))) := by
  show some (D.bl (a == b)) = _
  by_cases h : a = b <;> simp [h]
theorem eqD_str (a b : Str) : eqD (.str a) (.str b) = some (.bl (a == b)) := rfl
theorem cRg_small {i : Int} (h0 : 0 ≤ i) (h : i ≤ 2 ^ 30) : cRg i = true := by
  unfold cRg
  have h1 : -(2 ^ 62) ≤ i := by omega
  have h2 : i < 2 ^ 62 := by omega
  rw [decide_eq_true h1, decide_eq_true h2]; rfl
theorem range1_ok {i : Int} (h0 : 0 ≤ i) (h : i ≤ 2 ^ 30) : range1D [.int i] = some (rangeL 0 i) := by
  show (if cRg i then some (rangeL 0 i) else none) = _
  rw [cRg_small h0 h, if_pos rfl]
theorem rangeL_len (n : Nat) : (rangeL 0 (n : Int)).length = n := by unfold rangeL; simp
theorem rangeL_get {n j : Nat} {d : D} (h : (rangeL 0 (n : Int))[j]? = some d) : d = .int j ∧ j < n := by
  unfold rangeL at h
  rw [List.getElem?_map] at h
  obtain ⟨x, h1, h2⟩ := Option.map_eq_some_iff.mp h
  have hl : j < (List.range ((n : Int) - 0).toNat).length := (List.getElem?_eq_some_iff.mp h1).1
  have e := (List.getElem?_eq_some_iff.mp h1).2
  rw [List.getElem_range] at e
  rw [List.length_range] at hl
  subst e
  refine ⟨by rw [← h2]; simp, by omega⟩
theorem rangeL_mem {n : Nat} {d : D} (h : d ∈ rangeL 0 (n : Int)) : ∃ j : Nat, d = .int j ∧ j < n := by
  obtain ⟨j, hj⟩ := List.getElem?_of_mem h
  exact ⟨j, rangeL_get hj⟩
theorem paired_all {α β γ : Type} {R : α → β → Prop} {f : γ → β} (h : ∀ x y, R x y → ∃ c, y = f c) : ∀ {xs : List α} {ys : List β}, Paired R xs ys → ∃ cs : List γ, ys = cs.map f ∧ cs.length = xs.length
  | _, _, .nil => ⟨[], rfl, rfl⟩
  | _, _, .cons r q => by
    obtain ⟨c, rfl⟩ := h _ _ r
    obtain ⟨cs, rfl, e⟩ := paired_all h q
    exact ⟨c :: cs, rfl, by simp [e]⟩
theorem forS_eq {mi : SE (List D)} {tgt : D → Option (List D)} {is : List Nat} {body : SS} {env : DEnv} {tp tp1 : List D} {items : List D} (h : mi env tp = .ok items tp1) : forS mi tgt is body env tp = forL tgt is body items env tp1 := by
  unfold forS; rw [h]; rfl
theorem seqS_nx {m n : SS} {env env' : DEnv} {tp tp' : List D} (h : m env tp = .nx env' tp') : seqS m n env tp = n env' tp' := by
  unfold seqS; rw [h]
theorem pick_ok {tp : List D} {ds : List D} (h : Tape tp) (h0 : ds ≠ []) (hl : ds.length ≤ 2 ^ 30) : ∃ v tp', m_law_pick [.tape, .lst ds] tp = .ok v tp' ∧ Tape tp' ∧ v ∈ ds := by
  have hp := List.length_pos_iff.mpr h0
  obtain ⟨v, tp', e, t, v0, v1⟩ := taken_ok (m := (ds.length : Int)) h (by omega) (by omega)
  have hv : v.toNat < ds.length := by omega
  have ea : atI ds v = some ds[v.toNat] := by rw [atI_int ds v0, List.getElem?_eq_getElem hv]
  refine ⟨ds[v.toNat], tp', ?_, t, List.getElem_mem hv⟩
  simp -implicitDefEqProofs only [m_law_pick, b_law_pick, defD, retR, seqS, ifS, setS, retS, skipS, dropS, parS, setAll, vE, cE, binE, chainE, callB, consA, nilA, tupE, lstE, boolE, isB, notT, orT, andT, andE, orE, notE, callE, tixE, tsetS, sliceE, optI, methE, seqI, rangeI, RE.bind_ok, RE.bindS, RE.of_some, RE.of_none, List.map_cons, List.map_nil, List.length_cons, List.length_nil, List.replicate, List.cons_append, List.nil_append, List.getElem?_cons_zero, List.getElem?_cons_succ, List.set_cons_zero, List.set_cons_succ, if_true, if_false, Nat.zero_add, Nat.reduceAdd, Nat.reduceSub, decide_true, decide_false, Bool.false_eq_true, Option.map_some, Option.bind_some, lenD, e, ixD, ea]
theorem row_of_bits {bs : List Bool} (h : bs.length ≤ 1000) : joinD (.str "") (.lst (bs.map fun b => D.str (rowS [b]))) = some (.str (rowS bs)) := by
  have e : bs.map (fun b => D.str (rowS [b])) = (bs.map fun b => rowS [b]).map D.str := by rw [List.map_map]; rfl
  have e2 : bs.map (fun b => rowS [b]) = (bs.map fun b => [b]).map rowS := by rw [List.map_map]; rfl
  have sm : ((bs.map fun b => rowS [b]).map (·.length)).sum = bs.length := by
    clear h e e2
    induction bs with
    | nil => rfl
    | cons b bs ih => rw [List.map_cons, List.map_cons, List.sum_cons, ih, List.length_cons, rowS_len]; simp; omega
  rw [e]
  unfold joinD
  simp only [itemsD, Option.bind_some, unS_map, sm, List.length_map]
  rw [str_empty, rowS_len, if_pos (by simp; omega), e2, join_rows]
  have : (bs.map fun b => [b]).flatten = bs := by
    clear h e e2 sm
    induction bs with
    | nil => rfl
    | cons b bs ih => rw [List.map_cons, List.flatten_cons, ih]; rfl
  rw [this]
def signE : SE D := ifE (boolE (binE eqD (callE 2 m_law_taken (consA (vE 0) (consA (vE 3) (nilA)))) (cE (.int 0)))) (cE (.str "#")) (cE (.str "."))
def rowE : SE D := compE (rangeI range1D (consA (vE 2) (nilA))) [6] t1 [6] (yesT) signE
def anyB : SS := appS 4 (methE isStrD joinD (cE (.str "")) rowE)
theorem b_any_eq : b_law_any = seqS (parS [3, 4] (consA (callE 2 m_law_pick (consA (vE 0) (consA (lstE (consA (cE (.int 2)) (consA (cE (.int 2)) (consA (cE (.int 3)) (consA (cE (.int 4)) (nilA)))))) (nilA)))) (consA (lstE (nilA)) (nilA)))) (seqS (forS (rangeI range1D (consA (vE 1) (nilA))) t1 [5] anyB) (retS (callB tupleD (consA (vE 4) (nilA))))) := rfl
theorem sign_ok {a1 a4 a5 a6 : Option D} {tp : List D} {o : Int} (ht : Tape tp) (o1 : 1 ≤ o) (o2 : o ≤ 4) {x7 : Option D} : ∃ x tp', signE [some .tape, a1, a4, some (.int o), a5, a6, x7] tp = .ok x tp' ∧ Tape tp' ∧ ∃ b : Bool, x = .str (rowS [b]) := by
  obtain ⟨v, tp3, e3, t3, v0, v1⟩ := taken_ok (m := o) ht (by omega) (by omega)
  by_cases c : v = 0
  · exact ⟨.str "#", tp3, by simp -implicitDefEqProofs only [signE, ifE, defD, retR, seqS, ifS, setS, retS, skipS, dropS, parS, setAll, vE, cE, binE, chainE, callB, consA, nilA, tupE, lstE, boolE, isB, notT, orT, andT, andE, orE, notE, callE, tixE, tsetS, sliceE, optI, methE, seqI, rangeI, RE.bind_ok, RE.bindS, RE.of_some, RE.of_none, List.map_cons, List.map_nil, List.length_cons, List.length_nil, List.replicate, List.cons_append, List.nil_append, List.getElem?_cons_zero, List.getElem?_cons_succ, List.set_cons_zero, List.set_cons_succ, if_true, if_false, Nat.zero_add, Nat.reduceAdd, Nat.reduceSub, decide_true, decide_false, Bool.false_eq_true, Option.map_some, Option.bind_some, e3, eqD_int, c], t3, true, by rw [str_black]⟩
  · exact ⟨.str ".", tp3, by simp -implicitDefEqProofs only [signE, ifE, defD, retR, seqS, ifS, setS, retS, skipS, dropS, parS, setAll, vE, cE, binE, chainE, callB, consA, nilA, tupE, lstE, boolE, isB, notT, orT, andT, andE, orE, notE, callE, tixE, tsetS, sliceE, optI, methE, seqI, rangeI, RE.bind_ok, RE.bindS, RE.of_some, RE.of_none, List.map_cons, List.map_nil, List.length_cons, List.length_nil, List.replicate, List.cons_append, List.nil_append, List.getElem?_cons_zero, List.getElem?_cons_succ, List.set_cons_zero, List.set_cons_succ, if_true, if_false, Nat.zero_add, Nat.reduceAdd, Nat.reduceSub, decide_true, decide_false, Bool.false_eq_true, Option.map_some, Option.bind_some, e3, eqD_int, c], t3, false, by rw [str_white]⟩
end W
set_option maxHeartbeats 1000000
namespace W
open PySem L2 G
theorem appS_ok {i : Nat} {m : SE D} {env : DEnv} {tp tp1 : List D} {ds : List D} {d : D} (h1 : env[i]? = some (some (.lst ds))) (h2 : m env tp = .ok d tp1) (h3 : ds.length < 1000000) : appS i m env tp = .nx (env.set i (some (.lst (ds ++ [d])))) tp1 := by
  unfold appS
  rw [h1]
  simp only
  rw [h2]
  show (if ds.length < sizeLine then RS.nx (env.set i (some (.lst (ds ++ [d])))) tp1 else .stuck) = _
  exact if_pos (show ds.length < sizeLine from small_line (n := ds.length + 1) h3)
theorem methE_ok {p : D → Bool} {f : D → D → Option D} {ma mb : SE D} {env : DEnv} {tp tp1 tp2 : List D} {d e z : D} (h1 : ma env tp = .ok d tp1) (hp : p d = true) (h2 : mb env tp1 = .ok e tp2) (h3 : f d e = some z) : methE p f ma mb env tp = .ok z tp2 := by
  unfold methE
  rw [h1]
  simp only [RE.bind_ok]
  rw [if_pos hp, h2]
  simp only [RE.bind_ok]
  rw [h3]; rfl
theorem lstE_ok {ms : SE (List D)} {env : DEnv} {tp tp1 : List D} {ds : List D} (h : ms env tp = .ok ds tp1) (hl : ds.length ≤ 1000000) : lstE ms env tp = .ok (.lst ds) tp1 := by
  unfold lstE; rw [h]; simp only [RE.bind_ok]; rw [if_pos (small_line hl)]
theorem if_small {α : Type} {n : Nat} {a b : α} (h : n ≤ 1000000) : (if n ≤ sizeLine then a else b) = a := if_pos (small_line h)
theorem bitrow_ok {a1 a5 a6 : Option D} {tp : List D} {o : Int} {w : Nat} (ht : Tape tp) (o1 : 1 ≤ o) (o2 : o ≤ 4) (w2 : w ≤ 30) : ∃ (bs : List Bool) (tp' : List D), rowE [some .tape, a1, some (.int w), some (.int o), a5, a6, none] tp = .ok (.lst (bs.map fun b => .str (rowS [b]))) tp' ∧ Tape tp' ∧ bs.length = w := by
  have em : rangeI range1D (consA (vE 2) (nilA)) [some .tape, a1, some (.int w), some (.int o), a5, a6, none] tp = .ok (rangeL 0 (w : Int)) tp := by
    simp -implicitDefEqProofs only [defD, retR, seqS, ifS, setS, retS, skipS, dropS, parS, setAll, vE, cE, binE, chainE, callB, consA, nilA, tupE, lstE, boolE, isB, notT, orT, andT, andE, orE, notE, callE, tixE, tsetS, sliceE, optI, methE, seqI, rangeI, RE.bind_ok, RE.bindS, RE.of_some, RE.of_none, List.map_cons, List.map_nil, List.length_cons, List.length_nil, List.replicate, List.cons_append, List.nil_append, List.getElem?_cons_zero, List.getElem?_cons_succ, List.set_cons_zero, List.set_cons_succ, if_true, if_false, Nat.zero_add, Nat.reduceAdd, Nat.reduceSub, decide_true, decide_false, Bool.false_eq_true, Option.map_some, Option.bind_some, range1_ok (i := (w : Int)) (by omega) (by omega)]
  obtain ⟨xs, tp', e, t', pr⟩ := compE_eff (T := Tape) (R := fun d x => ∃ b : Bool, x = .str (rowS [b])) (vs := [6]) (i := 6) (m := signE) em ht (by rw [rangeL_len]; exact small_line (by omega)) (fun d2 hd2 tp2 tt2 => sign_ok tt2 o1 o2)
  obtain ⟨bs, rfl, hl⟩ := paired_all (f := fun b => D.str (rowS [b])) (fun x y hh => hh) pr
  rw [rangeL_len] at hl
  exact ⟨bs, tp', e, t', hl⟩
theorem any_step {a1 x : Option D} {tp : List D} {o : Int} {w : Nat} {rs : List Row} {d : Option D} (ht : Tape tp) (o1 : 1 ≤ o) (o2 : o ≤ 4) (w2 : w ≤ 30) (hk : rs.length ≤ 100) : ∃ (bs : List Bool) (tp' : List D), anyB [some .tape, a1, some (.int w), some (.int o), some (.lst (rs.map fun r => .str (rowS r))), d, none] tp = .nx [some .tape, a1, some (.int w), some (.int o), some (.lst ((rs ++ [bs]).map fun r => .str (rowS r))), d, none] tp' ∧ Tape tp' ∧ bs.length = w := by
  obtain ⟨bs, tp', e, t', hl⟩ := bitrow_ok (a1 := a1) (a5 := some (.lst (rs.map fun r => .str (rowS r)))) (a6 := d) ht o1 o2 w2
  have jn := row_of_bits (bs := bs) (by omega)
  refine ⟨bs, tp', ?_, t', hl⟩
  have q := appS_ok (i := 4) (env := [some .tape, a1, some (.int w), some (.int o), some (.lst (rs.map fun r => .str (rowS r))), d, none]) rfl (methE_ok (p := isStrD) (f := joinD) (ma := cE (.str "")) (tp := tp) rfl rfl e jn) (by rw [List.length_map]; omega)
  rw [List.map_append]
  exact q
theorem any_loop {tp1 : List D} {o : Int} {h w : Nat} (ht : Tape tp1) (o1 : 1 ≤ o) (o2 : o ≤ 4) (h2 : h ≤ 30) (w2 : w ≤ 30) : ∃ (rs : List Row) (x : Option D) (tp' : List D), forS (rangeI range1D (consA (vE 1) (nilA))) t1 [5] anyB [some .tape, some (.int h), some (.int w), some (.int o), some (.lst []), none, none] tp1 = .nx [some .tape, some (.int h), some (.int w), some (.int o), some (.lst (rs.map fun r => .str (rowS r))), x, none] tp' ∧ Tape tp' ∧ rs.length = h ∧ (∀ r ∈ rs, r.length = w) := by
  have ei : rangeI range1D (consA (vE 1) (nilA)) [some .tape, some (.int h), some (.int w), some (.int o), some (.lst []), none, none] tp1 = .ok (rangeL 0 (h : Int)) tp1 := by
    simp -implicitDefEqProofs only [defD, retR, seqS, ifS, setS, retS, skipS, dropS, parS, setAll, vE, cE, binE, chainE, callB, consA, nilA, tupE, lstE, boolE, isB, notT, orT, andT, andE, orE, notE, callE, tixE, tsetS, sliceE, optI, methE, seqI, rangeI, RE.bind_ok, RE.bindS, RE.of_some, RE.of_none, List.map_cons, List.map_nil, List.length_cons, List.length_nil, List.replicate, List.cons_append, List.nil_append, List.getElem?_cons_zero, List.getElem?_cons_succ, List.set_cons_zero, List.set_cons_succ, if_true, if_false, Nat.zero_add, Nat.reduceAdd, Nat.reduceSub, decide_true, decide_false, Bool.false_eq_true, Option.map_some, Option.bind_some, range1_ok (i := (h : Int)) (by omega) (by omega)]
  rw [forS_eq ei]
  obtain ⟨env', tp2, e2, t2, rs, x, hk, hr, rfl⟩ := forL_inv (i := 5) (tp := tp1) (env := [some .tape, some (.int h), some (.int w), some (.int o), some (.lst []), none, none]) (items := rangeL 0 (h : Int)) (body := anyB)
    (fun k env tp => Tape tp ∧ ∃ (rs : List Row) (x : Option D), rs.length = k ∧ (∀ r ∈ rs, r.length = w) ∧ env = [some .tape, some (.int h), some (.int w), some (.int o), some (.lst (rs.map fun r => .str (rowS r))), x, none]) 0
    ⟨ht, [], none, rfl, (fun _ h => nomatch h), rfl⟩ (fun j d env tp hj hI => by
      obtain ⟨tt, rs, x, hk, hr, rfl⟩ := hI
      have hj' := rangeL_get hj
      obtain ⟨bs, tp', e, t', hl⟩ := any_step (a1 := some (.int h)) (x := x) (d := some d) (rs := rs) tt o1 o2 w2 (by omega)
      refine ⟨_, tp', e, t', rs ++ [bs], some d, by simp [hk], ?_, rfl⟩
      intro r hr'
      rcases List.mem_append.mp hr' with q | q
      · exact hr r q
      · rw [List.mem_singleton.mp q]; exact hl)
  rw [rangeL_len] at hk
  exact ⟨rs, x, tp2, e2, t2, by omega, hr⟩
theorem any_pick {tp : List D} (ht : Tape tp) : ∃ (o : Int) (tp' : List D), m_law_pick [.tape, .lst [.int 2, .int 2, .int 3, .int 4]] tp = .ok (.int o) tp' ∧ Tape tp' ∧ 1 ≤ o ∧ o ≤ 4 := by
  obtain ⟨v, tp1, e1, t1', v1⟩ := pick_ok (ds := [.int 2, .int 2, .int 3, .int 4]) ht (by simp) (by simp)
  rcases List.mem_cons.mp v1 with q | q
  · subst q; exact ⟨2, tp1, e1, t1', by decide, by decide⟩
  rcases List.mem_cons.mp q with q | q
  · subst q; exact ⟨2, tp1, e1, t1', by decide, by decide⟩
  rcases List.mem_cons.mp q with q | q
  · subst q; exact ⟨3, tp1, e1, t1', by decide, by decide⟩
  · have q := List.mem_singleton.mp q
    subst q; exact ⟨4, tp1, e1, t1', by decide, by decide⟩
theorem any_ok {tp : List D} {h w : Nat} (ht : Tape tp) (h1 : 1 ≤ h) (h2 : h ≤ 30) (w1 : 1 ≤ w) (w2 : w ≤ 30) : ∃ p tp', m_law_any [.tape, .int h, .int w] tp = .ok (picD p) tp' ∧ Tape tp' ∧ PicOk h w p := by
  obtain ⟨o, tp1, e1, t1', o1, o2⟩ := any_pick ht
  obtain ⟨rs, x, tp2, e2, t2, hk, hr⟩ := any_loop t1' o1 o2 h2 w2
  refine ⟨rs, tp2, ?_, t2, ⟨by omega, hr, h1, h2, w1, w2⟩⟩
  have hp : parS [3, 4] (consA (callE 2 m_law_pick (consA (vE 0) (consA (lstE (consA (cE (.int 2)) (consA (cE (.int 2)) (consA (cE (.int 3)) (consA (cE (.int 4)) (nilA)))))) (nilA)))) (consA (lstE (nilA)) (nilA))) [some .tape, some (.int h), some (.int w), none, none, none, none] tp = .nx [some .tape, some (.int h), some (.int w), some (.int o), some (.lst []), none, none] tp1 := by
    simp -implicitDefEqProofs only [defD, retR, seqS, ifS, setS, retS, skipS, dropS, parS, setAll, vE, cE, binE, chainE, callB, consA, nilA, tupE, lstE, boolE, isB, notT, orT, andT, andE, orE, notE, callE, tixE, tsetS, sliceE, optI, methE, seqI, rangeI, RE.bind_ok, RE.bindS, RE.of_some, RE.of_none, List.map_cons, List.map_nil, List.length_cons, List.length_nil, List.replicate, List.cons_append, List.nil_append, List.getElem?_cons_zero, List.getElem?_cons_succ, List.set_cons_zero, List.set_cons_succ, if_true, if_false, Nat.zero_add, Nat.reduceAdd, Nat.reduceSub, decide_true, decide_false, Bool.false_eq_true, Option.map_some, Option.bind_some, e1, if_small, Nat.reduceLeDiff, Nat.zero_le, List.all_cons, List.all_nil, Bool.and_true, Nat.reduceLT]
  show retR (b_law_any [some .tape, some (.int h), some (.int w), none, none, none, none] tp) = _
  rw [b_any_eq, seqS_nx hp, seqS_nx e2]
  rfl
end W
set_option maxHeartbeats 1000000
namespace W
open PySem L2 G
theorem retS_ok {m : SE D} {env : DEnv} {tp tp1 : List D} {d : D} (h : m env tp = .ok d tp1) : retS m env tp = .rt d tp1 := by
  unfold retS; rw [h]; rfl
theorem callE_ok {n : Nat} {m : List D → List D → RE D} {ms : SE (List D)} {env : DEnv} {tp tp1 tp2 : List D} {ds : List D} {d : D} (h : ms env tp = .ok ds tp1) (hl : ds.length = n) (h2 : m ds tp1 = .ok d tp2) : callE n m ms env tp = .ok d tp2 := by
  unfold callE; rw [h]; simp only [RE.bind_ok]; rw [if_pos hl, h2]
theorem seqS_rt {m n : SS} {env : DEnv} {tp tp' : List D} {d : D} (h : m env tp = .rt d tp') : seqS m n env tp = .rt d tp' := by
  unfold seqS; rw [h]
theorem ifS_t {c : SE Bool} {m n : SS} {env : DEnv} {tp tp' : List D} (h : c env tp = .ok true tp') : ifS c m n env tp = m env tp' := by
  unfold ifS; rw [h]; rfl
theorem ifS_f {c : SE Bool} {m n : SS} {env : DEnv} {tp tp' : List D} (h : c env tp = .ok false tp') : ifS c m n env tp = n env tp' := by
  unfold ifS; rw [h]; rfl
theorem notT_ok {c : SE Bool} {env : DEnv} {tp tp' : List D} {b : Bool} (h : c env tp = .ok b tp') : notT c env tp = .ok (!b) tp' := by
  unfold notT; rw [h]; rfl
theorem boolE_ok {c : SE D} {env : DEnv} {tp tp' : List D} {b : Bool} (h : c env tp = .ok (.bl b) tp') : boolE c env tp = .ok b tp' := by
  unfold boolE; rw [h]; rfl
theorem andE_t {c d : SE D} {env : DEnv} {tp tp' : List D} (h : c env tp = .ok (.bl true) tp') : andE c d env tp = d env tp' := by
  unfold andE; rw [h]; rfl
theorem consA_ok {c : SE D} {d : SE (List D)} {env : DEnv} {tp tp' tp2 : List D} {x : D} {xs : List D} (h : c env tp = .ok x tp') (h2 : d env tp' = .ok xs tp2) : consA c d env tp = .ok (x :: xs) tp2 := by
  unfold consA; rw [h]; simp only [RE.bind_ok]; rw [h2]; rfl
theorem callB_ok {f : List D → Option D} {ms : SE (List D)} {env : DEnv} {tp tp1 : List D} {ds : List D} {d : D} (h : ms env tp = .ok ds tp1) (h2 : f ds = some d) : callB f ms env tp = .ok d tp1 := by
  unfold callB; rw [h]; simp only [RE.bind_ok]; rw [h2]; rfl
theorem binE_ok {f : D → D → Option D} {ma mb : SE D} {env : DEnv} {tp tp1 tp2 : List D} {d e z : D} (h1 : ma env tp = .ok d tp1) (h2 : mb env tp1 = .ok e tp2) (h3 : f d e = some z) : binE f ma mb env tp = .ok z tp2 := by
  unfold binE; rw [h1]; simp only [RE.bind_ok]; rw [h2]; simp only [RE.bind_ok]; rw [h3]; rfl
theorem _root_.G.PicOk.get {h w : Nat} {p : Pic} (k : PicOk h w p) {i : Nat} (hi : i < h) : ∃ r, p[i]? = some r ∧ r.length = w ∧ p.getD i [] = r := by
  have : i < p.length := by rw [k.len]; exact hi
  exact ⟨p[i], List.getElem?_eq_getElem this, k.row _ (List.getElem_mem this), by rw [List.getD_eq_getElem?_getD, List.getElem?_eq_getElem this]; rfl⟩
end W
set_option maxHeartbeats 1000000
namespace W
open PySem L2 G
theorem rangeI_ok {f : List D → Option (List D)} {ms : SE (List D)} {env : DEnv} {tp tp1 : List D} {ds items : List D} (h : ms env tp = .ok ds tp1) (h2 : f ds = some items) : rangeI f ms env tp = .ok items tp1 := by
  unfold rangeI; rw [h]; simp only [RE.bind_ok]; rw [h2]; rfl
end W
set_option maxHeartbeats 1000000
namespace W
open PySem L2 G
end W
set_option maxHeartbeats 1000000
namespace W
open PySem L2 G
end W
set_option maxHeartbeats 1000000
namespace W
open PySem L2 G
theorem pdAll_map : ∀ xs : List D, pdAll xs = xs.map D.pd
  | [] => rfl
  | x :: xs => by
    show x.pd :: pdAll xs = _
    rw [pdAll_map xs]; rfl
end W
set_option maxHeartbeats 1000000
namespace W
open PySem L2 G
def Alk : Nat → D → Prop
  | _, .non => True
  | _, .bl _ => True
  | _, .int _ => True
  | _, .str _ => True
  | n + 1, .tup xs => xs.length ≤ 1000000 ∧ ∀ x ∈ xs, Alk n x
  | n + 1, .lst xs => xs.length ≤ 1000000 ∧ ∀ x ∈ xs, Alk n x
  | _, _ => False
theorem neD_int (a b : Int) : neD (.int a) (.int b) = some (.bl (decide (a ≠ b))) := by
  show some (D.bl (!(a == b))) = _
  by_cases h : a = b <;> simp [h]
theorem compE_none {mi : SE (List D)} {vs : List Nat} {i : Nat} {c : SE Bool} {m : SE D} {env : DEnv} {tp tp1 : List D} {items : List D} (h1 : mi env tp = .ok items tp1) (hl : items.length ≤ 1000000) (h : ∀ d ∈ items, c ((wipeE env vs).set i (some d)) tp1 = .ok false tp1) : compE mi vs t1 [i] c m env tp = .ok (.lst []) tp1 := by
  have := compE_filter (b := fun _ => false) (g := fun d => d) (m := m) h1 (small_line hl) h (fun _ _ q => nomatch q)
  rw [this]
  have : items.filter (fun _ => false) = [] := by simp
  rw [this]; rfl
theorem alike_int (n : Nat) (i : Int) (tp : List D) : m_law_alike (n + 1) [.int i, .int i] tp = .ok (.bl true) tp := by
  have e : eqD (.int i) (.int i) = some (.bl true) := by rw [eqD_int, decide_eq_true rfl]
  show retR (b_law_alike (m_law_alike n) [some (.int i), some (.int i), none] tp) = _
  unfold b_law_alike
  refine (congrArg retR (seqS_nx (ifS_f rfl))).trans ?_
  refine (congrArg retR (seqS_nx (ifS_f rfl))).trans ?_
  refine (congrArg retR (retS_ok ((andE_t rfl).trans ((andE_t rfl).trans (binE_ok rfl rfl e))))).trans ?_
  rfl
theorem alike_bl (n : Nat) (i : Bool) (tp : List D) : m_law_alike (n + 1) [.bl i, .bl i] tp = .ok (.bl true) tp := by
  cases i <;> rfl
theorem alike_str (n : Nat) (i : Str) (tp : List D) : m_law_alike (n + 1) [.str i, .str i] tp = .ok (.bl true) tp := by
  have e : eqD (.str i) (.str i) = some (.bl true) := by rw [eqD_str]; simp
  show retR (b_law_alike (m_law_alike n) [some (.str i), some (.str i), none] tp) = _
  unfold b_law_alike
  refine (congrArg retR (seqS_nx (ifS_f rfl))).trans ?_
  refine (congrArg retR (seqS_rt ((ifS_t rfl).trans (retS_ok ((andE_t (binE_ok rfl rfl e)).trans rfl))))).trans ?_
  rfl
theorem alike_seq {n : Nat} {d : D} {xs : List D} (hd : d = .tup xs ∨ d = .lst xs) (hl : xs.length ≤ 1000000) (tp : List D) (ih : ∀ x ∈ xs, m_law_alike n [x, x] tp = .ok (.bl true) tp) : m_law_alike (n + 1) [d, d] tp = .ok (.bl true) tp := by
  have el : lenD [d] = some (.int (xs.length : Int)) := by rcases hd with rfl | rfl <;> rfl
  have ec : compE (rangeI range1D (consA (callB lenD (consA (vE 1) (nilA))) (nilA))) [2] t1 [2] (notT (boolE (callE 2 (m_law_alike n) (consA (binE ixD (vE 0) (vE 2)) (consA (binE ixD (vE 1) (vE 2)) (nilA)))))) (vE 2) [some d, some d, none] tp = .ok (.lst []) tp := by
    refine compE_none (rangeI_ok (consA_ok (callB_ok (consA_ok rfl rfl) el) rfl) (range1_ok (by omega) (by omega))) (by rw [rangeL_len]; exact hl) fun x hx => ?_
    obtain ⟨j, rfl, hj⟩ := rangeL_mem hx
    have ex : ixD d (.int (j : Int)) = some xs[j] := by
      rcases hd with rfl | rfl
      · show atI xs (j : Int) = _
        rw [atI_nat', List.getElem?_eq_getElem hj]
      · show atI xs (j : Int) = _
        rw [atI_nat', List.getElem?_eq_getElem hj]
    exact notT_ok (boolE_ok (callE_ok (consA_ok (binE_ok rfl rfl ex) (consA_ok (binE_ok rfl rfl ex) rfl)) rfl (ih _ (List.getElem_mem hj))))
  have en : neD (.int (xs.length : Int)) (.int (xs.length : Int)) = some (.bl false) := by rw [neD_int]; simp
  show retR (b_law_alike (m_law_alike n) [some d, some d, none] tp) = _
  unfold b_law_alike
  refine (congrArg retR (seqS_rt (d := .bl true) (tp' := tp) ((ifS_t (tp' := tp) (by rcases hd with rfl | rfl <;> rfl)).trans ?_))).trans ?_
  · refine (seqS_nx (ifS_f (by rcases hd with rfl | rfl <;> rfl))).trans ?_
    refine (seqS_nx (ifS_f (boolE_ok (binE_ok (callB_ok (consA_ok rfl rfl) el) (callB_ok (consA_ok rfl rfl) el) en)))).trans ?_
    exact retS_ok (binE_ok ec (lstE_ok (ds := []) rfl (by decide)) rfl)
  · rfl
theorem alike_refl : ∀ (n : Nat) (d : D), Alk n d → ∀ tp, m_law_alike (n + 1) [d, d] tp = .ok (.bl true) tp
  | n, .non, _, tp => by
    cases n <;> rfl
  | n, .bl b, _, tp => alike_bl n b tp
  | n, .int b, _, tp => alike_int n b tp
  | n, .str b, _, tp => alike_str n b tp
  | n + 1, .tup xs, h, tp => alike_seq (.inl rfl) h.1 tp fun x hx => alike_refl n x (h.2 x hx) tp
  | n + 1, .lst xs, h, tp => alike_seq (.inr rfl) h.1 tp fun x hx => alike_refl n x (h.2 x hx) tp
  | 0, .tup _, h, _ => by cases h
  | 0, .lst _, h, _ => by cases h
  | _, .dic _, h, _ => by unfold Alk at h; exact h.elim
  | _, .dct _, h, _ => by unfold Alk at h; exact h.elim
  | _, .scr _, h, _ => by unfold Alk at h; exact h.elim
  | _, .tape, h, _ => by unfold Alk at h; exact h.elim
  | _, .fn _, h, _ => by unfold Alk at h; exact h.elim
  | _, .ty _, h, _ => by unfold Alk at h; exact h.elim
  | _, .memo _, h, _ => by unfold Alk at h; exact h.elim
end W
set_option maxHeartbeats 1000000
namespace W
open PySem L2 G
/-- two alike, as a test's value -/
theorem alike_e {ma mb : SE D} {env : DEnv} {tp tp1 tp2 : List D} {d : D} (h1 : ma env tp = .ok d tp1) (h2 : mb env tp1 = .ok d tp2) (a : Alk 5 d) : callE 2 (m_law_alike 6) (consA ma (consA mb (nilA))) env tp = .ok (.bl true) tp2 :=
  callE_ok (consA_ok h1 (consA_ok h2 rfl)) rfl (alike_refl 5 d a tp2)
end W
set_option maxHeartbeats 1000000
namespace W
open PySem L2 G T
/-- a picture by itself -/
structure PicP (p : Pic) : Prop where
  row : ∀ r ∈ p, r.length = p[0]!.length
  h1 : 1 ≤ p.length
  h30 : p.length ≤ 30
  w1 : 1 ≤ p[0]!.length
  w30 : p[0]!.length ≤ 30
theorem PicOk_pp {h w : Nat} {p : Pic} (k : PicOk h w p) : PicP p ∧ p.length = h ∧ p[0]!.length = w := by
  have h1 := k.h1
  have l := k.len
  have e : p[0]!.length = w := by
    rw [getElem!_pos p 0 (by omega)]
    exact k.row _ (List.getElem_mem _)
  exact ⟨⟨fun r hr => by rw [e]; exact k.row r hr, by omega, by have := k.h30; omega, by have := k.w1; omega, by have := k.w30; omega⟩, l, e⟩
theorem PicP.ok {p : Pic} (k : PicP p) : PicOk p.length p[0]!.length p := ⟨rfl, k.row, k.h1, k.h30, k.w1, k.w30⟩
theorem t_law_pickL {α : Type} {e : α → D} {xs : List α} {tp : List D} (ht : Tape tp) (hP : xs ≠ [] ∧ xs.length ≤ 1073741824) : ∃ (r : α) (tp' : List D), m_law_pick [.tape, eL e xs] tp = .ok (e r) tp' ∧ Tape tp' ∧ r ∈ xs := by
  obtain ⟨v, tp', e1, t, hv⟩ := pick_ok (ds := xs.map e) ht (by simpa using hP.1) (by rw [List.length_map]; exact hP.2)
  obtain ⟨a, ha, rfl⟩ := List.mem_map.mp hv
  exact ⟨a, tp', e1, t, ha⟩
abbrev P_law_any (h w : Nat) : Prop := (1 ≤ h ∧ h ≤ 30) ∧ 1 ≤ w ∧ w ≤ 30
abbrev D_law_any (h w : Nat) (p : Pic) : Prop := PicP p ∧ p.length = h ∧ p[0]!.length = w
theorem t_law_any {h w : Nat} {tp : List D} (ht : Tape tp) (hP : P_law_any h w) : ∃ (r : Pic) (tp' : List D), m_law_any [.tape, eN h, eN w] tp = .ok (ePic r) tp' ∧ Tape tp' ∧ D_law_any h w r := by
  obtain ⟨p, tp', e, t, k⟩ := any_ok (h := h) (w := w) ht hP.1.1 hP.1.2 hP.2.1 hP.2.2
  exact ⟨p, tp', e, t, PicOk_pp k⟩
theorem alkN (n i : Nat) : Alk n (eN i) := by cases n <;> trivial
theorem alkZ (n : Nat) (i : Int) : Alk n (eZ i) := by cases n <;> trivial
theorem alkB (n : Nat) (i : Bool) : Alk n (eB i) := by cases n <;> trivial
theorem alkP {α β : Type} {e : α → D} {e1 : β → D} {n : Nat} {x : α × β} (h : Alk n (e x.1)) (k : Alk n (e1 x.2)) : Alk (n + 1) (eP e e1 x) :=
  ⟨by simp, fun d hd => by
    rcases List.mem_cons.mp hd with rfl | hd
    · exact h
    · have := List.mem_singleton.mp hd; subst this; exact k⟩
theorem ev_alike {α : Type} {e : α → D} {a b : α} {ma mb : SE D} {env : DEnv} {tp t1 t2 : List D} (h : a = b ∧ Alk 5 (e a)) (ha : ma env tp = .ok (e a) t1) (hb : mb env t1 = .ok (e b) t2) : callE 2 (m_law_alike 6) (consA ma (consA mb nilA)) env tp = .ok (eB true) t2 := by
  obtain ⟨rfl, k⟩ := h
  exact alike_e ha hb k
end W
set_option maxHeartbeats 1000000
namespace W
open PySem L2 G T
theorem take_snoc {α : Type} {xs : List α} {k : Nat} {x : α} (h : xs[k]? = some x) : xs.take (k + 1) = xs.take k ++ [x] := by
  rw [List.take_succ, h]; rfl
theorem range_get {n k x : Nat} (h : (List.range n)[k]? = some x) : x = k ∧ k < n := by
  obtain ⟨h1, h2⟩ := List.getElem?_eq_some_iff.mp h
  rw [List.getElem_range] at h2
  rw [List.length_range] at h1
  exact ⟨h2.symm, h1⟩
theorem enumP_eq {α : Type} [Inhabited α] (xs : List α) : enumP xs = (List.range xs.length).map fun i => (i, xs[i]!) := by
  unfold enumP
  refine List.ext_getElem (by simp) fun i h1 h2 => ?_
  rw [List.getElem_mapIdx, List.getElem_map, List.getElem_range, getElem!_pos xs i (by simpa using h1)]
theorem mem_enumP {α : Type} [Inhabited α] {xs : List α} {x : Nat × α} (h : x ∈ enumP xs) : x.1 < xs.length ∧ x.2 = xs[x.1]! := by
  rw [enumP_eq] at h
  obtain ⟨i, hi, rfl⟩ := List.mem_map.mp h
  exact ⟨List.mem_range.mp hi, rfl⟩
theorem mem_get! {α : Type} [Inhabited α] {xs : List α} {i : Nat} (h : i < xs.length) : xs[i]! ∈ xs := by
  rw [getElem!_pos xs i h]; exact List.getElem_mem h
theorem len_filter_le {α : Type} (f : α → Bool) (xs : List α) : (xs.filter f).length ≤ xs.length := List.length_filter_le f xs
theorem get!_map' {α β : Type} [Inhabited α] [Inhabited β] (f : α → β) {xs : List α} {i : Nat} (h : i < xs.length) : (xs.map f)[i]! = f xs[i]! := by
  rw [getElem!_pos (xs.map f) i (by simpa using h), List.getElem_map, getElem!_pos xs i h]
theorem get!_range {n i : Nat} (h : i < n) : (List.range n)[i]! = i := by
  rw [getElem!_pos (List.range n) i (by simpa using h), List.getElem_range]
theorem get!_cons_succ {α : Type} [Inhabited α] (x : α) (xs : List α) (i : Nat) : (x :: xs)[i + 1]! = xs[i]! := rfl
theorem get!_append_left {α : Type} [Inhabited α] {xs ys : List α} {i : Nat} (h : i < xs.length) : (xs ++ ys)[i]! = xs[i]! := by
  rw [getElem!_pos _ i (by rw [List.length_append]; omega), getElem!_pos xs i h, List.getElem_append_left h]
theorem get!_append_right {α : Type} [Inhabited α] {xs ys : List α} {i : Nat} (h : xs.length ≤ i) (h2 : i < xs.length + ys.length) : (xs ++ ys)[i]! = ys[i - xs.length]! := by
  rw [getElem!_pos _ i (by rw [List.length_append]; omega), getElem!_pos ys _ (by omega), List.getElem_append_right h]
theorem ext_get! {α : Type} [Inhabited α] {xs ys : List α} (hl : xs.length = ys.length) (h : ∀ i, i < xs.length → xs[i]! = ys[i]!) : xs = ys := by
  refine List.ext_getElem hl fun i h1 h2 => ?_
  have := h i h1
  rwa [getElem!_pos xs i h1, getElem!_pos ys i h2] at this
section
variable {p q : Pic}
theorem PicP.get (k : PicP p) {i : Nat} (h : i < p.length) : (p[i]!).length = p[0]!.length := k.row _ (mem_get! h)
theorem PicP.pos (k : PicP p) : 0 < p.length := k.h1
/-- the sides of a picture -/
structure Sides (h w : Nat) (p : Pic) : Prop where
  pp : PicP p
  hh : p.length = h
  ww : p[0]!.length = w
theorem PicP.sd (k : PicP p) : Sides p.length p[0]!.length p := ⟨k, rfl, rfl⟩
/-- two pictures of the same sides are the same if all cells are -/
theorem pic_ext (k : PicP p) (l : PicP q) (h : p.length = q.length) (w : p[0]!.length = q[0]!.length) (e : ∀ i j, i < p.length → j < p[0]!.length → (p[i]!)[j]! = (q[i]!)[j]!) : p = q := by
  refine ext_get! h fun i hi => ?_
  have a := k.get hi
  have b := l.get (i := i) (by omega)
  exact ext_get! (by omega) fun j hj => e i j hi (by omega)
/-- a picture told by its cells -/
def mkP (h w : Nat) (f : Nat → Nat → Bool) : Pic := (List.range h).map fun i => (List.range w).map fun j => f i j
theorem mkP_len (h w : Nat) (f : Nat → Nat → Bool) : (mkP h w f).length = h := by simp [mkP]
theorem mkP_row {h w : Nat} {f : Nat → Nat → Bool} {i : Nat} (hi : i < h) : (mkP h w f)[i]! = (List.range w).map fun j => f i j := by
  unfold mkP
  rw [get!_map' _ (by simpa using hi), get!_range hi]
theorem mkP_get {h w : Nat} {f : Nat → Nat → Bool} {i j : Nat} (hi : i < h) (hj : j < w) : ((mkP h w f)[i]!)[j]! = f i j := by
  rw [mkP_row hi, get!_map' _ (by simpa using hj), get!_range hj]
theorem mkP_wid {h w : Nat} {f : Nat → Nat → Bool} {i : Nat} (hi : i < h) : ((mkP h w f)[i]!).length = w := by rw [mkP_row hi]; simp
theorem mkP_pp {h w : Nat} {f : Nat → Nat → Bool} (h1 : 1 ≤ h) (h30 : h ≤ 30) (w1 : 1 ≤ w) (w30 : w ≤ 30) : PicP (mkP h w f) := by
  have e := mkP_wid (f := f) (w := w) (show 0 < h by omega)
  refine ⟨fun r hr => ?_, by rw [mkP_len]; exact h1, by rw [mkP_len]; exact h30, by rw [e]; exact w1, by rw [e]; exact w30⟩
  rw [e]
  obtain ⟨i, hi, rfl⟩ := List.mem_map.mp hr
  simp
def lineQ (p : Pic) (l : Nat) : Pic := mkP p.length p[0]!.length fun i j => if l = i then true else if l = p.length + j then false else (p[i]!)[j]!
def linesQ (p : Pic) (ls : List Nat) : Pic := ls.foldl lineQ p
theorem lineQ_pp (k : PicP p) (l : Nat) : PicP (lineQ p l) := mkP_pp k.h1 k.h30 k.w1 k.w30
theorem lineQ_len (p : Pic) (l : Nat) : (lineQ p l).length = p.length := mkP_len _ _ _
theorem lineQ_wid (k : PicP p) (l : Nat) : (lineQ p l)[0]!.length = p[0]!.length := mkP_wid k.h1
theorem lineQ_get {l i j : Nat} (hi : i < p.length) (hj : j < p[0]!.length) : ((lineQ p l)[i]!)[j]! = if l = i then true else if l = p.length + j then false else (p[i]!)[j]! := mkP_get hi hj
theorem linesQ_pp (k : PicP p) (ls : List Nat) : PicP (linesQ p ls) ∧ (linesQ p ls).length = p.length ∧ (linesQ p ls)[0]!.length = p[0]!.length := by
  induction ls generalizing p with
  | nil => exact ⟨k, rfl, rfl⟩
  | cons l ls ih =>
    obtain ⟨a, b, c⟩ := ih (lineQ_pp k l)
    exact ⟨a, b.trans (lineQ_len p l), c.trans (lineQ_wid k l)⟩
theorem linesQ_snoc (p : Pic) (ls : List Nat) (l : Nat) : linesQ p (ls ++ [l]) = lineQ (linesQ p ls) l := by
  unfold linesQ; rw [List.foldl_append]; rfl
end
end W
set_option maxHeartbeats 1000000
namespace W
open PySem L2 G T
/-- the rows that are full among the columns left, and the columns that are empty -/
def fullQ (p : Pic) (rs cs : List Nat) : List Nat := rs.filter fun i => decide (∀ j ∈ cs, (p[i]!)[j]! = true)
def empQ (p : Pic) (rs cs : List Nat) : List Nat := cs.filter fun j => decide (∀ i ∈ rs, (p[i]!)[j]! = false)
/-- what a turn does: layers found, rows left, columns left -/
def lstep (p : Pic) (s : List (List Nat) × List Nat × List Nat) : List (List Nat) × List Nat × List Nat :=
  if fullQ p s.2.1 s.2.2 ≠ [] then (s.1 ++ [fullQ p s.2.1 s.2.2], s.2.1.filter fun i => decide (i ∉ fullQ p s.2.1 s.2.2), s.2.2)
  else if empQ p s.2.1 s.2.2 ≠ [] then (s.1 ++ [(empQ p s.2.1 s.2.2).map fun j => p.length + j], s.2.1, s.2.2.filter fun j => decide (j ∉ empQ p s.2.1 s.2.2))
  else s
def liter (p : Pic) : Nat → List (List Nat) × List Nat × List Nat
  | 0 => ([], List.range p.length, List.range p[0]!.length)
  | n + 1 => lstep p (liter p n)
def layersQ (p : Pic) : List (List Nat) := (liter p (p.length + p[0]!.length)).1
def coreQ (p : Pic) : List Nat := (List.range (p.length + p[0]!.length)).filter fun l => decide (l ∉ (layersQ p).flatten)
theorem ones_full (p : Pic) (rs cs : List Nat) : (rs.filter fun i => decide (((cs.filter fun j => decide ((p[i]!)[j]! = false)).map fun _ => 1) = [])) = fullQ p rs cs := by
  unfold fullQ
  refine List.filter_congr fun i _ => decide_eq_decide.mpr ?_
  rw [List.map_eq_nil_iff, List.filter_eq_nil_iff]
  exact forall_congr' fun j => forall_congr' fun _ => by cases (p[i]!)[j]! <;> simp
theorem ones_emp (p : Pic) (rs cs : List Nat) : (cs.filter fun j => decide (((rs.filter fun i => decide ((p[i]!)[j]! = true)).map fun _ => 1) = [])) = empQ p rs cs := by
  unfold empQ
  refine List.filter_congr fun i _ => decide_eq_decide.mpr ?_
  rw [List.map_eq_nil_iff, List.filter_eq_nil_iff]
  exact forall_congr' fun j => forall_congr' fun _ => by cases (p[j]!)[i]! <;> simp
theorem liter_sub (p : Pic) : ∀ n, (liter p n).2.1.Sublist (List.range p.length) ∧ (liter p n).2.2.Sublist (List.range p[0]!.length) ∧ (liter p n).1.length ≤ n
  | 0 => ⟨.refl _, .refl _, Nat.le_refl _⟩
  | n + 1 => by
    obtain ⟨a, b, c⟩ := liter_sub p n
    unfold liter lstep
    split
    · exact ⟨(List.filter_sublist).trans a, b, by simp; omega⟩
    · split
      · exact ⟨a, (List.filter_sublist).trans b, by simp; omega⟩
      · exact ⟨a, b, by omega⟩
theorem sub_len {α : Type} {n : Nat} : ∀ {xs : List (List α)}, (∀ x ∈ xs, x.length ≤ n) → xs.flatten.length ≤ xs.length * n
  | [], _ => by simp
  | x :: xs, h => by
    rw [List.flatten_cons, List.length_append, List.length_cons, Nat.add_mul]
    have := h x List.mem_cons_self
    have := sub_len fun y hy => h y (List.mem_cons_of_mem _ hy)
    omega
theorem liter_row {p : Pic} {n i : Nat} (h : i ∈ (liter p n).2.1) : i < p.length := List.mem_range.mp ((liter_sub p n).1.subset h)
theorem liter_col {p : Pic} {n j : Nat} (h : j ∈ (liter p n).2.2) : j < p[0]!.length := List.mem_range.mp ((liter_sub p n).2.1.subset h)
/-- what a layer is -/
theorem liter_layer {p : Pic} : ∀ n, ∀ x ∈ (liter p n).1, x ≠ [] ∧ x.Pairwise (· < ·) ∧ ((∀ l ∈ x, l < p.length) ∨ ∀ l ∈ x, p.length ≤ l ∧ l < p.length + p[0]!.length)
  | 0, x, hx => by cases hx
  | n + 1, x, hx => by
    obtain ⟨s1, s2, s3⟩ := liter_sub p n
    unfold liter lstep at hx
    split at hx
    · rename_i ne
      rcases List.mem_append.mp hx with hx | hx
      · exact liter_layer n x hx
      · have := List.mem_singleton.mp hx
        subst this
        exact ⟨ne, (List.pairwise_lt_range.sublist s1).sublist List.filter_sublist, .inl fun l hl => liter_row (List.mem_filter.mp hl).1⟩
    · split at hx
      · rename_i ne
        rcases List.mem_append.mp hx with hx | hx
        · exact liter_layer n x hx
        · have := List.mem_singleton.mp hx
          subst this
          refine ⟨fun e => ne (List.map_eq_nil_iff.mp e), List.pairwise_map.mpr (((List.pairwise_lt_range.sublist s2).sublist List.filter_sublist).imp fun h => by omega), .inr fun l hl => ?_⟩
          obtain ⟨j, hj, rfl⟩ := List.mem_map.mp hl
          have := liter_col (List.mem_filter.mp hj).1
          omega
      · exact liter_layer n x hx
theorem liter_len {p : Pic} (k : PicP p) (n : Nat) : ∀ x ∈ (liter p n).1, x.length ≤ 30 := by
  induction n with
  | zero => intro x hx; cases hx
  | succ n ih =>
    intro x hx
    obtain ⟨s1, s2, s3⟩ := liter_sub p n
    have l1 := s1.length_le
    have l2 := s2.length_le
    rw [List.length_range] at l1 l2
    have := k.h30; have := k.w30
    unfold liter lstep at hx
    split at hx
    · rcases List.mem_append.mp hx with hx | hx
      · exact ih x hx
      · have := List.mem_singleton.mp hx
        subst this
        have : (fullQ p (liter p n).2.1 (liter p n).2.2).length ≤ (liter p n).2.1.length := len_filter_le _ _
        omega
    · split at hx
      · rcases List.mem_append.mp hx with hx | hx
        · exact ih x hx
        · have := List.mem_singleton.mp hx
          subst this
          rw [List.length_map]
          have : (empQ p (liter p n).2.1 (liter p n).2.2).length ≤ (liter p n).2.2.length := len_filter_le _ _
          omega
      · exact ih x hx
theorem layersQ_len {p : Pic} (k : PicP p) : (layersQ p).length ≤ 60 ∧ ∀ x ∈ layersQ p, x.length ≤ 30 := by
  have := k.h30; have := k.w30
  exact ⟨Nat.le_trans (liter_sub p _).2.2 (by omega), liter_len k _⟩
theorem layersQ_flat {p : Pic} (k : PicP p) : (layersQ p).flatten.length ≤ 1800 := by
  obtain ⟨a, b⟩ := layersQ_len k
  exact Nat.le_trans (sub_len b) (Nat.le_trans (Nat.mul_le_mul_right 30 a) (by omega))
theorem layersQ_layer {p : Pic} : ∀ x ∈ layersQ p, x ≠ [] ∧ x.Pairwise (· < ·) ∧ ((∀ l ∈ x, l < p.length) ∨ ∀ l ∈ x, p.length ≤ l ∧ l < p.length + p[0]!.length) := liter_layer _
theorem coreQ_lt {p : Pic} {l : Nat} (h : l ∈ coreQ p) : l < p.length + p[0]!.length := List.mem_range.mp (List.mem_filter.mp h).1
def leadsQ (p : Pic) (l : Nat) : List Nat := if l < p.length then ((List.range p[0]!.length).filter fun j => decide ((p[l]!)[j]! = false)).map fun j => p.length + j else (List.range p.length).filter fun i => decide ((p[i]!)[l - p.length]! = true)
/-- the lines left -/
def lv (p : Pic) (s : List (List Nat) × List Nat × List Nat) : List Nat := s.2.1 ++ s.2.2.map fun j => p.length + j
/-- the lines left without arrows to lines left -/
def freeQ (p : Pic) (s : List (List Nat) × List Nat × List Nat) : List Nat := (lv p s).filter fun l => decide (¬∃ o ∈ leadsQ p l, o ∈ lv p s)
theorem mem_lv {p : Pic} {s : List (List Nat) × List Nat × List Nat} (hr : ∀ i ∈ s.2.1, i < p.length) (l : Nat) : l ∈ lv p s ↔ (l < p.length ∧ l ∈ s.2.1) ∨ (p.length ≤ l ∧ l - p.length ∈ s.2.2) := by
  unfold lv
  rw [List.mem_append, List.mem_map]
  constructor
  · rintro (h | ⟨j, hj, rfl⟩)
    · exact .inl ⟨hr l h, h⟩
    · exact .inr ⟨by omega, by rw [Nat.add_sub_cancel_left]; exact hj⟩
  · rintro (⟨_, h⟩ | ⟨h1, h2⟩)
    · exact .inl h
    · exact .inr ⟨_, h2, by omega⟩
theorem freeQ_eq {p : Pic} {s : List (List Nat) × List Nat × List Nat} (hr : ∀ i ∈ s.2.1, i < p.length) (hc : ∀ j ∈ s.2.2, j < p[0]!.length) : freeQ p s = fullQ p s.2.1 s.2.2 ++ (empQ p s.2.1 s.2.2).map fun j => p.length + j := by
  unfold freeQ
  have e : lv p s = s.2.1 ++ s.2.2.map fun j => p.length + j := rfl
  conv => lhs; arg 2; rw [e]
  rw [List.filter_append]
  congr 1
  · unfold fullQ
    refine List.filter_congr fun i hi => decide_eq_decide.mpr ?_
    have hi' := hr i hi
    unfold leadsQ
    rw [if_pos hi']
    constructor
    · intro h j hj
      cases q : (p[i]!)[j]! with
      | true => rfl
      | false => exact (h ⟨p.length + j, List.mem_map.mpr ⟨j, List.mem_filter.mpr ⟨List.mem_range.mpr (hc j hj), decide_eq_true q⟩, rfl⟩, (mem_lv hr _).mpr (.inr ⟨by omega, by rw [Nat.add_sub_cancel_left]; exact hj⟩)⟩).elim
    · rintro h ⟨o, ho, hl⟩
      obtain ⟨j, hj, rfl⟩ := List.mem_map.mp ho
      have q := of_decide_eq_true (List.mem_filter.mp hj).2
      rcases (mem_lv hr _).mp hl with ⟨a, _⟩ | ⟨_, b⟩
      · omega
      · rw [Nat.add_sub_cancel_left] at b
        rw [h j b] at q; cases q
  · rw [List.filter_map]
    congr 1
    unfold empQ
    refine List.filter_congr fun j hj => decide_eq_decide.mpr ?_
    show (¬∃ o ∈ leadsQ p (p.length + j), o ∈ lv p s) ↔ _
    unfold leadsQ
    rw [if_neg (by omega), Nat.add_sub_cancel_left]
    constructor
    · intro h i hi
      cases q : (p[i]!)[j]! with
      | false => rfl
      | true => exact (h ⟨i, List.mem_filter.mpr ⟨List.mem_range.mpr (hr i hi), decide_eq_true q⟩, (mem_lv hr _).mpr (.inl ⟨hr i hi, hi⟩)⟩).elim
    · rintro h ⟨o, ho, hl⟩
      obtain ⟨a, b⟩ := List.mem_filter.mp ho
      have q := of_decide_eq_true b
      have a := List.mem_range.mp a
      rcases (mem_lv hr _).mp hl with ⟨_, y⟩ | ⟨y, _⟩
      · rw [h o y] at q; cases q
      · omega
/-- a full row and an empty column are not both there -/
theorem full_emp {p : Pic} {rs cs : List Nat} (h : fullQ p rs cs ≠ []) : empQ p rs cs = [] := by
  obtain ⟨i, hi⟩ := List.exists_mem_of_ne_nil _ h
  obtain ⟨i1, i2⟩ := List.mem_filter.mp hi
  have i2 := of_decide_eq_true i2
  refine List.filter_eq_nil_iff.mpr fun j hj q => ?_
  have q := of_decide_eq_true q i i1
  rw [i2 j hj] at q; cases q
/-- the turn by the free lines -/
theorem lstep_free {p : Pic} {s : List (List Nat) × List Nat × List Nat} (hr : ∀ i ∈ s.2.1, i < p.length) (hc : ∀ j ∈ s.2.2, j < p[0]!.length) (h : freeQ p s ≠ []) :
    (lstep p s).1 = s.1 ++ [freeQ p s] ∧ lv p (lstep p s) = (lv p s).filter fun l => decide (l ∉ freeQ p s) := by
  have e := freeQ_eq hr hc
  by_cases q : fullQ p s.2.1 s.2.2 ≠ []
  · have z := full_emp q
    rw [z, List.map_nil, List.append_nil] at e
    rw [e]
    unfold lstep
    rw [if_pos q]
    refine ⟨rfl, ?_⟩
    unfold lv
    rw [List.filter_append]
    congr 1
    refine (List.filter_eq_self.mpr fun l hl => ?_).symm
    obtain ⟨j, hj, rfl⟩ := List.mem_map.mp hl
    refine decide_eq_true fun y => ?_
    have := hr _ (List.mem_filter.mp y).1
    omega
  · have z : fullQ p s.2.1 s.2.2 = [] := Classical.not_not.mp q
    rw [z, List.nil_append] at e
    have q2 : empQ p s.2.1 s.2.2 ≠ [] := fun y => h (by rw [e, y]; rfl)
    rw [e]
    unfold lstep
    rw [if_neg q, if_pos q2]
    refine ⟨rfl, ?_⟩
    unfold lv
    rw [List.filter_append]
    have a : s.2.1.filter (fun l => decide (l ∉ (empQ p s.2.1 s.2.2).map fun j => p.length + j)) = s.2.1 := List.filter_eq_self.mpr fun l hl => by
      refine decide_eq_true fun y => ?_
      obtain ⟨j, _, rfl⟩ := List.mem_map.mp y
      have := hr _ hl
      omega
    rw [a]
    congr 1
    rw [List.filter_map]
    congr 1
    refine List.filter_congr fun j hj => decide_eq_decide.mpr ?_
    constructor
    · intro y y2
      obtain ⟨j', h1, h2⟩ := List.mem_map.mp y2
      have h2 : p.length + j' = p.length + j := h2
      have : j' = j := by omega
      exact y (this ▸ h1)
    · intro y y2
      exact y (List.mem_map.mpr ⟨j, y2, rfl⟩)
theorem lstep_stop {p : Pic} {s : List (List Nat) × List Nat × List Nat} (hr : ∀ i ∈ s.2.1, i < p.length) (hc : ∀ j ∈ s.2.2, j < p[0]!.length) (h : freeQ p s = []) : lstep p s = s := by
  have e := freeQ_eq hr hc
  rw [h] at e
  have e := (List.append_eq_nil_iff.mp e.symm)
  have e2 := List.map_eq_nil_iff.mp e.2
  unfold lstep
  rw [if_neg (by simp [e.1]), if_neg (by simp [e2])]
theorem liter_stop {p : Pic} {n : Nat} (h : freeQ p (liter p n) = []) : ∀ m, liter p (n + m) = liter p n
  | 0 => rfl
  | m + 1 => by
    show lstep p (liter p (n + m)) = _
    rw [liter_stop h m]
    exact lstep_stop (fun i hi => liter_row hi) (fun j hj => liter_col hj) h
end W
set_option maxHeartbeats 1000000
namespace W
open PySem L2 G T
section
variable {q : Pic}
theorem lv_lt {n l : Nat} (h : l ∈ lv q (liter q n)) : l < q.length + q[0]!.length := by
  rcases (mem_lv (fun i hi => liter_row hi) l).mp h with ⟨a, _⟩ | ⟨_, b⟩
  · omega
  · have := liter_col b; omega
/-- what a turn adds -/
theorem liter_succ (n : Nat) : (freeQ q (liter q n) = [] ∧ liter q (n + 1) = liter q n) ∨ (freeQ q (liter q n) ≠ [] ∧ (liter q (n + 1)).1 = (liter q n).1 ++ [freeQ q (liter q n)] ∧ lv q (liter q (n + 1)) = (lv q (liter q n)).filter fun l => decide (l ∉ freeQ q (liter q n))) := by
  have hr : ∀ i ∈ (liter q n).2.1, i < q.length := fun i hi => liter_row hi
  have hc : ∀ j ∈ (liter q n).2.2, j < q[0]!.length := fun j hj => liter_col hj
  by_cases h : freeQ q (liter q n) = []
  · exact .inl ⟨h, lstep_stop hr hc h⟩
  · obtain ⟨a, b⟩ := lstep_free hr hc h
    exact .inr ⟨h, a, b⟩
/-- a line is left, or it is in a layer -/
theorem lv_flat : ∀ (n : Nat) (l : Nat), l < q.length + q[0]!.length → (l ∈ lv q (liter q n) ↔ l ∉ (liter q n).1.flatten)
  | 0, l, hl => by
    refine ⟨fun _ h => (by cases h), fun _ => ?_⟩
    refine (mem_lv (fun i hi => liter_row (n := 0) hi) l).mpr ?_
    by_cases h : l < q.length
    · exact .inl ⟨h, List.mem_range.mpr h⟩
    · exact .inr ⟨by omega, List.mem_range.mpr (by omega)⟩
  | n + 1, l, hl => by
    have ih := lv_flat n l hl
    rcases liter_succ (q := q) n with ⟨_, e⟩ | ⟨_, e1, e2⟩
    · rw [e]; exact ih
    · rw [e1, e2, List.mem_filter, decide_eq_true_iff, ih, List.flatten_append, List.mem_append]
      simp
theorem nodup_flat : ∀ n : Nat, (liter q n).1.flatten.Nodup ∧ (lv q (liter q n)).Nodup
  | 0 => by
    refine ⟨.nil, ?_⟩
    show (List.range q.length ++ (List.range q[0]!.length).map fun j => q.length + j).Nodup
    rw [← List.range_add]
    exact List.nodup_range
  | n + 1 => by
    obtain ⟨a, b⟩ := nodup_flat n
    rcases liter_succ (q := q) n with ⟨_, e⟩ | ⟨_, e1, e2⟩
    · rw [e]; exact ⟨a, b⟩
    · rw [e1, e2]
      refine ⟨?_, b.sublist List.filter_sublist⟩
      rw [List.flatten_append]
      refine List.nodup_append.mpr ⟨a, ?_, fun x hx y hy e => ?_⟩
      · simp only [List.flatten_cons, List.flatten_nil, List.append_nil]
        exact b.sublist List.filter_sublist
      · simp only [List.flatten_cons, List.flatten_nil, List.append_nil] at hy
        subst e
        have hy := (List.mem_filter.mp hy).1
        exact (lv_flat n x (lv_lt hy)).mp hy hx
theorem free_end : freeQ q (liter q (q.length + q[0]!.length)) = [] := by
  refine Classical.byContradiction fun h => ?_
  have all : ∀ n, n ≤ q.length + q[0]!.length → freeQ q (liter q n) ≠ [] := fun n hn e => by
    obtain ⟨m, hm⟩ : ∃ m, q.length + q[0]!.length = n + m := ⟨_, (Nat.add_sub_cancel' hn).symm⟩
    rw [hm, liter_stop e m] at h
    exact h e
  have len : ∀ n, n ≤ q.length + q[0]!.length → (lv q (liter q n)).length + n ≤ q.length + q[0]!.length := by
    intro n
    induction n with
    | zero =>
      intro _
      show (List.range q.length ++ (List.range q[0]!.length).map fun j => q.length + j).length + 0 ≤ _
      rw [← List.range_add, List.length_range]; exact Nat.le_refl _
    | succ n ih =>
      intro hn
      have ih := ih (by omega)
      have ne := all n (by omega)
      rcases liter_succ (q := q) n with ⟨e, _⟩ | ⟨_, _, e2⟩
      · exact (ne e).elim
      · rw [e2]
        obtain ⟨z, hz⟩ := List.exists_mem_of_ne_nil _ ne
        have hz2 : z ∈ lv q (liter q n) := (List.mem_filter.mp hz).1
        have : ((lv q (liter q n)).filter fun l => decide (l ∉ freeQ q (liter q n))).length < (lv q (liter q n)).length := by
          refine Nat.lt_of_le_of_ne (len_filter_le _ _) fun e => ?_
          have := List.length_filter_eq_length_iff.mp e z hz2
          exact of_decide_eq_true this hz
        omega
  have z := len _ (Nat.le_refl _)
  have : lv q (liter q (q.length + q[0]!.length)) = [] := List.eq_nil_of_length_eq_zero (by omega)
  unfold freeQ at h
  rw [this] at h
  exact h rfl
theorem core_lv (l : Nat) : l ∈ coreQ q ↔ l ∈ lv q (liter q (q.length + q[0]!.length)) := by
  unfold coreQ
  rw [List.mem_filter, List.mem_range, decide_eq_true_iff]
  constructor
  · rintro ⟨a, b⟩; exact (lv_flat _ l a).mpr b
  · intro h; exact ⟨lv_lt h, (lv_flat _ l (lv_lt h)).mp h⟩
/-- a line of the core leads to one -/
theorem core_leads {l : Nat} (h : l ∈ coreQ q) : ∃ o ∈ leadsQ q l, o ∈ coreQ q := by
  refine Classical.byContradiction fun z => ?_
  have hl := (core_lv l).mp h
  have : l ∈ freeQ q (liter q (q.length + q[0]!.length)) := by
    refine List.mem_filter.mpr ⟨hl, decide_eq_true ?_⟩
    rintro ⟨o, ho, h2⟩
    exact z ⟨o, ho, (core_lv o).mpr h2⟩
  rw [free_end] at this
  cases this
theorem layer_or_core {l : Nat} (h : l < q.length + q[0]!.length) : l ∈ coreQ q ∨ l ∈ (layersQ q).flatten := by
  by_cases z : l ∈ (layersQ q).flatten
  · exact .inr z
  · exact .inl ((core_lv l).mpr ((lv_flat _ l h).mpr z))
theorem mem_flat {l : Nat} {L : List (List Nat)} (h : l ∈ L.flatten) : ∃ k, k < L.length ∧ l ∈ L[k]! := by
  obtain ⟨s, h1, h2⟩ := List.mem_flatten.mp h
  obtain ⟨k, hk, e⟩ := List.getElem_of_mem h1
  exact ⟨k, hk, by rw [getElem!_pos L k hk, e]; exact h2⟩
theorem flat_mem {l k : Nat} {L : List (List Nat)} (hk : k < L.length) (h : l ∈ L[k]!) : l ∈ L.flatten := List.mem_flatten.mpr ⟨L[k]!, mem_get! hk, h⟩
/-- the colour of a line against one of the other kind that is in no layer up to its own -/
theorem liter_color : ∀ (n k : Nat), k < (liter q n).1.length →
    (∀ i ∈ (liter q n).1[k]!, i < q.length → ∀ j, j < q[0]!.length → (∀ m ≤ k, q.length + j ∉ (liter q n).1[m]!) → (q[i]!)[j]! = true) ∧
    (∀ j, q.length + j ∈ (liter q n).1[k]! → ∀ i, i < q.length → (∀ m ≤ k, i ∉ (liter q n).1[m]!) → (q[i]!)[j]! = false)
  | 0, k, hk => by cases hk
  | n + 1, k, hk => by
    rcases liter_succ (q := q) n with ⟨_, e⟩ | ⟨ne, e1, e2⟩
    · rw [e] at hk ⊢; exact liter_color n k hk
    · rw [e1] at hk ⊢
      rw [List.length_append, List.length_singleton] at hk
      by_cases hlt : k < (liter q n).1.length
      · obtain ⟨a, b⟩ := liter_color n k hlt
        have eq : ∀ m ≤ k, ((liter q n).1 ++ [freeQ q (liter q n)])[m]! = (liter q n).1[m]! := fun m hm => get!_append_left (by omega)
        rw [eq k (Nat.le_refl _)]
        exact ⟨fun i hi h1 j h2 hm => a i hi h1 j h2 fun m h => by rw [← eq m h]; exact hm m h, fun j hj i h1 hm => b j hj i h1 fun m h => by rw [← eq m h]; exact hm m h⟩
      · have ek : k = (liter q n).1.length := by omega
        have hr : ∀ i ∈ (liter q n).2.1, i < q.length := fun i hi => liter_row hi
        have hc : ∀ j ∈ (liter q n).2.2, j < q[0]!.length := fun j hj => liter_col hj
        have gk : ((liter q n).1 ++ [freeQ q (liter q n)])[k]! = freeQ q (liter q n) := by
          rw [get!_append_right (by omega) (by rw [List.length_singleton]; omega), ek, Nat.sub_self]; rfl
        rw [gk]
        -- a line in no list so far is left
        have left : ∀ o, o < q.length + q[0]!.length → (∀ m ≤ k, o ∉ ((liter q n).1 ++ [freeQ q (liter q n)])[m]!) → o ∈ lv q (liter q n) := fun o ho hm => by
          refine (lv_flat n o ho).mpr fun z => ?_
          obtain ⟨m, h1, h2⟩ := mem_flat z
          refine hm m (by omega) ?_
          rw [get!_append_left h1]; exact h2
        rw [freeQ_eq hr hc] at gk ⊢
        refine ⟨fun i hi h1 j h2 hm => ?_, fun j hj i h1 hm => ?_⟩
        · have hl := left (q.length + j) (by omega) (by rw [freeQ_eq hr hc]; exact hm)
          have hj : j ∈ (liter q n).2.2 := by
            rcases (mem_lv hr _).mp hl with ⟨y, _⟩ | ⟨_, y⟩
            · omega
            · rwa [Nat.add_sub_cancel_left] at y
          rcases List.mem_append.mp hi with hi | hi
          · exact of_decide_eq_true (List.mem_filter.mp hi).2 j hj
          · obtain ⟨j', _, rfl⟩ := List.mem_map.mp hi
            omega
        · have hl := left i (by omega) (by rw [freeQ_eq hr hc]; exact hm)
          have hi : i ∈ (liter q n).2.1 := by
            rcases (mem_lv hr _).mp hl with ⟨_, y⟩ | ⟨y, _⟩
            · exact y
            · omega
          rcases List.mem_append.mp hj with hj | hj
          · have := hr _ (List.mem_filter.mp hj).1
            omega
          · obtain ⟨j', h3, h4⟩ := List.mem_map.mp hj
            have h4 : q.length + j' = q.length + j := h4
            have : j' = j := by omega
            subst this
            exact of_decide_eq_true (List.mem_filter.mp h3).2 i hi
/-- layers go by turns: the lists of a kind that was told last are used up -/
theorem liter_turn : ∀ n : Nat, ((liter q n).1 ≠ [] → ((∀ l ∈ (liter q n).1[(liter q n).1.length - 1]!, l < q.length) → fullQ q (liter q n).2.1 (liter q n).2.2 = []) ∧ ((∀ l ∈ (liter q n).1[(liter q n).1.length - 1]!, q.length ≤ l) → empQ q (liter q n).2.1 (liter q n).2.2 = [])) ∧
    ∀ k, k + 1 < (liter q n).1.length → ((∀ l ∈ (liter q n).1[k]!, l < q.length) ∧ ∀ l ∈ (liter q n).1[k + 1]!, q.length ≤ l) ∨ ((∀ l ∈ (liter q n).1[k]!, q.length ≤ l) ∧ ∀ l ∈ (liter q n).1[k + 1]!, l < q.length)
  | 0 => ⟨fun h => (h rfl).elim, fun k hk => by simp [liter] at hk⟩
  | n + 1 => by
    obtain ⟨a, b⟩ := liter_turn n
    have hr : ∀ i ∈ (liter q n).2.1, i < q.length := fun i hi => liter_row hi
    by_cases f : fullQ q (liter q n).2.1 (liter q n).2.2 ≠ []
    · have e : liter q (n + 1) = ((liter q n).1 ++ [fullQ q (liter q n).2.1 (liter q n).2.2], (liter q n).2.1.filter fun i => decide (i ∉ fullQ q (liter q n).2.1 (liter q n).2.2), (liter q n).2.2) := by
        show lstep q (liter q n) = _
        unfold lstep; rw [if_pos f]
      rw [e]
      have g : ((liter q n).1 ++ [fullQ q (liter q n).2.1 (liter q n).2.2])[(liter q n).1.length]! = fullQ q (liter q n).2.1 (liter q n).2.2 := by
        rw [get!_append_right (Nat.le_refl _) (by rw [List.length_singleton]; omega), Nat.sub_self]; rfl
      have rows : ∀ l ∈ fullQ q (liter q n).2.1 (liter q n).2.2, l < q.length := fun l hl => hr l (List.mem_filter.mp hl).1
      refine ⟨fun _ => ⟨fun _ => ?_, fun h => ?_⟩, fun k hk => ?_⟩
      · refine List.filter_eq_nil_iff.mpr fun i hi z => ?_
        obtain ⟨h1, h2⟩ := List.mem_filter.mp hi
        exact of_decide_eq_true h2 (List.mem_filter.mpr ⟨h1, z⟩)
      · simp only [List.length_append, List.length_singleton, Nat.add_sub_cancel] at h
        rw [g] at h
        obtain ⟨z, hz⟩ := List.exists_mem_of_ne_nil _ f
        have := h z hz; have := rows z hz; omega
      · simp only [List.length_append, List.length_singleton] at hk
        by_cases hlt : k + 1 < (liter q n).1.length
        · rw [get!_append_left (by omega), get!_append_left hlt]; exact b k hlt
        · have ek : k + 1 = (liter q n).1.length := by omega
          have kk : k = (liter q n).1.length - 1 := by omega
          have ne : (liter q n).1 ≠ [] := fun z => by rw [z] at ek; simp at ek
          rw [ek, g, get!_append_left (by omega), kk]
          refine .inr ⟨?_, rows⟩
          have hm := mem_get! (xs := (liter q n).1) (i := (liter q n).1.length - 1) (by omega)
          rcases (liter_layer n _ hm).2.2 with h | h
          · exact (f ((a ne).1 h)).elim
          · exact fun l hl => (h l hl).1
    · have f0 : fullQ q (liter q n).2.1 (liter q n).2.2 = [] := Classical.not_not.mp f
      by_cases m : empQ q (liter q n).2.1 (liter q n).2.2 ≠ []
      · have e : liter q (n + 1) = ((liter q n).1 ++ [(empQ q (liter q n).2.1 (liter q n).2.2).map fun j => q.length + j], (liter q n).2.1, (liter q n).2.2.filter fun j => decide (j ∉ empQ q (liter q n).2.1 (liter q n).2.2)) := by
          show lstep q (liter q n) = _
          unfold lstep; rw [if_neg f, if_pos m]
        rw [e]
        have g : ((liter q n).1 ++ [(empQ q (liter q n).2.1 (liter q n).2.2).map fun j => q.length + j])[(liter q n).1.length]! = (empQ q (liter q n).2.1 (liter q n).2.2).map fun j => q.length + j := by
          rw [get!_append_right (Nat.le_refl _) (by rw [List.length_singleton]; omega), Nat.sub_self]; rfl
        have cols : ∀ l ∈ (empQ q (liter q n).2.1 (liter q n).2.2).map (fun j => q.length + j), q.length ≤ l := fun l hl => by
          obtain ⟨j, _, rfl⟩ := List.mem_map.mp hl; omega
        have mne : (empQ q (liter q n).2.1 (liter q n).2.2).map (fun j => q.length + j) ≠ [] := fun z => m (List.map_eq_nil_iff.mp z)
        refine ⟨fun _ => ⟨fun h => ?_, fun _ => ?_⟩, fun k hk => ?_⟩
        · simp only [List.length_append, List.length_singleton, Nat.add_sub_cancel] at h
          rw [g] at h
          obtain ⟨z, hz⟩ := List.exists_mem_of_ne_nil _ mne
          have := h z hz; have := cols z hz; omega
        · refine List.filter_eq_nil_iff.mpr fun i hi z => ?_
          obtain ⟨h1, h2⟩ := List.mem_filter.mp hi
          exact of_decide_eq_true h2 (List.mem_filter.mpr ⟨h1, z⟩)
        · simp only [List.length_append, List.length_singleton] at hk
          by_cases hlt : k + 1 < (liter q n).1.length
          · rw [get!_append_left (by omega), get!_append_left hlt]; exact b k hlt
          · have ek : k + 1 = (liter q n).1.length := by omega
            have kk : k = (liter q n).1.length - 1 := by omega
            have ne : (liter q n).1 ≠ [] := fun z => by rw [z] at ek; simp at ek
            rw [ek, g, get!_append_left (by omega), kk]
            refine .inl ⟨?_, cols⟩
            have hm := mem_get! (xs := (liter q n).1) (i := (liter q n).1.length - 1) (by omega)
            rcases (liter_layer n _ hm).2.2 with h | h
            · exact h
            · exact (m ((a ne).2 fun l hl => (h l hl).1)).elim
      · have e : liter q (n + 1) = liter q n := by
          show lstep q (liter q n) = _
          unfold lstep; rw [if_neg f, if_neg m]
        rw [e]; exact ⟨a, b⟩
theorem color_row {i j k : Nat} (hk : k < (layersQ q).length) (hi : i ∈ (layersQ q)[k]!) (h1 : i < q.length) (h2 : j < q[0]!.length) (hm : ∀ m ≤ k, q.length + j ∉ (layersQ q)[m]!) : (q[i]!)[j]! = true := (liter_color _ k hk).1 i hi h1 j h2 hm
theorem color_col {i j k : Nat} (hk : k < (layersQ q).length) (hj : q.length + j ∈ (layersQ q)[k]!) (h1 : i < q.length) (hm : ∀ m ≤ k, i ∉ (layersQ q)[m]!) : (q[i]!)[j]! = false := (liter_color _ k hk).2 j hj i h1 hm
theorem layers_turn {k : Nat} (hk : k + 1 < (layersQ q).length) : ((∀ l ∈ (layersQ q)[k]!, l < q.length) ∧ ∀ l ∈ (layersQ q)[k + 1]!, q.length ≤ l) ∨ ((∀ l ∈ (layersQ q)[k]!, q.length ≤ l) ∧ ∀ l ∈ (layersQ q)[k + 1]!, l < q.length) := (liter_turn _).2 k hk
theorem layers_nodup : (layersQ q).flatten.Nodup := (nodup_flat _).1
theorem layers_lt {l : Nat} (h : l ∈ (layersQ q).flatten) : l < q.length + q[0]!.length := by
  obtain ⟨s, h1, h2⟩ := List.mem_flatten.mp h
  rcases (layersQ_layer s h1).2.2 with z | z
  · have := z l h2; omega
  · exact (z l h2).2
theorem nodup_idx {L : List (List Nat)} (h : L.flatten.Nodup) {a b l : Nat} (ha : a < L.length) (hb : b < L.length) (h1 : l ∈ L[a]!) (h2 : l ∈ L[b]!) : a = b := by
  induction L generalizing a b with
  | nil => cases ha
  | cons s L ih =>
    rw [List.flatten_cons] at h
    obtain ⟨n1, n2, n3⟩ := List.nodup_append.mp h
    cases a with
    | zero =>
      cases b with
      | zero => rfl
      | succ b => exact (n3 l h1 l (flat_mem (by simpa using hb) h2) rfl).elim
    | succ a =>
      cases b with
      | zero => exact (n3 l h2 l (flat_mem (by simpa using ha) h1) rfl).elim
      | succ b => rw [ih n2 (by simpa using ha) (by simpa using hb) h1 h2]
end
end W
set_option maxHeartbeats 1000000
namespace W
open PySem L2 G T
/-- the last deed that meets a cell: its colour -/
def hit (h i j : Nat) : List Nat → Option Bool
  | [] => none
  | l :: ls => (hit h i j ls).or (if l = i then some true else if l = h + j then some false else none)
theorem hit_cons (h i j l : Nat) (ls : List Nat) : hit h i j (l :: ls) = (hit h i j ls).or (if l = i then some true else if l = h + j then some false else none) := rfl
theorem hit_app (h i j : Nat) (a b : List Nat) : hit h i j (a ++ b) = (hit h i j b).or (hit h i j a) := by
  induction a with
  | nil => simp [hit]
  | cons l a ih =>
    rw [List.cons_append, hit_cons, hit_cons, ih, Option.or_assoc]
theorem hit_none {h i j : Nat} : ∀ {ls : List Nat}, i ∉ ls → h + j ∉ ls → hit h i j ls = none
  | [], _, _ => rfl
  | l :: ls, h1, h2 => by
    rw [hit_cons]
    rw [hit_none (fun z => h1 (List.mem_cons_of_mem _ z)) (fun z => h2 (List.mem_cons_of_mem _ z)), if_neg (fun e => h1 (by rw [e]; exact List.mem_cons_self)), if_neg (fun e => h2 (by rw [e]; exact List.mem_cons_self))]; rfl
theorem hit_true {h i j : Nat} : ∀ {ls : List Nat}, hit h i j ls = some true → i ∈ ls
  | l :: ls, e => by
    rw [hit_cons] at e
    cases q : hit h i j ls with
    | some b =>
      rw [q] at e
      have e : some b = some true := e
      exact List.mem_cons_of_mem _ (hit_true (q.trans e))
    | none =>
      rw [q] at e
      have e : (if l = i then some true else if l = h + j then some false else none) = some true := e
      split at e
      · rename_i z; rw [z]; exact List.mem_cons_self
      · split at e <;> cases e
theorem hit_false {h i j : Nat} : ∀ {ls : List Nat}, hit h i j ls = some false → h + j ∈ ls
  | l :: ls, e => by
    rw [hit_cons] at e
    cases q : hit h i j ls with
    | some b =>
      rw [q] at e
      have e : some b = some false := e
      exact List.mem_cons_of_mem _ (hit_false (q.trans e))
    | none =>
      rw [q] at e
      have e : (if l = i then some true else if l = h + j then some false else none) = some false := e
      split at e
      · cases e
      · split at e
        · rename_i z; rw [← z]; exact List.mem_cons_self
        · cases e
theorem hit_some {h i j : Nat} : ∀ {ls : List Nat}, (i ∈ ls ∨ h + j ∈ ls) → ∃ b, hit h i j ls = some b
  | [], e => by simp at e
  | l :: ls, e => by
    rw [hit_cons]
    cases q : hit h i j ls with
    | some b => exact ⟨b, rfl⟩
    | none =>
      by_cases z : l = i
      · rw [if_pos z]; exact ⟨true, rfl⟩
      · rw [if_neg z]
        by_cases y : l = h + j
        · rw [if_pos y]; exact ⟨false, rfl⟩
        · have : i ∈ ls ∨ h + j ∈ ls := e.imp (fun e => (List.mem_cons.mp e).resolve_left fun x => z x.symm) (fun e => (List.mem_cons.mp e).resolve_left fun x => y x.symm)
          obtain ⟨b, hb⟩ := hit_some (ls := ls) this
          rw [hb] at q; cases q
section
variable {p q : Pic}
theorem linesQ_get (k : PicP p) {i j : Nat} (hi : i < p.length) (hj : j < p[0]!.length) (ls : List Nat) : ((linesQ p ls)[i]!)[j]! = (hit p.length i j ls).getD ((p[i]!)[j]!) := by
  induction ls generalizing p with
  | nil => rfl
  | cons l ls ih =>
    have e := ih (p := lineQ p l) (lineQ_pp k l) (by rw [lineQ_len]; exact hi) (by rw [lineQ_wid k]; exact hj)
    show ((linesQ (lineQ p l) ls)[i]!)[j]! = _
    rw [e, lineQ_len, lineQ_get hi hj]
    rw [hit_cons]
    cases hit p.length i j ls with
    | some b => rfl
    | none =>
      show (if l = i then true else if l = p.length + j then false else (p[i]!)[j]!) = _
      by_cases z : l = i
      · rw [if_pos z, if_pos z]; rfl
      · rw [if_neg z, if_neg z]
        by_cases y : l = p.length + j
        · rw [if_pos y, if_pos y]; rfl
        · rw [if_neg y, if_neg y]; rfl
/-- the cells where two pictures differ, row by row -/
def diffQ (p q : Pic) : List (Nat × Nat) := (List.range p.length).flatMap fun i => ((List.range p[0]!.length).filter fun j => decide ((p[i]!)[j]! ≠ (q[i]!)[j]!)).map fun j => (i, j)
/-- both pictures are on one board -/
structure Like (p q : Pic) : Prop where
  pp : PicP p
  qq : PicP q
  hh : p.length = q.length
  ww : p[0]!.length = q[0]!.length
theorem mem_diff {c : Nat × Nat} : c ∈ diffQ p q ↔ c.1 < p.length ∧ c.2 < p[0]!.length ∧ (p[c.1]!)[c.2]! ≠ (q[c.1]!)[c.2]! := by
  unfold diffQ
  rw [List.mem_flatMap]
  constructor
  · rintro ⟨i, hi, h⟩
    obtain ⟨j, hj, rfl⟩ := List.mem_map.mp h
    obtain ⟨a, b⟩ := List.mem_filter.mp hj
    exact ⟨List.mem_range.mp hi, List.mem_range.mp a, of_decide_eq_true b⟩
  · rintro ⟨a, b, c'⟩
    exact ⟨c.1, List.mem_range.mpr a, List.mem_map.mpr ⟨c.2, List.mem_filter.mpr ⟨List.mem_range.mpr b, decide_eq_true c'⟩, rfl⟩⟩
/-- a cell lies in one of some lines -/
abbrev Touch (h : Nat) (c : Nat × Nat) (s : List Nat) : Prop := c.1 ∈ s ∨ h + c.2 ∈ s
def leastL (h : Nat) : List (List Nat) → List (Nat × Nat) → Option (List (List Nat))
  | [], left => if left = [] then some [] else none
  | s :: ls, left => if left = [] then some [] else
    if left.filter (fun c => decide (¬Touch h c s)) = [] then some [s.filter fun l => decide (∃ c ∈ left, l = c.1 ∨ l = h + c.2)]
    else (leastL h ls (left.filter fun c => decide (¬Touch h c s))).map (s :: ·)
def leastQ (p q : Pic) : Option (List (List Nat)) := leastL p.length (layersQ q) (diffQ p q)
/-- the cells of difference in no layer ahead of the n-th -/
def leftQ (p q : Pic) (n : Nat) : List (Nat × Nat) := (diffQ p q).filter fun c => decide (∀ m < n, ¬Touch p.length c (layersQ q)[m]!)
theorem leftQ_zero (p q : Pic) : leftQ p q 0 = diffQ p q := List.filter_eq_self.mpr fun c _ => decide_eq_true fun m hm => by omega
theorem leftQ_succ (p q : Pic) (n : Nat) : (leftQ p q n).filter (fun c => decide (¬Touch p.length c (layersQ q)[n]!)) = leftQ p q (n + 1) := by
  unfold leftQ
  rw [List.filter_filter]
  refine List.filter_congr fun c _ => ?_
  rw [← Bool.decide_and]
  refine decide_eq_decide.mpr ⟨fun ⟨a, b⟩ m hm => ?_, fun a => ⟨a n (by omega), fun m hm => a m (by omega)⟩⟩
  by_cases e : m = n
  · rw [e]; exact a
  · exact b m (by omega)
theorem drop_cons {α : Type} [Inhabited α] {L : List α} {n : Nat} {s : α} {ls : List α} (h : L.drop n = s :: ls) : n < L.length ∧ s = L[n]! ∧ ls = L.drop (n + 1) := by
  have hn : n < L.length := by
    refine Classical.byContradiction fun z => ?_
    rw [List.drop_of_length_le (by omega)] at h; cases h
  rw [List.drop_eq_getElem_cons hn] at h
  injection h with h1 h2
  exact ⟨hn, by rw [getElem!_pos L n hn, h1], h2.symm⟩
theorem drop_nil {α : Type} {L : List α} {n : Nat} (h : L.drop n = []) : L.length ≤ n := by
  have := congrArg List.length h
  rw [List.length_drop] at this
  simp at this; omega
/-- the least set, told from the n-th layer on, makes the goal at the cells in no layer ahead of it -/
theorem least_makes (k : Like p q) : ∀ (ls : List (List Nat)) (n : Nat) (told : List (List Nat)), (layersQ q).drop n = ls → leastL p.length ls (leftQ p q n) = some told →
    ∀ i j, i < p.length → j < p[0]!.length → (∀ m < n, ¬Touch p.length (i, j) (layersQ q)[m]!) → (hit p.length i j told.reverse.flatten).getD ((p[i]!)[j]!) = (q[i]!)[j]! := by
  have same : ∀ n i j, leftQ p q n = [] → i < p.length → j < p[0]!.length → (∀ m < n, ¬Touch p.length (i, j) (layersQ q)[m]!) → (p[i]!)[j]! = (q[i]!)[j]! := fun n i j e hi hj hm => by
    refine Classical.byContradiction fun z => ?_
    have : (i, j) ∈ leftQ p q n := List.mem_filter.mpr ⟨mem_diff.mpr ⟨hi, hj, z⟩, decide_eq_true hm⟩
    rw [e] at this; cases this
  intro ls
  induction ls with
  | nil =>
    intro n told hd he i j hi hj hm
    unfold leastL at he
    split at he
    · rename_i e
      cases he
      exact same n i j e hi hj hm
    · cases he
  | cons s ls ih =>
    intro n told hd he i j hi hj hm
    obtain ⟨hn, es, el⟩ := drop_cons hd
    subst es
    unfold leastL at he
    split at he
    · rename_i e
      cases he
      exact same n i j e hi hj hm
    · rename_i ne
      rw [leftQ_succ] at he
      -- the layer's own colour
      have row : i ∈ (layersQ q)[n]! → (q[i]!)[j]! = true := fun h => by
        refine color_row hn h (by rw [← k.hh]; exact hi) (by rw [← k.ww]; exact hj) fun m hmn z => ?_
        rw [← k.hh] at z
        by_cases e : m = n
        · subst e
          rcases (layersQ_layer _ (mem_get! hn)).2.2 with y | y
          · have := y _ z; rw [← k.hh] at this; omega
          · have := (y _ h).1; rw [← k.hh] at this; omega
        · exact hm m (by omega) (.inr z)
      have col : p.length + j ∈ (layersQ q)[n]! → (q[i]!)[j]! = false := fun h => by
        rw [k.hh] at h
        refine color_col hn h (by rw [← k.hh]; exact hi) fun m hmn z => ?_
        by_cases e : m = n
        · subst e
          rcases (layersQ_layer _ (mem_get! hn)).2.2 with y | y
          · have := y _ h; omega
          · have := (y _ z).1; rw [← k.hh] at this; omega
        · exact hm m (by omega) (.inl z)
      -- what a list of lines of the layer does
      have one : ∀ s', (∀ l ∈ s', l ∈ (layersQ q)[n]!) → (i ∈ s' ∨ p.length + j ∈ s') → hit p.length i j s' = some ((q[i]!)[j]!) := fun s' hs' h => by
        obtain ⟨b, hb⟩ := hit_some h
        rw [hb]
        cases b with
        | true => rw [row (hs' _ (hit_true hb))]
        | false => rw [col (hs' _ (hit_false hb))]
      split at he
      · rename_i e
        cases he
        simp only [List.reverse_cons, List.reverse_nil, List.nil_append, List.flatten_cons, List.flatten_nil, List.append_nil]
        by_cases t : i ∈ ((layersQ q)[n]!).filter (fun l => decide (∃ c ∈ leftQ p q n, l = c.1 ∨ l = p.length + c.2)) ∨ p.length + j ∈ ((layersQ q)[n]!).filter (fun l => decide (∃ c ∈ leftQ p q n, l = c.1 ∨ l = p.length + c.2))
        · rw [one _ (fun l hl => (List.mem_filter.mp hl).1) t]; rfl
        · rw [hit_none (fun z => t (.inl z)) (fun z => t (.inr z))]
          show (p[i]!)[j]! = _
          refine Classical.byContradiction fun z => ?_
          have hc : (i, j) ∈ leftQ p q n := List.mem_filter.mpr ⟨mem_diff.mpr ⟨hi, hj, z⟩, decide_eq_true hm⟩
          by_cases u : Touch p.length (i, j) (layersQ q)[n]!
          · rcases u with u | u
            · exact t (.inl (List.mem_filter.mpr ⟨u, decide_eq_true ⟨_, hc, .inl rfl⟩⟩))
            · exact t (.inr (List.mem_filter.mpr ⟨u, decide_eq_true ⟨_, hc, .inr rfl⟩⟩))
          · have : (i, j) ∈ leftQ p q (n + 1) := by rw [← leftQ_succ]; exact List.mem_filter.mpr ⟨hc, decide_eq_true u⟩
            rw [e] at this; cases this
      · obtain ⟨told', ht, rfl⟩ := Option.map_eq_some_iff.mp he
        rw [List.reverse_cons, List.flatten_append, hit_app]
        simp only [List.flatten_cons, List.flatten_nil, List.append_nil]
        by_cases t : i ∈ (layersQ q)[n]! ∨ p.length + j ∈ (layersQ q)[n]!
        · rw [one _ (fun l hl => hl) t]; rfl
        · rw [hit_none (fun z => t (.inl z)) (fun z => t (.inr z)), Option.none_or]
          refine ih (n + 1) told' el.symm ht i j hi hj fun m hmn => ?_
          by_cases e : m = n
          · rw [e]; exact t
          · exact hm m (by omega)
theorem Like.sd (k : Like p q) (ls : List Nat) : Like (linesQ p ls) q := by
  obtain ⟨a, b, c⟩ := linesQ_pp k.pp ls
  exact ⟨a, k.qq, by rw [b, k.hh], by rw [c, k.ww]⟩
/-- painting the least set, the last layers first, makes the goal -/
theorem least_way (k : Like p q) {told : List (List Nat)} (h : leastQ p q = some told) : linesQ p told.reverse.flatten = q := by
  have s := k.sd told.reverse.flatten
  obtain ⟨a, b, c⟩ := linesQ_pp k.pp told.reverse.flatten
  refine pic_ext s.pp s.qq s.hh s.ww fun i j hi hj => ?_
  rw [b] at hi
  rw [c] at hj
  rw [linesQ_get k.pp hi hj]
  refine least_makes k (layersQ q) 0 told rfl ?_ i j hi hj fun m hm => by omega
  rw [leftQ_zero]; exact h
theorem made_closed (k : Like p q) {ds : List Nat} (h : linesQ p ds = q) {i j : Nat} (hi : i < p.length) (hj : j < p[0]!.length) :
    (i ∈ ds → (q[i]!)[j]! = false → p.length + j ∈ ds) ∧ (p.length + j ∈ ds → (q[i]!)[j]! = true → i ∈ ds) ∧ ((p[i]!)[j]! ≠ (q[i]!)[j]! → ((q[i]!)[j]! = true → i ∈ ds) ∧ ((q[i]!)[j]! = false → p.length + j ∈ ds)) := by
  have e : (q[i]!)[j]! = (hit p.length i j ds).getD ((p[i]!)[j]!) := by rw [← linesQ_get k.pp hi hj, h]
  refine ⟨fun a b => ?_, fun a b => ?_, fun ne => ?_⟩
  · obtain ⟨c, hc⟩ := hit_some (h := p.length) (j := j) (.inl a)
    rw [hc] at e
    have e : (q[i]!)[j]! = c := e
    rw [b] at e; subst e
    exact hit_false hc
  · obtain ⟨c, hc⟩ := hit_some (h := p.length) (i := i) (j := j) (.inr a)
    rw [hc] at e
    have e : (q[i]!)[j]! = c := e
    rw [b] at e; subst e
    exact hit_true hc
  · cases hc : hit p.length i j ds with
    | none => rw [hc] at e; exact (ne e.symm).elim
    | some c =>
      rw [hc] at e
      have e : (q[i]!)[j]! = c := e
      rw [e]
      exact ⟨fun y => by subst y; exact hit_true hc, fun y => by subst y; exact hit_false hc⟩
/-- no line that is painted is in the core of what it makes -/
theorem made_core (k : Like p q) {ds : List Nat} (h : linesQ p ds = q) {l : Nat} (hl : l ∈ ds) : l ∉ coreQ q := by
  -- the last line of the core that is painted
  have key : ∀ (b a : List Nat), ds = a ++ b → (∀ x ∈ b, x ∉ coreQ q) → ∀ x ∈ a, x ∉ coreQ q := by
    intro b a
    induction hn : a.length generalizing a b with
    | zero => intro _ _ x hx; rw [List.length_eq_zero_iff.mp hn] at hx; cases hx
    | succ n ih =>
      rcases List.eq_nil_or_concat a with ea | ⟨a', x, ea⟩
      · rw [ea] at hn; cases hn
      rw [List.concat_eq_append] at ea
      subst ea
      have hn' : a'.length = n := by simp at hn; exact hn
      generalize a' = a at hn' ⊢
      have ih := fun b => ih b a hn'
      intro e hb y hy
      have hx : x ∉ coreQ q := fun hx => by
        obtain ⟨o, ho, hoc⟩ := core_leads hx
        have e2 : ds = a ++ ([x] ++ b) := by rw [e, List.append_assoc]
        have xl := coreQ_lt hx
        unfold leadsQ at ho
        split at ho
        · rename_i lt
          obtain ⟨j, hj, rfl⟩ := List.mem_map.mp ho
          obtain ⟨j1, j2⟩ := List.mem_filter.mp hj
          have j1 := List.mem_range.mp j1
          have j2 := of_decide_eq_true j2
          have c := linesQ_get k.pp (i := x) (j := j) (by rw [k.hh]; exact lt) (by rw [k.ww]; exact j1) ds
          rw [h, j2, e2, hit_app, hit_app, hit_none (fun z => hb _ z hx) (fun z => hb _ z (by rw [k.hh]; exact hoc))] at c
          have c2 : hit p.length x j [x] = some true := by rw [hit_cons, if_pos rfl]; rfl
          rw [c2] at c
          have c : false = true := c
          cases c
        · rename_i nlt
          obtain ⟨j1, j2⟩ := List.mem_filter.mp ho
          have j1 := List.mem_range.mp j1
          have j2 := of_decide_eq_true j2
          have c := linesQ_get k.pp (i := o) (j := x - q.length) (by rw [k.hh]; exact j1) (by rw [k.ww]; omega) ds
          have ex : p.length + (x - q.length) = x := by rw [k.hh]; omega
          rw [h, j2, e2, hit_app, hit_app, hit_none (fun z => hb _ z hoc) (fun z => hb _ z (by rw [ex]; exact hx))] at c
          have c2 : hit p.length o (x - q.length) [x] = some false := by
            rw [hit_cons, if_neg (by omega), if_pos ex.symm]; rfl
          rw [c2] at c
          have c : true = false := c
          cases c
      rcases List.mem_append.mp hy with hy | hy
      · exact ih ([x] ++ b) (by rw [e, List.append_assoc]) (fun z hz => by
          rcases List.mem_append.mp hz with hz | hz
          · rw [List.mem_singleton.mp hz]; exact hx
          · exact hb z hz) y hy
      · rw [List.mem_singleton.mp hy]; exact hx
  exact key [] ds (by simp) (fun x hx => by cases hx) l hl
/-- the least set, told from the n-th layer on: it is there, and all of it is painted -/
theorem least_in (k : Like p q) {ds : List Nat} (h : linesQ p ds = q) (hds : ∀ l ∈ ds, l < p.length + p[0]!.length) : ∀ (ls : List (List Nat)) (n : Nat), (layersQ q).drop n = ls →
    ∃ told, leastL p.length ls (leftQ p q n) = some told ∧ (∀ l ∈ told.flatten, l ∈ ds) ∧ (leftQ p q n ≠ [] → ∃ x, x ∈ told.flatten ∧ x ∈ (layersQ q)[n]!) := by
  intro ls
  induction ls with
  | nil =>
    intro n hd
    have e : leftQ p q n = [] := by
      refine List.filter_eq_nil_iff.mpr fun c hc z => ?_
      have z := of_decide_eq_true z
      obtain ⟨c1, c2, c3⟩ := mem_diff.mp hc
      obtain ⟨m1, m2⟩ := (made_closed k h c1 c2).2.2 c3
      have : ∃ x, x ∈ ds ∧ (x = c.1 ∨ x = p.length + c.2) := by
        cases y : (q[c.1]!)[c.2]! with
        | true => exact ⟨_, m1 y, .inl rfl⟩
        | false => exact ⟨_, m2 y, .inr rfl⟩
      obtain ⟨x, hx, hxc⟩ := this
      have hl := hds x hx
      rw [k.hh, k.ww] at hl
      rcases layer_or_core hl with y | y
      · exact made_core k h hx y
      · obtain ⟨m, hm, hxm⟩ := mem_flat y
        have := drop_nil hd
        refine z m (by omega) ?_
        rcases hxc with e | e
        · exact .inl (e ▸ hxm)
        · exact .inr (e ▸ hxm)
    refine ⟨[], ?_, (fun l hl => (by cases hl)), fun ne => (ne e).elim⟩
    unfold leastL; rw [if_pos e]
  | cons s ls ih =>
    intro n hd
    obtain ⟨hn, es, el⟩ := drop_cons hd
    subst es
    by_cases e : leftQ p q n = []
    · refine ⟨[], ?_, (fun l hl => (by cases hl)), fun ne => (ne e).elim⟩
      unfold leastL; rw [if_pos e]
    -- a cell left, met by a line of this layer, makes that line painted
    have need : ∀ c ∈ leftQ p q n, ∀ l ∈ (layersQ q)[n]!, (l = c.1 ∨ l = p.length + c.2) → l ∈ ds := fun c hc l hl hlc => by
      obtain ⟨c0, z⟩ := List.mem_filter.mp hc
      have z := of_decide_eq_true z
      obtain ⟨c1, c2, c3⟩ := mem_diff.mp c0
      obtain ⟨m1, m2⟩ := (made_closed k h c1 c2).2.2 c3
      have kind := (layersQ_layer _ (mem_get! hn)).2.2
      rcases hlc with rfl | rfl
      · refine m1 (color_row hn hl (by rw [← k.hh]; exact c1) (by rw [← k.ww]; exact c2) fun m hm y => ?_)
        rw [← k.hh] at y
        by_cases e : m = n
        · subst e
          rcases kind with u | u
          · have := u _ y; rw [← k.hh] at this; omega
          · have := (u _ hl).1; rw [← k.hh] at this; omega
        · exact z m (by omega) (.inr y)
      · refine m2 (color_col hn (by rw [← k.hh]; exact hl) (by rw [← k.hh]; exact c1) fun m hm y => ?_)
        by_cases e : m = n
        · subst e
          rcases kind with u | u
          · have := u _ hl; rw [← k.hh] at this; omega
          · have := (u _ y).1; rw [← k.hh] at this; omega
        · exact z m (by omega) (.inl y)
    by_cases e2 : leftQ p q (n + 1) = []
    · refine ⟨_, by unfold leastL; rw [if_neg e, leftQ_succ, if_pos e2], fun l hl => ?_, fun _ => ?_⟩
      · simp only [List.flatten_cons, List.flatten_nil, List.append_nil] at hl
        obtain ⟨l1, l2⟩ := List.mem_filter.mp hl
        obtain ⟨c, hc, hlc⟩ := of_decide_eq_true l2
        exact need c hc l l1 hlc
      · obtain ⟨c, hc⟩ := List.exists_mem_of_ne_nil _ e
        have t : Touch p.length c (layersQ q)[n]! := Classical.byContradiction fun y => by
          have : c ∈ leftQ p q (n + 1) := by rw [← leftQ_succ]; exact List.mem_filter.mpr ⟨hc, decide_eq_true y⟩
          rw [e2] at this; cases this
        simp only [List.flatten_cons, List.flatten_nil, List.append_nil]
        rcases t with t | t
        · exact ⟨_, List.mem_filter.mpr ⟨t, decide_eq_true ⟨c, hc, .inl rfl⟩⟩, t⟩
        · exact ⟨_, List.mem_filter.mpr ⟨t, decide_eq_true ⟨c, hc, .inr rfl⟩⟩, t⟩
    · obtain ⟨told', h1, h2, h3⟩ := ih (n + 1) el.symm
      obtain ⟨x, hx, hxl⟩ := h3 e2
      have xd := h2 x hx
      have hn1 : n + 1 < (layersQ q).length := by
        refine Classical.byContradiction fun y => ?_
        have : (layersQ q)[n + 1]! = [] := by
          rw [List.getElem!_eq_getElem?_getD, List.getElem?_eq_none (by omega)]; rfl
        rw [this] at hxl; cases hxl
      -- the next layer's line leads to all of this layer
      have all : ∀ l ∈ (layersQ q)[n]!, l ∈ ds := fun l hl => by
        have xl := hds x xd
        have no : ∀ m ≤ n, x ∉ (layersQ q)[m]! := fun m hm y => by
          have := nodup_idx layers_nodup (show m < (layersQ q).length by omega) hn1 y hxl
          omega
        have ll := layers_lt (flat_mem hn hl)
        rw [← k.hh, ← k.ww] at ll
        rcases layers_turn hn1 with ⟨a, b⟩ | ⟨a, b⟩
        · -- rows, then columns
          have l1 := a l hl
          have x1 := b x hxl
          rw [← k.hh] at l1 x1
          have ex : p.length + (x - p.length) = x := by omega
          have c := color_row hn hl (j := x - p.length) (by rw [← k.hh]; exact l1) (by rw [← k.ww]; omega) (by rw [← k.hh, ex]; exact no)
          exact (made_closed k h l1 (show x - p.length < p[0]!.length by omega)).2.1 (by rw [ex]; exact xd) c
        · have l1 := a l hl
          have x1 := b x hxl
          rw [← k.hh] at l1 x1
          have ex : p.length + (l - p.length) = l := by omega
          have c := color_col hn (j := l - p.length) (i := x) (by rw [← k.hh, ex]; exact hl) (by rw [← k.hh]; exact x1) no
          have := (made_closed k h x1 (show l - p.length < p[0]!.length by omega)).1 xd c
          rwa [ex] at this
      refine ⟨(layersQ q)[n]! :: told', by unfold leastL; rw [if_neg e, leftQ_succ, if_neg e2, h1]; rfl, fun l hl => ?_, fun _ => ?_⟩
      · rw [List.flatten_cons] at hl
        rcases List.mem_append.mp hl with hl | hl
        · exact all l hl
        · exact h2 l hl
      · obtain ⟨z, hz⟩ := List.exists_mem_of_ne_nil _ (layersQ_layer _ (mem_get! hn)).1
        exact ⟨z, by rw [List.flatten_cons]; exact List.mem_append_left _ hz, hz⟩
/-- what deeds make comes, and all lines of the least set are among them -/
theorem least_made (k : Like p q) {ds : List Nat} (h : linesQ p ds = q) (hds : ∀ l ∈ ds, l < p.length + p[0]!.length) : ∃ told, leastQ p q = some told ∧ ∀ l ∈ told.flatten, l ∈ ds := by
  obtain ⟨told, a, b, _⟩ := least_in k h hds (layersQ q) 0 rfl
  rw [leftQ_zero] at a
  exact ⟨told, a, b⟩
/-- the least set's lists are parts of the layers, in their order -/
inductive Parts : List (List Nat) → List (List Nat) → Prop
  | nil {L : List (List Nat)} : Parts [] L
  | last {s t : List Nat} {L : List (List Nat)} : t.Sublist s → Parts [t] (s :: L)
  | cons {s : List Nat} {T L : List (List Nat)} : Parts T L → Parts (s :: T) (s :: L)
theorem least_parts {h : Nat} : ∀ {ls : List (List Nat)} {left : List (Nat × Nat)} {told : List (List Nat)}, leastL h ls left = some told → Parts told ls
  | [], left, told, e => by
    unfold leastL at e
    split at e
    · cases e; exact .nil
    · cases e
  | s :: ls, left, told, e => by
    unfold leastL at e
    split at e
    · cases e; exact .nil
    · split at e
      · cases e; exact .last List.filter_sublist
      · obtain ⟨t, h1, rfl⟩ := Option.map_eq_some_iff.mp e
        exact .cons (least_parts h1)
theorem Parts.sub {T L : List (List Nat)} (h : Parts T L) : T.flatten.Sublist L.flatten := by
  induction h with
  | nil => exact List.nil_sublist _
  | last h =>
    simp only [List.flatten_cons, List.flatten_nil, List.append_nil]
    exact h.trans (List.sublist_append_left _ _)
  | cons _ ih =>
    rw [List.flatten_cons, List.flatten_cons]
    exact (List.Sublist.refl _).append ih
theorem least_nodup {told : List (List Nat)} (h : leastQ p q = some told) : told.flatten.Nodup := layers_nodup.sublist (least_parts h).sub
end
end W
set_option maxHeartbeats 1000000
namespace W
open PySem L2 G T
theorem enumP_get {α : Type} [Inhabited α] {xs : List α} {i : Nat} {x : Nat × α} (h : (enumP xs)[i]? = some x) : x = (i, xs[i]!) ∧ xs[i]? = some xs[i]! ∧ i < xs.length := by
  rw [enumP_eq] at h
  have hi : i < xs.length := by
    have := (List.getElem?_eq_some_iff.mp h).1
    simpa using this
  rw [List.getElem?_map, List.getElem?_range hi] at h
  exact ⟨(Option.some.inj h).symm, by rw [List.getElem?_eq_getElem hi, getElem!_pos xs i hi], hi⟩
theorem get!_get? {α : Type} [Inhabited α] {xs : List α} {i : Nat} (h : i < xs.length) : xs[i]? = some xs[i]! := by rw [List.getElem?_eq_getElem h, getElem!_pos xs i h]
theorem len_sub {a b : List Nat} (nd : a.Nodup) (h : ∀ x ∈ a, x ∈ b) : a.length ≤ b.length := by
  induction a generalizing b with
  | nil => exact Nat.zero_le _
  | cons x a ih =>
    obtain ⟨n1, n2⟩ := List.nodup_cons.mp nd
    have hx := h x List.mem_cons_self
    have := ih (b := b.erase x) n2 fun y hy => (List.mem_erase_of_ne (fun e => n1 (by rw [← e]; exact hy))).mpr (h y (List.mem_cons_of_mem _ hy))
    rw [List.length_erase_of_mem hx] at this
    have : 0 < b.length := List.length_pos_of_mem hx
    rw [List.length_cons]; omega
end W
set_option maxHeartbeats 1000000
namespace T
open PySem L2 G
theorem ev_allB {xs : List Bool} {env : DEnv} {tp t1' : List D} {m : SE D} (h : m env tp = .ok (eL eB xs) t1') : callB allD (consA m nilA) env tp = .ok (eB (xs.all id)) t1' :=
  ev_callB (ev_cons h ev_nil) (by
    show (unB (xs.map eB)).map (fun bs => D.bl (bs.all id)) = _
    rw [unB_map]; rfl)
end T
namespace W
open PySem L2 G T
theorem keys_true (xs : List Nat) (x : Nat) : x ∈ dkeys (dictOf (xs.map fun x => (x, true))) ↔ x ∈ xs := by
  rw [mem_dictOf]
  unfold dkeys
  rw [List.map_map]
  have : ((fun p : Nat × Bool => p.1) ∘ fun x => (x, true)) = id := rfl
  rw [this, List.map_id]
theorem keys_flat (xs : List (List Nat)) (x : Nat) : x ∈ dkeys (dictOf (xs.flatMap fun s => s.map fun y => (y, true))) ↔ x ∈ xs.flatten := by
  rw [mem_dictOf]
  unfold dkeys
  rw [List.map_flatMap]
  have : (fun s : List Nat => (s.map fun y => (y, true)).map (fun p : Nat × Bool => p.1)) = fun s => s := by
    funext s
    rw [List.map_map]
    exact List.map_id _
  rw [this]
  exact Iff.of_eq (congrArg (x ∈ ·) (List.flatMap_id'))
theorem cPow_of {a b : Nat} (ha : a < 2 ^ 64) (hb : b ≤ 1000000) : cPow ((a : Nat) : Int) ((b : Nat) : Int) = true := by
  unfold cPow
  rw [Bool.and_eq_true, Bool.and_eq_true]
  exact ⟨decide_eq_true (by omega), decide_eq_true (by omega), decide_eq_true (by rw [Int.natAbs_natCast]; exact ha)⟩
section
variable {p q : Pic}
theorem least_lt (k : Like p q) {told : List (List Nat)} (h : leastQ p q = some told) : ∀ l ∈ told.flatten, l < p.length + p[0]!.length := fun l hl => by
  have := layers_lt ((least_parts h).sub.subset hl)
  rw [← k.hh, ← k.ww] at this; exact this
theorem Parts.len {T L : List (List Nat)} (h : Parts T L) : T.length ≤ L.length := by
  induction h with
  | nil => exact Nat.zero_le _
  | last _ => simp
  | cons _ ih => rw [List.length_cons, List.length_cons]; omega
end
end W
set_option maxHeartbeats 1000000
namespace T
open PySem L2 G
/-- pictures in their order -/
abbrev txP (p : Pic) : List Str := p.map rowS
def insP (x : Pic) : List Pic → List Pic
  | [] => [x]
  | y :: ys => if ltTx (txP y) (txP x) then y :: insP x ys else x :: y :: ys
def sortP : List Pic → List Pic
  | [] => []
  | x :: xs => insP x (sortP xs)
theorem insP_tx (x : Pic) : ∀ ys, insTx (txP x) (ys.map txP) = (insP x ys).map txP
  | [] => rfl
  | y :: ys => by
    show (if ltTx (txP y) (txP x) then txP y :: insTx (txP x) (ys.map txP) else txP x :: txP y :: ys.map txP) = (if ltTx (txP y) (txP x) then y :: insP x ys else x :: y :: ys).map txP
    rw [insP_tx x ys]
    split <;> rfl
theorem sortP_tx : ∀ xs, sortTx (xs.map txP) = (sortP xs).map txP
  | [] => rfl
  | x :: xs => by
    show insTx (txP x) (sortTx (xs.map txP)) = _
    rw [sortP_tx xs, insP_tx]; rfl
theorem insP_perm (x : Pic) : ∀ ys, (insP x ys).Perm (x :: ys)
  | [] => .refl _
  | y :: ys => by
    unfold insP
    split
    · exact ((insP_perm x ys).cons y).trans (.swap _ _ _)
    · exact .refl _
theorem sortP_perm : ∀ xs, (sortP xs).Perm xs
  | [] => .refl _
  | x :: xs => (insP_perm x _).trans ((sortP_perm xs).cons x)
theorem unS_rows : ∀ p : Pic, unS (p.map eR) = some (p.map rowS)
  | [] => rfl
  | r :: p => by show (unS (p.map eR)).map (rowS r :: ·) = _; rw [unS_rows p]; rfl
theorem texts_pics : ∀ {ps : List Pic}, (∀ p ∈ ps, p ≠ []) → textsD (ps.map ePic) = some (ps.map txP)
  | [], _ => rfl
  | p :: ps, h => by
    show (unS (p.map eR)).bind (fun ss => if ss = [] then none else (textsD (ps.map ePic)).map (ss :: ·)) = _
    rw [unS_rows p, texts_pics fun q hq => h q (List.mem_cons_of_mem _ hq)]
    show (if p.map rowS = [] then none else _) = _
    rw [if_neg (fun e => h p List.mem_cons_self (List.map_eq_nil_iff.mp e))]; rfl
theorem ev_sortP {ps : List Pic} {env : DEnv} {tp t1' : List D} {m : SE D} (h : ∀ p ∈ ps, p ≠ []) (hm : m env tp = .ok (eL ePic ps) t1') : callB sortTD (consA m nilA) env tp = .ok (eL ePic (sortP ps)) t1' :=
  ev_callB (ev_cons hm ev_nil) (by
    show (textsD (ps.map ePic)).map (fun ss => D.lst ((sortTx ss).map fun s => .tup (s.map .str))) = _
    rw [texts_pics h]
    show some (D.lst ((sortTx (ps.map txP)).map fun s => .tup (s.map .str))) = _
    rw [sortP_tx, List.map_map]
    show _ = some (D.lst ((sortP ps).map ePic))
    congr 2
    refine List.map_congr_left fun p _ => ?_
    show D.tup ((p.map rowS).map D.str) = D.tup (p.map eR)
    rw [List.map_map]; rfl)
theorem ev_band {x y : Nat} {env : DEnv} {tp t1' t2' : List D} {ma mb : SE D} (ha : ma env tp = .ok (eN x) t1') (hb : mb env t1' = .ok (eN y) t2') : binE bandD ma mb env tp = .ok (eN (x &&& y)) t2' :=
  ev_bin ha hb (by
    show some (D.int (Builtin.bitAnd (x : Int) (y : Int))) = some (D.int ((x &&& y : Nat) : Int))
    have e : Builtin.bitAnd (x : Int) (y : Int) = ((x &&& y : Nat) : Int) := by simp [Builtin.bitAnd]
    rw [e])
end T
set_option maxHeartbeats 1000000
namespace T
open PySem L2 G
section
variable {α : Type} {e : α → D} {env : DEnv} {tp t1' t2' : List D} {m : SE D} {ms : SE (List D)}
theorem ev_nilM : nilA env tp = .ok (([] : List α).map e) tp := rfl
theorem ev_consM {x : α} {xs : List α} (h : m env tp = .ok (e x) t1') (hs : ms env t1' = .ok (xs.map e) t2') : consA m ms env tp = .ok ((x :: xs).map e) t2' := ev_cons h hs
theorem ev_starT {xs ys : List α} (h : m env tp = .ok (eT e xs) t1') (hs : ms env t1' = .ok (ys.map e) t2') : starA m ms env tp = .ok ((xs ++ ys).map e) t2' := by
  unfold starA; rw [h]; simp only [RE.bind_ok]
  show (ms env t1').bind (fun ys tp2 => RE.ok (xs.map e ++ ys) tp2) = _
  rw [hs]; simp only [RE.bind_ok]; rw [List.map_append]
theorem ev_starT0 {xs : List α} (h : m env tp = .ok (eT e xs) t1') : starA m nilA env tp = .ok (xs.map e) t1' := by
  have := ev_starT (ys := []) h (ms := nilA) rfl
  rwa [List.append_nil] at this
theorem ev_tupM {xs : List α} (hn : xs.length ≤ 1000000) (h : ms env tp = .ok (xs.map e) t1') : tupE ms env tp = .ok (eT e xs) t1' := ev_tup h (decide_eq_true (by rw [List.length_map]; exact hn))
end
end T
set_option maxHeartbeats 1000000
namespace T
open PySem L2 G
end T
set_option maxHeartbeats 1000000
namespace T
open PySem L2 G
end T
set_option maxHeartbeats 1000000
namespace T
open PySem L2 G
end T
set_option maxHeartbeats 1000000
namespace W
open PySem L2 G T
abbrev one (b : Bool) : Nat := if b then 1 else 0
end W
set_option maxHeartbeats 1000000
namespace W
def Lg (x : Int) (n : Nat) : Prop := x.natAbs < 2 ^ n
theorem Lg.mono {x : Int} {n m : Nat} (a : Lg x n) (h : n ≤ m) : Lg x m := Nat.lt_of_lt_of_le a (Nat.pow_le_pow_right (by decide) h)
theorem Lg.mul {x y : Int} {n m : Nat} (a : Lg x n) (b : Lg y m) : Lg (x * y) (n + m) := by
  unfold Lg at *; rw [Int.natAbs_mul, Nat.pow_add]; exact Nat.mul_lt_mul'' a b
theorem Lg.le {x y : Int} {n : Nat} (a : Lg y n) (h : x.natAbs ≤ y.natAbs) : Lg x n := Nat.lt_of_le_of_lt h a
/-- the lowest terms -/
def low (a b : Int) : Int × Int := (a / (Int.gcd a b : Int), b / (Int.gcd a b : Int))
theorem gcd_pos {a b : Int} (h : 0 < b) : 0 < (Int.gcd a b : Int) := by
  have : 0 < Int.gcd a b := Int.gcd_pos_of_ne_zero_right a (by omega)
  omega
theorem low_spec {a b : Int} (h : 0 < b) : ∃ g : Int, 0 < g ∧ a = g * (low a b).1 ∧ b = g * (low a b).2 := by
  refine ⟨Int.gcd a b, gcd_pos h, ?_, ?_⟩
  · exact (Int.mul_ediv_cancel' (Int.gcd_dvd_left a b)).symm
  · exact (Int.mul_ediv_cancel' (Int.gcd_dvd_right a b)).symm
theorem low_pos {a b : Int} (h : 0 < b) : 0 < (low a b).2 := by
  obtain ⟨g, h1, _, h3⟩ := low_spec (a := a) h
  have : 0 < g * (low a b).2 := by rw [← h3]; exact h
  rcases Int.lt_or_le 0 (low a b).2 with q | q
  · exact q
  · have := Int.mul_le_mul_of_nonneg_left q (Int.le_of_lt h1)
    omega
theorem low_le {a b : Int} (h : 0 < b) : (low a b).1.natAbs ≤ a.natAbs ∧ (low a b).2.natAbs ≤ b.natAbs := by
  have hp := gcd_pos (a := a) h
  refine ⟨?_, ?_⟩
  · show (a / (Int.gcd a b : Int)).natAbs ≤ _
    rw [Int.natAbs_ediv_of_dvd (Int.gcd_dvd_left a b)]; exact Nat.div_le_self _ _
  · show (b / (Int.gcd a b : Int)).natAbs ≤ _
    rw [Int.natAbs_ediv_of_dvd (Int.gcd_dvd_right a b)]; exact Nat.div_le_self _ _
/-- a ratio that stands for a / b, its size -/
structure Rat' (x : Int × Int) (a b : Int) (n : Nat) : Prop where
  e : x = low a b
  p : 0 < b
  l1 : Lg a n
  l2 : Lg b n
theorem Rat'.pos {x : Int × Int} {a b : Int} {n : Nat} (h : Rat' x a b n) : 0 < x.2 := by rw [h.e]; exact low_pos h.p
theorem Rat'.lg {x : Int × Int} {a b : Int} {n : Nat} (h : Rat' x a b n) : Lg x.1 n ∧ Lg x.2 n := by
  rw [h.e]; exact ⟨h.l1.le (low_le h.p).1, h.l2.le (low_le h.p).2⟩
end W
namespace W
def ch : Nat → Nat → Nat
  | _, 0 => 1
  | 0, _ + 1 => 0
  | n + 1, k + 1 => ch n k + ch n (k + 1)
/-- a sum over 0 .. n - 1 -/
def sm (f : Nat → Int) : Nat → Int
  | 0 => 0
  | n + 1 => sm f n + f n
def sg (j : Nat) : Int := if j % 2 = 0 then 1 else -1
end W
namespace W
/-- the sums of parts -/
def hs : Nat → Int × Int
  | 0 => (0, 1)
  | n + 1 => low ((hs n).1 * ((n + 1 : Nat) : Int) + 1 * (hs n).2) ((hs n).2 * ((n + 1 : Nat) : Int))
def hnum : Nat → Nat
  | 0 => 0
  | n + 1 => hnum n * (n + 1) + fac n
where fac : Nat → Nat
  | 0 => 1
  | n + 1 => fac n * (n + 1)
abbrev hfac := hnum.fac
open PySem L2 G T
theorem Rat'.ok {x : Int × Int} {a b : Int} {n : Nat} (h : Rat' x a b n) (hn : n ≤ 4000) : Lg x.1 4000 ∧ Lg x.2 4000 ∧ 0 < x.2 := ⟨h.lg.1.mono hn, h.lg.2.mono hn, h.pos⟩
end W
set_option maxHeartbeats 1000000
namespace W
open PySem L2 G T
end W
namespace W
open PySem L2 G T
end W
set_option maxHeartbeats 1000000
namespace W
open PySem L2 G T
/-- ways to put t things into k heaps -/
def st : Nat → Nat → Nat
  | 0, 0 => 1
  | 0, _ + 1 => 0
  | _ + 1, 0 => 0
  | t + 1, k + 1 => (k + 1) * st t (k + 1) + st t k
end W
set_option maxHeartbeats 1000000
namespace W
open PySem L2 G T
theorem Parts.get {T L : List (List Nat)} (h : Parts T L) : ∀ i, i < T.length → i < L.length ∧ (T[i]!).Sublist L[i]! ∧ (i + 1 < T.length → T[i]! = L[i]!) := by
  induction h with
  | nil => intro i hi; cases hi
  | last hs =>
    intro i hi
    have e : i = 0 := by simp at hi; omega
    subst e
    exact ⟨by simp, hs, fun z => by simp at z⟩
  | cons h ih =>
    intro i hi
    cases i with
    | zero => exact ⟨by simp, .refl _, fun _ => rfl⟩
    | succ i =>
      obtain ⟨a, b, c⟩ := ih i (by simpa using hi)
      refine ⟨by simpa using a, ?_, fun z => ?_⟩
      · rw [get!_cons_succ, get!_cons_succ]; exact b
      · rw [get!_cons_succ, get!_cons_succ]; exact c (by simpa using z)
theorem flat_perm {α : Type} {L M : List (List α)} (h : L.Perm M) : L.flatten.Perm M.flatten := by
  induction h with
  | nil => exact .refl _
  | cons x _ ih => exact ih.append_left x
  | swap x y l => 
    simp only [List.flatten_cons, ← List.append_assoc]
    exact List.perm_append_comm.append_right _
  | trans _ _ a b => exact a.trans b
/-- the orders of some layers -/
def fp (T : List (List Nat)) : Nat → Nat
  | 0 => 1
  | n + 1 => fp T n * hfac (T[n]!).length
end W
set_option maxHeartbeats 1000000
namespace W
open PySem L2 G T
end W
set_option maxHeartbeats 1000000
namespace W
open PySem L2 G T
end W
set_option maxHeartbeats 1000000
namespace W
open PySem L2 G T
end W
set_option maxHeartbeats 1000000
set_option exponentiation.threshold 4000
namespace W
open PySem L2 G T
end W
set_option maxHeartbeats 1000000
namespace W
open PySem L2 G T
end W
set_option maxHeartbeats 1000000
namespace W
open PySem L2 G T
end W
set_option maxHeartbeats 1000000
namespace W
open PySem L2 G T
end W
set_option maxHeartbeats 1000000
namespace W
open PySem L2 G T
section
variable {p q : Pic} {T T' : List (List Nat)}
theorem rev_flat (T : List (List Nat)) : T.reverse.flatten.length = T.flatten.length := (flat_perm (List.reverse_perm T)).length_eq
theorem mem_rev {T : List (List Nat)} {x : Nat} : x ∈ T.reverse.flatten ↔ x ∈ T.flatten := by simp
end
end W
set_option maxHeartbeats 1000000
namespace W
open PySem L2 G T
section
variable {κ : Type} [DecidableEq κ]
theorem gget_hit {β : Type} {p : κ × β} {d : List (κ × β)} {k : κ} (h : p.1 = k) : gget (p :: d) k = some p.2 := by
  obtain ⟨a, b⟩ := p
  exact if_pos h
theorem gget_miss {β : Type} {p : κ × β} {d : List (κ × β)} {k : κ} (h : p.1 ≠ k) : gget (p :: d) k = gget d k := by
  obtain ⟨a, b⟩ := p
  exact if_neg h
end
end W
set_option maxHeartbeats 1000000
namespace T
open PySem L2 G
end T
namespace W
open PySem L2 G T
def fewP (p q : Pic) : Option Nat := (leastQ p q).map fun T => T.flatten.length
section
variable {p q : Pic} {m : Nat}
theorem fewP_some (h : fewP p q = some m) : ∃ T, leastQ p q = some T ∧ T.flatten.length = m := Option.map_eq_some_iff.mp h
theorem few_upper (k : Like p q) {ds : List Nat} (hds : ∀ l ∈ ds, l < p.length + p[0]!.length) (h : linesQ p ds = q) : ∃ m, fewP p q = some m ∧ m ≤ ds.length := by
  obtain ⟨T, e, sub⟩ := least_made k h hds
  exact ⟨T.flatten.length, by unfold fewP; rw [e]; rfl, len_sub (least_nodup e) sub⟩
theorem few_way (k : Like p q) (h : fewP p q = some m) : ∃ ds, ds.length = m ∧ (∀ l ∈ ds, l < p.length + p[0]!.length) ∧ linesQ p ds = q := by
  obtain ⟨T, e, z⟩ := fewP_some h
  exact ⟨T.reverse.flatten, (rev_flat T).trans z, fun l hl => least_lt k e l (mem_rev.mp hl), least_way k e⟩
theorem few_self (k : PicP p) : fewP p p = some 0 := by
  obtain ⟨m, h, z⟩ := few_upper (p := p) (q := p) ⟨k, k, rfl, rfl⟩ (ds := []) (fun l hl => by cases hl) rfl
  rw [h]; congr; exact Nat.le_zero.mp z
theorem few_zero (k : Like p q) (h : fewP p q = some 0) : q = p := by
  obtain ⟨ds, e, _, z⟩ := few_way k h
  rw [List.length_eq_zero_iff.mp e] at z
  exact z.symm
theorem like_of (k : PicP p) (ds : List Nat) : Like p (linesQ p ds) := by
  obtain ⟨a, b, c⟩ := linesQ_pp k ds
  exact ⟨k, a, b.symm, c.symm⟩
theorem like_line (k : Like p q) (l : Nat) : Like p (lineQ q l) := ⟨k.pp, lineQ_pp k.qq l, k.hh.trans (lineQ_len q l).symm, k.ww.trans (lineQ_wid k.qq l).symm⟩
/-- a picture that comes by one more deed comes by one deed from one that comes by so many -/
theorem few_last (k : Like p q) (h : fewP p q = some (m + 1)) : ∃ y l, Like p y ∧ fewP p y = some m ∧ l < p.length + p[0]!.length ∧ q = lineQ y l := by
  obtain ⟨ds, e, lt, z⟩ := few_way k h
  have ne : ds ≠ [] := fun y => by rw [y] at e; cases e
  have es := List.dropLast_concat_getLast ne
  have dl : ds.dropLast.length = m := by rw [List.length_dropLast]; omega
  have ky := like_of k.pp ds.dropLast
  obtain ⟨m', h1, h2⟩ := few_upper ky (ds := ds.dropLast) (fun l hl => lt l (List.dropLast_subset _ hl)) rfl
  have hl : ds.getLast ne < p.length + p[0]!.length := lt _ (List.getLast_mem ne)
  have hq : q = lineQ (linesQ p ds.dropLast) (ds.getLast ne) := by rw [← z, ← linesQ_snoc, es]
  refine ⟨_, _, ky, ?_, hl, hq⟩
  obtain ⟨es2, e2, lt2, z2⟩ := few_way ky h1
  obtain ⟨m3, h3, h4⟩ := few_upper k (ds := es2 ++ [ds.getLast ne]) (fun l hl2 => by
    rcases List.mem_append.mp hl2 with y | y
    · exact lt2 l y
    · rw [List.mem_singleton.mp y]; exact hl) (by rw [linesQ_snoc, z2, ← hq])
  rw [h] at h3
  cases h3
  rw [List.length_append, List.length_singleton] at h4
  have : m' = m := by omega
  rw [← this]; exact h1
theorem few_next {y : Pic} (k : Like p y) (h : fewP p y = some m) {l : Nat} (hl : l < p.length + p[0]!.length) : ∃ m', fewP p (lineQ y l) = some m' ∧ m' ≤ m + 1 := by
  obtain ⟨ds, e, lt, z⟩ := few_way k h
  obtain ⟨m3, h3, h4⟩ := few_upper (like_line k l) (ds := ds ++ [l]) (fun x hx => by
    rcases List.mem_append.mp hx with y | y
    · exact lt x y
    · rw [List.mem_singleton.mp y]; exact hl) (by rw [linesQ_snoc, z])
  rw [List.length_append, List.length_singleton, e] at h4
  exact ⟨m3, h3, h4⟩
theorem few_down : ∀ (j : Nat) {q : Pic}, Like p q → fewP p q = some (m + j) → ∃ y, Like p y ∧ fewP p y = some m
  | 0, q, k, h => ⟨q, k, h⟩
  | j + 1, q, k, h => by
    obtain ⟨y, l, ky, hy, _⟩ := few_last k (m := m + j) h
    exact few_down j ky hy
end
/-- told by fewer deeds than the next round's -/
def OldR (p : Pic) (s : Nat) (x : Pic) (m : Nat) : Prop := Like p x ∧ fewP p x = some m ∧ m ≤ s
/-- where a round of the search stands: Done are the pictures met in it -/
structure Lv (p : Pic) (s : Nat) (found : List (Pic × Nat)) (later : List Pic) (Done : Pic → Prop) : Prop where
  get : ∀ x m, gget found x = some m ↔ OldR p s x m ∨ (m = s + 1 ∧ (∀ m', ¬OldR p s x m') ∧ Done x)
  lat : ∀ x, x ∈ later ↔ gget found x = some (s + 1)
/-- behind so many rounds -/
structure Rv (p : Pic) (s : Nat) (found : List (Pic × Nat)) (rim : List Pic) : Prop where
  get : ∀ x m, gget found x = some m ↔ OldR p s x m
  rim : ∀ x, x ∈ rim ↔ Like p x ∧ fewP p x = some s
theorem Rv.start {p : Pic} (k : PicP p) : Rv p 0 [(p, 0)] [p] := by
  have kp : Like p p := ⟨k, k, rfl, rfl⟩
  refine ⟨fun x m => ?_, fun x => ?_⟩
  · show (if p = x then some 0 else none) = some m ↔ _
    constructor
    · intro h
      split at h
      · rename_i e
        subst e; cases h
        exact ⟨kp, few_self k, Nat.le_refl _⟩
      · cases h
    · rintro ⟨a, b, c⟩
      have : m = 0 := by omega
      subst this
      rw [if_pos (few_zero a b).symm]
  · rw [List.mem_singleton]
    constructor
    · rintro rfl; exact ⟨kp, few_self k⟩
    · rintro ⟨a, b⟩; exact few_zero a b
theorem Rv.go {p : Pic} {s : Nat} {found : List (Pic × Nat)} {rim : List Pic} (R : Rv p s found rim) : Lv p s found [] (fun _ => False) :=
  ⟨fun x m => (R.get x m).trans ⟨.inl, fun z => z.resolve_right fun y => y.2.2⟩, fun x => ⟨fun z => (nomatch z), fun z => by
    have y := ((R.get _ _).mp z).2.2
    omega⟩⟩
theorem Rv.next {p : Pic} {s : Nat} {found : List (Pic × Nat)} {rim : List Pic} (R : Rv p s found rim) {f2 : List (Pic × Nat)} {later : List Pic}
    (L : Lv p s f2 later (fun x => ∃ y ∈ rim, ∃ l, l < p.length + p[0]!.length ∧ x = lineQ y l)) : Rv p (s + 1) f2 later := by
  have key : ∀ x, (∀ m', ¬OldR p s x m') ∧ (∃ y ∈ rim, ∃ l, l < p.length + p[0]!.length ∧ x = lineQ y l) ↔ Like p x ∧ fewP p x = some (s + 1) := fun x => by
    constructor
    · rintro ⟨no, y, hy, l, hl, rfl⟩
      obtain ⟨ky, fy⟩ := (R.rim y).mp hy
      obtain ⟨m', h1, h2⟩ := few_next ky fy hl
      refine ⟨like_line ky l, ?_⟩
      have : ¬m' ≤ s := fun z => no m' ⟨like_line ky l, h1, z⟩
      rw [h1]; congr; omega
    · rintro ⟨kx, fx⟩
      refine ⟨fun m' z => ?_, ?_⟩
      · have e := z.2.1
        rw [fx] at e
        have := Option.some.inj e
        have := z.2.2
        omega
      · obtain ⟨y, l, ky, fy, hl, e⟩ := few_last kx fx
        exact ⟨y, (R.rim y).mpr ⟨ky, fy⟩, l, hl, e⟩
  have get : ∀ x m, gget f2 x = some m ↔ OldR p (s + 1) x m := fun x m => by
    rw [L.get x m, key x]
    constructor
    · rintro (⟨a, b, c⟩ | ⟨rfl, a, b⟩)
      · exact ⟨a, b, by omega⟩
      · exact ⟨a, b, Nat.le_refl _⟩
    · rintro ⟨a, b, c⟩
      rcases Nat.lt_or_ge s m with h | h
      · have : m = s + 1 := by omega
        subst this
        exact .inr ⟨rfl, a, b⟩
      · exact .inl ⟨a, b, h⟩
  refine ⟨get, fun x => ?_⟩
  rw [L.lat x, get x]
  exact ⟨fun z => ⟨z.1, z.2.1⟩, fun z => ⟨z.1, z.2, Nat.le_refl _⟩⟩
theorem Rv.all {p : Pic} {s : Nat} {found : List (Pic × Nat)} (R : Rv p s found []) {x : Pic} (k : Like p x) : gget found x = fewP p x := by
  cases h : fewP p x with
  | none =>
    cases z : gget found x with
    | none => rfl
    | some m =>
      have := ((R.get x m).mp z).2.1
      rw [h] at this; cases this
  | some m =>
    refine (R.get x m).mpr ⟨k, h, ?_⟩
    rcases Nat.le_total m s with y | y
    · exact y
    · obtain ⟨j, e⟩ := Nat.exists_eq_add_of_le y
      rw [e] at h
      obtain ⟨w, kw, hw⟩ := few_down j k h
      have := (R.rim w).mpr ⟨kw, hw⟩
      cases this
end W
set_option maxHeartbeats 1000000
namespace W
open PySem L2 G T
end W
set_option maxHeartbeats 1000000
namespace W
open PySem L2 G T
theorem compL_draw {α β : Type} {e : α → D} {e2 : β → D} {R : β → Prop} {f : D → List D → RE (Option D)} : ∀ {xs : List α} {t : List D}, Tape t →
    (∀ x ∈ xs, ∀ t, Tape t → ∃ (v : β) (t' : List D), f (e x) t = .ok (some (e2 v)) t' ∧ Tape t' ∧ R v) →
    ∃ (ys : List β) (t2 : List D), compL f (xs.map e) t = .ok (ys.map e2) t2 ∧ Tape t2 ∧ ys.length = xs.length ∧ ∀ y ∈ ys, R y
  | [], t, ht, _ => ⟨[], t, rfl, ht, rfl, fun y hy => by cases hy⟩
  | x :: xs, t, ht, h => by
    obtain ⟨v, t', a, b, c⟩ := h x List.mem_cons_self t ht
    obtain ⟨ys, t2, a2, b2, c2, d2⟩ := compL_draw (xs := xs) b fun y hy => h y (List.mem_cons_of_mem _ hy)
    refine ⟨v :: ys, t2, ?_, b2, by rw [List.length_cons, List.length_cons, c2], fun y hy => ?_⟩
    · rw [List.map_cons]
      unfold compL
      rw [a]
      simp only
      rw [a2]
      rfl
    · rcases List.mem_cons.mp hy with z | z
      · rw [z]; exact c
      · exact d2 y z
/-- [draw for x in xs] -/
theorem comp_draw {α β : Type} {e : α → D} {e2 : β → D} {R : β → Prop} {xs : List α} {i : Nat} {vs : List Nat} {mi : SE (List D)} {m : SE D} {env : DEnv} {tp tq : List D} (hx : mi env tp = .ok (xs.map e) tq) (ht : Tape tq) (hl : xs.length ≤ 1000000)
    (h : ∀ x ∈ xs, ∀ t, Tape t → ∃ (v : β) (t' : List D), m (setAll (wipeE env vs) [i] [e x]) t = .ok (e2 v) t' ∧ Tape t' ∧ R v) :
    ∃ (ys : List β) (t2 : List D), compE mi vs G.t1 [i] yesT m env tp = .ok (eL e2 ys) t2 ∧ Tape t2 ∧ ys.length = xs.length ∧ ∀ y ∈ ys, R y := by
  obtain ⟨ys, t2, a, b, c, d⟩ := compL_draw (e := e) (e2 := e2) (R := R) (f := compTurn1 G.t1 [i] yesT m (wipeE env vs)) (xs := xs) ht fun x hx t ht => by
    obtain ⟨v, t', a, b, c⟩ := h x hx t ht
    refine ⟨v, t', ?_, b, c⟩
    unfold compTurn1
    show ((yesT (setAll (wipeE env vs) [i] [e x]) t).bind fun b tp1 => if b = true then (m (setAll (wipeE env vs) [i] [e x]) tp1).bind fun x tp2 => .ok (some x) tp2 else .ok none tp1) = _
    unfold yesT
    simp only [RE.bind_ok, if_true]
    rw [a]
    simp only [RE.bind_ok]
  refine ⟨ys, t2, ?_, b, c, d⟩
  unfold compE
  rw [hx]
  simp only [RE.bind_ok]
  rw [if_pos (by rw [List.length_map]; have := small_line hl; omega), a]
end W
set_option maxHeartbeats 1000000
namespace W
open PySem L2 G T
def sLen : D → Nat | .str s => s.length | _ => 0
def cellsB (s : Str) : Bool := s.cps.toList.all fun c => decide ((⟨#[c]⟩ : Str) ∈ (["#", "."] : List Str))
def rowB (n : Nat) : D → Bool | .str s => decide (s.length = n) && cellsB s | _ => false
def isPicD : D → Bool
  | .tup xs => decide (1 ≤ xs.length ∧ xs.length ≤ 30) && (xs.all isSt && decide (1 ≤ sLen (xs.headD .non) ∧ sLen (xs.headD .non) ≤ 30) && xs.all (rowB (sLen (xs.headD .non))))
  | _ => false
structure KnP (d : D) : Prop where
  k : kn d = true
  e : ∀ xs, d = .tup xs → ∀ x ∈ xs, kn x = true ∧ sLen x ≤ 1000
  l : ∀ xs, d = .tup xs → xs.length ≤ 1000
structure BadPic (d : D) : Prop where
  k : KnP d
  b : isPicD d = false
theorem isTu_inv {d : D} (h : isTu d = true) : ∃ xs, d = .tup xs := by
  cases d with
  | tup xs => exact ⟨xs, rfl⟩
  | _ => cases h
theorem isSt_inv {d : D} (h : isSt d = true) : ∃ s, d = .str s := by
  cases d with
  | str s => exact ⟨s, rfl⟩
  | _ => cases h
end W
set_option maxHeartbeats 1000000
namespace T
open PySem L2 G
theorem ev_rg2T {env : DEnv} {tp t1' t2' : List D} {ma m : SE D} {a n : Nat} (hn : a ≤ 16777216 ∧ n ≤ 16777216) (ha : ma env tp = .ok (eN a) t1') (h : m env t1' = .ok (eN n) t2') : rg2E .tup ma m env tp = .ok (eT eN (List.range' a (n - a))) t2' := by
  rw [rg2_i (cRgOk_i (cRg_nat (show a ≤ 1073741824 by omega)) (cRg_nat (show n ≤ 1073741824 by omega)) (by omega)) ha h, rangeL_N2]
end T
namespace W
open PySem L2 G T
/-- a table of worths -/
structure TabP (W : List (List Int)) : Prop where
  h1 : 1 ≤ W.length
  h30 : W.length ≤ 30
  w1 : 1 ≤ W[0]!.length
  w30 : W[0]!.length ≤ 30
  eq : ∀ r ∈ W, r.length = W[0]!.length
  v : ∀ r ∈ W, ∀ x ∈ r, -1000000 ≤ x ∧ x ≤ 1000000
theorem get!_memI {α : Type} [Inhabited α] {xs : List α} {i : Nat} (h : i < xs.length) : xs[i]! ∈ xs := by
  rw [getElem!_pos xs i h]; exact List.getElem_mem _
theorem TabP.len {W : List (List Int)} (k : TabP W) {i : Nat} (hi : i < W.length) : (W[i]!).length = W[0]!.length := k.eq _ (get!_memI hi)
theorem flat_lenZ {α β : Type} (f : α → List β) (c : Nat) : ∀ xs : List α, (∀ x ∈ xs, (f x).length ≤ c) → (xs.flatMap f).length ≤ xs.length * c
  | [], _ => Nat.zero_le _
  | x :: xs, h => by
    rw [List.flatMap_cons, List.length_append, List.length_cons, Nat.succ_mul, Nat.add_comm]
    exact Nat.add_le_add (flat_lenZ f c xs fun y hy => h y (List.mem_cons_of_mem _ hy)) (h x List.mem_cons_self)
/-- the worths of the black cells of a row -/
abbrev rowW (p : Pic) (W : List (List Int)) (w i : Nat) : Int := (((List.range w).filter fun j => decide ((p[i]!)[j]! = true)).map fun j => (W[i]!)[j]!).sum
def worthQ (p : Pic) (W : List (List Int)) (h w : Nat) : Int := ((List.range h).map fun i => rowW p W w i).sum
theorem sum_flatZ {α : Type} (f : α → List Int) : ∀ xs : List α, (xs.flatMap f).sum = (xs.map fun x => (f x).sum).sum
  | [] => rfl
  | x :: xs => by
    rw [List.flatMap_cons, List.sum_append, sum_flatZ f xs]; rfl
theorem filter_sumZ {α : Type} (P : α → Bool) (f : α → Int) : ∀ xs : List α, ((xs.filter P).map f).sum = (xs.map fun x => if P x = true then f x else 0).sum
  | [] => rfl
  | x :: xs => by
    rw [List.map_cons, List.sum_cons, ← filter_sumZ P f xs, List.filter_cons]
    by_cases q : P x = true
    · rw [if_pos q, if_pos q]; rfl
    · rw [if_neg q, if_neg q]; omega
theorem sum_addZ {α : Type} (f g : α → Int) : ∀ xs : List α, (xs.map fun x => f x + g x).sum = (xs.map f).sum + (xs.map g).sum
  | [] => rfl
  | x :: xs => by
    rw [List.map_cons, List.sum_cons, sum_addZ f g xs, List.map_cons, List.map_cons, List.sum_cons, List.sum_cons]; omega
theorem sum_negZ {α : Type} (f : α → Int) : ∀ xs : List α, (xs.map fun x => -f x).sum = -(xs.map f).sum
  | [] => rfl
  | x :: xs => by
    rw [List.map_cons, List.sum_cons, sum_negZ f xs, List.map_cons, List.sum_cons]; omega
theorem sum_congrZ {α : Type} {f g : α → Int} {xs : List α} (h : ∀ x ∈ xs, f x = g x) : (xs.map f).sum = (xs.map g).sum := by
  rw [List.map_congr_left h]
theorem sum_oneZ (g : Int) (l : Nat) : ∀ n, ((List.range n).map fun i => if i = l then g else 0).sum = if l < n then g else 0
  | 0 => rfl
  | n + 1 => by
    rw [List.range_succ, List.map_append, List.sum_append, sum_oneZ g l n]
    show _ + (([n] : List Nat).map _).sum = _
    rw [List.map_cons, List.map_nil, List.sum_cons, List.sum_nil]
    by_cases a : l < n
    · rw [if_pos a, if_neg (by omega), if_pos (by omega)]; omega
    · rw [if_neg a]
      by_cases b : n = l
      · rw [if_pos b, if_pos (by omega)]; omega
      · rw [if_neg b, if_neg (by omega)]; omega
theorem sum_permZ {xs ys : List Int} (h : xs.Perm ys) : xs.sum = ys.sum := by
  induction h with
  | nil => rfl
  | cons x _ ih => rw [List.sum_cons, List.sum_cons, ih]
  | swap x y l => rw [List.sum_cons, List.sum_cons, List.sum_cons, List.sum_cons]; omega
  | trans _ _ a b => exact a.trans b
theorem rowW_if (p : Pic) (W : List (List Int)) (w i : Nat) : rowW p W w i = ((List.range w).map fun j => if (p[i]!)[j]! = true then (W[i]!)[j]! else 0).sum := by
  unfold rowW
  rw [filter_sumZ]
  refine sum_congrZ fun j _ => ?_
  by_cases q : (p[i]!)[j]! = true
  · rw [if_pos q, if_pos (decide_eq_true q)]
  · rw [if_neg q, if_neg (by rw [decide_eq_false q]; decide)]
/-- the sum as the program tells it -/
theorem worth_enum {p : Pic} (k : PicP p) (W : List (List Int)) : ((enumP p).flatMap fun x1 => ((enumP x1.2).filter fun y2 => decide (y2.2 = true)).map fun y2 => (W[x1.1]!)[y2.1]!).sum = worthQ p W p.length p[0]!.length := by
  rw [sum_flatZ, enumP_eq, List.map_map]
  unfold worthQ
  refine sum_congrZ fun i hi => ?_
  have hi := List.mem_range.mp hi
  show (((enumP p[i]!).filter fun y2 => decide (y2.2 = true)).map fun y2 => (W[i]!)[y2.1]!).sum = _
  rw [enumP_eq, k.get hi, List.filter_map, List.map_map]
  rfl
/-- what painting a row gains -/
def gainW (p : Pic) (W : List (List Int)) (w i : Nat) : Int := (((List.range w).filter fun j => decide ((p[i]!)[j]! ≠ true)).map fun j => (W[i]!)[j]!).sum
/-- what painting a column loses -/
def lossW (p : Pic) (W : List (List Int)) (h j : Nat) : Int := (((List.range h).filter fun i => decide ((p[i]!)[j]! = true)).map fun i => (W[i]!)[j]!).sum
theorem worth_row {p : Pic} (k : PicP p) (W : List (List Int)) {l : Nat} (hl : l < p.length) : worthQ (lineQ p l) W p.length p[0]!.length = worthQ p W p.length p[0]!.length + gainW p W p[0]!.length l := by
  have e : ∀ i ∈ List.range p.length, rowW (lineQ p l) W p[0]!.length i = rowW p W p[0]!.length i + if i = l then gainW p W p[0]!.length l else 0 := fun i hi => by
    have hi := List.mem_range.mp hi
    rw [rowW_if, rowW_if]
    by_cases z : i = l
    · subst z
      rw [if_pos rfl]
      unfold gainW
      rw [filter_sumZ, ← sum_addZ]
      refine sum_congrZ fun j hj => ?_
      rw [lineQ_get hi (List.mem_range.mp hj), if_pos rfl, if_pos rfl]
      by_cases q : (p[i]!)[j]! = true
      · rw [if_pos q, if_neg fun z => (of_decide_eq_true z) q]; omega
      · rw [if_neg q, if_pos (decide_eq_true q)]; omega
    · rw [if_neg z, Int.add_zero]
      refine sum_congrZ fun j hj => ?_
      rw [lineQ_get hi (List.mem_range.mp hj), if_neg (Ne.symm z), if_neg (show ¬ l = p.length + j by omega)]
  unfold worthQ
  rw [sum_congrZ e, sum_addZ, sum_oneZ, if_pos hl]
theorem worth_col {p : Pic} (k : PicP p) (W : List (List Int)) {c : Nat} (hc : c < p[0]!.length) : worthQ (lineQ p (p.length + c)) W p.length p[0]!.length = worthQ p W p.length p[0]!.length - lossW p W p.length c := by
  have e : ∀ i ∈ List.range p.length, rowW (lineQ p (p.length + c)) W p[0]!.length i = rowW p W p[0]!.length i + -(if (p[i]!)[c]! = true then (W[i]!)[c]! else 0) := fun i hi => by
    have hi := List.mem_range.mp hi
    rw [rowW_if, rowW_if]
    have s1 := sum_oneZ (-(if (p[i]!)[c]! = true then (W[i]!)[c]! else 0)) c p[0]!.length
    rw [if_pos hc] at s1
    rw [← s1, ← sum_addZ]
    refine sum_congrZ fun j hj => ?_
    rw [lineQ_get hi (List.mem_range.mp hj), if_neg (show ¬ p.length + c = i by omega)]
    by_cases z : c = j
    · subst z
      rw [if_pos (show p.length + c = p.length + c from rfl), if_neg (show ¬ (false = true) by decide), if_pos (show c = c from rfl)]
      omega
    · rw [if_neg (show ¬ p.length + c = p.length + j by omega), if_neg (show ¬ j = c from Ne.symm z), Int.add_zero]
  unfold worthQ
  rw [sum_congrZ e, sum_addZ, sum_negZ]
  unfold lossW
  rw [filter_sumZ]
  have e2 : ((List.range p.length).map fun i => if decide ((p[i]!)[c]! = true) = true then (W[i]!)[c]! else 0).sum = ((List.range p.length).map fun i => if (p[i]!)[c]! = true then (W[i]!)[c]! else 0).sum := sum_congrZ fun i _ => by
    by_cases q : (p[i]!)[c]! = true
    · rw [if_pos q, if_pos (decide_eq_true q)]
    · rw [if_neg q, if_neg (by rw [decide_eq_false q]; decide)]
  rw [e2]; exact Int.sub_eq_add_neg.symm
/-- the pairs of what is told with the minus sign, and the line -/
def toldW (p : Pic) (W : List (List Int)) (n : Nat) : List (Int × Nat) := (List.range n).map fun l => (-(worthQ (lineQ p l) W p.length p[0]!.length), l)
theorem toldW_snoc (p : Pic) (W : List (List Int)) (n : Nat) : toldW p W (n + 1) = toldW p W n ++ [(-(worthQ (lineQ p n) W p.length p[0]!.length), n)] := by
  unfold toldW; rw [List.range_succ, List.map_append]; rfl
end W
set_option maxHeartbeats 1000000
namespace T
open PySem L2 G
open Classical in
noncomputable def asP (x : D) : Pic := if h : ∃ p : Pic, x = eT eR p then h.choose else []
theorem q_tupleP {d : D} {env : DEnv} {tp t1' : List D} {ma : SE D} (ha : ma env tp = .ok (eV d) t1') (k : kn d = true) : callB isiD (consA ma (consA (cE (.ty "tuple")) nilA)) env tp = .ok (eB (decide (isTu d = true))) t1' := by
  rw [q_tuple ha k, Bool.decide_eq_true]
theorem ev_asP {x : D} {m : SE D} {env : DEnv} {tp t1' : List D} (h : x = (eT eR) (asP x)) (k : m env tp = .ok (eV x) t1') : m env tp = .ok ((eT eR) (asP x)) t1' := by
  rw [← h]; exact k
end T
namespace W
open PySem L2 G T
theorem eR_injP {a b : Row} (h : eR a = eR b) : a = b := by
  have h : D.str (rowS a) = D.str (rowS b) := h
  exact rowS_inj (D.str.inj h)
theorem ePic_inj : ∀ {p q : Pic}, p.map eR = q.map eR → p = q
  | [], [], _ => rfl
  | [], _ :: _, h => by cases h
  | _ :: _, [], h => by cases h
  | a :: p, b :: q, h => by
    obtain ⟨h1, h2⟩ := List.cons.inj h
    rw [eR_injP h1, ePic_inj h2]
theorem eTR_inj {p q : Pic} (h : (eT eR) p = (eT eR) q) : p = q := by
  have h : D.tup (p.map eR) = D.tup (q.map eR) := h
  exact ePic_inj (D.tup.inj h)
theorem asP_pic (p : Pic) : asP ((eT eR) p) = p := by
  have h : ∃ q : Pic, (eT eR) p = (eT eR) q := ⟨p, rfl⟩
  unfold asP
  rw [dif_pos h]
  exact (eTR_inj h.choose_spec).symm
end W
set_option maxHeartbeats 1000000
namespace W
open PySem L2 G T
def V_is_int2 (value : Int) (Q : Bool → Prop) : Prop := Q (decide (True ∧ (¬False)))
theorem snd_is_int2 (value : Int) {Q : Bool → Prop} (h : V_is_int2 value Q) (tp : List D) : ∃ r : Bool, Q r ∧ m_is_int [eZ value] tp = .ok (eB r) tp := by
  obtain ⟨d, t, e1, rfl, r, rfl, q⟩ := T.wp_def (n := 1) (s := b_is_int) (ds := [eZ value]) (tp := tp) (Q := fun d t => t = tp ∧ ∃ r : Bool, d = eB r ∧ Q r) (by
    unfold V_is_int2 at h
    change WP _ _ _ _ (b_is_int [some (eZ value)] _)
    unfold b_is_int
    exact T.wp_ret (T.ev_andE (P := True) (Q := (¬False)) (T.ev_isi (d := eZ value) (T.ev_v rfl) rfl kb_int_int) (fun hp => (T.ev_notE (P := False) (T.ev_isi (d := eZ value) (T.ev_v rfl) rfl kb_int_bool)))) ⟨rfl, (decide (True ∧ (¬False))), rfl, h⟩)
  exact ⟨r, q, e1⟩
abbrev P_is_int2 (_ : Int) : Prop := True
abbrev F_is_int2 (_ : Int) : Bool := true
theorem ok_is_int2 {v : Int} (_ : P_is_int2 v) : V_is_int2 v (· = F_is_int2 v) := by simp [V_is_int2, F_is_int2]
theorem t_is_int2 {value : Int} (hP : P_is_int2 value) (tp : List D) : m_is_int [eZ value] tp = .ok (eB (F_is_int2 value)) tp := by
  obtain ⟨r, rfl, e⟩ := snd_is_int2 value (ok_is_int2 hP) tp
  exact e
end W
set_option maxHeartbeats 1000000
namespace W
open PySem L2 G T
def V_is_picture (value : (List Row)) (Q : Bool → Prop) : Prop := ((((¬True) ∨ (¬(1 ≤ value.length ∧ value.length ≤ 30))) → Q false) ∧ (¬((¬True) ∨ (¬(1 ≤ value.length ∧ value.length ≤ 30))) → (value.length ≤ 1000000) ∧ (¬(¬(∀ x1 ∈ value, True)) → (0 < value.length) ∧ ((value[0]!).length ≤ 1000000)) ∧ ((((¬(∀ x1 ∈ value, True)) ∨ (¬(1 ≤ (value[0]!).length ∧ (value[0]!).length ≤ 30))) → Q false) ∧ (¬((¬(∀ x1 ∈ value, True)) ∨ (¬(1 ≤ (value[0]!).length ∧ (value[0]!).length ≤ 30))) → (value.length ≤ 1000000) ∧ (∀ x6, x6 ∈ value → (x6.length ≤ 1000000) ∧ (0 < value.length) ∧ ((value[0]!).length ≤ 1000000) ∧ ((x6.length = (value[0]!).length) → (x6.length ≤ 1000000))) ∧ Q (decide (∀ x6 ∈ value, ((x6.length = (value[0]!).length) ∧ (∀ x11 ∈ x6, (x11 ∈ [true, false])))))))))
theorem snd_is_picture (value : (List Row)) {Q : Bool → Prop} (h : V_is_picture value Q) (tp : List D) : ∃ r : Bool, Q r ∧ m_is_picture [(eT eR) value] tp = .ok (eB r) tp := by
  obtain ⟨d, t, e1, rfl, r, rfl, q⟩ := T.wp_def (n := 3) (s := b_is_picture) (ds := [(eT eR) value]) (tp := tp) (Q := fun d t => t = tp ∧ ∃ r : Bool, d = eB r ∧ Q r) (by
    unfold V_is_picture at h
    change WP _ _ _ _ (b_is_picture [some ((eT eR) value), none, none] _)
    unfold b_is_picture
    refine T.wp_seq (T.wp_if (P := ((¬True) ∨ (¬(1 ≤ value.length ∧ value.length ≤ 30)))) (T.ev_orT (P := (¬True)) (Q := (¬(1 ≤ value.length ∧ value.length ≤ 30))) (T.ev_notT (P := True) (T.ev_bool (T.ev_isi (d := (eT eR) value) (T.ev_v rfl) rfl kb_tuple_tuple))) (fun hp => (T.ev_notT (P := (1 ≤ value.length ∧ value.length ≤ 30)) (T.ev_bool (T.ev_chLeLe (x := 1) (y := value.length) (z := 30) (T.ev_cN 1) (T.ev_lenT (e := eR) (xs := value) (T.ev_v rfl)) (T.ev_cN 30)))))) (fun hp => ?_) (fun hn => ?_))
    · replace h := h.1 hp
      exact T.wp_ret (T.ev_c rfl) ⟨rfl, false, rfl, h⟩
    · replace h := h.2 hn
      refine T.wp_skip ?_
      change WP _ _ _ _ (At _ [some ((eT eR) value), none, none] _)
      obtain ⟨c2, h⟩ := h
      obtain ⟨c5, h⟩ := h
      refine T.wp_seq (T.wp_if (P := ((¬(∀ x1 ∈ value, True)) ∨ (¬(1 ≤ (value[0]!).length ∧ (value[0]!).length ≤ 30)))) (T.ev_orT (P := (¬(∀ x1 ∈ value, True))) (Q := (¬(1 ≤ (value[0]!).length ∧ (value[0]!).length ≤ 30))) (T.ev_notT (P := (∀ x1 ∈ value, True)) (T.ev_bool (T.ev_allY (xs := value) (R := fun x1 => True) (T.ev_compY (e := eR) (e1 := eB) (xs := value) (ds := fun x1 => [eR x1]) (g := fun x1 => (decide True)) (T.it_T (e := eR) (xs := value) (T.ev_v rfl)) c2 (fun _ => rfl) (fun x1 hx => (T.ev_isi (d := eR x1) (T.ev_v rfl) rfl kb_str_str)))))) (fun hp => match c5 hp with | ⟨c3, c4⟩ => (T.ev_notT (P := (1 ≤ (value[0]!).length ∧ (value[0]!).length ≤ 30)) (T.ev_bool (T.ev_chLeLe (x := 1) (y := (value[0]!).length) (z := 30) (T.ev_cN 1) (T.ev_lenR (r := value[0]!) c4 (T.ev_ixT (e := eR) (xs := value) (i := 0) c3 (T.ev_v rfl) (T.ev_cN 0))) (T.ev_cN 30)))))) (fun hp => ?_) (fun hn => ?_))
      · replace h := h.1 hp
        exact T.wp_ret (T.ev_c rfl) ⟨rfl, false, rfl, h⟩
      · replace h := h.2 hn
        refine T.wp_skip ?_
        change WP _ _ _ _ (At _ [some ((eT eR) value), none, none] _)
        obtain ⟨c7, h⟩ := h
        obtain ⟨c14, h⟩ := h
        exact T.wp_ret (T.ev_allY (xs := value) (R := fun x6 => ((x6.length = (value[0]!).length) ∧ (∀ x11 ∈ x6, (x11 ∈ [true, false])))) (T.ev_compY (e := eR) (e1 := eB) (xs := value) (ds := fun x6 => [eR x6]) (g := fun x6 => (decide ((x6.length = (value[0]!).length) ∧ (∀ x11 ∈ x6, (x11 ∈ [true, false]))))) (T.it_T (e := eR) (xs := value) (T.ev_v rfl)) c7 (fun _ => rfl) (fun x6 hx => match c14 x6 hx with | ⟨c8, c9, c10, c13⟩ => (T.ev_andE (P := (x6.length = (value[0]!).length)) (Q := (∀ x11 ∈ x6, (x11 ∈ [true, false]))) (T.ev_eq (x := x6.length) (y := (value[0]!).length) qN rfl (T.ev_lenR (r := x6) c8 (T.ev_v rfl)) (T.ev_lenR (r := value[0]!) c10 (T.ev_ixT (e := eR) (xs := value) (i := 0) c9 (T.ev_v rfl) (T.ev_cN 0)))) (fun hp => have c12 := c13 hp; (T.ev_allY (xs := x6) (R := fun x11 => (x11 ∈ [true, false])) (T.ev_compY (e := eG) (e1 := eB) (xs := x6) (ds := fun x11 => [eG x11]) (g := fun x11 => (decide (x11 ∈ [true, false]))) (T.it_R (r := x6) (T.ev_v rfl)) c12 (fun _ => rfl) (fun x11 hx => (T.ev_inT (x := x11) (xs := [true, false]) qG rfl (T.ev_v rfl) (T.ev_tup (ds := [eG true, eG false]) (T.ev_cons (T.ev_c (congrArg D.str str_black)) (T.ev_cons (T.ev_c (congrArg D.str str_white)) T.ev_nil)) rfl)))))))))) ⟨rfl, (decide (∀ x6 ∈ value, ((x6.length = (value[0]!).length) ∧ (∀ x11 ∈ x6, (x11 ∈ [true, false]))))), rfl, h⟩)
  exact ⟨r, q, e1⟩
abbrev P_is_picture (p : Pic) : Prop := PicP p
abbrev F_is_picture (_ : Pic) : Bool := true
theorem ok_is_picture {p : Pic} (k : P_is_picture p) : V_is_picture p (· = F_is_picture p) := by
  have h1 := k.h1; have h30 := k.h30; have w1 := k.w1; have w30 := k.w30
  unfold V_is_picture
  refine ⟨fun h => ?_, fun _ => ⟨by omega, fun _ => ⟨by omega, by omega⟩, fun h => ?_, fun _ => ⟨by omega, fun r hr => ?_, ?_⟩⟩⟩
  · rcases h with h | h
    · exact (h trivial).elim
    · exact (h ⟨h1, h30⟩).elim
  · rcases h with h | h
    · exact (h fun _ _ => trivial).elim
    · exact (h ⟨w1, w30⟩).elim
  · have := k.row r hr
    exact ⟨by omega, by omega, by omega, fun _ => by omega⟩
  · refine decide_eq_true fun r hr => ⟨k.row r hr, fun b _ => ?_⟩
    cases b <;> simp
theorem t_is_picture {value : (List Row)} (hP : P_is_picture value) (tp : List D) : m_is_picture [(eT eR) value] tp = .ok (eB (F_is_picture value)) tp := by
  obtain ⟨r, rfl, e⟩ := snd_is_picture value (ok_is_picture hP) tp
  exact e
theorem sgn_items (s : Str) : seqD (.str s) = some ((s.cps.toList.map fun c => (⟨#[c]⟩ : Str)).map eS) := by
  show some (s.cps.toList.map fun c => D.str ⟨#[c]⟩) = _
  rw [List.map_map]; rfl
theorem r_is_picture {d : D} (k : KnP d) (tp : List D) : m_is_picture [d] tp = .ok (eB (isPicD d)) tp := by
  have hb : b_is_picture [some d, none, none] tp = .rt (eB (isPicD d)) tp := by
    unfold b_is_picture
    have hq := T.q_tuple (ma := vE 0) (env := [some d, none, none]) (tp := tp) (T.ev_v rfl) k.k
    cases ht : isTu d with
    | false =>
      rw [ht] at hq
      have e : isPicD d = false := by cases d <;> first | rfl | cases ht
      rw [e]
      exact T.xs_rt (T.xs_if (T.c_orL (T.c_notF (T.ev_bool hq))) (T.xs_ret rfl))
    | true =>
      rw [ht] at hq
      obtain ⟨xs, rfl⟩ := isTu_inv ht
      have ke := k.e xs rfl
      have kl := k.l xs rfl
      have hlen : ∀ env : DEnv, env[0]? = some (some (.tup xs)) → callB lenD (consA (vE 0) nilA) env tp = .ok (.int xs.length) tp := fun env he => T.ev_callB (T.ev_cons (T.ev_v he) T.ev_nil) rfl
      have hc := T.b_leLe (env := [some (.tup xs), none, none]) (tp := tp) (ma := cE (.int 1)) (mb := callB lenD (consA (vE 0) nilA)) (mc := cE (.int 30)) (a := 1) (b := xs.length) (e := 30) rfl (hlen _ rfl) rfl
      have e1 : decide ((1 : Int) ≤ xs.length ∧ (xs.length : Int) ≤ 30) = decide (1 ≤ xs.length ∧ xs.length ≤ 30) := decide_eq_decide.mpr (by omega)
      rw [e1] at hc
      by_cases hl : 1 ≤ xs.length ∧ xs.length ≤ 30
      · rw [decide_eq_true hl] at hc
        refine T.xs_nx (T.xs_ifF (T.c_orR (T.c_notT (T.ev_bool hq)) (T.c_notT (T.ev_bool hc))) T.xs_skip) ?_
        have hall : callB allD (consA (compE (seqI (vE 0)) [1] t1 [1] yesT (callB isiD (consA (vE 1) (consA (cE (.ty "str")) nilA)))) nilA) [some (.tup xs), none, none] tp = .ok (eB (xs.all isSt)) tp :=
          T.b_all (T.b_comp (e := eV) (xs := xs) (by rw [show (eV : D → D) = id from rfl, List.map_id]; rfl) (by omega) fun x hx => T.q_str (T.ev_v rfl) (ke x hx).1)
        cases hs : xs.all isSt with
        | false =>
          rw [hs] at hall
          have e : isPicD (.tup xs) = false := by
            show (_ && (xs.all isSt && _ && _)) = false
            rw [hs]; simp
          rw [e]
          exact T.xs_rt (T.xs_if (T.c_orL (T.c_notF (T.ev_bool hall))) (T.xs_ret rfl))
        | true =>
          rw [hs] at hall
          obtain ⟨y, ys, rfl⟩ : ∃ y ys, xs = y :: ys := by
            cases xs with
            | nil => exact absurd hl.1 (by simp)
            | cons y ys => exact ⟨y, ys, rfl⟩
          obtain ⟨s, rfl⟩ := isSt_inv (List.all_eq_true.mp hs y List.mem_cons_self)
          have sl : s.length ≤ 1000 := (ke _ List.mem_cons_self).2
          have hx0 : ∀ env : DEnv, env[0]? = some (some (.tup (.str s :: ys))) → callB lenD (consA (binE ixD (vE 0) (cE (.int 0))) nilA) env tp = .ok (.int s.length) tp := fun env he => T.ev_callB (T.ev_cons (T.ev_bin (T.ev_v he) (T.ev_c rfl) (z := .str s) (by show atI (D.str s :: ys) ((0 : Nat) : Int) = _; rw [atI_nat']; rfl)) T.ev_nil) (by
            show (if s.length ≤ sizeLine then some (D.int s.length) else none) = _
            rw [if_pos (small_line (by omega))])
          have hc2 := T.b_leLe (env := [some (.tup (.str s :: ys)), none, none]) (tp := tp) (ma := cE (.int 1)) (mb := callB lenD (consA (binE ixD (vE 0) (cE (.int 0))) nilA)) (mc := cE (.int 30)) (a := 1) (b := s.length) (e := 30) rfl (hx0 _ rfl) rfl
          have e2 : decide ((1 : Int) ≤ s.length ∧ (s.length : Int) ≤ 30) = decide (1 ≤ s.length ∧ s.length ≤ 30) := decide_eq_decide.mpr (by omega)
          rw [e2] at hc2
          cases hw : decide (1 ≤ s.length ∧ s.length ≤ 30) with
          | false =>
            rw [hw] at hc2
            have e : isPicD (.tup (.str s :: ys)) = false := by
              show (_ && (_ && decide (1 ≤ s.length ∧ s.length ≤ 30) && _)) = false
              rw [hw]; simp
            rw [e]
            exact T.xs_rt (T.xs_if (T.c_orR (T.c_notT (T.ev_bool hall)) (T.c_notF (T.ev_bool hc2))) (T.xs_ret rfl))
          | true =>
            rw [hw] at hc2
            refine T.xs_nx (T.xs_ifF (T.c_orR (T.c_notT (T.ev_bool hall)) (T.c_notT (T.ev_bool hc2))) T.xs_skip) ?_
            have e : isPicD (.tup (.str s :: ys)) = (D.str s :: ys).all (rowB s.length) := by
              show (decide (1 ≤ (D.str s :: ys).length ∧ (D.str s :: ys).length ≤ 30) && ((D.str s :: ys).all isSt && decide (1 ≤ s.length ∧ s.length ≤ 30) && (D.str s :: ys).all (rowB s.length))) = _
              rw [hs, hw, decide_eq_true hl]; rfl
            rw [e]
            refine T.xs_ret (T.b_all (T.b_comp (e := eV) (xs := D.str s :: ys) (by rw [show (eV : D → D) = id from rfl, List.map_id]; rfl) (by omega) fun x hx => ?_))
            obtain ⟨u, rfl⟩ := isSt_inv (List.all_eq_true.mp hs x hx)
            have ul : u.length ≤ 1000 := (ke _ hx).2
            have g1 : callB lenD (consA (vE 1) nilA) [some (.tup (.str s :: ys)), some (.str u), none] tp = .ok (.int u.length) tp := T.ev_callB (T.ev_cons (T.ev_v rfl) T.ev_nil) (by
              show (if u.length ≤ sizeLine then some (D.int u.length) else none) = _
              rw [if_pos (small_line (by omega))])
            have g2 := T.ev_eq (k := 1) T.qN rfl (x := u.length) (y := s.length) g1 (hx0 _ rfl)
            refine T.b_and g2 fun _ => ?_
            have e5 : cellsB u = ((u.cps.toList.map fun c => (⟨#[c]⟩ : Str)).all fun z => decide (z ∈ (["#", "."] : List Str))) := by rw [List.all_map]; rfl
            rw [e5]
            refine T.b_all (T.b_comp (e := eS) (xs := u.cps.toList.map fun c => (⟨#[c]⟩ : Str)) (g := fun z => eB (decide (z ∈ (["#", "."] : List Str)))) ?_ ?_ fun z hz => ?_)
            · unfold seqI
              rw [T.ev_v (i := 1) rfl]
              simp only [RE.bind_ok]
              rw [sgn_items]; rfl
            · rw [List.length_map, Array.length_toList]; show u.length ≤ _; omega
            · exact T.ev_inT (k := 1) (e := eS) (x := z) (xs := ["#", "."]) (ma := vE 2) T.qS rfl (T.ev_v rfl) (T.ev_tup (ds := [eS "#", eS "."]) (T.ev_cons (T.ev_c rfl) (T.ev_cons (T.ev_c rfl) T.ev_nil)) (by decide))
      · rw [decide_eq_false hl] at hc
        have e : isPicD (.tup xs) = false := by
          show (decide (1 ≤ xs.length ∧ xs.length ≤ 30) && _) = false
          rw [decide_eq_false hl]; rfl
        rw [e]
        exact T.xs_rt (T.xs_if (T.c_orR (T.c_notT (T.ev_bool hq)) (T.c_notF (T.ev_bool hc))) (T.xs_ret rfl))
  show retR (b_is_picture [some d, none, none] tp) = _
  rw [hb]; rfl
end W
set_option maxHeartbeats 1000000
namespace W
open PySem L2 G T
def V_lines_of (picture : (List Row)) (Q : Nat → Prop) : Prop := (0 < picture.length) ∧ ((picture[0]!).length ≤ 1000000) ∧ Q (picture.length + (picture[0]!).length)
theorem snd_lines_of (picture : (List Row)) {Q : Nat → Prop} (h : V_lines_of picture Q) (tp : List D) : ∃ r : Nat, Q r ∧ m_lines_of [(eT eR) picture] tp = .ok (eN r) tp := by
  obtain ⟨d, t, e1, rfl, r, rfl, q⟩ := T.wp_def (n := 1) (s := b_lines_of) (ds := [(eT eR) picture]) (tp := tp) (Q := fun d t => t = tp ∧ ∃ r : Nat, d = eN r ∧ Q r) (by
    unfold V_lines_of at h
    change WP _ _ _ _ (b_lines_of [some ((eT eR) picture)] _)
    unfold b_lines_of
    obtain ⟨c1, h⟩ := h
    obtain ⟨c2, h⟩ := h
    exact T.wp_ret (T.ev_add (x := picture.length) (y := (picture[0]!).length) (T.ev_lenT (e := eR) (xs := picture) (T.ev_v rfl)) (T.ev_lenR (r := picture[0]!) c2 (T.ev_ixT (e := eR) (xs := picture) (i := 0) c1 (T.ev_v rfl) (T.ev_cN 0)))) ⟨rfl, (picture.length + (picture[0]!).length), rfl, h⟩)
  exact ⟨r, q, e1⟩
abbrev P_lines_of (p : Pic) : Prop := PicP p
def F_lines_of (p : Pic) : Nat := p.length + p[0]!.length
theorem ok_lines_of {p : Pic} (k : P_lines_of p) : V_lines_of p (· = F_lines_of p) := ⟨k.h1, by have := k.w30; omega, rfl⟩
theorem t_lines_of {picture : (List Row)} (hP : P_lines_of picture) (tp : List D) : m_lines_of [(eT eR) picture] tp = .ok (eN (F_lines_of picture)) tp := by
  obtain ⟨r, rfl, e⟩ := snd_lines_of picture (ok_lines_of hP) tp
  exact e
end W
set_option maxHeartbeats 1000000
namespace W
open PySem L2 G T
def V_leads_to (picture : (List Row)) (line : Nat) (Q : (List Nat) → Prop) : Prop := (((line < picture.length) → (line < picture.length) ∧ ((enumP (picture[line]!)).length ≤ 1000000) ∧ Q (((enumP (picture[line]!)).filter fun x2 => decide (x2.2 ≠ true)).map fun x2 => (picture.length + x2.1))) ∧ (¬(line < picture.length) → ((enumP picture).length ≤ 1000000) ∧ (∀ x4, x4 ∈ (enumP picture) → (picture.length ≤ line) ∧ (x4.2.length ≤ 1000000 ∧ (line - picture.length) < x4.2.length)) ∧ Q (((enumP picture).filter fun x4 => decide (x4.2[(line - picture.length)]! = true)).map fun x4 => x4.1)))
theorem snd_leads_to (picture : (List Row)) (line : Nat) {Q : (List Nat) → Prop} (h : V_leads_to picture line Q) (tp : List D) : ∃ r : (List Nat), Q r ∧ m_leads_to [(eT eR) picture, eN line] tp = .ok ((eL eN) r) tp := by
  obtain ⟨d, t, e1, rfl, r, rfl, q⟩ := T.wp_def (n := 6) (s := b_leads_to) (ds := [(eT eR) picture, eN line]) (tp := tp) (Q := fun d t => t = tp ∧ ∃ r : (List Nat), d = (eL eN) r ∧ Q r) (by
    unfold V_leads_to at h
    change WP _ _ _ _ (b_leads_to [some ((eT eR) picture), some (eN line), none, none, none, none] _)
    unfold b_leads_to
    refine T.wp_seq (T.wp_set (T.ev_lenT (e := eR) (xs := picture) (T.ev_v rfl)) ?_)
    change WP _ _ _ _ (At _ [some ((eT eR) picture), some (eN line), some (eN picture.length), none, none, none] _)
    refine T.wp_seq (T.wp_if (P := (line < picture.length)) (T.ev_bool (T.ev_lt (x := line) (y := picture.length) (T.ev_v rfl) (T.ev_v rfl))) (fun hp => ?_) (fun hn => ?_))
    · replace h := h.1 hp
      obtain ⟨c1, h⟩ := h
      obtain ⟨c3, h⟩ := h
      exact T.wp_ret (T.ev_comp (e := (eP eN eG)) (e1 := eN) (xs := (enumP (picture[line]!))) (ds := fun x2 => [eN x2.1, eG x2.2]) (g := fun x2 => (picture.length + x2.1)) (P := fun x2 => (x2.2 ≠ true)) (T.it_enumR (xs := picture[line]!) (T.ev_ixT (e := eR) (xs := picture) (i := line) c1 (T.ev_v rfl) (T.ev_v rfl))) c3 (fun _ => rfl) (fun x2 hx => (T.ev_bool (T.ev_ne (x := x2.2) (y := true) qG rfl (T.ev_v rfl) (T.ev_c (congrArg D.str str_black))))) (fun x2 hx hq => (T.ev_add (x := picture.length) (y := x2.1) (T.ev_v rfl) (T.ev_v rfl)))) ⟨rfl, (((enumP (picture[line]!)).filter fun x2 => decide (x2.2 ≠ true)).map fun x2 => (picture.length + x2.1)), rfl, h⟩
    · replace h := h.2 hn
      refine T.wp_skip ?_
      change WP _ _ _ _ (At _ [some ((eT eR) picture), some (eN line), some (eN picture.length), none, none, none] _)
      obtain ⟨c5, h⟩ := h
      obtain ⟨c8, h⟩ := h
      exact T.wp_ret (T.ev_comp (e := (eP eN eR)) (e1 := eN) (xs := (enumP picture)) (ds := fun x4 => [eN x4.1, eR x4.2]) (g := fun x4 => x4.1) (P := fun x4 => (x4.2[(line - picture.length)]! = true)) (T.it_enumT (e := eR) (xs := picture) (T.ev_v rfl)) c5 (fun _ => rfl) (fun x4 hx => match c8 x4 hx with | ⟨c6, c7⟩ => (T.ev_bool (T.ev_eq (x := x4.2[(line - picture.length)]!) (y := true) qG rfl (T.ev_ixR (r := x4.2) (i := (line - picture.length)) c7 (T.ev_v rfl) (T.ev_sub (x := line) (y := picture.length) c6 (T.ev_v rfl) (T.ev_v rfl))) (T.ev_c (congrArg D.str str_black))))) (fun x4 hx hq => (T.ev_v rfl))) ⟨rfl, (((enumP picture).filter fun x4 => decide (x4.2[(line - picture.length)]! = true)).map fun x4 => x4.1), rfl, h⟩)
  exact ⟨r, q, e1⟩
abbrev P_leads_to (p : Pic) (l : Nat) : Prop := PicP p ∧ l < p.length + p[0]!.length
abbrev F_leads_to (p : Pic) (l : Nat) : List Nat := leadsQ p l
theorem ok_leads_to {p : Pic} {l : Nat} (h : P_leads_to p l) : V_leads_to p l (· = F_leads_to p l) := by
  obtain ⟨k, hl⟩ := h
  have h1 := k.h1; have h30 := k.h30; have w1 := k.w1; have w30 := k.w30
  refine ⟨fun q => ⟨q, ?_, ?_⟩, fun q => ⟨?_, fun x hx => ⟨by omega, ?_⟩, ?_⟩⟩
  · rw [enumP_eq, List.length_map, List.length_range, k.get q]; omega
  · unfold F_leads_to leadsQ
    rw [if_pos q, enumP_eq, List.filter_map, List.map_map, k.get q]
    have : ((fun x : Nat × Bool => decide (x.2 ≠ true)) ∘ fun j => (j, (p[l]!)[j]!)) = fun j => decide ((p[l]!)[j]! = false) := by
      funext j
      show decide ((p[l]!)[j]! ≠ true) = _
      cases (p[l]!)[j]! <;> rfl
    rw [this]; rfl
  · rw [enumP_eq, List.length_map, List.length_range]; omega
  · obtain ⟨a, b⟩ := mem_enumP hx
    have := k.get a
    rw [b]
    omega
  · unfold F_leads_to leadsQ
    rw [if_neg q, enumP_eq, List.filter_map, List.map_map]
    exact List.map_id _
theorem t_leads_to {picture : (List Row)} {line : Nat} (hP : P_leads_to picture line) (tp : List D) : m_leads_to [(eT eR) picture, eN line] tp = .ok ((eL eN) (F_leads_to picture line)) tp := by
  obtain ⟨r, rfl, e⟩ := snd_leads_to picture line (ok_leads_to hP) tp
  exact e
end W
set_option maxHeartbeats 1000000
namespace W
open PySem L2 G T
def V_by_layers (rows : Nat) (columns : Nat) (told : (List (List Nat))) (Q : (List Row) → Prop) : Prop := ∃ I4 : Nat → (List (Nat × Nat)) → Prop, I4 0 [] ∧ (∀ (i8 : Nat) (x9 : (Nat × (List Nat))), (enumP told)[i8]? = some x9 → ∀ later : (List (Nat × Nat)), I4 i8 later → ∃ I13 : Nat → (List (Nat × Nat)) → Prop, I13 0 later ∧ (∀ (i17 : Nat) (x18 : Nat), x9.2[i17]? = some x18 → ∀ later_1 : (List (Nat × Nat)), I13 i17 later_1 → (later_1.length < 1000000) ∧ ∀ later_2 : (List (Nat × Nat)), later_2 = (dput later_1 x18 x9.1) → I13 (i17 + 1) later_2) ∧ (∀ later_1 : (List (Nat × Nat)), I13 x9.2.length later_1 → I4 (i8 + 1) later_1)) ∧ (∀ later : (List (Nat × Nat)), I4 (enumP told).length later → (rows ≤ 1073741824) ∧ ∃ I29 : Nat → (List Row) → Prop, I29 0 [] ∧ (∀ (i33 : Nat) (x34 : Nat), (List.range rows)[i33]? = some x34 → ∀ found : (List Row), I29 i33 found → (columns ≤ 1073741824) ∧ ((List.range columns).length ≤ 1000000) ∧ (∀ x38, x38 ∈ (List.range columns) → (x34 ∈ dkeys later) ∧ ((rows + x38) ∈ dkeys later)) ∧ (((List.range columns).map fun x38 => (if (((dget later x34).getD default) < ((dget later (rows + x38)).getD default)) then true else false)).length ≤ 16777216) ∧ (found.length < 1000000) ∧ ∀ found_1 : (List Row), found_1 = (found ++ [((List.range columns).map fun x38 => (if (((dget later x34).getD default) < ((dget later (rows + x38)).getD default)) then true else false))]) → I29 (i33 + 1) found_1) ∧ (∀ found : (List Row), I29 (List.range rows).length found → Q found))
theorem snd_by_layers (rows : Nat) (columns : Nat) (told : (List (List Nat))) {Q : (List Row) → Prop} (h : V_by_layers rows columns told Q) (tp : List D) : ∃ r : (List Row), Q r ∧ m_by_layers [eN rows, eN columns, (eT (eT eN)) told] tp = .ok ((eT eR) r) tp := by
  obtain ⟨d, t, e1, rfl, r, rfl, q⟩ := T.wp_def (n := 10) (s := b_by_layers) (ds := [eN rows, eN columns, (eT (eT eN)) told]) (tp := tp) (Q := fun d t => t = tp ∧ ∃ r : (List Row), d = (eT eR) r ∧ Q r) (by
    unfold V_by_layers at h
    change WP _ _ _ _ (b_by_layers [some (eN rows), some (eN columns), some ((eT (eT eN)) told), none, none, none, none, none, none, none] _)
    unfold b_by_layers
    refine T.wp_seq (T.wp_setF (T.ev_c rfl) rfl ?_)
    change WP _ _ _ _ (At _ [some (eN rows), some (eN columns), some ((eT (eT eN)) told), some ((eD eN) []), none, none, none, none, none, none] _)
    obtain ⟨I4, h5, h6, h7⟩ := h
    refine T.wp_seq (T.wp_for (e := (eP eN (eT eN))) (xs := (enumP told)) (ds := fun x9 => [eN x9.1, (eT eN) x9.2]) (fun k env tz => tp = tz ∧ ∃ later : (List (Nat × Nat)), ∃ g1 : Option D, ∃ g2 : Option D, ∃ g3 : Option D, env = [some (eN rows), some (eN columns), some ((eT (eT eN)) told), some ((eD eN) later), g1, g2, g3, none, none, none] ∧ I4 k later) (T.it_enumT (e := (eT eN)) (xs := told) (T.ev_v rfl)) (fun _ => rfl) ⟨rfl, [], _, _, _, rfl, h5⟩ ?_ ?_)
    · intro i8 x9 env t hk hI
      obtain ⟨rfl, later, g1, g2, g3, rfl, h⟩ := hI
      replace h := h6 i8 x9 hk later h
      change WP _ _ _ _ (At _ [some (eN rows), some (eN columns), some ((eT (eT eN)) told), some ((eD eN) later), some (eN x9.1), some ((eT eN) x9.2), g3, none, none, none] _)
      obtain ⟨I13, h14, h15, h16⟩ := h
      refine T.wp_for (e := eN) (xs := x9.2) (ds := fun x18 => [eN x18]) (fun k env tz => tp = tz ∧ ∃ later_1 : (List (Nat × Nat)), ∃ g12 : Option D, env = [some (eN rows), some (eN columns), some ((eT (eT eN)) told), some ((eD eN) later_1), some (eN x9.1), some ((eT eN) x9.2), g12, none, none, none] ∧ I13 k later_1) (T.it_T (e := eN) (xs := x9.2) (T.ev_v rfl)) (fun _ => rfl) ⟨rfl, later, _, rfl, h14⟩ ?_ ?_
      · intro i17 x18 env t hk hI
        obtain ⟨rfl, later_1, g12, rfl, h⟩ := hI
        replace h := h15 i17 x18 hk later_1 h
        change WP _ _ _ _ (At _ [some (eN rows), some (eN columns), some ((eT (eT eN)) told), some ((eD eN) later_1), some (eN x9.1), some ((eT eN) x9.2), some (eN x18), none, none, none] _)
        obtain ⟨c21, h⟩ := h
        obtain ⟨later_2, d22⟩ : ∃ later_2 : (List (Nat × Nat)), later_2 = (dput later_1 x18 x9.1) := ⟨_, rfl⟩
        replace h := h later_2 d22
        refine T.wp_dset (e := eN) (d := later_1) (k := x18) (v := x9.1) rfl (T.ev_v rfl) (T.ev_v rfl) c21 ?_
        rw [← d22]
        exact ⟨rfl, later_2, _, rfl, h⟩
      rintro _ _ ⟨rfl, later_1, g12, rfl, h⟩
      replace h := h16 later_1 h
      exact ⟨rfl, later_1, _, _, _, rfl, h⟩
    rintro _ _ ⟨rfl, later, g1, g2, g3, rfl, h⟩
    replace h := h7 later h
    change WP _ _ _ _ (At _ [some (eN rows), some (eN columns), some ((eT (eT eN)) told), some ((eD eN) later), g1, g2, g3, none, none, none] _)
    refine T.wp_seq (T.wp_setF (T.ev_lst (ds := []) T.ev_nil rfl) rfl ?_)
    change WP _ _ _ _ (At _ [some (eN rows), some (eN columns), some ((eT (eT eN)) told), some ((eD eN) later), g1, g2, g3, some ((eL eR) []), none, none] _)
    obtain ⟨c27, h⟩ := h
    obtain ⟨I29, h30, h31, h32⟩ := h
    refine T.wp_seq (T.wp_for (e := eN) (xs := (List.range rows)) (ds := fun x34 => [eN x34]) (fun k env tz => tp = tz ∧ ∃ found : (List Row), ∃ g28 : Option D, env = [some (eN rows), some (eN columns), some ((eT (eT eN)) told), some ((eD eN) later), g1, g2, g3, some ((eL eR) found), g28, none] ∧ I29 k found) (T.it_range (n := rows) c27 (T.ev_v rfl)) (fun _ => rfl) ⟨rfl, [], _, rfl, h30⟩ ?_ ?_)
    · intro i33 x34 env t hk hI
      obtain ⟨rfl, found, g28, rfl, h⟩ := hI
      replace h := h31 i33 x34 hk found h
      change WP _ _ _ _ (At _ [some (eN rows), some (eN columns), some ((eT (eT eN)) told), some ((eD eN) later), g1, g2, g3, some ((eL eR) found), some (eN x34), none] _)
      obtain ⟨c37, h⟩ := h
      obtain ⟨c39, h⟩ := h
      obtain ⟨c42, h⟩ := h
      obtain ⟨c43, h⟩ := h
      obtain ⟨c44, h⟩ := h
      obtain ⟨found_1, d45⟩ : ∃ found_1 : (List Row), found_1 = (found ++ [((List.range columns).map fun x38 => (if (((dget later x34).getD default) < ((dget later (rows + x38)).getD default)) then true else false))]) := ⟨_, rfl⟩
      replace h := h found_1 d45
      refine T.wp_app (e := eR) (xs := found) (x := ((List.range columns).map fun x38 => (if (((dget later x34).getD default) < ((dget later (rows + x38)).getD default)) then true else false))) rfl (T.ev_joinG (bs := ((List.range columns).map fun x38 => (if (((dget later x34).getD default) < ((dget later (rows + x38)).getD default)) then true else false))) c43 (T.ev_compY (e := eN) (e1 := eG) (xs := (List.range columns)) (ds := fun x38 => [eN x38]) (g := fun x38 => (if (((dget later x34).getD default) < ((dget later (rows + x38)).getD default)) then true else false)) (T.it_range (n := columns) c37 (T.ev_v rfl)) c39 (fun _ => rfl) (fun x38 hx => match c42 x38 hx with | ⟨c40, c41⟩ => (T.ev_ifE (P := (((dget later x34).getD default) < ((dget later (rows + x38)).getD default))) (e := eG) (x := true) (y := false) (T.ev_bool (T.ev_lt (x := ((dget later x34).getD default)) (y := ((dget later (rows + x38)).getD default)) (T.ev_ixK (e := eN) (x := x34) (d := later) c40 (T.ev_v rfl) (T.ev_v rfl)) (T.ev_ixK (e := eN) (x := (rows + x38)) (d := later) c41 (T.ev_v rfl) (T.ev_add (x := rows) (y := x38) (T.ev_v rfl) (T.ev_v rfl))))) (fun hp => (T.ev_c (congrArg D.str str_black))) (fun hp => (T.ev_c (congrArg D.str str_white))))))) c44 ?_
      rw [← d45]
      exact ⟨rfl, found_1, _, rfl, h⟩
    rintro _ _ ⟨rfl, found, g28, rfl, h⟩
    replace h := h32 found h
    change WP _ _ _ _ (At _ [some (eN rows), some (eN columns), some ((eT (eT eN)) told), some ((eD eN) later), g1, g2, g3, some ((eL eR) found), g28, none] _)
    exact T.wp_ret (T.ev_tupleL (e := eR) (xs := found) (T.ev_v rfl)) ⟨rfl, found, rfl, h⟩)
  exact ⟨r, q, e1⟩
def laterB (told : List (List Nat)) (n : Nat) : List (Nat × Nat) := ((enumP told).take n).foldl (fun d x => x.2.foldl (fun d y => dput d y x.1) d) []
abbrev P_by_layers (h w : Nat) (told : List (List Nat)) : Prop := (h ≤ 30 ∧ w ≤ 30) ∧ (∀ l, l < h + w → l ∈ told.flatten) ∧ told.flatten.length ≤ 1000
def F_by_layers (h w : Nat) (told : List (List Nat)) : Pic := (List.range h).map fun i => (List.range w).map fun j => if (dget (laterB told told.length) i).getD default < (dget (laterB told told.length) (h + j)).getD default then true else false
theorem fold_keys : ∀ (v : List Nat) (k : Nat) (d : List (Nat × Nat)) (l : Nat), l ∈ dkeys (v.foldl (fun d y => dput d y k) d) ↔ l ∈ dkeys d ∨ l ∈ v
  | [], k, d, l => by simp
  | y :: v, k, d, l => by
    rw [List.foldl_cons, fold_keys v k _ l, dkeys_dput, List.mem_cons]
    constructor
    · rintro ((h | h) | h)
      · exact .inl h
      · exact .inr (.inl h)
      · exact .inr (.inr h)
    · rintro (h | h | h)
      · exact .inl (.inl h)
      · exact .inl (.inr h)
      · exact .inr h
theorem fold_nd : ∀ (v : List Nat) (k : Nat) (d : List (Nat × Nat)), d.length ≤ 1000000 → (v.foldl (fun d y => dput d y k) d).length ≤ d.length + v.length
  | [], _, _, _ => Nat.le_refl _
  | y :: v, k, d, h => by
    rw [List.foldl_cons, List.length_cons]
    have a : (dput d y k).length ≤ d.length + 1 := by
      unfold dput
      split
      · rw [List.length_map]; omega
      · rw [List.length_append]; exact Nat.le_refl _
    have gen : ∀ (v : List Nat) (d : List (Nat × Nat)), (v.foldl (fun d y => dput d y k) d).length ≤ d.length + v.length := fun v => by
      induction v with
      | nil => intro d; exact Nat.le_refl _
      | cons z v ih =>
        intro d
        rw [List.foldl_cons, List.length_cons]
        have b := ih (dput d z k)
        have c : (dput d z k).length ≤ d.length + 1 := by
          unfold dput
          split
          · rw [List.length_map]; omega
          · rw [List.length_append]; exact Nat.le_refl _
        omega
    have b := gen v (dput d y k)
    omega
theorem enumB_get {T : List (List Nat)} {n : Nat} {x : Nat × List Nat} (h : (enumP T)[n]? = some x) : n < T.length ∧ x = (n, T[n]!) := by
  have hl : (enumP T).length = T.length := by unfold enumP; rw [List.length_mapIdx]
  have hi : n < T.length := by rw [← hl]; exact (List.getElem?_eq_some_iff.mp h).1
  have h : (List.mapIdx (fun i x => (i, x)) T)[n]? = some x := h
  rw [List.getElem?_mapIdx, List.getElem?_eq_getElem hi] at h
  have h : some (n, T[n]) = some x := h
  exact ⟨hi, by rw [getElem!_pos T n hi]; exact (Option.some.inj h).symm⟩
theorem laterB_snoc {T : List (List Nat)} {n : Nat} (hn : n < T.length) : laterB T (n + 1) = (T[n]!).foldl (fun d y => dput d y n) (laterB T n) := by
  unfold laterB
  have hl : (enumP T).length = T.length := by unfold enumP; rw [List.length_mapIdx]
  have e : (enumP T)[n]? = some (n, T[n]!) := by
    show (List.mapIdx (fun i x => (i, x)) T)[n]? = _
    rw [List.getElem?_mapIdx, List.getElem?_eq_getElem hn, getElem!_pos T n hn]; rfl
  rw [take_snoc e, List.foldl_append]; rfl
theorem laterB_keys {T : List (List Nat)} : ∀ n, n ≤ T.length → ∀ l, l ∈ dkeys (laterB T n) ↔ l ∈ (T.take n).flatten
  | 0, _, l => ⟨fun h => (by cases h), fun h => (by cases h)⟩
  | n + 1, h, l => by
    rw [laterB_snoc (by omega), fold_keys, laterB_keys n (by omega) l, take_snoc (get!_get? (show n < T.length by omega)), List.flatten_append, List.mem_append]
    simp
theorem laterB_len {T : List (List Nat)} (h : T.flatten.length ≤ 1000) : ∀ n, n ≤ T.length → (laterB T n).length ≤ (T.take n).flatten.length
  | 0, _ => Nat.le_refl _
  | n + 1, hn => by
    have ih := laterB_len h n (by omega)
    have sub : (T.take n).flatten.length ≤ T.flatten.length := by
      conv => rhs; rw [← List.take_append_drop n T, List.flatten_append, List.length_append]
      omega
    rw [laterB_snoc (by omega), take_snoc (get!_get? (show n < T.length by omega)), List.flatten_append, List.length_append]
    have a := fold_nd (T[n]!) n (laterB T n) (by omega)
    simp only [List.flatten_cons, List.flatten_nil, List.append_nil]
    omega
theorem rngY {n i x : Nat} (h : (List.range n)[i]? = some x) : x = i ∧ i < n := by
  obtain ⟨a, b⟩ := List.getElem?_eq_some_iff.mp h
  rw [List.length_range] at a
  rw [List.getElem_range] at b
  exact ⟨b.symm, a⟩
theorem byl_pic {h w : Nat} (h1 : 1 ≤ h) (h30 : h ≤ 30) (w1 : 1 ≤ w) (w30 : w ≤ 30) (told : List (List Nat)) : PicP (F_by_layers h w told) ∧ (F_by_layers h w told).length = h ∧ (F_by_layers h w told)[0]!.length = w := by
  have l : (F_by_layers h w told).length = h := by unfold F_by_layers; rw [List.length_map, List.length_range]
  have row : ∀ r ∈ F_by_layers h w told, r.length = w := fun r hr => by
    obtain ⟨i, _, rfl⟩ := List.mem_map.mp hr
    rw [List.length_map, List.length_range]
  have e0 : ((F_by_layers h w told)[0]!).length = w := row _ (mem_get! (by omega))
  exact ⟨⟨fun r hr => by rw [row r hr, e0], by rw [l]; exact h1, by rw [l]; exact h30, by rw [e0]; exact w1, by rw [e0]; exact w30⟩, l, e0⟩
theorem ok_by_layers {h w : Nat} {told : List (List Nat)} (k : P_by_layers h w told) : V_by_layers h w told (· = F_by_layers h w told) := by
  obtain ⟨⟨h30, w30⟩, km, kl⟩ := k
  have hl : (enumP told).length = told.length := by unfold enumP; rw [List.length_mapIdx]
  refine ⟨fun n d => d = laterB told n, rfl, fun n x hx d hd => ?_, fun d hd => ?_⟩
  · obtain ⟨hn, ex⟩ := enumB_get hx
    have hd : d = laterB told n := hd
    have ld := laterB_len kl n (by omega)
    have sub : (told.take (n + 1)).flatten.length ≤ told.flatten.length := by
      conv => rhs; rw [← List.take_append_drop (n + 1) told, List.flatten_append, List.length_append]
      omega
    have sp : (told.take (n + 1)).flatten.length = (told.take n).flatten.length + (told[n]!).length := by
      rw [take_snoc (get!_get? hn), List.flatten_append, List.length_append]; simp
    subst ex
    refine ⟨fun m e => e = ((told[n]!).take m).foldl (fun d y => dput d y n) d, rfl, fun m y hy e he => ?_, fun e he => ?_⟩
    · have hy : (told[n]!)[m]? = some y := hy
      have he : e = ((told[n]!).take m).foldl (fun d y => dput d y n) d := he
      have a := fold_nd ((told[n]!).take m) n d (by rw [hd]; omega)
      have b := (List.take_sublist m (told[n]!)).length_le
      refine ⟨by rw [← he, hd] at a; omega, fun e2 h2 => ?_⟩
      show e2 = ((told[n]!).take (m + 1)).foldl _ d
      rw [take_snoc hy, List.foldl_append, ← he, h2]; rfl
    · have he : e = ((told[n]!).take (told[n]!).length).foldl (fun d y => dput d y n) d := he
      rw [List.take_length] at he
      show e = laterB told (n + 1)
      rw [laterB_snoc hn, he, hd]
  · have hd : d = laterB told (enumP told).length := hd
    rw [hl] at hd
    have keys : ∀ l, l < h + w → l ∈ dkeys d := fun l hlt => by
      rw [hd]
      refine (laterB_keys told.length (Nat.le_refl _) l).mpr ?_
      rw [List.take_length]; exact km l hlt
    refine ⟨by omega, fun n f => f = (List.range n).map fun i => (List.range w).map fun j => if (dget (laterB told told.length) i).getD default < (dget (laterB told told.length) (h + j)).getD default then true else false, rfl, fun i x hx f hf => ?_, fun f hf => ?_⟩
    · obtain ⟨rfl, hi⟩ := rngY hx
      have hf : f = (List.range x).map fun i => (List.range w).map fun j => if (dget (laterB told told.length) i).getD default < (dget (laterB told told.length) (h + j)).getD default then true else false := hf
      refine ⟨by omega, by rw [List.length_range]; omega, fun y hy => ?_, by rw [List.length_map, List.length_range]; omega, by rw [hf, List.length_map, List.length_range]; omega, fun f2 h2 => ?_⟩
      · have hy := List.mem_range.mp hy
        exact ⟨keys x (by omega), keys (h + y) (by omega)⟩
      · show f2 = (List.range (x + 1)).map _
        rw [h2, List.range_succ, List.map_append, ← hf, hd]; rfl
    · have hf : f = (List.range (List.range h).length).map fun i => (List.range w).map fun j => if (dget (laterB told told.length) i).getD default < (dget (laterB told told.length) (h + j)).getD default then true else false := hf
      rw [List.length_range] at hf
      exact hf
theorem t_by_layers {rows : Nat} {columns : Nat} {told : (List (List Nat))} (hP : P_by_layers rows columns told) (tp : List D) : m_by_layers [eN rows, eN columns, (eT (eT eN)) told] tp = .ok ((eT eR) (F_by_layers rows columns told)) tp := by
  obtain ⟨r, rfl, e⟩ := snd_by_layers rows columns told (ok_by_layers hP) tp
  exact e
end W
set_option maxHeartbeats 1000000
namespace W
open PySem L2 G T
def V_masks (many : Nat) (Q : (List (List Nat)) → Prop) : Prop := ∀ found : (List (List Nat)), found = [[]] → (many ≤ 1073741824) ∧ ∃ I4 : Nat → (List (List Nat)) → Prop, I4 0 found ∧ (∀ (i8 : Nat) (x9 : Nat), (List.range many)[i8]? = some x9 → ∀ found_1 : (List (List Nat)), I4 i8 found_1 → (found_1.length ≤ 1000000) ∧ (∀ x12, x12 ∈ found_1 → ((x12 ++ [x9]).length ≤ 1000000)) ∧ (found_1.length + (found_1.map fun x12 => (x12 ++ [x9])).length ≤ 1000000) ∧ ∀ found_2 : (List (List Nat)), found_2 = (found_1 ++ (found_1.map fun x12 => (x12 ++ [x9]))) → I4 (i8 + 1) found_2) ∧ (∀ found_1 : (List (List Nat)), I4 (List.range many).length found_1 → Q found_1)
theorem snd_masks (many : Nat) {Q : (List (List Nat)) → Prop} (h : V_masks many Q) (tp : List D) : ∃ r : (List (List Nat)), Q r ∧ m_masks [eN many] tp = .ok ((eL (eT eN)) r) tp := by
  obtain ⟨d, t, e1, rfl, r, rfl, q⟩ := T.wp_def (n := 4) (s := b_masks) (ds := [eN many]) (tp := tp) (Q := fun d t => t = tp ∧ ∃ r : (List (List Nat)), d = (eL (eT eN)) r ∧ Q r) (by
    unfold V_masks at h
    change WP _ _ _ _ (b_masks [some (eN many), none, none, none] _)
    unfold b_masks
    obtain ⟨found, d1⟩ : ∃ found : (List (List Nat)), found = [[]] := ⟨_, rfl⟩
    replace h := h found d1
    refine T.wp_seq (T.wp_set (T.ev_as d1 (e := (eL (eT eN))) (T.ev_lst (ds := [(eT eN) []]) (T.ev_cons (T.ev_tup (ds := []) T.ev_nil rfl) T.ev_nil) rfl)) ?_)
    change WP _ _ _ _ (At _ [some (eN many), some ((eL (eT eN)) found), none, none] _)
    obtain ⟨c2, h⟩ := h
    obtain ⟨I4, h5, h6, h7⟩ := h
    refine T.wp_seq (T.wp_for (e := eN) (xs := (List.range many)) (ds := fun x9 => [eN x9]) (fun k env tz => tp = tz ∧ ∃ found_1 : (List (List Nat)), ∃ g3 : Option D, env = [some (eN many), some ((eL (eT eN)) found_1), g3, none] ∧ I4 k found_1) (T.it_range (n := many) c2 (T.ev_v rfl)) (fun _ => rfl) ⟨rfl, found, _, rfl, h5⟩ ?_ ?_)
    · intro i8 x9 env t hk hI
      obtain ⟨rfl, found_1, g3, rfl, h⟩ := hI
      replace h := h6 i8 x9 hk found_1 h
      change WP _ _ _ _ (At _ [some (eN many), some ((eL (eT eN)) found_1), some (eN x9), none] _)
      obtain ⟨c13, h⟩ := h
      obtain ⟨c15, h⟩ := h
      obtain ⟨c16, h⟩ := h
      obtain ⟨found_2, d17⟩ : ∃ found_2 : (List (List Nat)), found_2 = (found_1 ++ (found_1.map fun x12 => (x12 ++ [x9]))) := ⟨_, rfl⟩
      replace h := h found_2 d17
      refine T.wp_set (T.ev_as d17 (e := (eL (eT eN))) (T.ev_catL (e := (eT eN)) (xs := found_1) (ys := (found_1.map fun x12 => (x12 ++ [x9]))) c16 (T.ev_v rfl) (T.ev_compY (e := (eT eN)) (e1 := (eT eN)) (xs := found_1) (ds := fun x12 => [(eT eN) x12]) (g := fun x12 => (x12 ++ [x9])) (T.it_L (e := (eT eN)) (xs := found_1) (T.ev_v rfl)) c13 (fun _ => rfl) (fun x12 hx => have c14 := c15 x12 hx; (T.ev_tupM (e := eN) (xs := (x12 ++ [x9])) c14 (T.ev_starT (e := eN) (xs := x12) (ys := [x9]) (T.ev_v rfl) (T.ev_consM (e := eN) (x := x9) (xs := []) (T.ev_v rfl) (T.ev_nilM (e := eN))))))))) ?_
      exact ⟨rfl, found_2, _, rfl, h⟩
    rintro _ _ ⟨rfl, found_1, g3, rfl, h⟩
    replace h := h7 found_1 h
    change WP _ _ _ _ (At _ [some (eN many), some ((eL (eT eN)) found_1), g3, none] _)
    exact T.wp_ret (T.ev_v rfl) ⟨rfl, found_1, rfl, h⟩)
  exact ⟨r, q, e1⟩
def maskL : Nat → List (List Nat)
  | 0 => [[]]
  | n + 1 => maskL n ++ (maskL n).map fun x => x ++ [n]
theorem maskL_len : ∀ n, (maskL n).length = 2 ^ n
  | 0 => rfl
  | n + 1 => by
    unfold maskL
    rw [List.length_append, List.length_map, maskL_len n, Nat.pow_succ]; omega
theorem maskL_one : ∀ n, ∀ x ∈ maskL n, x.length ≤ n ∧ ∀ i ∈ x, i < n
  | 0, x, hx => by
    rw [List.mem_singleton.mp hx]
    exact ⟨Nat.le_refl _, fun i hi => by cases hi⟩
  | n + 1, x, hx => by
    unfold maskL at hx
    rcases List.mem_append.mp hx with h | h
    · obtain ⟨a, b⟩ := maskL_one n x h
      exact ⟨by omega, fun i hi => by have := b i hi; omega⟩
    · obtain ⟨y, hy, rfl⟩ := List.mem_map.mp h
      obtain ⟨a, b⟩ := maskL_one n y hy
      refine ⟨by rw [List.length_append]; show y.length + 1 ≤ _; omega, fun i hi => ?_⟩
      rcases List.mem_append.mp hi with z | z
      · have := b i z; omega
      · rw [List.mem_singleton.mp z]; omega
abbrev P_masks (n : Nat) : Prop := n ≤ 12
abbrev F_masks (n : Nat) : List (List Nat) := maskL n
theorem rngB {n i x : Nat} (h : (List.range n)[i]? = some x) : x = i ∧ i < n := by
  obtain ⟨a, b⟩ := List.getElem?_eq_some_iff.mp h
  rw [List.length_range] at a
  rw [List.getElem_range] at b
  exact ⟨b.symm, a⟩
theorem ok_masks {n : Nat} (k : P_masks n) : V_masks n (· = F_masks n) := by
  have k12 : n ≤ 12 := k
  refine fun found hf => ⟨by omega, fun i f => f = maskL i, hf, fun i x hx f hI => ?_, fun f hI => ?_⟩
  · obtain ⟨rfl, hi⟩ := rngB hx
    have hI : f = maskL x := hI
    have l : f.length ≤ 4096 := by
      rw [hI, maskL_len]
      exact Nat.pow_le_pow_right (n := 2) (by decide) (show x ≤ 12 by omega)
    refine ⟨by omega, fun y hy => ?_, by rw [List.length_map]; omega, fun g hg => ?_⟩
    · rw [hI] at hy
      have := (maskL_one x y hy).1
      rw [List.length_append]; show y.length + 1 ≤ _; omega
    · show g = maskL (x + 1)
      rw [hg, hI]; rfl
  · have hI : f = maskL (List.range n).length := hI
    rw [List.length_range] at hI
    exact hI
theorem t_masks {many : Nat} (hP : P_masks many) (tp : List D) : m_masks [eN many] tp = .ok ((eL (eT eN)) (F_masks many)) tp := by
  obtain ⟨r, rfl, e⟩ := snd_masks many (ok_masks hP) tp
  exact e
end W
set_option maxHeartbeats 1000000
namespace W
open PySem L2 G T
def V_worth_of (picture : (List Row)) (worths : (List (List Int))) (Q : Int → Prop) : Prop := (∀ x1, x1 ∈ (enumP picture) → ∀ y2, y2 ∈ (enumP x1.2) → (y2.2 = true) → (x1.1 < worths.length) ∧ (y2.1 < (worths[x1.1]!).length)) ∧ (((enumP picture).flatMap fun x1 => ((enumP x1.2).filter fun y2 => decide (y2.2 = true)).map fun y2 => (worths[x1.1]!)[y2.1]!).length ≤ 1000000) ∧ Q (((enumP picture).flatMap fun x1 => ((enumP x1.2).filter fun y2 => decide (y2.2 = true)).map fun y2 => (worths[x1.1]!)[y2.1]!).sum)
theorem snd_worth_of (picture : (List Row)) (worths : (List (List Int))) {Q : Int → Prop} (h : V_worth_of picture worths Q) (tp : List D) : ∃ r : Int, Q r ∧ m_worth_of [(eT eR) picture, (eT (eT eZ)) worths] tp = .ok (eZ r) tp := by
  obtain ⟨d, t, e1, rfl, r, rfl, q⟩ := T.wp_def (n := 6) (s := b_worth_of) (ds := [(eT eR) picture, (eT (eT eZ)) worths]) (tp := tp) (Q := fun d t => t = tp ∧ ∃ r : Int, d = eZ r ∧ Q r) (by
    unfold V_worth_of at h
    change WP _ _ _ _ (b_worth_of [some ((eT eR) picture), some ((eT (eT eZ)) worths), none, none, none, none] _)
    unfold b_worth_of
    obtain ⟨c5, h⟩ := h
    obtain ⟨c6, h⟩ := h
    exact T.wp_ret (T.ev_sumZ (xs := ((enumP picture).flatMap fun x1 => ((enumP x1.2).filter fun y2 => decide (y2.2 = true)).map fun y2 => (worths[x1.1]!)[y2.1]!)) (T.ev_comp2 (e := (eP eN eR)) (e1 := (eP eN eG)) (e2 := eZ) (xs := (enumP picture)) (ds := fun x1 => [eN x1.1, eR x1.2]) (ys := fun x1 => (enumP x1.2)) (ds1 := fun y2 => [eN y2.1, eG y2.2]) (g := fun x1 y2 => (worths[x1.1]!)[y2.1]!) (P := fun x1 y2 => (y2.2 = true)) (T.it_enumT (e := eR) (xs := picture) (T.ev_v rfl)) (fun _ => rfl) (fun x1 hx => (T.it_enumR (xs := x1.2) (T.ev_v rfl))) (fun _ => rfl) (fun x1 hx y2 hy => (T.ev_bool (T.ev_eq (x := y2.2) (y := true) qG rfl (T.ev_v rfl) (T.ev_c (congrArg D.str str_black))))) (fun x1 hx y2 hy hq => match c5 x1 hx y2 hy hq with | ⟨c3, c4⟩ => (T.ev_ixT (e := eZ) (xs := worths[x1.1]!) (i := y2.1) c4 (T.ev_ixT (e := (eT eZ)) (xs := worths) (i := x1.1) c3 (T.ev_v rfl) (T.ev_v rfl)) (T.ev_v rfl))) c6)) ⟨rfl, ((enumP picture).flatMap fun x1 => ((enumP x1.2).filter fun y2 => decide (y2.2 = true)).map fun y2 => (worths[x1.1]!)[y2.1]!).sum, rfl, h⟩)
  exact ⟨r, q, e1⟩
abbrev P_worth_of (p : Pic) (W : List (List Int)) : Prop := PicP p ∧ TabP W ∧ W.length = p.length ∧ W[0]!.length = p[0]!.length
def F_worth_of (p : Pic) (W : List (List Int)) : Int := worthQ p W p.length p[0]!.length
theorem ok_worth_of {p : Pic} {W : List (List Int)} (k : P_worth_of p W) : V_worth_of p W (· = F_worth_of p W) := by
  obtain ⟨kp, kt, hh, hw⟩ := k
  have h30 := kp.h30
  have w30 := kp.w30
  have ln : ∀ {α : Type} (xs : List α), (enumP xs).length = xs.length := fun xs => by unfold enumP; rw [List.length_mapIdx]
  refine ⟨fun x hx y hy _ => ?_, ?_, worth_enum kp W⟩
  · obtain ⟨a, b⟩ := mem_enumP hx
    obtain ⟨c, _⟩ := mem_enumP hy
    rw [b, kp.get a] at c
    exact ⟨by omega, by rw [kt.len (by omega)]; omega⟩
  · refine Nat.le_trans (flat_lenZ _ 30 _ fun x hx => ?_) ?_
    · obtain ⟨a, b⟩ := mem_enumP hx
      rw [List.length_map]
      refine Nat.le_trans (List.length_filter_le _ _) ?_
      rw [ln, b, kp.get a]; exact w30
    · rw [ln]; exact Nat.le_trans (Nat.mul_le_mul_right 30 h30) (by decide)
theorem t_worth_of {picture : (List Row)} {worths : (List (List Int))} (hP : P_worth_of picture worths) (tp : List D) : m_worth_of [(eT eR) picture, (eT (eT eZ)) worths] tp = .ok (eZ (F_worth_of picture worths)) tp := by
  obtain ⟨r, rfl, e⟩ := snd_worth_of picture worths (ok_worth_of hP) tp
  exact e
end W
set_option maxHeartbeats 1000000
namespace W
open PySem L2 G T
def V_law_paint (picture : (List Row)) (line : Nat) (Q : (List Row) → Prop) : Prop := (picture.length ≤ 1073741824) ∧ ∃ I5 : Nat → (List Row) → Prop, I5 0 [] ∧ (∀ (i9 : Nat) (x10 : Nat), (List.range picture.length)[i9]? = some x10 → ∀ found : (List Row), I5 i9 found → (0 < picture.length) ∧ ((picture[0]!).length ≤ 1000000) ∧ ((picture[0]!).length ≤ 1073741824) ∧ ∃ I17 : Nat → Row → Prop, I17 0 ([] : Row) ∧ (∀ (i21 : Nat) (x22 : Nat), (List.range ((picture[0]!).length))[i21]? = some x22 → ∀ told : Row, I17 i21 told → (¬(line = x10) → (¬(line = (picture.length + x22)) → (x10 < picture.length) ∧ ((picture[x10]!).length ≤ 1000000 ∧ x22 < (picture[x10]!).length))) ∧ (told.length + ([(if (line = x10) then true else (if (line = (picture.length + x22)) then false else (picture[x10]!)[x22]!))]).length ≤ 1000000) ∧ ∀ told_1 : Row, told_1 = (told ++ [(if (line = x10) then true else (if (line = (picture.length + x22)) then false else (picture[x10]!)[x22]!))]) → I17 (i21 + 1) told_1) ∧ (∀ told : Row, I17 (List.range ((picture[0]!).length)).length told → (found.length < 1000000) ∧ ∀ found_1 : (List Row), found_1 = (found ++ [told]) → I5 (i9 + 1) found_1)) ∧ (∀ found : (List Row), I5 (List.range picture.length).length found → Q found)
theorem snd_law_paint (picture : (List Row)) (line : Nat) {Q : (List Row) → Prop} (h : V_law_paint picture line Q) (tp : List D) : ∃ r : (List Row), Q r ∧ m_law_paint [(eT eR) picture, eN line] tp = .ok ((eT eR) r) tp := by
  obtain ⟨d, t, e1, rfl, r, rfl, q⟩ := T.wp_def (n := 6) (s := b_law_paint) (ds := [(eT eR) picture, eN line]) (tp := tp) (Q := fun d t => t = tp ∧ ∃ r : (List Row), d = (eT eR) r ∧ Q r) (by
    unfold V_law_paint at h
    change WP _ _ _ _ (b_law_paint [some ((eT eR) picture), some (eN line), none, none, none, none] _)
    unfold b_law_paint
    refine T.wp_seq (T.wp_setF (T.ev_lst (ds := []) T.ev_nil rfl) rfl ?_)
    change WP _ _ _ _ (At _ [some ((eT eR) picture), some (eN line), some ((eL eR) []), none, none, none] _)
    obtain ⟨c1, h⟩ := h
    obtain ⟨I5, h6, h7, h8⟩ := h
    refine T.wp_seq (T.wp_for (e := eN) (xs := (List.range picture.length)) (ds := fun x10 => [eN x10]) (fun k env tz => tp = tz ∧ ∃ found : (List Row), ∃ g2 : Option D, ∃ g3 : Option D, ∃ g4 : Option D, env = [some ((eT eR) picture), some (eN line), some ((eL eR) found), g2, g3, g4] ∧ I5 k found) (T.it_range (n := picture.length) c1 (T.ev_lenT (e := eR) (xs := picture) (T.ev_v rfl))) (fun _ => rfl) ⟨rfl, [], _, _, _, rfl, h6⟩ ?_ ?_)
    · intro i9 x10 env t hk hI
      obtain ⟨rfl, found, g2, g3, g4, rfl, h⟩ := hI
      replace h := h7 i9 x10 hk found h
      change WP _ _ _ _ (At _ [some ((eT eR) picture), some (eN line), some ((eL eR) found), some (eN x10), g3, g4] _)
      refine T.wp_seq (T.wp_set (T.ev_c (congrArg D.str str_empty)) ?_)
      change WP _ _ _ _ (At _ [some ((eT eR) picture), some (eN line), some ((eL eR) found), some (eN x10), some (eR ([] : Row)), g4] _)
      obtain ⟨c13, h⟩ := h
      obtain ⟨c14, h⟩ := h
      obtain ⟨c15, h⟩ := h
      obtain ⟨I17, h18, h19, h20⟩ := h
      refine T.wp_seq (T.wp_for (e := eN) (xs := (List.range ((picture[0]!).length))) (ds := fun x22 => [eN x22]) (fun k env tz => tp = tz ∧ ∃ told : Row, ∃ g16 : Option D, env = [some ((eT eR) picture), some (eN line), some ((eL eR) found), some (eN x10), some (eR told), g16] ∧ I17 k told) (T.it_range (n := (picture[0]!).length) c15 (T.ev_lenR (r := picture[0]!) c14 (T.ev_ixT (e := eR) (xs := picture) (i := 0) c13 (T.ev_v rfl) (T.ev_cN 0)))) (fun _ => rfl) ⟨rfl, ([] : Row), _, rfl, h18⟩ ?_ ?_)
      · intro i21 x22 env t hk hI
        obtain ⟨rfl, told, g16, rfl, h⟩ := hI
        replace h := h19 i21 x22 hk told h
        change WP _ _ _ _ (At _ [some ((eT eR) picture), some (eN line), some ((eL eR) found), some (eN x10), some (eR told), some (eN x22)] _)
        obtain ⟨c28, h⟩ := h
        obtain ⟨c29, h⟩ := h
        obtain ⟨told_1, d30⟩ : ∃ told_1 : Row, told_1 = (told ++ [(if (line = x10) then true else (if (line = (picture.length + x22)) then false else (picture[x10]!)[x22]!))]) := ⟨_, rfl⟩
        replace h := h told_1 d30
        refine T.wp_set (T.ev_as d30 (e := eR) (T.ev_catR (xs := told) (ys := [(if (line = x10) then true else (if (line = (picture.length + x22)) then false else (picture[x10]!)[x22]!))]) c29 (T.ev_v rfl) (T.ev_ifE (P := (line = x10)) (e := eG) (x := true) (y := (if (line = (picture.length + x22)) then false else (picture[x10]!)[x22]!)) (T.ev_bool (T.ev_eq (x := line) (y := x10) qN rfl (T.ev_v rfl) (T.ev_v rfl))) (fun hp => (T.ev_c (congrArg D.str str_black))) (fun hp => have c27 := c28 hp; (T.ev_ifE (P := (line = (picture.length + x22))) (e := eG) (x := false) (y := (picture[x10]!)[x22]!) (T.ev_bool (T.ev_eq (x := line) (y := (picture.length + x22)) qN rfl (T.ev_v rfl) (T.ev_add (x := picture.length) (y := x22) (T.ev_lenT (e := eR) (xs := picture) (T.ev_v rfl)) (T.ev_v rfl)))) (fun hp => (T.ev_c (congrArg D.str str_white))) (fun hp => match c27 hp with | ⟨c25, c26⟩ => (T.ev_ixR (r := picture[x10]!) (i := x22) c26 (T.ev_ixT (e := eR) (xs := picture) (i := x10) c25 (T.ev_v rfl) (T.ev_v rfl)) (T.ev_v rfl)))))))) ?_
        exact ⟨rfl, told_1, _, rfl, h⟩
      rintro _ _ ⟨rfl, told, g16, rfl, h⟩
      replace h := h20 told h
      change WP _ _ _ _ (At _ [some ((eT eR) picture), some (eN line), some ((eL eR) found), some (eN x10), some (eR told), g16] _)
      obtain ⟨c33, h⟩ := h
      obtain ⟨found_1, d34⟩ : ∃ found_1 : (List Row), found_1 = (found ++ [told]) := ⟨_, rfl⟩
      replace h := h found_1 d34
      refine T.wp_app (e := eR) (xs := found) (x := told) rfl (T.ev_v rfl) c33 ?_
      rw [← d34]
      exact ⟨rfl, found_1, _, _, _, rfl, h⟩
    rintro _ _ ⟨rfl, found, g2, g3, g4, rfl, h⟩
    replace h := h8 found h
    change WP _ _ _ _ (At _ [some ((eT eR) picture), some (eN line), some ((eL eR) found), g2, g3, g4] _)
    exact T.wp_ret (T.ev_tupleL (e := eR) (xs := found) (T.ev_v rfl)) ⟨rfl, found, rfl, h⟩)
  exact ⟨r, q, e1⟩
abbrev P_law_paint (p : Pic) (_ : Nat) : Prop := PicP p
abbrev F_law_paint (p : Pic) (l : Nat) : Pic := lineQ p l
theorem ok_law_paint {p : Pic} {l : Nat} (k : P_law_paint p l) : V_law_paint p l (· = F_law_paint p l) := by
  have h1 := k.h1; have h30 := k.h30; have w1 := k.w1; have w30 := k.w30
  refine ⟨by omega, fun n f => f = (lineQ p l).take n, rfl, fun i x hx f hf => ?_, fun f hf => ?_⟩
  · obtain ⟨rfl, hi⟩ := range_get hx
    refine ⟨by omega, by omega, by omega, fun n t => t = ((lineQ p l)[x]!).take n, rfl, fun j y hy t ht => ?_, fun t ht => ⟨?_, fun g hg => ?_⟩⟩
    · obtain ⟨rfl, hj⟩ := range_get hy
      refine ⟨fun _ _ => ⟨hi, by rw [k.get hi]; omega⟩, ?_, fun u hu => ?_⟩
      · rw [ht, List.length_take]
        have : ([(if (l = x) then true else (if (l = (p.length + y)) then false else (p[x]!)[y]!))] : Row).length = 1 := rfl
        omega
      · rw [hu, ht]
        refine (take_snoc ?_).symm
        unfold lineQ
        rw [mkP_row hi, List.getElem?_map, hy]; rfl
    · rw [hf, List.length_take]; omega
    · have e : t = (lineQ p l)[x]! := by
        rw [ht, List.length_range]
        exact List.take_of_length_le (by unfold lineQ; rw [mkP_wid hi]; exact Nat.le_refl _)
      rw [hg, hf, e]
      refine (take_snoc ?_).symm
      rw [List.getElem?_eq_getElem (by rw [lineQ_len]; exact hi), getElem!_pos _ x (by rw [lineQ_len]; exact hi)]
  · rw [hf, List.length_range]
    exact List.take_of_length_le (by rw [lineQ_len]; exact Nat.le_refl _)
theorem t_law_paint {picture : (List Row)} {line : Nat} (hP : P_law_paint picture line) (tp : List D) : m_law_paint [(eT eR) picture, eN line] tp = .ok ((eT eR) (F_law_paint picture line)) tp := by
  obtain ⟨r, rfl, e⟩ := snd_law_paint picture line (ok_law_paint hP) tp
  exact e
end W
set_option maxHeartbeats 1000000
namespace W
open PySem L2 G T
def V_law_layers (picture : (List Row)) (Q : (List (List Nat)) → Prop) : Prop := (0 < picture.length) ∧ ((picture[0]!).length ≤ 1000000) ∧ ∀ wide : Nat, wide = (picture[0]!).length → (picture.length ≤ 16777216) ∧ (wide ≤ 16777216) ∧ ∀ rows : (List Nat), rows = (List.range picture.length) → ∀ columns : (List Nat), columns = (List.range wide) → ((picture.length + wide) ≤ 1073741824) ∧ ∃ I12 : Nat → (List (List Nat)) → (List Nat) → (List Nat) → Prop, I12 0 [] rows columns ∧ (∀ (i16 : Nat) (x17 : Nat), (List.range (picture.length + wide))[i16]? = some x17 → ∀ found : (List (List Nat)), ∀ rows_1 : (List Nat), ∀ columns_1 : (List Nat), I12 i16 found rows_1 columns_1 → (rows_1.length ≤ 1000000) ∧ (∀ x20, x20 ∈ rows_1 → (columns_1.length ≤ 1000000) ∧ (∀ x22, x22 ∈ columns_1 → (x20 < picture.length) ∧ ((picture[x20]!).length ≤ 1000000 ∧ x22 < (picture[x20]!).length))) ∧ ∀ full : (List Nat), full = (rows_1.filter fun x20 => decide (((columns_1.filter fun x22 => decide ((picture[x20]!)[x22]! = false)).map fun x22 => 1) = [])) → (columns_1.length ≤ 1000000) ∧ (∀ x29, x29 ∈ columns_1 → (rows_1.length ≤ 1000000) ∧ (∀ x31, x31 ∈ rows_1 → (x31 < picture.length) ∧ ((picture[x31]!).length ≤ 1000000 ∧ x29 < (picture[x31]!).length))) ∧ ∀ empty : (List Nat), empty = (columns_1.filter fun x29 => decide (((rows_1.filter fun x31 => decide ((picture[x31]!)[x29]! = true)).map fun x31 => 1) = [])) → ∃ J38 : (List (List Nat)) → (List Nat) → (List Nat) → Prop, ((full ≠ []) → (found.length < 1000000) ∧ ∀ found_2 : (List (List Nat)), found_2 = (found ++ [full]) → (rows_1.length ≤ 1000000) ∧ ∀ rows_3 : (List Nat), rows_3 = (rows_1.filter fun x44 => decide (x44 ∉ full)) → J38 found_2 rows_3 columns_1) ∧ (¬(full ≠ []) → ((empty ≠ []) → (empty.length ≤ 1000000) ∧ (found.length < 1000000) ∧ (columns_1.length ≤ 1000000)) ∧ ∀ found_3 : (List (List Nat)), found_3 = (if (empty ≠ []) then (found ++ [(empty.map fun x47 => (picture.length + x47))]) else found) → ∀ columns_3 : (List Nat), columns_3 = (if (empty ≠ []) then (columns_1.filter fun x50 => decide (x50 ∉ empty)) else columns_1) → J38 found_3 rows_1 columns_3) ∧ (∀ found_1 : (List (List Nat)), ∀ rows_2 : (List Nat), ∀ columns_2 : (List Nat), J38 found_1 rows_2 columns_2 → I12 (i16 + 1) found_1 rows_2 columns_2)) ∧ (∀ found : (List (List Nat)), ∀ rows_1 : (List Nat), ∀ columns_1 : (List Nat), I12 (List.range (picture.length + wide)).length found rows_1 columns_1 → Q found)
theorem snd_law_layers (picture : (List Row)) {Q : (List (List Nat)) → Prop} (h : V_law_layers picture Q) (tp : List D) : ∃ r : (List (List Nat)), Q r ∧ m_law_layers [(eT eR) picture] tp = .ok ((eL (eL eN)) r) tp := by
  obtain ⟨d, t, e1, rfl, r, rfl, q⟩ := T.wp_def (n := 11) (s := b_law_layers) (ds := [(eT eR) picture]) (tp := tp) (Q := fun d t => t = tp ∧ ∃ r : (List (List Nat)), d = (eL (eL eN)) r ∧ Q r) (by
    unfold V_law_layers at h
    change WP _ _ _ _ (b_law_layers [some ((eT eR) picture), none, none, none, none, none, none, none, none, none, none] _)
    unfold b_law_layers
    obtain ⟨c1, h⟩ := h
    obtain ⟨c2, h⟩ := h
    obtain ⟨wide, d3⟩ : ∃ wide : Nat, wide = (picture[0]!).length := ⟨_, rfl⟩
    replace h := h wide d3
    refine T.wp_seq (T.wp_par (T.ev_cons (T.ev_lenT (e := eR) (xs := picture) (T.ev_v rfl)) (T.ev_cons (T.ev_as d3 (e := eN) (T.ev_lenR (r := picture[0]!) c2 (T.ev_ixT (e := eR) (xs := picture) (i := 0) c1 (T.ev_v rfl) (T.ev_cN 0)))) (T.ev_cons (T.ev_lst (ds := []) T.ev_nil rfl) T.ev_nil))) rfl ?_)
    change WP _ _ _ _ (At _ [some ((eT eR) picture), some (eN picture.length), some (eN wide), some ((eL (eL eN)) []), none, none, none, none, none, none, none] _)
    obtain ⟨c4, h⟩ := h
    obtain ⟨c5, h⟩ := h
    obtain ⟨rows, d6⟩ : ∃ rows : (List Nat), rows = (List.range picture.length) := ⟨_, rfl⟩
    replace h := h rows d6
    obtain ⟨columns, d7⟩ : ∃ columns : (List Nat), columns = (List.range wide) := ⟨_, rfl⟩
    replace h := h columns d7
    refine T.wp_seq (T.wp_par (T.ev_cons (T.ev_as d6 (e := (eL eN)) (T.ev_rg1L (n := picture.length) c4 (T.ev_v rfl))) (T.ev_cons (T.ev_as d7 (e := (eL eN)) (T.ev_rg1L (n := wide) c5 (T.ev_v rfl))) T.ev_nil)) rfl ?_)
    change WP _ _ _ _ (At _ [some ((eT eR) picture), some (eN picture.length), some (eN wide), some ((eL (eL eN)) []), some ((eL eN) rows), some ((eL eN) columns), none, none, none, none, none] _)
    obtain ⟨c8, h⟩ := h
    obtain ⟨I12, h13, h14, h15⟩ := h
    refine T.wp_seq (T.wp_for (e := eN) (xs := (List.range (picture.length + wide))) (ds := fun x17 => [eN x17]) (fun k env tz => tp = tz ∧ ∃ found : (List (List Nat)), ∃ rows_1 : (List Nat), ∃ columns_1 : (List Nat), ∃ g9 : Option D, ∃ g10 : Option D, ∃ g11 : Option D, env = [some ((eT eR) picture), some (eN picture.length), some (eN wide), some ((eL (eL eN)) found), some ((eL eN) rows_1), some ((eL eN) columns_1), g9, g10, none, none, g11] ∧ I12 k found rows_1 columns_1) (T.it_range (n := (picture.length + wide)) c8 (T.ev_add (x := picture.length) (y := wide) (T.ev_v rfl) (T.ev_v rfl))) (fun _ => rfl) ⟨rfl, [], rows, columns, _, _, _, rfl, h13⟩ ?_ ?_)
    · intro i16 x17 env t hk hI
      obtain ⟨rfl, found, rows_1, columns_1, g9, g10, g11, rfl, h⟩ := hI
      replace h := h14 i16 x17 hk found rows_1 columns_1 h
      change WP _ _ _ _ (At _ [some ((eT eR) picture), some (eN picture.length), some (eN wide), some ((eL (eL eN)) found), some ((eL eN) rows_1), some ((eL eN) columns_1), some (eN x17), g10, none, none, g11] _)
      obtain ⟨c21, h⟩ := h
      obtain ⟨c27, h⟩ := h
      obtain ⟨full, d28⟩ : ∃ full : (List Nat), full = (rows_1.filter fun x20 => decide (((columns_1.filter fun x22 => decide ((picture[x20]!)[x22]! = false)).map fun x22 => 1) = [])) := ⟨_, rfl⟩
      replace h := h full d28
      refine T.wp_seq (T.wp_set (T.ev_as d28 (e := (eL eN)) (T.ev_compI (e := eN) (xs := rows_1) (ds := fun x20 => [eN x20]) (P := fun x20 => (((columns_1.filter fun x22 => decide ((picture[x20]!)[x22]! = false)).map fun x22 => 1) = [])) (T.it_L (e := eN) (xs := rows_1) (T.ev_v rfl)) c21 (fun _ => rfl) (fun x20 hx => match c27 x20 hx with | ⟨c23, c26⟩ => (T.ev_bool (T.ev_eq (x := ((columns_1.filter fun x22 => decide ((picture[x20]!)[x22]! = false)).map fun x22 => 1)) (y := []) (qL qN) rfl (T.ev_comp (e := eN) (e1 := eN) (xs := columns_1) (ds := fun x22 => [eN x22]) (g := fun x22 => 1) (P := fun x22 => ((picture[x20]!)[x22]! = false)) (T.it_L (e := eN) (xs := columns_1) (T.ev_v rfl)) c23 (fun _ => rfl) (fun x22 hx => match c26 x22 hx with | ⟨c24, c25⟩ => (T.ev_bool (T.ev_eq (x := (picture[x20]!)[x22]!) (y := false) qG rfl (T.ev_ixR (r := picture[x20]!) (i := x22) c25 (T.ev_ixT (e := eR) (xs := picture) (i := x20) c24 (T.ev_v rfl) (T.ev_v rfl)) (T.ev_v rfl)) (T.ev_c (congrArg D.str str_white))))) (fun x22 hx hq => (T.ev_cN 1))) (T.ev_lst (ds := []) T.ev_nil rfl)))) (fun x20 hx hq => (T.ev_v rfl)))) ?_)
      change WP _ _ _ _ (At _ [some ((eT eR) picture), some (eN picture.length), some (eN wide), some ((eL (eL eN)) found), some ((eL eN) rows_1), some ((eL eN) columns_1), some (eN x17), some ((eL eN) full), none, none, g11] _)
      obtain ⟨c30, h⟩ := h
      obtain ⟨c36, h⟩ := h
      obtain ⟨empty, d37⟩ : ∃ empty : (List Nat), empty = (columns_1.filter fun x29 => decide (((rows_1.filter fun x31 => decide ((picture[x31]!)[x29]! = true)).map fun x31 => 1) = [])) := ⟨_, rfl⟩
      replace h := h empty d37
      refine T.wp_seq (T.wp_set (T.ev_as d37 (e := (eL eN)) (T.ev_compI (e := eN) (xs := columns_1) (ds := fun x29 => [eN x29]) (P := fun x29 => (((rows_1.filter fun x31 => decide ((picture[x31]!)[x29]! = true)).map fun x31 => 1) = [])) (T.it_L (e := eN) (xs := columns_1) (T.ev_v rfl)) c30 (fun _ => rfl) (fun x29 hx => match c36 x29 hx with | ⟨c32, c35⟩ => (T.ev_bool (T.ev_eq (x := ((rows_1.filter fun x31 => decide ((picture[x31]!)[x29]! = true)).map fun x31 => 1)) (y := []) (qL qN) rfl (T.ev_comp (e := eN) (e1 := eN) (xs := rows_1) (ds := fun x31 => [eN x31]) (g := fun x31 => 1) (P := fun x31 => ((picture[x31]!)[x29]! = true)) (T.it_L (e := eN) (xs := rows_1) (T.ev_v rfl)) c32 (fun _ => rfl) (fun x31 hx => match c35 x31 hx with | ⟨c33, c34⟩ => (T.ev_bool (T.ev_eq (x := (picture[x31]!)[x29]!) (y := true) qG rfl (T.ev_ixR (r := picture[x31]!) (i := x29) c34 (T.ev_ixT (e := eR) (xs := picture) (i := x31) c33 (T.ev_v rfl) (T.ev_v rfl)) (T.ev_v rfl)) (T.ev_c (congrArg D.str str_black))))) (fun x31 hx hq => (T.ev_cN 1))) (T.ev_lst (ds := []) T.ev_nil rfl)))) (fun x29 hx hq => (T.ev_v rfl)))) ?_)
      change WP _ _ _ _ (At _ [some ((eT eR) picture), some (eN picture.length), some (eN wide), some ((eL (eL eN)) found), some ((eL eN) rows_1), some ((eL eN) columns_1), some (eN x17), some ((eL eN) full), none, none, some ((eL eN) empty)] _)
      obtain ⟨J38, h39, h40, h41⟩ := h
      refine T.wp_ifJ (P := (full ≠ [])) (J := fun env tz => tp = tz ∧ ∃ found_1 : (List (List Nat)), ∃ rows_2 : (List Nat), ∃ columns_2 : (List Nat), env = [some ((eT eR) picture), some (eN picture.length), some (eN wide), some ((eL (eL eN)) found_1), some ((eL eN) rows_2), some ((eL eN) columns_2), some (eN x17), some ((eL eN) full), none, none, some ((eL eN) empty)] ∧ J38 found_1 rows_2 columns_2) (T.ev_bool (T.ev_ne (x := full) (y := []) (qL qN) rfl (T.ev_v rfl) (T.ev_lst (ds := []) T.ev_nil rfl))) (fun hp => ?_) (fun hn => ?_) ?_
      · replace h := h39 hp
        obtain ⟨c42, h⟩ := h
        obtain ⟨found_2, d43⟩ : ∃ found_2 : (List (List Nat)), found_2 = (found ++ [full]) := ⟨_, rfl⟩
        replace h := h found_2 d43
        refine T.wp_seq (T.wp_app (e := (eL eN)) (xs := found) (x := full) rfl (T.ev_v rfl) c42 ?_)
        rw [← d43]
        change WP _ _ _ _ (At _ [some ((eT eR) picture), some (eN picture.length), some (eN wide), some ((eL (eL eN)) found_2), some ((eL eN) rows_1), some ((eL eN) columns_1), some (eN x17), some ((eL eN) full), none, none, some ((eL eN) empty)] _)
        obtain ⟨c45, h⟩ := h
        obtain ⟨rows_3, d46⟩ : ∃ rows_3 : (List Nat), rows_3 = (rows_1.filter fun x44 => decide (x44 ∉ full)) := ⟨_, rfl⟩
        replace h := h rows_3 d46
        refine T.wp_set (T.ev_as d46 (e := (eL eN)) (T.ev_compI (e := eN) (xs := rows_1) (ds := fun x44 => [eN x44]) (P := fun x44 => (x44 ∉ full)) (T.it_L (e := eN) (xs := rows_1) (T.ev_v rfl)) c45 (fun _ => rfl) (fun x44 hx => (T.ev_bool (T.ev_ninL (x := x44) (xs := full) qN rfl (T.ev_v rfl) (T.ev_v rfl)))) (fun x44 hx hq => (T.ev_v rfl)))) ?_
        exact ⟨rfl, found_2, rows_3, columns_1, rfl, h⟩
      · replace h := h40 hn
        obtain ⟨c52, h⟩ := h
        refine T.wp_ifJ (P := (empty ≠ [])) (J := fun env tz => tp = tz ∧ ∃ found_3 : (List (List Nat)), ∃ columns_3 : (List Nat), env = [some ((eT eR) picture), some (eN picture.length), some (eN wide), some ((eL (eL eN)) found_3), some ((eL eN) rows_1), some ((eL eN) columns_3), some (eN x17), some ((eL eN) full), none, none, some ((eL eN) empty)] ∧ found_3 = (if (empty ≠ []) then (found ++ [(empty.map fun x47 => (picture.length + x47))]) else found) ∧ columns_3 = (if (empty ≠ []) then (columns_1.filter fun x50 => decide (x50 ∉ empty)) else columns_1)) (T.ev_bool (T.ev_ne (x := empty) (y := []) (qL qN) rfl (T.ev_v rfl) (T.ev_lst (ds := []) T.ev_nil rfl))) (fun hq => ?_) (fun hq => ?_) ?_
        · obtain ⟨c48, c49, c51⟩ := c52 hq
          refine T.wp_seq (T.wp_app (e := (eL eN)) (xs := found) (x := (empty.map fun x47 => (picture.length + x47))) rfl (T.ev_compY (e := eN) (e1 := eN) (xs := empty) (ds := fun x47 => [eN x47]) (g := fun x47 => (picture.length + x47)) (T.it_L (e := eN) (xs := empty) (T.ev_v rfl)) c48 (fun _ => rfl) (fun x47 hx => (T.ev_add (x := picture.length) (y := x47) (T.ev_v rfl) (T.ev_v rfl)))) c49 ?_)
          change WP _ _ _ _ (At _ [some ((eT eR) picture), some (eN picture.length), some (eN wide), some ((eL (eL eN)) (found ++ [(empty.map fun x47 => (picture.length + x47))])), some ((eL eN) rows_1), some ((eL eN) columns_1), some (eN x17), some ((eL eN) full), none, none, some ((eL eN) empty)] _)
          refine T.wp_set (T.ev_compI (e := eN) (xs := columns_1) (ds := fun x50 => [eN x50]) (P := fun x50 => (x50 ∉ empty)) (T.it_L (e := eN) (xs := columns_1) (T.ev_v rfl)) c51 (fun _ => rfl) (fun x50 hx => (T.ev_bool (T.ev_ninL (x := x50) (xs := empty) qN rfl (T.ev_v rfl) (T.ev_v rfl)))) (fun x50 hx hq => (T.ev_v rfl))) ?_
          exact ⟨rfl, (found ++ [(empty.map fun x47 => (picture.length + x47))]), (columns_1.filter fun x50 => decide (x50 ∉ empty)), rfl, (if_pos hq).symm, (if_pos hq).symm⟩
        · refine T.wp_skip ?_
          exact ⟨rfl, found, columns_1, rfl, (if_neg hq).symm, (if_neg hq).symm⟩
        rintro _ _ ⟨rfl, found_3, columns_3, rfl, d53, d54⟩
        replace h := h found_3 d53
        replace h := h columns_3 d54
        exact ⟨rfl, found_3, rows_1, columns_3, rfl, h⟩
      rintro _ _ ⟨rfl, found_1, rows_2, columns_2, rfl, h⟩
      replace h := h41 found_1 rows_2 columns_2 h
      exact ⟨rfl, found_1, rows_2, columns_2, _, _, _, rfl, h⟩
    rintro _ _ ⟨rfl, found, rows_1, columns_1, g9, g10, g11, rfl, h⟩
    replace h := h15 found rows_1 columns_1 h
    change WP _ _ _ _ (At _ [some ((eT eR) picture), some (eN picture.length), some (eN wide), some ((eL (eL eN)) found), some ((eL eN) rows_1), some ((eL eN) columns_1), g9, g10, none, none, g11] _)
    exact T.wp_ret (T.ev_v rfl) ⟨rfl, found, rfl, h⟩)
  exact ⟨r, q, e1⟩
abbrev P_law_layers (p : Pic) : Prop := PicP p
abbrev F_law_layers (p : Pic) : List (List Nat) := layersQ p
theorem ok_law_layers {p : Pic} (k : P_law_layers p) : V_law_layers p (· = F_law_layers p) := by
  have h1 := k.h1; have h30 := k.h30; have w1 := k.w1; have w30 := k.w30
  refine ⟨by omega, by omega, fun w hw => ⟨by omega, by omega, fun rs hrs cs hcs => ⟨by omega, fun n f r c => (f, r, c) = liter p n, ?_, fun i x hx f r c hI => ?_, fun f r c hI => ?_⟩⟩⟩
  · subst hw hrs hcs; rfl
  · subst hw
    have hi := (range_get hx).2
    have e1 : (liter p i).1 = f := by rw [← hI]
    have e2 : (liter p i).2.1 = r := by rw [← hI]
    have e3 : (liter p i).2.2 = c := by rw [← hI]
    obtain ⟨s1, s2, s3⟩ := liter_sub p i
    rw [e2] at s1
    rw [e3] at s2
    rw [e1] at s3
    have l1 := s1.length_le
    have l2 := s2.length_le
    rw [List.length_range] at l1 l2
    have m1 : ∀ i ∈ r, i < p.length := fun i hi => List.mem_range.mp (s1.subset hi)
    have m2 : ∀ j ∈ c, j < p[0]!.length := fun j hj => List.mem_range.mp (s2.subset hj)
    have cell : ∀ i ∈ r, ∀ j ∈ c, i < p.length ∧ (p[i]!).length ≤ 1000000 ∧ j < (p[i]!).length := fun i hi j hj => by
      have a := m1 i hi
      have b := m2 j hj
      have := k.get a
      omega
    refine ⟨by omega, fun i hi => ⟨by omega, fun j hj => cell i hi j hj⟩, fun full hf => ⟨by omega, fun j hj => ⟨by omega, fun i hi => cell i hi j hj⟩, fun emp he => ?_⟩⟩
    rw [ones_full] at hf
    rw [ones_emp] at he
    refine ⟨fun f' r' c' => (f', r', c') = lstep p (f, r, c), fun hq => ⟨by omega, fun f2 h2 => ⟨by omega, fun r2 h3 => ?_⟩⟩, fun hq => ⟨fun hq2 => ?_, fun f2 h2 c2 h3 => ?_⟩, fun f' r' c' hJ => ?_⟩
    · subst hf h2 h3
      unfold lstep
      rw [if_pos hq]
    · have : emp.length ≤ c.length := by rw [he]; exact len_filter_le _ _
      omega
    · subst hf he
      unfold lstep
      rw [if_neg hq]
      by_cases q : empQ p r c ≠ []
      · rw [if_pos q] at h2 h3 ⊢; rw [h2, h3]
      · rw [if_neg q] at h2 h3 ⊢; rw [h2, h3]
    · show _ = lstep p (liter p i)
      rw [hJ, hI]
  · rw [List.length_range] at hI
    subst hw
    show f = (liter p _).1
    rw [← hI]
theorem t_law_layers {picture : (List Row)} (hP : P_law_layers picture) (tp : List D) : m_law_layers [(eT eR) picture] tp = .ok ((eL (eL eN)) (F_law_layers picture)) tp := by
  obtain ⟨r, rfl, e⟩ := snd_law_layers picture (ok_law_layers hP) tp
  exact e
end W
set_option maxHeartbeats 1000000
namespace W
open PySem L2 G T
def V_law_all (high : Nat) (wide : Nat) (Q : (List (List Row)) → Prop) : Prop := (cMul ((high : Nat) : Int) ((wide : Nat) : Int) = true) ∧ (cPow ((1 : Nat) : Int) (((high * wide) : Nat) : Int) = true) ∧ ((1 * 2 ^ (high * wide)) ≤ 1073741824) ∧ ∃ I6 : Nat → (List (List Row)) → Prop, I6 0 [] ∧ (∀ (i10 : Nat) (x11 : Nat), (List.range (1 * 2 ^ (high * wide)))[i10]? = some x11 → ∀ found : (List (List Row)), I6 i10 found → (cMul ((high : Nat) : Int) ((wide : Nat) : Int) = true) ∧ ((high * wide) ≤ 1073741824) ∧ ((List.range (high * wide)).length ≤ 1000000) ∧ (((List.range (high * wide)).map fun x16 => (if (((x11 / 2 ^ x16) &&& 1) ≠ 0) then true else false)).length ≤ 16777216) ∧ ∀ told : Row, told = ((List.range (high * wide)).map fun x16 => (if (((x11 / 2 ^ x16) &&& 1) ≠ 0) then true else false)) → (high ≤ 1073741824) ∧ ((List.range high).length ≤ 1000000) ∧ (∀ x21, x21 ∈ (List.range high) → (told.length ≤ 1000000) ∧ (cMul ((x21 : Nat) : Int) ((wide : Nat) : Int) = true)) ∧ (found.length < 1000000) ∧ ∀ found_1 : (List (List Row)), found_1 = (found ++ [((List.range high).map fun x21 => ((told.drop (x21 * wide)).take (((x21 * wide) + wide) - (x21 * wide))))]) → I6 (i10 + 1) found_1) ∧ (∀ found : (List (List Row)), I6 (List.range (1 * 2 ^ (high * wide))).length found → (∀ p ∈ found, p ≠ []) ∧ Q (sortP found))
theorem snd_law_all (high : Nat) (wide : Nat) {Q : (List (List Row)) → Prop} (h : V_law_all high wide Q) (tp : List D) : ∃ r : (List (List Row)), Q r ∧ m_law_all [eN high, eN wide] tp = .ok ((eL (eT eR)) r) tp := by
  obtain ⟨d, t, e1, rfl, r, rfl, q⟩ := T.wp_def (n := 6) (s := b_law_all) (ds := [eN high, eN wide]) (tp := tp) (Q := fun d t => t = tp ∧ ∃ r : (List (List Row)), d = (eL (eT eR)) r ∧ Q r) (by
    unfold V_law_all at h
    change WP _ _ _ _ (b_law_all [some (eN high), some (eN wide), none, none, none, none] _)
    unfold b_law_all
    refine T.wp_seq (T.wp_setF (T.ev_lst (ds := []) T.ev_nil rfl) rfl ?_)
    change WP _ _ _ _ (At _ [some (eN high), some (eN wide), some ((eL (eT eR)) []), none, none, none] _)
    obtain ⟨c1, h⟩ := h
    obtain ⟨c2, h⟩ := h
    obtain ⟨c3, h⟩ := h
    obtain ⟨I6, h7, h8, h9⟩ := h
    refine T.wp_seq (T.wp_for (e := eN) (xs := (List.range (1 * 2 ^ (high * wide)))) (ds := fun x11 => [eN x11]) (fun k env tz => tp = tz ∧ ∃ found : (List (List Row)), ∃ g4 : Option D, ∃ g5 : Option D, env = [some (eN high), some (eN wide), some ((eL (eT eR)) found), g4, g5, none] ∧ I6 k found) (T.it_range (n := (1 * 2 ^ (high * wide))) c3 (T.ev_shl (x := 1) (y := (high * wide)) c2 (T.ev_cN 1) (T.ev_mul (x := high) (y := wide) c1 (T.ev_v rfl) (T.ev_v rfl)))) (fun _ => rfl) ⟨rfl, [], _, _, rfl, h7⟩ ?_ ?_)
    · intro i10 x11 env t hk hI
      obtain ⟨rfl, found, g4, g5, rfl, h⟩ := hI
      replace h := h8 i10 x11 hk found h
      change WP _ _ _ _ (At _ [some (eN high), some (eN wide), some ((eL (eT eR)) found), some (eN x11), g5, none] _)
      obtain ⟨c14, h⟩ := h
      obtain ⟨c15, h⟩ := h
      obtain ⟨c17, h⟩ := h
      obtain ⟨c18, h⟩ := h
      obtain ⟨told, d19⟩ : ∃ told : Row, told = ((List.range (high * wide)).map fun x16 => (if (((x11 / 2 ^ x16) &&& 1) ≠ 0) then true else false)) := ⟨_, rfl⟩
      replace h := h told d19
      refine T.wp_seq (T.wp_set (T.ev_as d19 (e := eR) (T.ev_joinG (bs := ((List.range (high * wide)).map fun x16 => (if (((x11 / 2 ^ x16) &&& 1) ≠ 0) then true else false))) c18 (T.ev_compY (e := eN) (e1 := eG) (xs := (List.range (high * wide))) (ds := fun x16 => [eN x16]) (g := fun x16 => (if (((x11 / 2 ^ x16) &&& 1) ≠ 0) then true else false)) (T.it_range (n := (high * wide)) c15 (T.ev_mul (x := high) (y := wide) c14 (T.ev_v rfl) (T.ev_v rfl))) c17 (fun _ => rfl) (fun x16 hx => (T.ev_ifE (P := (((x11 / 2 ^ x16) &&& 1) ≠ 0)) (e := eG) (x := true) (y := false) (T.ev_truN (T.ev_band (x := (x11 / 2 ^ x16)) (y := 1) (T.ev_shr (x := x11) (y := x16) (T.ev_v rfl) (T.ev_v rfl)) (T.ev_cN 1))) (fun hp => (T.ev_c (congrArg D.str str_black))) (fun hp => (T.ev_c (congrArg D.str str_white)))))))) ?_)
      change WP _ _ _ _ (At _ [some (eN high), some (eN wide), some ((eL (eT eR)) found), some (eN x11), some (eR told), none] _)
      obtain ⟨c20, h⟩ := h
      obtain ⟨c22, h⟩ := h
      obtain ⟨c25, h⟩ := h
      obtain ⟨c26, h⟩ := h
      obtain ⟨found_1, d27⟩ : ∃ found_1 : (List (List Row)), found_1 = (found ++ [((List.range high).map fun x21 => ((told.drop (x21 * wide)).take (((x21 * wide) + wide) - (x21 * wide))))]) := ⟨_, rfl⟩
      replace h := h found_1 d27
      refine T.wp_app (e := (eT eR)) (xs := found) (x := ((List.range high).map fun x21 => ((told.drop (x21 * wide)).take (((x21 * wide) + wide) - (x21 * wide))))) rfl (T.ev_tupleL (e := eR) (xs := ((List.range high).map fun x21 => ((told.drop (x21 * wide)).take (((x21 * wide) + wide) - (x21 * wide))))) (T.ev_compY (e := eN) (e1 := eR) (xs := (List.range high)) (ds := fun x21 => [eN x21]) (g := fun x21 => ((told.drop (x21 * wide)).take (((x21 * wide) + wide) - (x21 * wide)))) (T.it_range (n := high) c20 (T.ev_v rfl)) c22 (fun _ => rfl) (fun x21 hx => match c25 x21 hx with | ⟨c23, c24⟩ => (T.ev_cutR (xs := told) (k := (x21 * wide)) (l := ((x21 * wide) + wide)) c23 (T.ev_v rfl) (T.ev_mul (x := x21) (y := wide) c24 (T.ev_v rfl) (T.ev_v rfl)) (T.ev_add (x := (x21 * wide)) (y := wide) (T.ev_mul (x := x21) (y := wide) c24 (T.ev_v rfl) (T.ev_v rfl)) (T.ev_v rfl)))))) c26 ?_
      rw [← d27]
      exact ⟨rfl, found_1, _, _, rfl, h⟩
    rintro _ _ ⟨rfl, found, g4, g5, rfl, h⟩
    replace h := h9 found h
    change WP _ _ _ _ (At _ [some (eN high), some (eN wide), some ((eL (eT eR)) found), g4, g5, none] _)
    obtain ⟨c30, h⟩ := h
    exact T.wp_ret (T.ev_sortP (ps := found) c30 (T.ev_v rfl)) ⟨rfl, (sortP found), rfl, h⟩)
  exact ⟨r, q, e1⟩
abbrev P_law_all (h w : Nat) : Prop := 1 ≤ h ∧ 1 ≤ w ∧ h ≤ 9 ∧ w ≤ 9 ∧ h * w ≤ 9
def bitsQ (n m : Nat) : Row := (List.range n).map fun a => (if (((m / 2 ^ a) &&& 1) ≠ 0) then true else false)
def maskP (h w m : Nat) : Pic := (List.range h).map fun i => ((bitsQ (h * w) m).drop (i * w)).take (((i * w) + w) - (i * w))
def F_law_all (h w : Nat) : List Pic := sortP ((List.range (1 * 2 ^ (h * w))).map (maskP h w))
theorem maskP_len (h w m : Nat) : (maskP h w m).length = h := by unfold maskP; simp
theorem maskP_row {h w m : Nat} {r : Row} (hr : r ∈ maskP h w m) : r.length = w := by
  obtain ⟨i, hi, rfl⟩ := List.mem_map.mp hr
  have hi := List.mem_range.mp hi
  have : i * w + w ≤ h * w := by rw [← Nat.succ_mul]; exact Nat.mul_le_mul_right w hi
  rw [List.length_take, List.length_drop]
  unfold bitsQ
  rw [List.length_map, List.length_range]; omega
theorem maskP_sides {h w m : Nat} (k : P_law_all h w) : Sides h w (maskP h w m) := by
  obtain ⟨a, b, c, d, _⟩ := k
  have e0 : ((maskP h w m)[0]!).length = w := maskP_row (mem_get! (by rw [maskP_len]; omega))
  exact ⟨⟨fun r hr => by rw [maskP_row hr, e0], by rw [maskP_len]; exact a, by rw [maskP_len]; omega, by rw [e0]; exact b, by rw [e0]; omega⟩, maskP_len h w m, e0⟩
theorem mem_all {h w : Nat} {p : Pic} : p ∈ F_law_all h w ↔ ∃ m, m < 1 * 2 ^ (h * w) ∧ p = maskP h w m := by
  unfold F_law_all
  rw [(sortP_perm _).mem_iff, List.mem_map]
  exact ⟨fun ⟨m, a, b⟩ => ⟨m, List.mem_range.mp a, b.symm⟩, fun ⟨m, a, b⟩ => ⟨m, List.mem_range.mpr a, b.symm⟩⟩
theorem len_all {h w : Nat} (k : P_law_all h w) : (F_law_all h w).length ≤ 512 := by
  obtain ⟨a, b, c, d, e⟩ := k
  unfold F_law_all
  rw [(sortP_perm _).length_eq, List.length_map, List.length_range, Nat.one_mul]
  exact Nat.pow_le_pow_right (by decide) e
theorem ok_law_all {h w : Nat} (k : P_law_all h w) : V_law_all h w (· = F_law_all h w) := by
  obtain ⟨a, b, c, d, hw⟩ := id k
  have p2 : 1 * 2 ^ (h * w) ≤ 512 := by rw [Nat.one_mul]; exact Nat.pow_le_pow_right (by decide) hw
  have cm : ∀ x : Nat, x ≤ 100 → cMul ((x : Nat) : Int) ((w : Nat) : Int) = true := fun x hx => mul_small (by omega) (by omega) (by omega) (by omega)
  refine ⟨cm h (by omega), cPow_of (by decide) (by omega), by omega, fun n f => f = ((List.range (1 * 2 ^ (h * w))).take n).map (maskP h w), rfl, fun i m hm f hf => ⟨cm h (by omega), by omega, by rw [List.length_range]; omega, by rw [List.length_map, List.length_range]; omega, fun told ht => ⟨by omega, by rw [List.length_range]; omega, fun x hx => ⟨?_, cm x ?_⟩, ?_, fun f2 hf2 => ?_⟩⟩, fun f hf => ⟨?_, ?_⟩⟩
  · rw [ht, List.length_map, List.length_range]; omega
  · have := List.mem_range.mp hx; omega
  · rw [hf, List.length_map, List.length_take, List.length_range]; omega
  · show f2 = _
    rw [hf2, hf, take_snoc hm, List.map_append, List.map_singleton, ht]; rfl
  · have hf : f = ((List.range (1 * 2 ^ (h * w))).take (List.range (1 * 2 ^ (h * w))).length).map (maskP h w) := hf
    rw [hf]
    intro p hp
    obtain ⟨m, _, rfl⟩ := List.mem_map.mp hp
    exact List.ne_nil_of_length_pos (by rw [maskP_len]; omega)
  · have hf : f = ((List.range (1 * 2 ^ (h * w))).take (List.range (1 * 2 ^ (h * w))).length).map (maskP h w) := hf
    rw [List.take_length] at hf
    rw [hf]; rfl
theorem t_law_all {high : Nat} {wide : Nat} (hP : P_law_all high wide) (tp : List D) : m_law_all [eN high, eN wide] tp = .ok ((eL (eT eR)) (F_law_all high wide)) tp := by
  obtain ⟨r, rfl, e⟩ := snd_law_all high wide (ok_law_all hP) tp
  exact e
end W
set_option maxHeartbeats 1000000
namespace W
open PySem L2 G T
def V_is_in2 (value : Int) (least : Int) (most : Int) (Q : Bool → Prop) : Prop := (P_is_int2 value) ∧ Q (decide (((F_is_int2 value) = true) ∧ (least ≤ value ∧ value ≤ most)))
theorem snd_is_in2 (value : Int) (least : Int) (most : Int) {Q : Bool → Prop} (h : V_is_in2 value least most Q) (tp : List D) : ∃ r : Bool, Q r ∧ m_is_in [eZ value, eZ least, eZ most] tp = .ok (eB r) tp := by
  obtain ⟨d, t, e1, rfl, r, rfl, q⟩ := T.wp_def (n := 3) (s := b_is_in) (ds := [eZ value, eZ least, eZ most]) (tp := tp) (Q := fun d t => t = tp ∧ ∃ r : Bool, d = eB r ∧ Q r) (by
    unfold V_is_in2 at h
    change WP _ _ _ _ (b_is_in [some (eZ value), some (eZ least), some (eZ most)] _)
    unfold b_is_in
    obtain ⟨c1, h⟩ := h
    exact T.wp_ret (T.ev_andE (P := ((F_is_int2 value) = true)) (Q := (least ≤ value ∧ value ≤ most)) (T.ev_decB (F_is_int2 value) (T.ev_call (T.ev_cons (T.ev_v rfl) T.ev_nil) rfl (t_is_int2 c1 _))) (fun hp => (T.ev_chLeLeZ (x := least) (y := value) (z := most) (T.ev_v rfl) (T.ev_v rfl) (T.ev_v rfl)))) ⟨rfl, (decide (((F_is_int2 value) = true) ∧ (least ≤ value ∧ value ≤ most))), rfl, h⟩)
  exact ⟨r, q, e1⟩
abbrev P_is_in2 (_ _ _ : Int) : Prop := True
def F_is_in2 (v l m : Int) : Bool := decide (l ≤ v ∧ v ≤ m)
theorem ok_is_in2 {v l m : Int} (_ : P_is_in2 v l m) : V_is_in2 v l m (· = F_is_in2 v l m) := by simp [V_is_in2, F_is_in2, P_is_int2]
theorem t_is_in2 {value : Int} {least : Int} {most : Int} (hP : P_is_in2 value least most) (tp : List D) : m_is_in [eZ value, eZ least, eZ most] tp = .ok (eB (F_is_in2 value least most)) tp := by
  obtain ⟨r, rfl, e⟩ := snd_is_in2 value least most (ok_is_in2 hP) tp
  exact e
end W
set_option maxHeartbeats 1000000
namespace W
open PySem L2 G T
def V_need_picture (value : (List Row)) (Q : Unit → Prop) : Prop := (P_is_picture value) ∧ ((F_is_picture value) = true) ∧ Q ()
theorem snd_need_picture (value : (List Row)) {Q : Unit → Prop} (h : V_need_picture value Q) (tp : List D) : ∃ r : Unit, Q r ∧ m_need_picture [(eT eR) value] tp = .ok (eU r) tp := by
  obtain ⟨d, t, e1, rfl, r, rfl, q⟩ := T.wp_def (n := 1) (s := b_need_picture) (ds := [(eT eR) value]) (tp := tp) (Q := fun d t => t = tp ∧ ∃ r : Unit, d = eU r ∧ Q r) (by
    unfold V_need_picture at h
    change WP _ _ _ _ (b_need_picture [some ((eT eR) value)] _)
    unfold b_need_picture
    obtain ⟨c1, h⟩ := h
    obtain ⟨hf, h⟩ := h
    refine T.wp_if (P := (¬((F_is_picture value) = true))) (T.ev_notT (P := ((F_is_picture value) = true)) (T.ev_dec (F_is_picture value) (T.ev_call (T.ev_cons (T.ev_v rfl) T.ev_nil) rfl (t_is_picture c1 _)))) (fun hp => ?_) (fun hn => ?_)
    · exact absurd hp ((fun h0 => h0 (hf)))
    · refine T.wp_skip ?_
      exact ⟨rfl, (), rfl, h⟩)
  exact ⟨r, q, e1⟩
abbrev P_need_picture (p : Pic) : Prop := PicP p
abbrev F_need_picture (_ : Pic) : Unit := ()
theorem ok_need_picture {p : Pic} (k : P_need_picture p) : V_need_picture p (· = F_need_picture p) := ⟨k, rfl, rfl⟩
theorem t_need_picture {value : (List Row)} (hP : P_need_picture value) (tp : List D) : m_need_picture [(eT eR) value] tp = .ok (eU (F_need_picture value)) tp := by
  obtain ⟨r, rfl, e⟩ := snd_need_picture value (ok_need_picture hP) tp
  exact e
end W
set_option maxHeartbeats 1000000
namespace W
open PySem L2 G T
def V_layers_of (picture : (List Row)) (Q : (List (List Nat)) → Prop) : Prop := (P_lines_of picture) ∧ ((F_lines_of picture) ≤ 16777216) ∧ ∀ left : (List Nat), left = (List.range (F_lines_of picture)) → (left.length ≤ 1000000) ∧ (∀ x4, x4 ∈ left → (P_leads_to picture x4)) ∧ ∀ ways : (List (List Nat)), ways = (left.map fun x4 => (F_leads_to picture x4)) → ∃ (I12 : (List Nat) → (List (List Nat)) → Prop) (M13 : (List Nat) → (List (List Nat)) → Nat), I12 left [] ∧ M13 left [] < 1000000 ∧ (∀ left_1 : (List Nat), ∀ found : (List (List Nat)), I12 left_1 found → (left_1.length ≤ 1000000) ∧ ∀ told : (List (Nat × Bool)), told = (dictOf (left_1.map fun x19 => (x19, true))) → (left_1.length ≤ 1000000) ∧ (∀ x22, x22 ∈ left_1 → (x22 < ways.length) ∧ ((ways[x22]!).length ≤ 1000000)) ∧ ∀ some_ : (List Nat), some_ = (left_1.filter fun x22 => decide (¬(∃ x25 ∈ ways[x22]!, (x25 ∈ dkeys told)))) → (((some_ = []) → Q found) ∧ (¬(some_ = []) → (found.length < 1000000) ∧ ∀ found_1 : (List (List Nat)), found_1 = (found ++ [some_]) → (some_.length ≤ 1000000) ∧ ∀ gone : (List (Nat × Bool)), gone = (dictOf (some_.map fun x31 => (x31, true))) → (left_1.length ≤ 1000000) ∧ ∀ left_2 : (List Nat), left_2 = (left_1.filter fun x34 => decide (x34 ∉ dkeys gone)) → (I12 left_2 found_1 ∧ M13 left_2 found_1 < M13 left_1 found))))
theorem snd_layers_of (picture : (List Row)) {Q : (List (List Nat)) → Prop} (h : V_layers_of picture Q) (tp : List D) : ∃ r : (List (List Nat)), Q r ∧ m_layers_of [(eT eR) picture] tp = .ok ((eL (eL eN)) r) tp := by
  obtain ⟨d, t, e1, rfl, r, rfl, q⟩ := T.wp_def (n := 9) (s := b_layers_of) (ds := [(eT eR) picture]) (tp := tp) (Q := fun d t => t = tp ∧ ∃ r : (List (List Nat)), d = (eL (eL eN)) r ∧ Q r) (by
    unfold V_layers_of at h
    change WP _ _ _ _ (b_layers_of [some ((eT eR) picture), none, none, none, none, none, none, none, none] _)
    unfold b_layers_of
    obtain ⟨c1, h⟩ := h
    obtain ⟨c2, h⟩ := h
    obtain ⟨left, d3⟩ : ∃ left : (List Nat), left = (List.range (F_lines_of picture)) := ⟨_, rfl⟩
    replace h := h left d3
    refine T.wp_seq (T.wp_par (T.ev_cons (T.ev_as d3 (e := (eL eN)) (T.ev_rg1L (n := (F_lines_of picture)) c2 (T.ev_call (T.ev_cons (T.ev_v rfl) T.ev_nil) rfl (t_lines_of c1 _)))) (T.ev_cons (T.ev_lst (ds := []) T.ev_nil rfl) T.ev_nil)) rfl ?_)
    change WP _ _ _ _ (At _ [some ((eT eR) picture), some ((eL eN) left), some ((eL (eL eN)) []), none, none, none, none, none, none] _)
    obtain ⟨c5, h⟩ := h
    obtain ⟨c7, h⟩ := h
    obtain ⟨ways, d8⟩ : ∃ ways : (List (List Nat)), ways = (left.map fun x4 => (F_leads_to picture x4)) := ⟨_, rfl⟩
    replace h := h ways d8
    refine T.wp_seq (T.wp_set (T.ev_as d8 (e := (eL (eL eN))) (T.ev_compY (e := eN) (e1 := (eL eN)) (xs := left) (ds := fun x4 => [eN x4]) (g := fun x4 => (F_leads_to picture x4)) (T.it_L (e := eN) (xs := left) (T.ev_v rfl)) c5 (fun _ => rfl) (fun x4 hx => have c6 := c7 x4 hx; (T.ev_call (T.ev_cons (T.ev_v rfl) (T.ev_cons (T.ev_v rfl) T.ev_nil)) rfl (t_leads_to c6 _))))) ?_)
    change WP _ _ _ _ (At _ [some ((eT eR) picture), some ((eL eN) left), some ((eL (eL eN)) []), some ((eL (eL eN)) ways), none, none, none, none, none] _)
    obtain ⟨I12, M13, h14, h15, h16⟩ := h
    refine T.wp_while (fun n env tz => tp = tz ∧ ∃ left_1 : (List Nat), ∃ found : (List (List Nat)), ∃ g9 : Option D, ∃ g10 : Option D, ∃ g11 : Option D, env = [some ((eT eR) picture), some ((eL eN) left_1), some ((eL (eL eN)) found), some ((eL (eL eN)) ways), none, g9, g10, none, g11] ∧ I12 left_1 found ∧ M13 left_1 found = n) ⟨_, h15, rfl, left, [], _, _, _, rfl, h14, rfl⟩ ?_
    intro n17 env t hI
    obtain ⟨rfl, left_1, found, g9, g10, g11, rfl, h, rfl⟩ := hI
    replace h := h16 left_1 found h
    refine ⟨(true = true), inferInstance, (T.ev_dec true (T.ev_c rfl)), fun hp => ?_, fun hn => ?_⟩
    · obtain ⟨c20, h⟩ := h
      obtain ⟨told, d21⟩ : ∃ told : (List (Nat × Bool)), told = (dictOf (left_1.map fun x19 => (x19, true))) := ⟨_, rfl⟩
      replace h := h told d21
      refine T.wp_seq (T.wp_set (T.ev_as d21 (e := (eD eB)) (T.ev_dc (e := eB) (e1 := eN) (xs := left_1) (ds := fun x19 => [eN x19]) (k := fun x19 => x19) (v := fun x19 => true) (T.it_L (e := eN) (xs := left_1) (T.ev_v rfl)) c20 (fun _ => rfl) (fun x19 hx => (T.ev_v rfl)) (fun x19 hx => (T.ev_c rfl)))) ?_)
      change WP _ _ _ _ (At _ [some ((eT eR) picture), some ((eL eN) left_1), some ((eL (eL eN)) found), some ((eL (eL eN)) ways), none, some ((eD eB) told), g10, none, g11] _)
      obtain ⟨c23, h⟩ := h
      obtain ⟨c27, h⟩ := h
      obtain ⟨some_, d28⟩ : ∃ some_ : (List Nat), some_ = (left_1.filter fun x22 => decide (¬(∃ x25 ∈ ways[x22]!, (x25 ∈ dkeys told)))) := ⟨_, rfl⟩
      replace h := h some_ d28
      refine T.wp_seq (T.wp_set (T.ev_as d28 (e := (eL eN)) (T.ev_compI (e := eN) (xs := left_1) (ds := fun x22 => [eN x22]) (P := fun x22 => (¬(∃ x25 ∈ ways[x22]!, (x25 ∈ dkeys told)))) (T.it_L (e := eN) (xs := left_1) (T.ev_v rfl)) c23 (fun _ => rfl) (fun x22 hx => match c27 x22 hx with | ⟨c24, c26⟩ => (T.ev_notT (P := (∃ x25 ∈ ways[x22]!, (x25 ∈ dkeys told))) (T.ev_bool (T.ev_anyY (xs := ways[x22]!) (R := fun x25 => (x25 ∈ dkeys told)) (T.ev_compY (e := eN) (e1 := eB) (xs := ways[x22]!) (ds := fun x25 => [eN x25]) (g := fun x25 => (decide (x25 ∈ dkeys told))) (T.it_L (e := eN) (xs := ways[x22]!) (T.ev_ixL (e := (eL eN)) (xs := ways) (i := x22) c24 (T.ev_v rfl) (T.ev_v rfl))) c26 (fun _ => rfl) (fun x25 hx => (T.ev_inK (x := x25) (d := told) (T.ev_v rfl) (T.ev_v rfl)))))))) (fun x22 hx hq => (T.ev_v rfl)))) ?_)
      change WP _ _ _ _ (At _ [some ((eT eR) picture), some ((eL eN) left_1), some ((eL (eL eN)) found), some ((eL (eL eN)) ways), none, some ((eD eB) told), some ((eL eN) some_), none, g11] _)
      refine T.wp_seq (T.wp_if (P := (some_ = [])) (T.ev_bool (T.ev_eq (x := some_) (y := []) (qL qN) rfl (T.ev_v rfl) (T.ev_lst (ds := []) T.ev_nil rfl))) (fun hp => ?_) (fun hn => ?_))
      · replace h := h.1 hp
        exact T.wp_ret (T.ev_v rfl) ⟨rfl, found, rfl, h⟩
      · replace h := h.2 hn
        refine T.wp_skip ?_
        change WP _ _ _ _ (At _ [some ((eT eR) picture), some ((eL eN) left_1), some ((eL (eL eN)) found), some ((eL (eL eN)) ways), none, some ((eD eB) told), some ((eL eN) some_), none, g11] _)
        obtain ⟨c29, h⟩ := h
        obtain ⟨found_1, d30⟩ : ∃ found_1 : (List (List Nat)), found_1 = (found ++ [some_]) := ⟨_, rfl⟩
        replace h := h found_1 d30
        refine T.wp_seq (T.wp_app (e := (eL eN)) (xs := found) (x := some_) rfl (T.ev_v rfl) c29 ?_)
        rw [← d30]
        change WP _ _ _ _ (At _ [some ((eT eR) picture), some ((eL eN) left_1), some ((eL (eL eN)) found_1), some ((eL (eL eN)) ways), none, some ((eD eB) told), some ((eL eN) some_), none, g11] _)
        obtain ⟨c32, h⟩ := h
        obtain ⟨gone, d33⟩ : ∃ gone : (List (Nat × Bool)), gone = (dictOf (some_.map fun x31 => (x31, true))) := ⟨_, rfl⟩
        replace h := h gone d33
        refine T.wp_seq (T.wp_set (T.ev_as d33 (e := (eD eB)) (T.ev_dc (e := eB) (e1 := eN) (xs := some_) (ds := fun x31 => [eN x31]) (k := fun x31 => x31) (v := fun x31 => true) (T.it_L (e := eN) (xs := some_) (T.ev_v rfl)) c32 (fun _ => rfl) (fun x31 hx => (T.ev_v rfl)) (fun x31 hx => (T.ev_c rfl)))) ?_)
        change WP _ _ _ _ (At _ [some ((eT eR) picture), some ((eL eN) left_1), some ((eL (eL eN)) found_1), some ((eL (eL eN)) ways), none, some ((eD eB) told), some ((eL eN) some_), none, some ((eD eB) gone)] _)
        obtain ⟨c35, h⟩ := h
        obtain ⟨left_2, d36⟩ : ∃ left_2 : (List Nat), left_2 = (left_1.filter fun x34 => decide (x34 ∉ dkeys gone)) := ⟨_, rfl⟩
        replace h := h left_2 d36
        refine T.wp_set (T.ev_as d36 (e := (eL eN)) (T.ev_compI (e := eN) (xs := left_1) (ds := fun x34 => [eN x34]) (P := fun x34 => (x34 ∉ dkeys gone)) (T.it_L (e := eN) (xs := left_1) (T.ev_v rfl)) c35 (fun _ => rfl) (fun x34 hx => (T.ev_bool (T.ev_ninK (x := x34) (d := gone) (T.ev_v rfl) (T.ev_v rfl)))) (fun x34 hx hq => (T.ev_v rfl)))) ?_
        exact ⟨_, h.2, rfl, left_2, found_1, _, _, _, rfl, h.1, rfl⟩
    · exact (hn rfl).elim)
  exact ⟨r, q, e1⟩
abbrev P_layers_of (p : Pic) : Prop := PicP p
abbrev F_layers_of (p : Pic) : List (List Nat) := layersQ p
theorem ok_layers_of {p : Pic} (k : P_layers_of p) : V_layers_of p (· = F_layers_of p) := by
  have h1 := k.h1; have h30 := k.h30; have w1 := k.w1; have w30 := k.w30
  have e0 : F_lines_of p = p.length + p[0]!.length := rfl
  rw [V_layers_of, e0]
  refine ⟨k, by omega, fun left hleft => ⟨by rw [hleft, List.length_range]; omega, fun x hx => ⟨k, by rw [hleft] at hx; exact List.mem_range.mp hx⟩, fun ways hw => ?_⟩⟩
  have wl : ways.length = p.length + p[0]!.length := by rw [hw, List.length_map, hleft, List.length_range]
  have wg : ∀ l, l < p.length + p[0]!.length → ways[l]! = leadsQ p l := fun l hl => by
    rw [hw, get!_map' _ (by rw [hleft, List.length_range]; exact hl), hleft, get!_range hl]
  refine ⟨fun l f => ∃ n, f = (liter p n).1 ∧ l = lv p (liter p n) ∧ l.length + n ≤ p.length + p[0]!.length, fun l f => l.length, ⟨0, rfl, ?_, ?_⟩, ?_, fun l f hI => ?_⟩
  · rw [hleft]
    show _ = List.range p.length ++ (List.range p[0]!.length).map fun j => p.length + j
    rw [List.range_add]
  · rw [hleft, List.length_range]; omega
  · show left.length < _
    rw [hleft, List.length_range]; omega
  · obtain ⟨n, rfl, rfl, hn⟩ := hI
    have hr : ∀ i ∈ (liter p n).2.1, i < p.length := fun i hi => liter_row hi
    have hc : ∀ j ∈ (liter p n).2.2, j < p[0]!.length := fun j hj => liter_col hj
    have lt : ∀ l ∈ lv p (liter p n), l < p.length + p[0]!.length := fun l hl => by
      rcases (mem_lv hr l).mp hl with ⟨a, _⟩ | ⟨_, b⟩
      · omega
      · have := hc _ b; omega
    refine ⟨by omega, fun told ht => ⟨by omega, fun x hx => ⟨by rw [wl]; exact lt x hx, ?_⟩, fun some_ hs => ?_⟩⟩
    · rw [wg x (lt x hx)]
      unfold leadsQ
      split
      · rw [List.length_map]
        have := len_filter_le (fun j => decide ((p[x]!)[j]! = false)) (List.range p[0]!.length)
        rw [List.length_range] at this
        omega
      · have := len_filter_le (fun i => decide ((p[i]!)[x - p.length]! = true)) (List.range p.length)
        rw [List.length_range] at this
        omega
    · have es : some_ = freeQ p (liter p n) := by
        rw [hs]
        unfold freeQ
        refine List.filter_congr fun x hx => decide_eq_decide.mpr (not_congr ?_)
        rw [wg x (lt x hx)]
        refine exists_congr fun o => and_congr_right fun _ => ?_
        rw [ht, keys_true]
      refine ⟨fun q => ?_, fun q => ?_⟩
      · rw [es] at q
        have hn2 : n ≤ p.length + p[0]!.length := by omega
        obtain ⟨m, hm⟩ : ∃ m, p.length + p[0]!.length = n + m := ⟨_, (Nat.add_sub_cancel' hn2).symm⟩
        show (liter p n).1 = (liter p (p.length + p[0]!.length)).1
        rw [hm, liter_stop q m]
      · rw [es] at q
        obtain ⟨s1, s2⟩ := lstep_free hr hc q
        have sl : (freeQ p (liter p n)).length ≤ (lv p (liter p n)).length := len_filter_le _ _
        refine ⟨?_, fun f2 hf => ⟨by rw [es]; omega, fun gone hg => ⟨by omega, fun l2 hl2 => ?_⟩⟩⟩
        · have := (liter_sub p n).2.2; omega
        · have e2 : l2 = lv p (liter p (n + 1)) := by
            show l2 = lv p (lstep p (liter p n))
            rw [s2, hl2]
            refine List.filter_congr fun x _ => decide_eq_decide.mpr (not_congr ?_)
            rw [hg, keys_true, es]
          have less : l2.length < (lv p (liter p n)).length := by
            rw [e2]
            show (lv p (lstep p (liter p n))).length < _
            rw [s2]
            obtain ⟨z, hz⟩ := List.exists_mem_of_ne_nil _ q
            have hz2 : z ∈ lv p (liter p n) := (List.mem_filter.mp hz).1
            refine Nat.lt_of_le_of_ne (len_filter_le _ _) fun e => ?_
            have := List.length_filter_eq_length_iff.mp e z hz2
            exact of_decide_eq_true this hz
          refine ⟨⟨n + 1, ?_, e2, by omega⟩, less⟩
          rw [hf, es]
          exact s1.symm
theorem t_layers_of {picture : (List Row)} (hP : P_layers_of picture) (tp : List D) : m_layers_of [(eT eR) picture] tp = .ok ((eL (eL eN)) (F_layers_of picture)) tp := by
  obtain ⟨r, rfl, e⟩ := snd_layers_of picture (ok_layers_of hP) tp
  exact e
end W
set_option maxHeartbeats 1000000
namespace W
open PySem L2 G T
abbrev toldL (s m : List Nat) : List Nat := m.map fun i => s[i]!
abbrev lefL (s m : List Nat) : List Nat := s.filter fun x => decide (x ∉ toldL s m)
def layL : Nat → List Nat → List Nat → Bool → List (List (List Nat))
  | 0, _, _, _ => [[]]
  | n + 1, r, c, b => if r = [] ∧ c = [] then [[]] else (maskL (if b = true then r else c).length).flatMap fun m => if m ≠ [] then (if b = true then layL n (lefL (if b = true then r else c) m) c false else layL n r (lefL (if b = true then r else c) m) true).map fun t => toldL (if b = true then r else c) m :: t else []
theorem layL_succ (n : Nat) (r c : List Nat) (b : Bool) : layL (n + 1) r c b = if r = [] ∧ c = [] then [[]] else (maskL (if b = true then r else c).length).flatMap fun m => if m ≠ [] then (if b = true then layL n (lefL (if b = true then r else c) m) c false else layL n r (lefL (if b = true then r else c) m) true).map fun t => toldL (if b = true then r else c) m :: t else [] := rfl
def tri : Nat → Nat
  | 0 => 0
  | n + 1 => tri n + (n + 1)
theorem tri_le : ∀ {a b : Nat}, a ≤ b → tri a ≤ tri b
  | 0, _, _ => Nat.zero_le _
  | a + 1, 0, h => by omega
  | a + 1, b + 1, h => by
    have := tri_le (a := a) (b := b) (by omega)
    show tri a + (a + 1) ≤ tri b + (b + 1)
    omega
theorem lef_lt {s m : List Nat} (hm : m ≠ []) (h : ∀ i ∈ m, i < s.length) : (lefL s m).length + 1 ≤ s.length := by
  obtain ⟨i, hi⟩ := List.exists_mem_of_ne_nil m hm
  have le := List.length_filter_le (fun x => decide (x ∉ toldL s m)) s
  rcases Nat.lt_or_ge (lefL s m).length s.length with z | z
  · exact z
  · exfalso
    have e : (s.filter fun x => decide (x ∉ toldL s m)).length = s.length := Nat.le_antisymm le z
    have a := List.length_filter_eq_length_iff.mp e s[i]! (mem_get! (h i hi))
    exact of_decide_eq_true a (List.mem_map.mpr ⟨i, hi, rfl⟩)
theorem flat_le {α β : Type} (f : α → List β) (c : Nat) : ∀ xs : List α, (∀ x ∈ xs, (f x).length ≤ c) → (xs.flatMap f).length ≤ xs.length * c
  | [], _ => Nat.zero_le _
  | x :: xs, h => by
    rw [List.flatMap_cons, List.length_append, List.length_cons, Nat.succ_mul, Nat.add_comm]
    exact Nat.add_le_add (flat_le f c xs fun y hy => h y (List.mem_cons_of_mem _ hy)) (h x List.mem_cons_self)
theorem layL_nil : ∀ n b, layL n [] [] b = [[]]
  | 0, _ => rfl
  | n + 1, b => by
    rw [layL_succ, if_pos ⟨rfl, rfl⟩]
theorem layL_same : ∀ {n m : Nat} {r c : List Nat} {b : Bool}, r.length + c.length ≤ n → r.length + c.length ≤ m → layL n r c b = layL m r c b
  | 0, m, r, c, b, h, _ => by
    have e1 : r = [] := List.length_eq_zero_iff.mp (by omega)
    have e2 : c = [] := List.length_eq_zero_iff.mp (by omega)
    subst e1 e2
    rw [layL_nil, layL_nil]
  | n + 1, 0, r, c, b, _, h => by
    have e1 : r = [] := List.length_eq_zero_iff.mp (by omega)
    have e2 : c = [] := List.length_eq_zero_iff.mp (by omega)
    subst e1 e2
    rw [layL_nil, layL_nil]
  | n + 1, m + 1, r, c, b, h1, h2 => by
    rw [layL_succ, layL_succ]
    by_cases z : r = [] ∧ c = []
    · rw [if_pos z, if_pos z]
    · rw [if_neg z, if_neg z, List.flatMap_def, List.flatMap_def]
      congr 1
      refine List.map_congr_left fun x hx => ?_
      by_cases y : x ≠ []
      · rw [if_pos y, if_pos y]
        have hm := (maskL_one _ x hx).2
        cases b with
        | true =>
          rw [if_pos rfl] at hm ⊢
          have := lef_lt y hm
          rw [if_pos rfl, if_pos rfl, layL_same (n := n) (m := m) (by omega) (by omega)]
        | false =>
          rw [if_neg (by decide)] at hm ⊢
          have := lef_lt y hm
          rw [if_neg (by decide), if_neg (by decide), layL_same (n := n) (m := m) (by omega) (by omega)]
      · rw [if_neg y, if_neg y]
theorem layL_len : ∀ (n : Nat) {r c : List Nat} {b : Bool}, r.length + c.length ≤ n → (layL n r c b).length ≤ 2 ^ (tri r.length + tri c.length)
  | 0, r, c, b, h => by
    show 1 ≤ _
    exact Nat.one_le_two_pow
  | n + 1, r, c, b, h => by
    rw [layL_succ]
    by_cases z : r = [] ∧ c = []
    · rw [if_pos z]; exact Nat.one_le_two_pow
    · rw [if_neg z]
      cases b with
      | true =>
        show ((maskL r.length).flatMap fun m => if m ≠ [] then (layL n (lefL r m) c false).map fun t => toldL r m :: t else []).length ≤ _
        cases hr : r.length with
        | zero =>
          show (List.flatMap _ [[]]).length ≤ _
          simp
        | succ k =>
          refine Nat.le_trans (flat_le _ (2 ^ (tri k + tri c.length)) _ fun m hm => ?_) ?_
          · by_cases y : m ≠ []
            · rw [if_pos y, List.length_map]
              have := lef_lt y (by rw [hr]; exact (maskL_one _ m hm).2)
              refine Nat.le_trans (layL_len n (by omega)) (Nat.pow_le_pow_right (by decide) ?_)
              have := tri_le (show (lefL r m).length ≤ k by omega)
              omega
            · rw [if_neg y]; exact Nat.zero_le _
          · rw [maskL_len, ← Nat.pow_add]
            refine Nat.pow_le_pow_right (by decide) ?_
            show k + 1 + (tri k + tri c.length) ≤ tri k + (k + 1) + tri c.length
            omega
      | false =>
        show ((maskL c.length).flatMap fun m => if m ≠ [] then (layL n r (lefL c m) true).map fun t => toldL c m :: t else []).length ≤ _
        cases hc : c.length with
        | zero =>
          show (List.flatMap _ [[]]).length ≤ _
          simp
        | succ k =>
          refine Nat.le_trans (flat_le _ (2 ^ (tri r.length + tri k)) _ fun m hm => ?_) ?_
          · by_cases y : m ≠ []
            · rw [if_pos y, List.length_map]
              have := lef_lt y (by rw [hc]; exact (maskL_one _ m hm).2)
              refine Nat.le_trans (layL_len n (by omega)) (Nat.pow_le_pow_right (by decide) ?_)
              have := tri_le (show (lefL c m).length ≤ k by omega)
              omega
            · rw [if_neg y]; exact Nat.zero_le _
          · rw [maskL_len, ← Nat.pow_add]
            refine Nat.pow_le_pow_right (by decide) ?_
            show k + 1 + (tri r.length + tri k) ≤ tri r.length + (tri k + (k + 1))
            omega
theorem lef_or {s m : List Nat} {l : Nat} (h : l ∈ s) : l ∈ toldL s m ∨ l ∈ lefL s m := by
  by_cases z : l ∈ toldL s m
  · exact .inl z
  · exact .inr (List.mem_filter.mpr ⟨h, decide_eq_true z⟩)
/-- a row of layers tells all lines, few lines each -/
theorem layL_mem : ∀ (n : Nat) {r c : List Nat} {b : Bool}, r.length + c.length ≤ n → r.length ≤ 4 → c.length ≤ 4 → ∀ t ∈ layL n r c b, (∀ l, l ∈ r ∨ l ∈ c → l ∈ t.flatten) ∧ t.flatten.length ≤ 4 * n
  | 0, r, c, b, h, _, _, t, ht => by
    have e1 : r = [] := List.length_eq_zero_iff.mp (by omega)
    have e2 : c = [] := List.length_eq_zero_iff.mp (by omega)
    subst e1 e2
    have ht : t ∈ [([] : List (List Nat))] := ht
    rw [List.mem_singleton.mp ht]
    exact ⟨fun l h => (by rcases h with h | h <;> cases h), Nat.le_refl _⟩
  | n + 1, r, c, b, h, r4, c4, t, ht => by
    by_cases z : r = [] ∧ c = []
    · obtain ⟨rfl, rfl⟩ := z
      rw [layL_nil] at ht
      rw [List.mem_singleton.mp ht]
      exact ⟨fun l h => (by rcases h with h | h <;> cases h), Nat.zero_le _⟩
    · rw [layL_succ, if_neg z] at ht
      obtain ⟨m, hm, ht⟩ := List.mem_flatMap.mp ht
      by_cases y : m ≠ []
      · rw [if_pos y] at ht
        obtain ⟨u, hu, rfl⟩ := List.mem_map.mp ht
        have mo := maskL_one _ m hm
        rw [List.flatten_cons]
        cases b with
        | true =>
          rw [if_pos rfl] at mo hu
          rw [if_pos rfl]
          have ll := lef_lt y mo.2
          have hu : u ∈ layL n (lefL r m) c false := hu
          obtain ⟨a, d⟩ := layL_mem n (by omega) (by omega) c4 u hu
          refine ⟨fun l hl => ?_, by rw [List.length_append, List.length_map]; omega⟩
          rcases hl with hl | hl
          · rcases lef_or (m := m) hl with e | e
            · exact List.mem_append_left _ e
            · exact List.mem_append_right _ (a l (.inl e))
          · exact List.mem_append_right _ (a l (.inr hl))
        | false =>
          rw [if_neg (by decide)] at mo hu
          rw [if_neg (by decide)]
          have ll := lef_lt y mo.2
          have hu : u ∈ layL n r (lefL c m) true := hu
          obtain ⟨a, d⟩ := layL_mem n (by omega) r4 (by omega) u hu
          refine ⟨fun l hl => ?_, by rw [List.length_append, List.length_map]; omega⟩
          rcases hl with hl | hl
          · exact List.mem_append_right _ (a l (.inl hl))
          · rcases lef_or (m := m) hl with e | e
            · exact List.mem_append_left _ e
            · exact List.mem_append_right _ (a l (.inr e))
      · rw [if_neg y] at ht; cases ht
abbrev P_layerings (r c : List Nat) (_ : Bool) : Prop := r.length ≤ 4 ∧ c.length ≤ 4 ∧ r.length + c.length ≤ 7
def F_layerings (r c : List Nat) (b : Bool) : List (List (List Nat)) := layL (r.length + c.length) r c b
abbrev mu_layerings (r c : List Nat) (_ : Bool) : Nat := r.length + c.length
theorem mu_lt_layerings {r c : List Nat} {b : Bool} (h : P_layerings r c b) : mu_layerings r c b < 9 := by
  obtain ⟨_, _, h⟩ := h
  show r.length + c.length < 9; omega
theorem lay_len {r c : List Nat} {b : Bool} (h : P_layerings r c b) : (F_layerings r c b).length ≤ 65536 := by
  obtain ⟨a, b', d⟩ := h
  have t4 : ∀ x y : Nat, x ≤ 4 → y ≤ 4 → x + y ≤ 7 → tri x + tri y ≤ 16 := by
    intro x y hx hy hxy
    rcases Nat.lt_or_ge x 4 with z | z
    · have e1 := tri_le (show x ≤ 3 by omega)
      have e2 := tri_le hy
      have f1 : tri 3 = 6 := rfl
      have f2 : tri 4 = 10 := rfl
      omega
    · have e1 := tri_le hx
      have e2 := tri_le (show y ≤ 3 by omega)
      have f1 : tri 3 = 6 := rfl
      have f2 : tri 4 = 10 := rfl
      omega
  exact Nat.le_trans (layL_len _ (Nat.le_refl _)) (Nat.pow_le_pow_right (n := 2) (by decide) (t4 _ _ a b' d))
theorem lay_eq {r c : List Nat} {b : Bool} {n : Nat} (h : r.length + c.length ≤ n) : F_layerings r c b = layL n r c b := layL_same (Nat.le_refl _) h
theorem lay_one {r c : List Nat} {b : Bool} (h : P_layerings r c b) : ∀ t ∈ F_layerings r c b, (∀ l, l ∈ r ∨ l ∈ c → l ∈ t.flatten) ∧ t.flatten.length ≤ 28 := fun t ht => by
  obtain ⟨a1, a2, a3⟩ := h
  obtain ⟨x, y⟩ := layL_mem _ (Nat.le_refl _) a1 a2 t ht
  exact ⟨x, by omega⟩
def layB (r c : List Nat) (b : Bool) (m : List Nat) : List (List (List Nat)) := if m ≠ [] then (if b = true then F_layerings (lefL (if b = true then r else c) m) c false else F_layerings r (lefL (if b = true then r else c) m) true).map fun t => toldL (if b = true then r else c) m :: t else []
theorem lay_step {r c : List Nat} {b : Bool} (z : ¬(r = [] ∧ c = [])) : F_layerings r c b = (maskL (if b = true then r else c).length).flatMap (layB r c b) := by
  have hp : 0 < r.length + c.length := by
    rcases Nat.eq_zero_or_pos (r.length + c.length) with e | e
    · exact (z ⟨List.length_eq_zero_iff.mp (by omega), List.length_eq_zero_iff.mp (by omega)⟩).elim
    · exact e
  rw [lay_eq (n := (r.length + c.length - 1) + 1) (by omega)]
  rw [layL_succ, if_neg z, List.flatMap_def, List.flatMap_def]
  congr 1
  refine List.map_congr_left fun x hx => ?_
  unfold layB
  by_cases y : x ≠ []
  · rw [if_pos y, if_pos y]
    have hm := (maskL_one _ x hx).2
    cases b with
    | true =>
      rw [if_pos rfl] at hm ⊢
      have := lef_lt y hm
      rw [if_pos rfl, if_pos rfl, lay_eq (n := r.length + c.length - 1) (by omega)]
    | false =>
      rw [if_neg (by decide)] at hm ⊢
      have := lef_lt y hm
      rw [if_neg (by decide), if_neg (by decide), lay_eq (n := r.length + c.length - 1) (by omega)]
  · rw [if_neg y, if_neg y]
def V_layerings (rows : (List Nat)) (columns : (List Nat)) (is_rows : Bool) (Q : (List (List (List Nat))) → Prop) : Prop := ((((rows = []) ∧ (columns = [])) → Q ([[]])) ∧ (¬((rows = []) ∧ (columns = [])) → ∀ some_ : (List Nat), some_ = (if (is_rows = true) then rows else columns) → (P_masks some_.length) ∧ ∃ I7 : Nat → (List (List (List Nat))) → Prop, I7 0 [] ∧ (∀ (i11 : Nat) (x12 : (List Nat)), (F_masks some_.length)[i11]? = some x12 → ∀ found : (List (List (List Nat))), I7 i11 found → ((x12 ≠ []) → (x12.length ≤ 1000000) ∧ (∀ x15, x15 ∈ x12 → (x15 < some_.length)) ∧ (some_.length ≤ 1000000) ∧ ((is_rows = true) → (P_layerings (some_.filter fun x19 => decide (x19 ∉ (x12.map fun x15 => some_[x15]!))) columns false ∧ mu_layerings (some_.filter fun x19 => decide (x19 ∉ (x12.map fun x15 => some_[x15]!))) columns false < mu_layerings rows columns is_rows)) ∧ (¬(is_rows = true) → (P_layerings rows (some_.filter fun x19 => decide (x19 ∉ (x12.map fun x15 => some_[x15]!))) true ∧ mu_layerings rows (some_.filter fun x19 => decide (x19 ∉ (x12.map fun x15 => some_[x15]!))) true < mu_layerings rows columns is_rows)) ∧ ((if (is_rows = true) then (F_layerings (some_.filter fun x19 => decide (x19 ∉ (x12.map fun x15 => some_[x15]!))) columns false) else (F_layerings rows (some_.filter fun x19 => decide (x19 ∉ (x12.map fun x15 => some_[x15]!))) true)).length ≤ 1000000) ∧ (∀ x25, x25 ∈ (if (is_rows = true) then (F_layerings (some_.filter fun x19 => decide (x19 ∉ (x12.map fun x15 => some_[x15]!))) columns false) else (F_layerings rows (some_.filter fun x19 => decide (x19 ∉ (x12.map fun x15 => some_[x15]!))) true)) → (((x12.map fun x15 => some_[x15]!) :: x25).length ≤ 1000000)) ∧ (found.length + ((if (is_rows = true) then (F_layerings (some_.filter fun x19 => decide (x19 ∉ (x12.map fun x15 => some_[x15]!))) columns false) else (F_layerings rows (some_.filter fun x19 => decide (x19 ∉ (x12.map fun x15 => some_[x15]!))) true)).map fun x25 => ((x12.map fun x15 => some_[x15]!) :: x25)).length ≤ 1000000)) ∧ ∀ found_1 : (List (List (List Nat))), found_1 = (if (x12 ≠ []) then (found ++ ((if (is_rows = true) then (F_layerings (some_.filter fun x19 => decide (x19 ∉ (x12.map fun x15 => some_[x15]!))) columns false) else (F_layerings rows (some_.filter fun x19 => decide (x19 ∉ (x12.map fun x15 => some_[x15]!))) true)).map fun x25 => ((x12.map fun x15 => some_[x15]!) :: x25))) else found) → I7 (i11 + 1) found_1) ∧ (∀ found : (List (List (List Nat))), I7 (F_masks some_.length).length found → Q found)))
theorem snd_layerings (n : Nat) (ih : ∀ (rows : (List Nat)) (columns : (List Nat)) (is_rows : Bool), P_layerings rows columns is_rows → mu_layerings rows columns is_rows < n → ∀ tp, m_layerings n [(eT eN) rows, (eT eN) columns, eB is_rows] tp = .ok ((eL (eT (eT eN))) (F_layerings rows columns is_rows)) tp) (rows : (List Nat)) (columns : (List Nat)) (is_rows : Bool) {Q : (List (List (List Nat))) → Prop} (h : V_layerings rows columns is_rows Q) (hmu : mu_layerings rows columns is_rows < n + 1) (tp : List D) : ∃ r : (List (List (List Nat))), Q r ∧ m_layerings (n + 1) [(eT eN) rows, (eT eN) columns, eB is_rows] tp = .ok ((eL (eT (eT eN))) r) tp := by
  obtain ⟨d, t, e1, rfl, r, rfl, q⟩ := T.wp_def (n := 12) (s := b_layerings (m_layerings n)) (ds := [(eT eN) rows, (eT eN) columns, eB is_rows]) (tp := tp) (Q := fun d t => t = tp ∧ ∃ r : (List (List (List Nat))), d = (eL (eT (eT eN))) r ∧ Q r) (by
    unfold V_layerings at h
    change WP _ _ _ _ (b_layerings (m_layerings n) [some ((eT eN) rows), some ((eT eN) columns), some (eB is_rows), none, none, none, none, none, none, none, none, none] _)
    unfold b_layerings
    refine T.wp_seq (T.wp_if (P := ((rows = []) ∧ (columns = []))) (T.ev_andT (P := (rows = [])) (Q := (columns = [])) (T.ev_bool (T.ev_eq (x := rows) (y := []) (qT qN) rfl (T.ev_v rfl) (T.ev_tup (ds := []) T.ev_nil rfl))) (fun hp => (T.ev_bool (T.ev_eq (x := columns) (y := []) (qT qN) rfl (T.ev_v rfl) (T.ev_tup (ds := []) T.ev_nil rfl))))) (fun hp => ?_) (fun hn => ?_))
    · replace h := h.1 hp
      exact T.wp_ret (T.ev_lst (ds := [(eT (eT eN)) []]) (T.ev_cons (T.ev_tup (ds := []) T.ev_nil rfl) T.ev_nil) rfl) ⟨rfl, [[]], rfl, h⟩
    · replace h := h.2 hn
      refine T.wp_skip ?_
      change WP _ _ _ _ (At _ [some ((eT eN) rows), some ((eT eN) columns), some (eB is_rows), none, none, none, none, none, none, none, none, none] _)
      obtain ⟨some_, d1⟩ : ∃ some_ : (List Nat), some_ = (if (is_rows = true) then rows else columns) := ⟨_, rfl⟩
      replace h := h some_ d1
      refine T.wp_seq (T.wp_par (T.ev_cons (T.ev_lst (ds := []) T.ev_nil rfl) (T.ev_cons (T.ev_as d1 (e := (eT eN)) (T.ev_ifE (P := (is_rows = true)) (e := (eT eN)) (x := rows) (y := columns) (T.ev_dec is_rows (T.ev_v rfl)) (fun hp => (T.ev_v rfl)) (fun hp => (T.ev_v rfl)))) T.ev_nil)) rfl ?_)
      change WP _ _ _ _ (At _ [some ((eT eN) rows), some ((eT eN) columns), some (eB is_rows), some ((eL (eT (eT eN))) []), some ((eT eN) some_), none, none, none, none, none, none, none] _)
      obtain ⟨c2, h⟩ := h
      obtain ⟨I7, h8, h9, h10⟩ := h
      refine T.wp_seq (T.wp_for (e := (eT eN)) (xs := (F_masks some_.length)) (ds := fun x12 => [(eT eN) x12]) (fun k env tz => tp = tz ∧ ∃ found : (List (List (List Nat))), ∃ g3 : Option D, ∃ g4 : Option D, ∃ g5 : Option D, ∃ g6 : Option D, env = [some ((eT eN) rows), some ((eT eN) columns), some (eB is_rows), some ((eL (eT (eT eN))) found), some ((eT eN) some_), g3, g4, none, g5, none, g6, none] ∧ I7 k found) (T.it_L (e := (eT eN)) (xs := (F_masks some_.length)) (T.ev_call (T.ev_cons (T.ev_lenT (e := eN) (xs := some_) (T.ev_v rfl)) T.ev_nil) rfl (t_masks c2 _))) (fun _ => rfl) ⟨rfl, [], _, _, _, _, rfl, h8⟩ ?_ ?_)
      · intro i11 x12 env t hk hI
        obtain ⟨rfl, found, g3, g4, g5, g6, rfl, h⟩ := hI
        replace h := h9 i11 x12 hk found h
        change WP _ _ _ _ (At _ [some ((eT eN) rows), some ((eT eN) columns), some (eB is_rows), some ((eL (eT (eT eN))) found), some ((eT eN) some_), some ((eT eN) x12), g4, none, g5, none, g6, none] _)
        obtain ⟨c30, h⟩ := h
        refine T.wp_ifJ (P := (x12 ≠ [])) (J := fun env tz => tp = tz ∧ ∃ found_1 : (List (List (List Nat))), ∃ g31 : Option D, ∃ g32 : Option D, ∃ g33 : Option D, env = [some ((eT eN) rows), some ((eT eN) columns), some (eB is_rows), some ((eL (eT (eT eN))) found_1), some ((eT eN) some_), some ((eT eN) x12), g31, none, g32, none, g33, none] ∧ found_1 = (if (x12 ≠ []) then (found ++ ((if (is_rows = true) then (F_layerings (some_.filter fun x19 => decide (x19 ∉ (x12.map fun x15 => some_[x15]!))) columns false) else (F_layerings rows (some_.filter fun x19 => decide (x19 ∉ (x12.map fun x15 => some_[x15]!))) true)).map fun x25 => ((x12.map fun x15 => some_[x15]!) :: x25))) else found)) (T.ev_bool (T.ev_ne (x := x12) (y := []) (qT qN) rfl (T.ev_v rfl) (T.ev_tup (ds := []) T.ev_nil rfl))) (fun hq => ?_) (fun hq => ?_) ?_
        · obtain ⟨c16, c18, c20, c23, c24, c26, c28, c29⟩ := c30 hq
          refine T.wp_seq (T.wp_set (T.ev_tupleL (e := eN) (xs := (x12.map fun x15 => some_[x15]!)) (T.ev_compY (e := eN) (e1 := eN) (xs := x12) (ds := fun x15 => [eN x15]) (g := fun x15 => some_[x15]!) (T.it_T (e := eN) (xs := x12) (T.ev_v rfl)) c16 (fun _ => rfl) (fun x15 hx => have c17 := c18 x15 hx; (T.ev_ixT (e := eN) (xs := some_) (i := x15) c17 (T.ev_v rfl) (T.ev_v rfl))))) ?_)
          change WP _ _ _ _ (At _ [some ((eT eN) rows), some ((eT eN) columns), some (eB is_rows), some ((eL (eT (eT eN))) found), some ((eT eN) some_), some ((eT eN) x12), some ((eT eN) (x12.map fun x15 => some_[x15]!)), none, g5, none, g6, none] _)
          refine T.wp_seq (T.wp_set (T.ev_tupleL (e := eN) (xs := (some_.filter fun x19 => decide (x19 ∉ (x12.map fun x15 => some_[x15]!)))) (T.ev_compI (e := eN) (xs := some_) (ds := fun x19 => [eN x19]) (P := fun x19 => (x19 ∉ (x12.map fun x15 => some_[x15]!))) (T.it_T (e := eN) (xs := some_) (T.ev_v rfl)) c20 (fun _ => rfl) (fun x19 hx => (T.ev_bool (T.ev_ninT (x := x19) (xs := (x12.map fun x15 => some_[x15]!)) qN rfl (T.ev_v rfl) (T.ev_v rfl)))) (fun x19 hx hq => (T.ev_v rfl)))) ?_)
          change WP _ _ _ _ (At _ [some ((eT eN) rows), some ((eT eN) columns), some (eB is_rows), some ((eL (eT (eT eN))) found), some ((eT eN) some_), some ((eT eN) x12), some ((eT eN) (x12.map fun x15 => some_[x15]!)), none, some ((eT eN) (some_.filter fun x19 => decide (x19 ∉ (x12.map fun x15 => some_[x15]!)))), none, g6, none] _)
          refine T.wp_seq (T.wp_set (T.ev_ifE (P := (is_rows = true)) (e := (eL (eT (eT eN)))) (x := (F_layerings (some_.filter fun x19 => decide (x19 ∉ (x12.map fun x15 => some_[x15]!))) columns false)) (y := (F_layerings rows (some_.filter fun x19 => decide (x19 ∉ (x12.map fun x15 => some_[x15]!))) true)) (T.ev_dec is_rows (T.ev_v rfl)) (fun hp => have c21 := c23 hp; (T.ev_call (T.ev_cons (T.ev_v rfl) (T.ev_cons (T.ev_v rfl) (T.ev_cons (T.ev_c rfl) T.ev_nil))) rfl (ih (some_.filter fun x19 => decide (x19 ∉ (x12.map fun x15 => some_[x15]!))) columns false (c21).1 (Nat.lt_of_lt_of_le (c21).2 (Nat.le_of_lt_succ hmu)) _))) (fun hp => have c22 := c24 hp; (T.ev_call (T.ev_cons (T.ev_v rfl) (T.ev_cons (T.ev_v rfl) (T.ev_cons (T.ev_c rfl) T.ev_nil))) rfl (ih rows (some_.filter fun x19 => decide (x19 ∉ (x12.map fun x15 => some_[x15]!))) true (c22).1 (Nat.lt_of_lt_of_le (c22).2 (Nat.le_of_lt_succ hmu)) _)))) ?_)
          change WP _ _ _ _ (At _ [some ((eT eN) rows), some ((eT eN) columns), some (eB is_rows), some ((eL (eT (eT eN))) found), some ((eT eN) some_), some ((eT eN) x12), some ((eT eN) (x12.map fun x15 => some_[x15]!)), none, some ((eT eN) (some_.filter fun x19 => decide (x19 ∉ (x12.map fun x15 => some_[x15]!)))), none, some ((eL (eT (eT eN))) (if (is_rows = true) then (F_layerings (some_.filter fun x19 => decide (x19 ∉ (x12.map fun x15 => some_[x15]!))) columns false) else (F_layerings rows (some_.filter fun x19 => decide (x19 ∉ (x12.map fun x15 => some_[x15]!))) true))), none] _)
          refine T.wp_set (T.ev_catL (e := (eT (eT eN))) (xs := found) (ys := ((if (is_rows = true) then (F_layerings (some_.filter fun x19 => decide (x19 ∉ (x12.map fun x15 => some_[x15]!))) columns false) else (F_layerings rows (some_.filter fun x19 => decide (x19 ∉ (x12.map fun x15 => some_[x15]!))) true)).map fun x25 => ((x12.map fun x15 => some_[x15]!) :: x25))) c29 (T.ev_v rfl) (T.ev_compY (e := (eT (eT eN))) (e1 := (eT (eT eN))) (xs := (if (is_rows = true) then (F_layerings (some_.filter fun x19 => decide (x19 ∉ (x12.map fun x15 => some_[x15]!))) columns false) else (F_layerings rows (some_.filter fun x19 => decide (x19 ∉ (x12.map fun x15 => some_[x15]!))) true))) (ds := fun x25 => [(eT (eT eN)) x25]) (g := fun x25 => ((x12.map fun x15 => some_[x15]!) :: x25)) (T.it_L (e := (eT (eT eN))) (xs := (if (is_rows = true) then (F_layerings (some_.filter fun x19 => decide (x19 ∉ (x12.map fun x15 => some_[x15]!))) columns false) else (F_layerings rows (some_.filter fun x19 => decide (x19 ∉ (x12.map fun x15 => some_[x15]!))) true))) (T.ev_v rfl)) c26 (fun _ => rfl) (fun x25 hx => have c27 := c28 x25 hx; (T.ev_tupM (e := (eT eN)) (xs := ((x12.map fun x15 => some_[x15]!) :: x25)) c27 (T.ev_consM (e := (eT eN)) (x := (x12.map fun x15 => some_[x15]!)) (xs := x25) (T.ev_v rfl) (T.ev_starT0 (e := (eT eN)) (xs := x25) (T.ev_v rfl))))))) ?_
          exact ⟨rfl, (found ++ ((if (is_rows = true) then (F_layerings (some_.filter fun x19 => decide (x19 ∉ (x12.map fun x15 => some_[x15]!))) columns false) else (F_layerings rows (some_.filter fun x19 => decide (x19 ∉ (x12.map fun x15 => some_[x15]!))) true)).map fun x25 => ((x12.map fun x15 => some_[x15]!) :: x25))), _, _, _, rfl, (if_pos hq).symm⟩
        · refine T.wp_skip ?_
          exact ⟨rfl, found, _, _, _, rfl, (if_neg hq).symm⟩
        rintro _ _ ⟨rfl, found_1, g31, g32, g33, rfl, d34⟩
        replace h := h found_1 d34
        exact ⟨rfl, found_1, _, _, _, _, rfl, h⟩
      rintro _ _ ⟨rfl, found, g3, g4, g5, g6, rfl, h⟩
      replace h := h10 found h
      change WP _ _ _ _ (At _ [some ((eT eN) rows), some ((eT eN) columns), some (eB is_rows), some ((eL (eT (eT eN))) found), some ((eT eN) some_), g3, g4, none, g5, none, g6, none] _)
      exact T.wp_ret (T.ev_v rfl) ⟨rfl, found, rfl, h⟩)
  exact ⟨r, q, e1⟩
theorem ok_layerings {r c : List Nat} {b : Bool} (k : P_layerings r c b) : V_layerings r c b (· = F_layerings r c b) := by
  obtain ⟨r4, c4, k7⟩ := id k
  refine ⟨fun z => ?_, fun z s hs => ?_⟩
  · obtain ⟨rfl, rfl⟩ := z; rfl
  · have hs : s = if b = true then r else c := hs
    have s4 : s.length ≤ 4 := by rw [hs]; split <;> assumption
    have e := lay_step (b := b) z
    rw [← hs] at e
    have pre : ∀ n, (((maskL s.length).take n).flatMap (layB r c b)).length ≤ 65536 := fun n => by
      have a : (((maskL s.length).take n).flatMap (layB r c b)).length ≤ (F_layerings r c b).length := by
        rw [e]
        conv => rhs; rw [← List.take_append_drop n (maskL s.length), List.flatMap_append, List.length_append]
        omega
      exact Nat.le_trans a (lay_len k)
    refine ⟨(show s.length ≤ 12 by omega), fun n f => f = ((maskL s.length).take n).flatMap (layB r c b), rfl, fun n m hm f hf => ?_, fun f hf => ?_⟩
    · have hm : (maskL s.length)[n]? = some m := hm
      have hf : f = ((maskL s.length).take n).flatMap (layB r c b) := hf
      have mo := maskL_one _ m (List.mem_of_getElem? hm)
      have nx : ((maskL s.length).take (n + 1)).flatMap (layB r c b) = f ++ layB r c b m := by rw [take_snoc hm, List.flatMap_append, List.flatMap_singleton, ← hf]
      have lf : f.length ≤ 65536 := by rw [hf]; exact pre n
      refine ⟨fun y => ?_, fun g hg => ?_⟩
      · have lt := lef_lt y mo.2
        have pt : b = true → P_layerings (lefL s m) c false := fun hb => by
          rw [hs, if_pos hb] at lt
          rw [hs, if_pos hb]
          exact ⟨by omega, c4, by omega⟩
        have pf : ¬b = true → P_layerings r (lefL s m) true := fun hb => by
          rw [hs, if_neg hb] at lt
          rw [hs, if_neg hb]
          exact ⟨r4, by omega, by omega⟩
        have lb : (if b = true then F_layerings (lefL s m) c false else F_layerings r (lefL s m) true).length ≤ 65536 := by
          by_cases hb : b = true
          · rw [if_pos hb]; exact lay_len (pt hb)
          · rw [if_neg hb]; exact lay_len (pf hb)
        refine ⟨by omega, mo.2, by omega, fun hb => ⟨pt hb, ?_⟩, fun hb => ⟨pf hb, ?_⟩, (show (if b = true then F_layerings (lefL s m) c false else F_layerings r (lefL s m) true).length ≤ _ by omega), fun t ht => ?_, ?_⟩
        · show (lefL s m).length + c.length < r.length + c.length
          rw [hs, if_pos hb] at lt ⊢
          omega
        · show r.length + (lefL s m).length < r.length + c.length
          rw [hs, if_neg hb] at lt ⊢
          omega
        · have tl : t.length ≤ 28 := by
            have ht : t ∈ (if b = true then F_layerings (lefL s m) c false else F_layerings r (lefL s m) true) := ht
            have ln : ∀ (n : Nat) (r c : List Nat) (b : Bool) (t : List (List Nat)), t ∈ layL n r c b → t.length ≤ n := by
              intro n
              induction n with
              | zero =>
                intro r c b t ht
                have ht : t ∈ [([] : List (List Nat))] := ht
                rw [List.mem_singleton.mp ht]; exact Nat.le_refl _
              | succ n ih =>
                intro r c b t ht
                have ht : t ∈ (if r = [] ∧ c = [] then [[]] else (maskL (if b = true then r else c).length).flatMap fun m => if m ≠ [] then (if b = true then layL n (lefL (if b = true then r else c) m) c false else layL n r (lefL (if b = true then r else c) m) true).map fun t => toldL (if b = true then r else c) m :: t else []) := ht
                split at ht
                · rw [List.mem_singleton.mp ht]; exact Nat.zero_le _
                · obtain ⟨m, _, ht⟩ := List.mem_flatMap.mp ht
                  split at ht
                  · obtain ⟨u, hu, rfl⟩ := List.mem_map.mp ht
                    rw [List.length_cons]
                    split at hu
                    · have := ih _ _ _ u hu; omega
                    · have := ih _ _ _ u hu; omega
                  · cases ht
            by_cases hb : b = true
            · rw [if_pos hb] at ht
              have a := ln _ _ _ _ t ht
              have := (pt hb).2.2
              omega
            · rw [if_neg hb] at ht
              have a := ln _ _ _ _ t ht
              have := (pf hb).2.2
              omega
          rw [List.length_cons]; omega
        · show f.length + ((if b = true then F_layerings (lefL s m) c false else F_layerings r (lefL s m) true).map _).length ≤ _
          rw [List.length_map]; omega
      · show g = ((maskL s.length).take (n + 1)).flatMap (layB r c b)
        rw [nx, hg]
        unfold layB
        rw [← hs]
        by_cases y : m ≠ []
        · rw [if_pos y, if_pos y]
        · rw [if_neg y, if_neg y, List.append_nil]
    · have hf : f = ((maskL s.length).take (maskL s.length).length).flatMap (layB r c b) := hf
      rw [List.take_length] at hf
      exact hf.trans e.symm
theorem t_layerings_n : ∀ (n : Nat) (rows : (List Nat)) (columns : (List Nat)) (is_rows : Bool), P_layerings rows columns is_rows → mu_layerings rows columns is_rows < n → ∀ tp, m_layerings n [(eT eN) rows, (eT eN) columns, eB is_rows] tp = .ok ((eL (eT (eT eN))) (F_layerings rows columns is_rows)) tp := fun n => by
  induction n with
  | zero => intro rows columns is_rows _ h; exact absurd h (Nat.not_lt_zero _)
  | succ n ih =>
    intro rows columns is_rows hP hm tp
    obtain ⟨r, rfl, e⟩ := snd_layerings n ih rows columns is_rows (ok_layerings hP) hm tp
    exact e
theorem t_layerings {rows : (List Nat)} {columns : (List Nat)} {is_rows : Bool} (hP : P_layerings rows columns is_rows) (tp : List D) : m_layerings 9 [(eT eN) rows, (eT eN) columns, eB is_rows] tp = .ok ((eL (eT (eT eN))) (F_layerings rows columns is_rows)) tp := t_layerings_n 9 rows columns is_rows hP (mu_lt_layerings hP) tp
end W
set_option maxHeartbeats 1000000
namespace W
open PySem L2 G T
def V_law_core (picture : (List Row)) (Q : (List Nat) → Prop) : Prop := (P_law_layers picture) ∧ ∃ I3 : Nat → (List Nat) → Prop, I3 0 [] ∧ (∀ (i7 : Nat) (x8 : (List Nat)), (F_law_layers picture)[i7]? = some x8 → ∀ told : (List Nat), I3 i7 told → (told.length + x8.length ≤ 1000000) ∧ ∀ told_1 : (List Nat), told_1 = (told ++ x8) → I3 (i7 + 1) told_1) ∧ (∀ told : (List Nat), I3 (F_law_layers picture).length told → (0 < picture.length) ∧ ((picture[0]!).length ≤ 1000000) ∧ ((picture.length + (picture[0]!).length) ≤ 1073741824) ∧ ((List.range (picture.length + (picture[0]!).length)).length ≤ 1000000) ∧ Q ((List.range (picture.length + (picture[0]!).length)).filter fun x18 => decide (x18 ∉ told)))
theorem snd_law_core (picture : (List Row)) {Q : (List Nat) → Prop} (h : V_law_core picture Q) (tp : List D) : ∃ r : (List Nat), Q r ∧ m_law_core [(eT eR) picture] tp = .ok ((eL eN) r) tp := by
  obtain ⟨d, t, e1, rfl, r, rfl, q⟩ := T.wp_def (n := 4) (s := b_law_core) (ds := [(eT eR) picture]) (tp := tp) (Q := fun d t => t = tp ∧ ∃ r : (List Nat), d = (eL eN) r ∧ Q r) (by
    unfold V_law_core at h
    change WP _ _ _ _ (b_law_core [some ((eT eR) picture), none, none, none] _)
    unfold b_law_core
    refine T.wp_seq (T.wp_set (T.ev_lst (ds := []) T.ev_nil rfl) ?_)
    change WP _ _ _ _ (At _ [some ((eT eR) picture), some ((eL eN) []), none, none] _)
    obtain ⟨c1, h⟩ := h
    obtain ⟨I3, h4, h5, h6⟩ := h
    refine T.wp_seq (T.wp_for (e := (eL eN)) (xs := (F_law_layers picture)) (ds := fun x8 => [(eL eN) x8]) (fun k env tz => tp = tz ∧ ∃ told : (List Nat), ∃ g2 : Option D, env = [some ((eT eR) picture), some ((eL eN) told), g2, none] ∧ I3 k told) (T.it_L (e := (eL eN)) (xs := (F_law_layers picture)) (T.ev_call (T.ev_cons (T.ev_v rfl) T.ev_nil) rfl (t_law_layers c1 _))) (fun _ => rfl) ⟨rfl, [], _, rfl, h4⟩ ?_ ?_)
    · intro i7 x8 env t hk hI
      obtain ⟨rfl, told, g2, rfl, h⟩ := hI
      replace h := h5 i7 x8 hk told h
      change WP _ _ _ _ (At _ [some ((eT eR) picture), some ((eL eN) told), some ((eL eN) x8), none] _)
      obtain ⟨c11, h⟩ := h
      obtain ⟨told_1, d12⟩ : ∃ told_1 : (List Nat), told_1 = (told ++ x8) := ⟨_, rfl⟩
      replace h := h told_1 d12
      refine T.wp_set (T.ev_as d12 (e := (eL eN)) (T.ev_catL (e := eN) (xs := told) (ys := x8) c11 (T.ev_v rfl) (T.ev_v rfl))) ?_
      exact ⟨rfl, told_1, _, rfl, h⟩
    rintro _ _ ⟨rfl, told, g2, rfl, h⟩
    replace h := h6 told h
    change WP _ _ _ _ (At _ [some ((eT eR) picture), some ((eL eN) told), g2, none] _)
    obtain ⟨c15, h⟩ := h
    obtain ⟨c16, h⟩ := h
    obtain ⟨c17, h⟩ := h
    obtain ⟨c19, h⟩ := h
    exact T.wp_ret (T.ev_compI (e := eN) (xs := (List.range (picture.length + (picture[0]!).length))) (ds := fun x18 => [eN x18]) (P := fun x18 => (x18 ∉ told)) (T.it_range (n := (picture.length + (picture[0]!).length)) c17 (T.ev_add (x := picture.length) (y := (picture[0]!).length) (T.ev_lenT (e := eR) (xs := picture) (T.ev_v rfl)) (T.ev_lenR (r := picture[0]!) c16 (T.ev_ixT (e := eR) (xs := picture) (i := 0) c15 (T.ev_v rfl) (T.ev_cN 0))))) c19 (fun _ => rfl) (fun x18 hx => (T.ev_bool (T.ev_ninL (x := x18) (xs := told) qN rfl (T.ev_v rfl) (T.ev_v rfl)))) (fun x18 hx hq => (T.ev_v rfl))) ⟨rfl, ((List.range (picture.length + (picture[0]!).length)).filter fun x18 => decide (x18 ∉ told)), rfl, h⟩)
  exact ⟨r, q, e1⟩
abbrev P_law_core (p : Pic) : Prop := PicP p
abbrev F_law_core (p : Pic) : List Nat := coreQ p
theorem ok_law_core {p : Pic} (k : P_law_core p) : V_law_core p (· = F_law_core p) := by
  have h1 := k.h1; have h30 := k.h30; have w1 := k.w1; have w30 := k.w30
  obtain ⟨a, b⟩ := layersQ_len k
  refine ⟨k, fun n t => t = ((layersQ p).take n).flatten, rfl, fun i x hx t ht => ⟨?_, fun u hu => ?_⟩, fun t ht => ⟨by omega, by omega, by omega, by rw [List.length_range]; omega, ?_⟩⟩
  · have c := b x (List.mem_of_getElem? hx)
    have d := sub_len (n := 30) (xs := (layersQ p).take i) fun y hy => b y (List.mem_of_mem_take hy)
    rw [List.length_take] at d
    rw [ht]
    have : min i (layersQ p).length * 30 ≤ 60 * 30 := Nat.mul_le_mul_right _ (by omega)
    omega
  · show u = _
    rw [hu, ht, take_snoc hx, List.flatten_append]; simp
  · have e : t = (layersQ p).flatten := ht.trans (by rw [List.take_length])
    rw [e]; rfl
theorem t_law_core {picture : (List Row)} (hP : P_law_core picture) (tp : List D) : m_law_core [(eT eR) picture] tp = .ok ((eL eN) (F_law_core picture)) tp := by
  obtain ⟨r, rfl, e⟩ := snd_law_core picture (ok_law_core hP) tp
  exact e
end W
set_option maxHeartbeats 1000000
namespace W
open PySem L2 G T
def V_core_of (picture : (List Row)) (Q : (List Nat) → Prop) : Prop := (P_layers_of picture) ∧ (((F_layers_of picture).flatMap fun x2 => x2).length ≤ 1000000) ∧ ∀ told : (List (Nat × Bool)), told = (dictOf ((F_layers_of picture).flatMap fun x2 => x2.map fun y3 => (y3, true))) → (P_lines_of picture) ∧ ((F_lines_of picture) ≤ 1073741824) ∧ ((List.range (F_lines_of picture)).length ≤ 1000000) ∧ Q ((List.range (F_lines_of picture)).filter fun x8 => decide (x8 ∉ dkeys told))
theorem snd_core_of (picture : (List Row)) {Q : (List Nat) → Prop} (h : V_core_of picture Q) (tp : List D) : ∃ r : (List Nat), Q r ∧ m_core_of [(eT eR) picture] tp = .ok ((eL eN) r) tp := by
  obtain ⟨d, t, e1, rfl, r, rfl, q⟩ := T.wp_def (n := 4) (s := b_core_of) (ds := [(eT eR) picture]) (tp := tp) (Q := fun d t => t = tp ∧ ∃ r : (List Nat), d = (eL eN) r ∧ Q r) (by
    unfold V_core_of at h
    change WP _ _ _ _ (b_core_of [some ((eT eR) picture), none, none, none] _)
    unfold b_core_of
    obtain ⟨c1, h⟩ := h
    obtain ⟨c4, h⟩ := h
    obtain ⟨told, d5⟩ : ∃ told : (List (Nat × Bool)), told = (dictOf ((F_layers_of picture).flatMap fun x2 => x2.map fun y3 => (y3, true))) := ⟨_, rfl⟩
    replace h := h told d5
    refine T.wp_seq (T.wp_set (T.ev_as d5 (e := (eD eB)) (T.ev_dc2 (e := eB) (e1 := (eL eN)) (e2 := eN) (xs := (F_layers_of picture)) (ds := fun x2 => [(eL eN) x2]) (ys := fun x2 => x2) (ds1 := fun y3 => [eN y3]) (k := fun x2 y3 => y3) (v := fun x2 y3 => true) (T.it_L (e := (eL eN)) (xs := (F_layers_of picture)) (T.ev_call (T.ev_cons (T.ev_v rfl) T.ev_nil) rfl (t_layers_of c1 _))) (fun _ => rfl) (fun x2 hx => (T.it_L (e := eN) (xs := x2) (T.ev_v rfl))) (fun _ => rfl) (fun x2 hx y3 hy => (T.ev_v rfl)) (fun x2 hx y3 hy => (T.ev_c rfl)) c4)) ?_)
    change WP _ _ _ _ (At _ [some ((eT eR) picture), some ((eD eB) told), none, none] _)
    obtain ⟨c6, h⟩ := h
    obtain ⟨c7, h⟩ := h
    obtain ⟨c9, h⟩ := h
    exact T.wp_ret (T.ev_compI (e := eN) (xs := (List.range (F_lines_of picture))) (ds := fun x8 => [eN x8]) (P := fun x8 => (x8 ∉ dkeys told)) (T.it_range (n := (F_lines_of picture)) c7 (T.ev_call (T.ev_cons (T.ev_v rfl) T.ev_nil) rfl (t_lines_of c6 _))) c9 (fun _ => rfl) (fun x8 hx => (T.ev_bool (T.ev_ninK (x := x8) (d := told) (T.ev_v rfl) (T.ev_v rfl)))) (fun x8 hx hq => (T.ev_v rfl))) ⟨rfl, ((List.range (F_lines_of picture)).filter fun x8 => decide (x8 ∉ dkeys told)), rfl, h⟩)
  exact ⟨r, q, e1⟩
abbrev P_core_of (p : Pic) : Prop := PicP p
abbrev F_core_of (p : Pic) : List Nat := coreQ p
theorem ok_core_of {p : Pic} (k : P_core_of p) : V_core_of p (· = F_core_of p) := by
  have h1 := k.h1; have h30 := k.h30; have w1 := k.w1; have w30 := k.w30
  have e0 : F_lines_of p = p.length + p[0]!.length := rfl
  have fl : ((layersQ p).flatMap fun x => x).length ≤ 1800 := by
    have := layersQ_flat k
    rwa [show (layersQ p).flatMap (fun x => x) = (layersQ p).flatten from List.flatMap_id']
  rw [V_core_of, e0]
  refine ⟨k, by show ((layersQ p).flatMap fun x => x).length ≤ _; omega, fun told ht => ⟨k, by omega, by rw [List.length_range]; omega, ?_⟩⟩
  unfold F_core_of coreQ
  refine List.filter_congr fun l _ => decide_eq_decide.mpr (not_congr ?_)
  rw [ht]; exact keys_flat _ _
theorem t_core_of {picture : (List Row)} (hP : P_core_of picture) (tp : List D) : m_core_of [(eT eR) picture] tp = .ok ((eL eN) (F_core_of picture)) tp := by
  obtain ⟨r, rfl, e⟩ := snd_core_of picture (ok_core_of hP) tp
  exact e
end W
set_option maxHeartbeats 1000000
namespace W
open PySem L2 G T
def V_is_table (value : (List (List Int))) (Q : Bool → Prop) : Prop := (¬(¬(1 ≤ value.length ∧ value.length ≤ 30)) → (value.length ≤ 1000000)) ∧ ((((¬True) ∨ ((¬(1 ≤ value.length ∧ value.length ≤ 30)) ∨ (¬(∀ x1 ∈ value, True)))) → Q false) ∧ (¬((¬True) ∨ ((¬(1 ≤ value.length ∧ value.length ≤ 30)) ∨ (¬(∀ x1 ∈ value, True)))) → (0 < value.length) ∧ (¬(¬(1 ≤ (value[0]!).length ∧ (value[0]!).length ≤ 30)) → (value.length ≤ 1000000) ∧ (∀ x5, x5 ∈ value → (0 < value.length))) ∧ ((((¬(1 ≤ (value[0]!).length ∧ (value[0]!).length ≤ 30)) ∨ (¬(∀ x5 ∈ value, (x5.length = (value[0]!).length)))) → Q false) ∧ (¬((¬(1 ≤ (value[0]!).length ∧ (value[0]!).length ≤ 30)) ∨ (¬(∀ x5 ∈ value, (x5.length = (value[0]!).length)))) → (∀ x10, x10 ∈ value → ∀ y11, y11 ∈ x10 → (P_is_in2 y11 (-(1000000 : Int)) (1000000 : Int))) ∧ ((value.flatMap fun x10 => x10.map fun y11 => (F_is_in2 y11 (-(1000000 : Int)) (1000000 : Int))).length ≤ 1000000) ∧ Q ((value.flatMap fun x10 => x10.map fun y11 => (F_is_in2 y11 (-(1000000 : Int)) (1000000 : Int))).all id)))))
theorem snd_is_table (value : (List (List Int))) {Q : Bool → Prop} (h : V_is_table value Q) (tp : List D) : ∃ r : Bool, Q r ∧ m_is_table [(eT (eT eZ)) value] tp = .ok (eB r) tp := by
  obtain ⟨d, t, e1, rfl, r, rfl, q⟩ := T.wp_def (n := 3) (s := b_is_table) (ds := [(eT (eT eZ)) value]) (tp := tp) (Q := fun d t => t = tp ∧ ∃ r : Bool, d = eB r ∧ Q r) (by
    unfold V_is_table at h
    change WP _ _ _ _ (b_is_table [some ((eT (eT eZ)) value), none, none] _)
    unfold b_is_table
    obtain ⟨c3, h⟩ := h
    refine T.wp_seq (T.wp_if (P := ((¬True) ∨ ((¬(1 ≤ value.length ∧ value.length ≤ 30)) ∨ (¬(∀ x1 ∈ value, True))))) (T.ev_orT (P := (¬True)) (Q := ((¬(1 ≤ value.length ∧ value.length ≤ 30)) ∨ (¬(∀ x1 ∈ value, True)))) (T.ev_notT (P := True) (T.ev_bool (T.ev_isi (d := (eT (eT eZ)) value) (T.ev_v rfl) rfl kb_tuple_tuple))) (fun hp => (T.ev_orT (P := (¬(1 ≤ value.length ∧ value.length ≤ 30))) (Q := (¬(∀ x1 ∈ value, True))) (T.ev_notT (P := (1 ≤ value.length ∧ value.length ≤ 30)) (T.ev_bool (T.ev_chLeLe (x := 1) (y := value.length) (z := 30) (T.ev_cN 1) (T.ev_lenT (e := (eT eZ)) (xs := value) (T.ev_v rfl)) (T.ev_cN 30)))) (fun hp => have c2 := c3 hp; (T.ev_notT (P := (∀ x1 ∈ value, True)) (T.ev_bool (T.ev_allY (xs := value) (R := fun x1 => True) (T.ev_compY (e := (eT eZ)) (e1 := eB) (xs := value) (ds := fun x1 => [(eT eZ) x1]) (g := fun x1 => (decide True)) (T.it_T (e := (eT eZ)) (xs := value) (T.ev_v rfl)) c2 (fun _ => rfl) (fun x1 hx => (T.ev_isi (d := (eT eZ) x1) (T.ev_v rfl) rfl kb_tuple_tuple)))))))))) (fun hp => ?_) (fun hn => ?_))
    · replace h := h.1 hp
      exact T.wp_ret (T.ev_c rfl) ⟨rfl, false, rfl, h⟩
    · replace h := h.2 hn
      refine T.wp_skip ?_
      change WP _ _ _ _ (At _ [some ((eT (eT eZ)) value), none, none] _)
      obtain ⟨c4, h⟩ := h
      obtain ⟨c9, h⟩ := h
      refine T.wp_seq (T.wp_if (P := ((¬(1 ≤ (value[0]!).length ∧ (value[0]!).length ≤ 30)) ∨ (¬(∀ x5 ∈ value, (x5.length = (value[0]!).length))))) (T.ev_orT (P := (¬(1 ≤ (value[0]!).length ∧ (value[0]!).length ≤ 30))) (Q := (¬(∀ x5 ∈ value, (x5.length = (value[0]!).length)))) (T.ev_notT (P := (1 ≤ (value[0]!).length ∧ (value[0]!).length ≤ 30)) (T.ev_bool (T.ev_chLeLe (x := 1) (y := (value[0]!).length) (z := 30) (T.ev_cN 1) (T.ev_lenT (e := eZ) (xs := value[0]!) (T.ev_ixT (e := (eT eZ)) (xs := value) (i := 0) c4 (T.ev_v rfl) (T.ev_cN 0))) (T.ev_cN 30)))) (fun hp => match c9 hp with | ⟨c6, c8⟩ => (T.ev_notT (P := (∀ x5 ∈ value, (x5.length = (value[0]!).length))) (T.ev_bool (T.ev_allY (xs := value) (R := fun x5 => (x5.length = (value[0]!).length)) (T.ev_compY (e := (eT eZ)) (e1 := eB) (xs := value) (ds := fun x5 => [(eT eZ) x5]) (g := fun x5 => (decide (x5.length = (value[0]!).length))) (T.it_T (e := (eT eZ)) (xs := value) (T.ev_v rfl)) c6 (fun _ => rfl) (fun x5 hx => have c7 := c8 x5 hx; (T.ev_eq (x := x5.length) (y := (value[0]!).length) qN rfl (T.ev_lenT (e := eZ) (xs := x5) (T.ev_v rfl)) (T.ev_lenT (e := eZ) (xs := value[0]!) (T.ev_ixT (e := (eT eZ)) (xs := value) (i := 0) c7 (T.ev_v rfl) (T.ev_cN 0))))))))))) (fun hp => ?_) (fun hn => ?_))
      · replace h := h.1 hp
        exact T.wp_ret (T.ev_c rfl) ⟨rfl, false, rfl, h⟩
      · replace h := h.2 hn
        refine T.wp_skip ?_
        change WP _ _ _ _ (At _ [some ((eT (eT eZ)) value), none, none] _)
        obtain ⟨c13, h⟩ := h
        obtain ⟨c14, h⟩ := h
        exact T.wp_ret (T.ev_allB (xs := (value.flatMap fun x10 => x10.map fun y11 => (F_is_in2 y11 (-(1000000 : Int)) (1000000 : Int)))) (T.ev_comp2Y (e := (eT eZ)) (e1 := eZ) (e2 := eB) (xs := value) (ds := fun x10 => [(eT eZ) x10]) (ys := fun x10 => x10) (ds1 := fun y11 => [eZ y11]) (g := fun x10 y11 => (F_is_in2 y11 (-(1000000 : Int)) (1000000 : Int))) (T.it_T (e := (eT eZ)) (xs := value) (T.ev_v rfl)) (fun _ => rfl) (fun x10 hx => (T.it_T (e := eZ) (xs := x10) (T.ev_v rfl))) (fun _ => rfl) (fun x10 hx y11 hy => have c12 := c13 x10 hx y11 hy; (T.ev_call (T.ev_cons (T.ev_v rfl) (T.ev_cons (T.ev_negZ (x := (1000000 : Int)) (T.ev_c rfl)) (T.ev_cons (T.ev_c rfl) T.ev_nil))) rfl (t_is_in2 c12 _))) c14)) ⟨rfl, ((value.flatMap fun x10 => x10.map fun y11 => (F_is_in2 y11 (-(1000000 : Int)) (1000000 : Int))).all id), rfl, h⟩)
  exact ⟨r, q, e1⟩
abbrev P_is_table (W : List (List Int)) : Prop := TabP W
abbrev F_is_table (_ : List (List Int)) : Bool := true
theorem ok_is_table {W : List (List Int)} (k : P_is_table W) : V_is_table W (· = F_is_table W) := by
  have h1 := k.h1
  have h30 := k.h30
  refine ⟨fun _ => by omega, fun h => ?_, fun _ => ⟨by omega, fun _ => ⟨by omega, fun x _ => by omega⟩, fun h => ?_, fun _ => ⟨fun _ _ _ _ => trivial, ?_, ?_⟩⟩⟩
  · rcases h with h | h | h
    · exact (h trivial).elim
    · exact (h ⟨h1, h30⟩).elim
    · exact (h fun _ _ => trivial).elim
  · rcases h with h | h
    · exact (h ⟨k.w1, k.w30⟩).elim
    · exact (h k.eq).elim
  · refine Nat.le_trans (flat_lenZ _ 30 _ fun r hr => ?_) (Nat.le_trans (Nat.mul_le_mul_right 30 h30) (by decide))
    rw [List.length_map, k.eq r hr]; exact k.w30
  · show List.all _ _ = true
    refine List.all_eq_true.mpr fun b hb => ?_
    obtain ⟨r, hr, hb⟩ := List.mem_flatMap.mp hb
    obtain ⟨x, hx, rfl⟩ := List.mem_map.mp hb
    have := k.v r hr x hx
    exact decide_eq_true this
theorem t_is_table {value : (List (List Int))} (hP : P_is_table value) (tp : List D) : m_is_table [(eT (eT eZ)) value] tp = .ok (eB (F_is_table value)) tp := by
  obtain ⟨r, rfl, e⟩ := snd_is_table value (ok_is_table hP) tp
  exact e
end W
set_option maxHeartbeats 1000000
namespace W
open PySem L2 G T
def V_is_free_of (picture : (List Row)) (Q : Bool → Prop) : Prop := (P_core_of picture) ∧ Q (decide ((F_core_of picture) = []))
theorem snd_is_free_of (picture : (List Row)) {Q : Bool → Prop} (h : V_is_free_of picture Q) (tp : List D) : ∃ r : Bool, Q r ∧ m_is_free_of [(eT eR) picture] tp = .ok (eB r) tp := by
  obtain ⟨d, t, e1, rfl, r, rfl, q⟩ := T.wp_def (n := 1) (s := b_is_free_of) (ds := [(eT eR) picture]) (tp := tp) (Q := fun d t => t = tp ∧ ∃ r : Bool, d = eB r ∧ Q r) (by
    unfold V_is_free_of at h
    change WP _ _ _ _ (b_is_free_of [some ((eT eR) picture)] _)
    unfold b_is_free_of
    obtain ⟨c1, h⟩ := h
    exact T.wp_ret (T.ev_eq (x := (F_core_of picture)) (y := []) (qL qN) rfl (T.ev_call (T.ev_cons (T.ev_v rfl) T.ev_nil) rfl (t_core_of c1 _)) (T.ev_lst (ds := []) T.ev_nil rfl)) ⟨rfl, (decide ((F_core_of picture) = [])), rfl, h⟩)
  exact ⟨r, q, e1⟩
abbrev P_is_free_of (p : Pic) : Prop := PicP p
abbrev F_is_free_of (p : Pic) : Bool := decide (coreQ p = [])
theorem ok_is_free_of {p : Pic} (k : P_is_free_of p) : V_is_free_of p (· = F_is_free_of p) := ⟨k, rfl⟩
theorem t_is_free_of {picture : (List Row)} (hP : P_is_free_of picture) (tp : List D) : m_is_free_of [(eT eR) picture] tp = .ok (eB (F_is_free_of picture)) tp := by
  obtain ⟨r, rfl, e⟩ := snd_is_free_of picture (ok_is_free_of hP) tp
  exact e
end W
set_option maxHeartbeats 1000000
namespace W
open PySem L2 G T
def V_need_table (value : (List (List Int))) (Q : Unit → Prop) : Prop := (P_is_table value) ∧ ((F_is_table value) = true) ∧ Q ()
theorem snd_need_table (value : (List (List Int))) {Q : Unit → Prop} (h : V_need_table value Q) (tp : List D) : ∃ r : Unit, Q r ∧ m_need_table [(eT (eT eZ)) value] tp = .ok (eU r) tp := by
  obtain ⟨d, t, e1, rfl, r, rfl, q⟩ := T.wp_def (n := 1) (s := b_need_table) (ds := [(eT (eT eZ)) value]) (tp := tp) (Q := fun d t => t = tp ∧ ∃ r : Unit, d = eU r ∧ Q r) (by
    unfold V_need_table at h
    change WP _ _ _ _ (b_need_table [some ((eT (eT eZ)) value)] _)
    unfold b_need_table
    obtain ⟨c1, h⟩ := h
    obtain ⟨hf, h⟩ := h
    refine T.wp_if (P := (¬((F_is_table value) = true))) (T.ev_notT (P := ((F_is_table value) = true)) (T.ev_dec (F_is_table value) (T.ev_call (T.ev_cons (T.ev_v rfl) T.ev_nil) rfl (t_is_table c1 _)))) (fun hp => ?_) (fun hn => ?_)
    · exact absurd hp ((fun h0 => h0 (hf)))
    · refine T.wp_skip ?_
      exact ⟨rfl, (), rfl, h⟩)
  exact ⟨r, q, e1⟩
abbrev P_need_table (W : List (List Int)) : Prop := TabP W
abbrev F_need_table (_ : List (List Int)) : Unit := ()
theorem ok_need_table {W : List (List Int)} (k : P_need_table W) : V_need_table W (· = F_need_table W) := ⟨k, rfl, rfl⟩
theorem t_need_table {value : (List (List Int))} (hP : P_need_table value) (tp : List D) : m_need_table [(eT (eT eZ)) value] tp = .ok (eU (F_need_table value)) tp := by
  obtain ⟨r, rfl, e⟩ := snd_need_table value (ok_need_table hP) tp
  exact e
end W
set_option maxHeartbeats 1000000
namespace W
open PySem L2 G T
def V_worth (picture : (List Row)) (worths : (List (List Int))) (Q : Int → Prop) : Prop := (P_need_picture picture) ∧ (P_need_table worths) ∧ (¬(worths.length ≠ picture.length) → (0 < worths.length) ∧ (0 < picture.length) ∧ ((picture[0]!).length ≤ 1000000)) ∧ ((worths.length = picture.length) ∧ ((worths[0]!).length = (picture[0]!).length)) ∧ (P_worth_of picture worths) ∧ Q (F_worth_of picture worths)
theorem snd_worth (picture : (List Row)) (worths : (List (List Int))) {Q : Int → Prop} (h : V_worth picture worths Q) (tp : List D) : ∃ r : Int, Q r ∧ m_worth [(eT eR) picture, (eT (eT eZ)) worths] tp = .ok (eZ r) tp := by
  obtain ⟨d, t, e1, rfl, r, rfl, q⟩ := T.wp_def (n := 2) (s := b_worth) (ds := [(eT eR) picture, (eT (eT eZ)) worths]) (tp := tp) (Q := fun d t => t = tp ∧ ∃ r : Int, d = eZ r ∧ Q r) (by
    unfold V_worth at h
    change WP _ _ _ _ (b_worth [some ((eT eR) picture), some ((eT (eT eZ)) worths)] _)
    unfold b_worth
    obtain ⟨c1, h⟩ := h
    refine T.wp_seq (T.wp_drop (T.ev_call (T.ev_cons (T.ev_v rfl) T.ev_nil) rfl (t_need_picture c1 _)) ?_)
    change WP _ _ _ _ (At _ [some ((eT eR) picture), some ((eT (eT eZ)) worths)] _)
    obtain ⟨c2, h⟩ := h
    refine T.wp_seq (T.wp_drop (T.ev_call (T.ev_cons (T.ev_v rfl) T.ev_nil) rfl (t_need_table c2 _)) ?_)
    change WP _ _ _ _ (At _ [some ((eT eR) picture), some ((eT (eT eZ)) worths)] _)
    obtain ⟨c6, h⟩ := h
    obtain ⟨hf, h⟩ := h
    refine T.wp_seq (T.wp_if (P := ((worths.length ≠ picture.length) ∨ ((worths[0]!).length ≠ (picture[0]!).length))) (T.ev_orT (P := (worths.length ≠ picture.length)) (Q := ((worths[0]!).length ≠ (picture[0]!).length)) (T.ev_bool (T.ev_ne (x := worths.length) (y := picture.length) qN rfl (T.ev_lenT (e := (eT eZ)) (xs := worths) (T.ev_v rfl)) (T.ev_lenT (e := eR) (xs := picture) (T.ev_v rfl)))) (fun hp => match c6 hp with | ⟨c3, c4, c5⟩ => (T.ev_bool (T.ev_ne (x := (worths[0]!).length) (y := (picture[0]!).length) qN rfl (T.ev_lenT (e := eZ) (xs := worths[0]!) (T.ev_ixT (e := (eT eZ)) (xs := worths) (i := 0) c3 (T.ev_v rfl) (T.ev_cN 0))) (T.ev_lenR (r := picture[0]!) c5 (T.ev_ixT (e := eR) (xs := picture) (i := 0) c4 (T.ev_v rfl) (T.ev_cN 0))))))) (fun hp => ?_) (fun hn => ?_))
    · exact absurd hp ((fun h0 => h0.elim ((fun h0 => h0 ((hf).1))) ((fun h0 => h0 ((hf).2)))))
    · refine T.wp_skip ?_
      change WP _ _ _ _ (At _ [some ((eT eR) picture), some ((eT (eT eZ)) worths)] _)
      obtain ⟨c7, h⟩ := h
      exact T.wp_ret (T.ev_call (T.ev_cons (T.ev_v rfl) (T.ev_cons (T.ev_v rfl) T.ev_nil)) rfl (t_worth_of c7 _)) ⟨rfl, (F_worth_of picture worths), rfl, h⟩)
  exact ⟨r, q, e1⟩
abbrev P_worth (p : Pic) (W : List (List Int)) : Prop := P_worth_of p W
abbrev F_worth (p : Pic) (W : List (List Int)) : Int := F_worth_of p W
theorem ok_worth {p : Pic} {W : List (List Int)} (k : P_worth p W) : V_worth p W (· = F_worth p W) := by
  have h1 := k.1.h1
  have w30 := k.1.w30
  exact ⟨k.1, k.2.1, fun _ => ⟨by have := k.2.2.1; omega, by omega, by omega⟩, ⟨k.2.2.1, k.2.2.2⟩, k, rfl⟩
theorem t_worth {picture : (List Row)} {worths : (List (List Int))} (hP : P_worth picture worths) (tp : List D) : m_worth [(eT eR) picture, (eT (eT eZ)) worths] tp = .ok (eZ (F_worth picture worths)) tp := by
  obtain ⟨r, rfl, e⟩ := snd_worth picture worths (ok_worth hP) tp
  exact e
end W
set_option maxHeartbeats 1000000
namespace W
open PySem L2 G T
def V_need_small_table (value : (List (List Int))) (Q : Unit → Prop) : Prop := (P_need_table value) ∧ (0 < value.length) ∧ (¬((value.length + (value[0]!).length) > 8)) ∧ Q ()
theorem snd_need_small_table (value : (List (List Int))) {Q : Unit → Prop} (h : V_need_small_table value Q) (tp : List D) : ∃ r : Unit, Q r ∧ m_need_small_table [(eT (eT eZ)) value] tp = .ok (eU r) tp := by
  obtain ⟨d, t, e1, rfl, r, rfl, q⟩ := T.wp_def (n := 1) (s := b_need_small_table) (ds := [(eT (eT eZ)) value]) (tp := tp) (Q := fun d t => t = tp ∧ ∃ r : Unit, d = eU r ∧ Q r) (by
    unfold V_need_small_table at h
    change WP _ _ _ _ (b_need_small_table [some ((eT (eT eZ)) value)] _)
    unfold b_need_small_table
    obtain ⟨c1, h⟩ := h
    refine T.wp_seq (T.wp_drop (T.ev_call (T.ev_cons (T.ev_v rfl) T.ev_nil) rfl (t_need_table c1 _)) ?_)
    change WP _ _ _ _ (At _ [some ((eT (eT eZ)) value)] _)
    obtain ⟨c2, h⟩ := h
    obtain ⟨hf, h⟩ := h
    refine T.wp_if (P := ((value.length + (value[0]!).length) > 8)) (T.ev_bool (T.ev_gt (x := (value.length + (value[0]!).length)) (y := 8) (T.ev_add (x := value.length) (y := (value[0]!).length) (T.ev_lenT (e := (eT eZ)) (xs := value) (T.ev_v rfl)) (T.ev_lenT (e := eZ) (xs := value[0]!) (T.ev_ixT (e := (eT eZ)) (xs := value) (i := 0) c2 (T.ev_v rfl) (T.ev_cN 0)))) (T.ev_cN 8))) (fun hp => ?_) (fun hn => ?_)
    · exact absurd hp (hf)
    · refine T.wp_skip ?_
      exact ⟨rfl, (), rfl, h⟩)
  exact ⟨r, q, e1⟩
abbrev P_need_small_table (W : List (List Int)) : Prop := TabP W ∧ W.length + W[0]!.length ≤ 8
abbrev F_need_small_table (_ : List (List Int)) : Unit := ()
theorem ok_need_small_table {W : List (List Int)} (k : P_need_small_table W) : V_need_small_table W (· = F_need_small_table W) := ⟨k.1, k.1.h1, by have := k.2; omega, rfl⟩
theorem t_need_small_table {value : (List (List Int))} (hP : P_need_small_table value) (tp : List D) : m_need_small_table [(eT (eT eZ)) value] tp = .ok (eU (F_need_small_table value)) tp := by
  obtain ⟨r, rfl, e⟩ := snd_need_small_table value (ok_need_small_table hP) tp
  exact e
end W
set_option maxHeartbeats 1000000
namespace W
open PySem L2 G T
def V_best_last (picture : (List Row)) (worths : (List (List Int))) (Q : (Int × Nat) → Prop) : Prop := (P_need_picture picture) ∧ (P_need_table worths) ∧ (¬(worths.length ≠ picture.length) → (0 < worths.length) ∧ (0 < picture.length) ∧ ((picture[0]!).length ≤ 1000000)) ∧ ((worths.length = picture.length) ∧ ((worths[0]!).length = (picture[0]!).length)) ∧ (P_worth_of picture worths) ∧ ∀ whole : Int, whole = (F_worth_of picture worths) → ∃ I12 : Nat → (List (Int × Nat)) → Prop, I12 0 [] ∧ (∀ (i16 : Nat) (x17 : (Nat × Row)), (enumP picture)[i16]? = some x17 → ∀ told : (List (Int × Nat)), I12 i16 told → ((enumP x17.2).length ≤ 1000000) ∧ (∀ x20, x20 ∈ (enumP x17.2) → (x20.2 ≠ true) → (x17.1 < worths.length) ∧ (x20.1 < (worths[x17.1]!).length)) ∧ ∀ gain : Int, gain = (((enumP x17.2).filter fun x20 => decide (x20.2 ≠ true)).map fun x20 => (worths[x17.1]!)[x20.1]!).sum → (told.length < 1000000) ∧ ∀ told_1 : (List (Int × Nat)), told_1 = (told ++ [((-(whole + gain)), x17.1)]) → I12 (i16 + 1) told_1) ∧ (∀ told : (List (Int × Nat)), I12 (enumP picture).length told → (0 < picture.length) ∧ ((picture[0]!).length ≤ 1000000) ∧ ((picture[0]!).length ≤ 1073741824) ∧ ∃ I35 : Nat → (List (Int × Nat)) → Prop, I35 0 told ∧ (∀ (i39 : Nat) (x40 : Nat), (List.range ((picture[0]!).length))[i39]? = some x40 → ∀ told_2 : (List (Int × Nat)), I35 i39 told_2 → ((enumP picture).length ≤ 1000000) ∧ (∀ x43, x43 ∈ (enumP picture) → (x43.2.length ≤ 1000000 ∧ x40 < x43.2.length)) ∧ (∀ x43, x43 ∈ (enumP picture) → (x43.2[x40]! = true) → (x43.1 < worths.length) ∧ (x40 < (worths[x43.1]!).length)) ∧ ∀ loss : Int, loss = (((enumP picture).filter fun x43 => decide (x43.2[x40]! = true)).map fun x43 => (worths[x43.1]!)[x40]!).sum → (told_2.length < 1000000) ∧ ∀ told_3 : (List (Int × Nat)), told_3 = (told_2 ++ [((-(whole - loss)), (picture.length + x40))]) → I35 (i39 + 1) told_3) ∧ (∀ told_2 : (List (Int × Nat)), I35 (List.range ((picture[0]!).length)).length told_2 → (told_2 ≠ []) ∧ ∀ pair : (Int × Nat), pair = (minBy (eP eZ eN) told_2) → Q ((-pair.1), pair.2)))
theorem snd_best_last (picture : (List Row)) (worths : (List (List Int))) {Q : (Int × Nat) → Prop} (h : V_best_last picture worths Q) (tp : List D) : ∃ r : (Int × Nat), Q r ∧ m_best_last [(eT eR) picture, (eT (eT eZ)) worths] tp = .ok ((eP eZ eN) r) tp := by
  obtain ⟨d, t, e1, rfl, r, rfl, q⟩ := T.wp_def (n := 12) (s := b_best_last) (ds := [(eT eR) picture, (eT (eT eZ)) worths]) (tp := tp) (Q := fun d t => t = tp ∧ ∃ r : (Int × Nat), d = (eP eZ eN) r ∧ Q r) (by
    unfold V_best_last at h
    change WP _ _ _ _ (b_best_last [some ((eT eR) picture), some ((eT (eT eZ)) worths), none, none, none, none, none, none, none, none, none, none] _)
    unfold b_best_last
    obtain ⟨c1, h⟩ := h
    refine T.wp_seq (T.wp_drop (T.ev_call (T.ev_cons (T.ev_v rfl) T.ev_nil) rfl (t_need_picture c1 _)) ?_)
    change WP _ _ _ _ (At _ [some ((eT eR) picture), some ((eT (eT eZ)) worths), none, none, none, none, none, none, none, none, none, none] _)
    obtain ⟨c2, h⟩ := h
    refine T.wp_seq (T.wp_drop (T.ev_call (T.ev_cons (T.ev_v rfl) T.ev_nil) rfl (t_need_table c2 _)) ?_)
    change WP _ _ _ _ (At _ [some ((eT eR) picture), some ((eT (eT eZ)) worths), none, none, none, none, none, none, none, none, none, none] _)
    obtain ⟨c6, h⟩ := h
    obtain ⟨hf, h⟩ := h
    refine T.wp_seq (T.wp_if (P := ((worths.length ≠ picture.length) ∨ ((worths[0]!).length ≠ (picture[0]!).length))) (T.ev_orT (P := (worths.length ≠ picture.length)) (Q := ((worths[0]!).length ≠ (picture[0]!).length)) (T.ev_bool (T.ev_ne (x := worths.length) (y := picture.length) qN rfl (T.ev_lenT (e := (eT eZ)) (xs := worths) (T.ev_v rfl)) (T.ev_lenT (e := eR) (xs := picture) (T.ev_v rfl)))) (fun hp => match c6 hp with | ⟨c3, c4, c5⟩ => (T.ev_bool (T.ev_ne (x := (worths[0]!).length) (y := (picture[0]!).length) qN rfl (T.ev_lenT (e := eZ) (xs := worths[0]!) (T.ev_ixT (e := (eT eZ)) (xs := worths) (i := 0) c3 (T.ev_v rfl) (T.ev_cN 0))) (T.ev_lenR (r := picture[0]!) c5 (T.ev_ixT (e := eR) (xs := picture) (i := 0) c4 (T.ev_v rfl) (T.ev_cN 0))))))) (fun hp => ?_) (fun hn => ?_))
    · exact absurd hp ((fun h0 => h0.elim ((fun h0 => h0 ((hf).1))) ((fun h0 => h0 ((hf).2)))))
    · refine T.wp_skip ?_
      change WP _ _ _ _ (At _ [some ((eT eR) picture), some ((eT (eT eZ)) worths), none, none, none, none, none, none, none, none, none, none] _)
      obtain ⟨c7, h⟩ := h
      obtain ⟨whole, d8⟩ : ∃ whole : Int, whole = (F_worth_of picture worths) := ⟨_, rfl⟩
      replace h := h whole d8
      refine T.wp_seq (T.wp_par (T.ev_cons (T.ev_as d8 (e := eZ) (T.ev_call (T.ev_cons (T.ev_v rfl) (T.ev_cons (T.ev_v rfl) T.ev_nil)) rfl (t_worth_of c7 _))) (T.ev_cons (T.ev_lst (ds := []) T.ev_nil rfl) T.ev_nil)) rfl ?_)
      change WP _ _ _ _ (At _ [some ((eT eR) picture), some ((eT (eT eZ)) worths), some (eZ whole), some ((eL (eP eZ eN)) []), none, none, none, none, none, none, none, none] _)
      obtain ⟨I12, h13, h14, h15⟩ := h
      refine T.wp_seq (T.wp_for (e := (eP eN eR)) (xs := (enumP picture)) (ds := fun x17 => [eN x17.1, eR x17.2]) (fun k env tz => tp = tz ∧ ∃ told : (List (Int × Nat)), ∃ g9 : Option D, ∃ g10 : Option D, ∃ g11 : Option D, env = [some ((eT eR) picture), some ((eT (eT eZ)) worths), some (eZ whole), some ((eL (eP eZ eN)) told), g9, g10, g11, none, none, none, none, none] ∧ I12 k told) (T.it_enumT (e := eR) (xs := picture) (T.ev_v rfl)) (fun _ => rfl) ⟨rfl, [], _, _, _, rfl, h13⟩ ?_ ?_)
      · intro i16 x17 env t hk hI
        obtain ⟨rfl, told, g9, g10, g11, rfl, h⟩ := hI
        replace h := h14 i16 x17 hk told h
        change WP _ _ _ _ (At _ [some ((eT eR) picture), some ((eT (eT eZ)) worths), some (eZ whole), some ((eL (eP eZ eN)) told), some (eN x17.1), some (eR x17.2), g11, none, none, none, none, none] _)
        obtain ⟨c21, h⟩ := h
        obtain ⟨c24, h⟩ := h
        obtain ⟨gain, d25⟩ : ∃ gain : Int, gain = (((enumP x17.2).filter fun x20 => decide (x20.2 ≠ true)).map fun x20 => (worths[x17.1]!)[x20.1]!).sum := ⟨_, rfl⟩
        replace h := h gain d25
        refine T.wp_seq (T.wp_set (T.ev_as d25 (e := eZ) (T.ev_sumZ (xs := (((enumP x17.2).filter fun x20 => decide (x20.2 ≠ true)).map fun x20 => (worths[x17.1]!)[x20.1]!)) (T.ev_comp (e := (eP eN eG)) (e1 := eZ) (xs := (enumP x17.2)) (ds := fun x20 => [eN x20.1, eG x20.2]) (g := fun x20 => (worths[x17.1]!)[x20.1]!) (P := fun x20 => (x20.2 ≠ true)) (T.it_enumR (xs := x17.2) (T.ev_v rfl)) c21 (fun _ => rfl) (fun x20 hx => (T.ev_bool (T.ev_ne (x := x20.2) (y := true) qG rfl (T.ev_v rfl) (T.ev_c (congrArg D.str str_black))))) (fun x20 hx hq => match c24 x20 hx hq with | ⟨c22, c23⟩ => (T.ev_ixT (e := eZ) (xs := worths[x17.1]!) (i := x20.1) c23 (T.ev_ixT (e := (eT eZ)) (xs := worths) (i := x17.1) c22 (T.ev_v rfl) (T.ev_v rfl)) (T.ev_v rfl)))))) ?_)
        change WP _ _ _ _ (At _ [some ((eT eR) picture), some ((eT (eT eZ)) worths), some (eZ whole), some ((eL (eP eZ eN)) told), some (eN x17.1), some (eR x17.2), some (eZ gain), none, none, none, none, none] _)
        obtain ⟨c26, h⟩ := h
        obtain ⟨told_1, d27⟩ : ∃ told_1 : (List (Int × Nat)), told_1 = (told ++ [((-(whole + gain)), x17.1)]) := ⟨_, rfl⟩
        replace h := h told_1 d27
        refine T.wp_app (e := (eP eZ eN)) (xs := told) (x := ((-(whole + gain)), x17.1)) rfl (T.ev_tup (ds := [eZ (-(whole + gain)), eN x17.1]) (T.ev_cons (T.ev_negZ (x := (whole + gain)) (T.ev_addZ (x := whole) (y := gain) (T.ev_v rfl) (T.ev_v rfl))) (T.ev_cons (T.ev_v rfl) T.ev_nil)) rfl) c26 ?_
        rw [← d27]
        exact ⟨rfl, told_1, _, _, _, rfl, h⟩
      rintro _ _ ⟨rfl, told, g9, g10, g11, rfl, h⟩
      replace h := h15 told h
      change WP _ _ _ _ (At _ [some ((eT eR) picture), some ((eT (eT eZ)) worths), some (eZ whole), some ((eL (eP eZ eN)) told), g9, g10, g11, none, none, none, none, none] _)
      obtain ⟨c30, h⟩ := h
      obtain ⟨c31, h⟩ := h
      obtain ⟨c32, h⟩ := h
      obtain ⟨I35, h36, h37, h38⟩ := h
      refine T.wp_seq (T.wp_for (e := eN) (xs := (List.range ((picture[0]!).length))) (ds := fun x40 => [eN x40]) (fun k env tz => tp = tz ∧ ∃ told_2 : (List (Int × Nat)), ∃ g33 : Option D, ∃ g34 : Option D, env = [some ((eT eR) picture), some ((eT (eT eZ)) worths), some (eZ whole), some ((eL (eP eZ eN)) told_2), g9, g10, g11, g33, none, g34, none, none] ∧ I35 k told_2) (T.it_range (n := (picture[0]!).length) c32 (T.ev_lenR (r := picture[0]!) c31 (T.ev_ixT (e := eR) (xs := picture) (i := 0) c30 (T.ev_v rfl) (T.ev_cN 0)))) (fun _ => rfl) ⟨rfl, told, _, _, rfl, h36⟩ ?_ ?_)
      · intro i39 x40 env t hk hI
        obtain ⟨rfl, told_2, g33, g34, rfl, h⟩ := hI
        replace h := h37 i39 x40 hk told_2 h
        change WP _ _ _ _ (At _ [some ((eT eR) picture), some ((eT (eT eZ)) worths), some (eZ whole), some ((eL (eP eZ eN)) told_2), g9, g10, g11, some (eN x40), none, g34, none, none] _)
        obtain ⟨c44, h⟩ := h
        obtain ⟨c46, h⟩ := h
        obtain ⟨c49, h⟩ := h
        obtain ⟨loss, d50⟩ : ∃ loss : Int, loss = (((enumP picture).filter fun x43 => decide (x43.2[x40]! = true)).map fun x43 => (worths[x43.1]!)[x40]!).sum := ⟨_, rfl⟩
        replace h := h loss d50
        refine T.wp_seq (T.wp_set (T.ev_as d50 (e := eZ) (T.ev_sumZ (xs := (((enumP picture).filter fun x43 => decide (x43.2[x40]! = true)).map fun x43 => (worths[x43.1]!)[x40]!)) (T.ev_comp (e := (eP eN eR)) (e1 := eZ) (xs := (enumP picture)) (ds := fun x43 => [eN x43.1, eR x43.2]) (g := fun x43 => (worths[x43.1]!)[x40]!) (P := fun x43 => (x43.2[x40]! = true)) (T.it_enumT (e := eR) (xs := picture) (T.ev_v rfl)) c44 (fun _ => rfl) (fun x43 hx => have c45 := c46 x43 hx; (T.ev_bool (T.ev_eq (x := x43.2[x40]!) (y := true) qG rfl (T.ev_ixR (r := x43.2) (i := x40) c45 (T.ev_v rfl) (T.ev_v rfl)) (T.ev_c (congrArg D.str str_black))))) (fun x43 hx hq => match c49 x43 hx hq with | ⟨c47, c48⟩ => (T.ev_ixT (e := eZ) (xs := worths[x43.1]!) (i := x40) c48 (T.ev_ixT (e := (eT eZ)) (xs := worths) (i := x43.1) c47 (T.ev_v rfl) (T.ev_v rfl)) (T.ev_v rfl)))))) ?_)
        change WP _ _ _ _ (At _ [some ((eT eR) picture), some ((eT (eT eZ)) worths), some (eZ whole), some ((eL (eP eZ eN)) told_2), g9, g10, g11, some (eN x40), none, some (eZ loss), none, none] _)
        obtain ⟨c51, h⟩ := h
        obtain ⟨told_3, d52⟩ : ∃ told_3 : (List (Int × Nat)), told_3 = (told_2 ++ [((-(whole - loss)), (picture.length + x40))]) := ⟨_, rfl⟩
        replace h := h told_3 d52
        refine T.wp_app (e := (eP eZ eN)) (xs := told_2) (x := ((-(whole - loss)), (picture.length + x40))) rfl (T.ev_tup (ds := [eZ (-(whole - loss)), eN (picture.length + x40)]) (T.ev_cons (T.ev_negZ (x := (whole - loss)) (T.ev_subZ (x := whole) (y := loss) (T.ev_v rfl) (T.ev_v rfl))) (T.ev_cons (T.ev_add (x := picture.length) (y := x40) (T.ev_lenT (e := eR) (xs := picture) (T.ev_v rfl)) (T.ev_v rfl)) T.ev_nil)) rfl) c51 ?_
        rw [← d52]
        exact ⟨rfl, told_3, _, _, rfl, h⟩
      rintro _ _ ⟨rfl, told_2, g33, g34, rfl, h⟩
      replace h := h38 told_2 h
      change WP _ _ _ _ (At _ [some ((eT eR) picture), some ((eT (eT eZ)) worths), some (eZ whole), some ((eL (eP eZ eN)) told_2), g9, g10, g11, g33, none, g34, none, none] _)
      obtain ⟨c55, h⟩ := h
      obtain ⟨pair, d56⟩ : ∃ pair : (Int × Nat), pair = (minBy (eP eZ eN) told_2) := ⟨_, rfl⟩
      replace h := h pair d56
      refine T.wp_seq (T.wp_unp (ds := [eZ pair.1, eN pair.2]) (T.ev_as d56 (e := (eP eZ eN)) (T.ev_minDat (e := (eP eZ eN)) (xs := told_2) min_ZN c55 (T.ev_v rfl))) rfl ?_)
      change WP _ _ _ _ (At _ [some ((eT eR) picture), some ((eT (eT eZ)) worths), some (eZ whole), some ((eL (eP eZ eN)) told_2), g9, g10, g11, g33, none, g34, some (eZ pair.1), some (eN pair.2)] _)
      exact T.wp_ret (T.ev_tup (ds := [eZ (-pair.1), eN pair.2]) (T.ev_cons (T.ev_negZ (x := pair.1) (T.ev_v rfl)) (T.ev_cons (T.ev_v rfl) T.ev_nil)) rfl) ⟨rfl, ((-pair.1), pair.2), rfl, h⟩)
  exact ⟨r, q, e1⟩
abbrev P_best_last (p : Pic) (W : List (List Int)) : Prop := P_worth_of p W
def F_best_last (p : Pic) (W : List (List Int)) : Int × Nat := (-(minBy (eP eZ eN) (toldW p W (p.length + p[0]!.length))).1, (minBy (eP eZ eN) (toldW p W (p.length + p[0]!.length))).2)
theorem ok_best_last {p : Pic} {W : List (List Int)} (k : P_best_last p W) : V_best_last p W (· = F_best_last p W) := by
  obtain ⟨kp, kt, hh, hw⟩ := id k
  have h1 := kp.h1
  have h30 := kp.h30
  have w30 := kp.w30
  have w1 := kp.w1
  have ln : ∀ {α : Type} (xs : List α), (enumP xs).length = xs.length := fun xs => by unfold enumP; rw [List.length_mapIdx]
  have tl : ∀ n, (toldW p W n).length = n := fun n => by unfold toldW; rw [List.length_map, List.length_range]
  refine ⟨kp, kt, fun _ => ⟨by omega, by omega, by omega⟩, ⟨hh, hw⟩, k, fun whole ew => ⟨fun n t => t = toldW p W n, rfl, fun i x hx t ht => ?_, fun t ht => ?_⟩⟩
  · have ht : t = toldW p W i := ht
    obtain ⟨rfl, _, hi⟩ := enumP_get hx
    refine ⟨by rw [ln]; show (p[i]!).length ≤ _; rw [kp.get hi]; omega, fun y hy _ => ?_, fun gain eg => ⟨by rw [ht, tl]; omega, fun t2 e2 => ?_⟩⟩
    · obtain ⟨c, _⟩ := mem_enumP hy
      have c : y.1 < (p[i]!).length := c
      rw [kp.get hi] at c
      exact ⟨by show i < W.length; omega, by show y.1 < (W[i]!).length; rw [kt.len (by omega)]; omega⟩
    · show t2 = toldW p W (i + 1)
      rw [toldW_snoc, e2, ht, worth_row kp W hi]
      have eg2 : gain = gainW p W p[0]!.length i := by
        rw [eg]
        show (((enumP p[i]!).filter fun x20 => decide (x20.2 ≠ true)).map fun x20 => (W[i]!)[x20.1]!).sum = _
        rw [enumP_eq, kp.get hi, List.filter_map, List.map_map]
        rfl
      rw [ew, eg2]; rfl
  · have ht : t = toldW p W (enumP p).length := ht
    rw [ln] at ht
    refine ⟨by omega, by omega, by omega, fun n t => t = toldW p W (p.length + n), ht, fun c x hx t2 ht2 => ?_, fun t2 ht2 => ⟨?_, fun pair ep => ?_⟩⟩
    · obtain ⟨rfl, hc⟩ := range_get hx
      have ht2 : t2 = toldW p W (p.length + x) := ht2
      refine ⟨by rw [ln]; omega, fun y hy => ?_, fun y hy _ => ?_, fun loss el => ⟨by rw [ht2, tl]; omega, fun t3 e3 => ?_⟩⟩
      · obtain ⟨a, b⟩ := mem_enumP hy
        rw [b, kp.get a]; exact ⟨by omega, hc⟩
      · obtain ⟨a, b⟩ := mem_enumP hy
        exact ⟨by omega, by rw [kt.len (by omega)]; omega⟩
      · show t3 = toldW p W (p.length + (x + 1))
        rw [← Nat.add_assoc, toldW_snoc, e3, ht2, worth_col kp W hc]
        have el2 : loss = lossW p W p.length x := by
          rw [el, enumP_eq, List.filter_map, List.map_map]
          rfl
        rw [ew, el2]; rfl
    · have ht2 : t2 = toldW p W (p.length + (List.range p[0]!.length).length) := ht2
      intro e
      have := congrArg List.length (ht2.symm.trans e)
      rw [tl] at this
      have z : ([] : List (Int × Nat)).length = 0 := rfl
      omega
    · have ht2 : t2 = toldW p W (p.length + (List.range p[0]!.length).length) := ht2
      rw [List.length_range] at ht2
      rw [ep, ht2]; rfl
theorem t_best_last {picture : (List Row)} {worths : (List (List Int))} (hP : P_best_last picture worths) (tp : List D) : m_best_last [(eT eR) picture, (eT (eT eZ)) worths] tp = .ok ((eP eZ eN) (F_best_last picture worths)) tp := by
  obtain ⟨r, rfl, e⟩ := snd_best_last picture worths (ok_best_last hP) tp
  exact e
end W
set_option maxHeartbeats 1000000
namespace W
open PySem L2 G T
def V_free_pictures (rows : Nat) (columns : Nat) (Q : (List (List Row)) → Prop) : Prop := (rows ≤ 16777216) ∧ (rows ≤ 16777216 ∧ (rows + columns) ≤ 16777216) ∧ ∀ lines : (List Nat), lines = (List.range rows) → ∀ others : (List Nat), others = (List.range' rows ((rows + columns) - rows)) → (P_layerings lines others true) ∧ (P_layerings lines others false) ∧ ((F_layerings lines others true).length + (F_layerings lines others false).length ≤ 1000000) ∧ ∀ both : (List (List (List Nat))), both = ((F_layerings lines others true) ++ (F_layerings lines others false)) → (both.length ≤ 1000000) ∧ (∀ x9, x9 ∈ both → (P_by_layers rows columns x9)) ∧ Q (both.map fun x9 => (F_by_layers rows columns x9))
theorem snd_free_pictures (rows : Nat) (columns : Nat) {Q : (List (List Row)) → Prop} (h : V_free_pictures rows columns Q) (tp : List D) : ∃ r : (List (List Row)), Q r ∧ m_free_pictures [eN rows, eN columns] tp = .ok ((eL (eT eR)) r) tp := by
  obtain ⟨d, t, e1, rfl, r, rfl, q⟩ := T.wp_def (n := 6) (s := b_free_pictures) (ds := [eN rows, eN columns]) (tp := tp) (Q := fun d t => t = tp ∧ ∃ r : (List (List Row)), d = (eL (eT eR)) r ∧ Q r) (by
    unfold V_free_pictures at h
    change WP _ _ _ _ (b_free_pictures [some (eN rows), some (eN columns), none, none, none, none] _)
    unfold b_free_pictures
    obtain ⟨c1, h⟩ := h
    obtain ⟨c2, h⟩ := h
    obtain ⟨lines, d3⟩ : ∃ lines : (List Nat), lines = (List.range rows) := ⟨_, rfl⟩
    replace h := h lines d3
    obtain ⟨others, d4⟩ : ∃ others : (List Nat), others = (List.range' rows ((rows + columns) - rows)) := ⟨_, rfl⟩
    replace h := h others d4
    refine T.wp_seq (T.wp_par (T.ev_cons (T.ev_as d3 (e := (eT eN)) (T.ev_rg1T (n := rows) c1 (T.ev_v rfl))) (T.ev_cons (T.ev_as d4 (e := (eT eN)) (T.ev_rg2T (a := rows) (n := (rows + columns)) c2 (T.ev_v rfl) (T.ev_add (x := rows) (y := columns) (T.ev_v rfl) (T.ev_v rfl)))) T.ev_nil)) rfl ?_)
    change WP _ _ _ _ (At _ [some (eN rows), some (eN columns), some ((eT eN) lines), some ((eT eN) others), none, none] _)
    obtain ⟨c5, h⟩ := h
    obtain ⟨c6, h⟩ := h
    obtain ⟨c7, h⟩ := h
    obtain ⟨both, d8⟩ : ∃ both : (List (List (List Nat))), both = ((F_layerings lines others true) ++ (F_layerings lines others false)) := ⟨_, rfl⟩
    replace h := h both d8
    refine T.wp_seq (T.wp_set (T.ev_as d8 (e := (eL (eT (eT eN)))) (T.ev_catL (e := (eT (eT eN))) (xs := (F_layerings lines others true)) (ys := (F_layerings lines others false)) c7 (T.ev_call (T.ev_cons (T.ev_v rfl) (T.ev_cons (T.ev_v rfl) (T.ev_cons (T.ev_c rfl) T.ev_nil))) rfl (t_layerings c5 _)) (T.ev_call (T.ev_cons (T.ev_v rfl) (T.ev_cons (T.ev_v rfl) (T.ev_cons (T.ev_c rfl) T.ev_nil))) rfl (t_layerings c6 _)))) ?_)
    change WP _ _ _ _ (At _ [some (eN rows), some (eN columns), some ((eT eN) lines), some ((eT eN) others), some ((eL (eT (eT eN))) both), none] _)
    obtain ⟨c10, h⟩ := h
    obtain ⟨c12, h⟩ := h
    exact T.wp_ret (T.ev_compY (e := (eT (eT eN))) (e1 := (eT eR)) (xs := both) (ds := fun x9 => [(eT (eT eN)) x9]) (g := fun x9 => (F_by_layers rows columns x9)) (T.it_L (e := (eT (eT eN))) (xs := both) (T.ev_v rfl)) c10 (fun _ => rfl) (fun x9 hx => have c11 := c12 x9 hx; (T.ev_call (T.ev_cons (T.ev_v rfl) (T.ev_cons (T.ev_v rfl) (T.ev_cons (T.ev_v rfl) T.ev_nil))) rfl (t_by_layers c11 _)))) ⟨rfl, (both.map fun x9 => (F_by_layers rows columns x9)), rfl, h⟩)
  exact ⟨r, q, e1⟩
abbrev P_free_pictures (r c : Nat) : Prop := 1 ≤ r ∧ 1 ≤ c ∧ r ≤ 4 ∧ c ≤ 4 ∧ r + c ≤ 7
def bothF (r c : Nat) : List (List (List Nat)) := F_layerings (List.range r) (List.range' r c) true ++ F_layerings (List.range r) (List.range' r c) false
def F_free_pictures (r c : Nat) : List Pic := (bothF r c).map fun t => F_by_layers r c t
theorem fp_lay {r c : Nat} (k : P_free_pictures r c) (b : Bool) : P_layerings (List.range r) (List.range' r c) b := by
  obtain ⟨_, _, a, d, e⟩ := k
  exact ⟨by rw [List.length_range]; exact a, by rw [List.length_range']; exact d, by rw [List.length_range, List.length_range']; exact e⟩
theorem fp_len {r c : Nat} (k : P_free_pictures r c) : (F_free_pictures r c).length ≤ 131072 := by
  unfold F_free_pictures bothF
  rw [List.length_map, List.length_append]
  have := lay_len (fp_lay k true)
  have := lay_len (fp_lay k false)
  omega
theorem fp_mem {r c : Nat} (k : P_free_pictures r c) : ∀ p ∈ F_free_pictures r c, Sides r c p := fun p hp => by
  obtain ⟨t, _, rfl⟩ := List.mem_map.mp hp
  obtain ⟨a, b, c⟩ := byl_pic k.1 (by have := k.2.2.1; omega) k.2.1 (by have := k.2.2.2.1; omega) t
  exact ⟨a, b, c⟩
theorem fp_ne {r c : Nat} (k : P_free_pictures r c) : F_free_pictures r c ≠ [] := by
  have key : ∀ r < 5, ∀ c < 5, 1 ≤ r → 1 ≤ c → bothF r c ≠ [] := by decide +kernel
  obtain ⟨a, b, d, e, _⟩ := k
  intro h
  exact key r (by omega) c (by omega) a b (List.map_eq_nil_iff.mp h)
theorem ok_free_pictures {r c : Nat} (k : P_free_pictures r c) : V_free_pictures r c (· = F_free_pictures r c) := by
  have kk := k
  obtain ⟨a, b, d, e, f⟩ := kk
  refine ⟨by omega, ⟨by omega, by omega⟩, fun lines el others eo => ?_⟩
  rw [Nat.add_sub_cancel_left] at eo
  subst el eo
  have l1 := lay_len (fp_lay k true)
  have l2 := lay_len (fp_lay k false)
  refine ⟨fp_lay k true, fp_lay k false, by omega, fun both eb => ?_⟩
  subst eb
  refine ⟨by rw [List.length_append]; omega, fun t ht => ?_, rfl⟩
  have mem : ∀ l, l < r + c → l ∈ List.range r ∨ l ∈ List.range' r c := fun l hl => by
    by_cases z : l < r
    · exact .inl (List.mem_range.mpr z)
    · exact .inr (List.mem_range'_1.mpr ⟨by omega, hl⟩)
  refine ⟨⟨by omega, by omega⟩, ?_⟩
  rcases List.mem_append.mp ht with h | h
  · obtain ⟨x, y⟩ := lay_one (fp_lay k true) t h
    exact ⟨fun l hl => x l (mem l hl), by omega⟩
  · obtain ⟨x, y⟩ := lay_one (fp_lay k false) t h
    exact ⟨fun l hl => x l (mem l hl), by omega⟩
theorem t_free_pictures {rows : Nat} {columns : Nat} (hP : P_free_pictures rows columns) (tp : List D) : m_free_pictures [eN rows, eN columns] tp = .ok ((eL (eT eR)) (F_free_pictures rows columns)) tp := by
  obtain ⟨r, rfl, e⟩ := snd_free_pictures rows columns (ok_free_pictures hP) tp
  exact e
end W
set_option maxHeartbeats 1000000
namespace W
open PySem L2 G T
def V_best_free (worths : (List (List Int))) (Q : (Int × (List Row)) → Prop) : Prop := (P_need_small_table worths) ∧ (0 < worths.length) ∧ (P_free_pictures worths.length ((worths[0]!).length)) ∧ ((F_free_pictures worths.length ((worths[0]!).length)).length ≤ 1000000) ∧ (∀ x4, x4 ∈ (F_free_pictures worths.length ((worths[0]!).length)) → (P_worth_of x4 worths)) ∧ (((F_free_pictures worths.length ((worths[0]!).length)).map fun x4 => ((F_worth_of x4 worths), x4)) ≠ []) ∧ Q (maxBy (eP eZ (eT eR)) ((F_free_pictures worths.length ((worths[0]!).length)).map fun x4 => ((F_worth_of x4 worths), x4)))
theorem snd_best_free (worths : (List (List Int))) {Q : (Int × (List Row)) → Prop} (h : V_best_free worths Q) (tp : List D) : ∃ r : (Int × (List Row)), Q r ∧ m_best_free [(eT (eT eZ)) worths] tp = .ok ((eP eZ (eT eR)) r) tp := by
  obtain ⟨d, t, e1, rfl, r, rfl, q⟩ := T.wp_def (n := 2) (s := b_best_free) (ds := [(eT (eT eZ)) worths]) (tp := tp) (Q := fun d t => t = tp ∧ ∃ r : (Int × (List Row)), d = (eP eZ (eT eR)) r ∧ Q r) (by
    unfold V_best_free at h
    change WP _ _ _ _ (b_best_free [some ((eT (eT eZ)) worths), none] _)
    unfold b_best_free
    obtain ⟨c1, h⟩ := h
    refine T.wp_seq (T.wp_drop (T.ev_call (T.ev_cons (T.ev_v rfl) T.ev_nil) rfl (t_need_small_table c1 _)) ?_)
    change WP _ _ _ _ (At _ [some ((eT (eT eZ)) worths), none] _)
    obtain ⟨c2, h⟩ := h
    obtain ⟨c3, h⟩ := h
    obtain ⟨c5, h⟩ := h
    obtain ⟨c7, h⟩ := h
    obtain ⟨c8, h⟩ := h
    exact T.wp_ret (T.ev_maxDat (e := (eP eZ (eT eR))) (xs := ((F_free_pictures worths.length ((worths[0]!).length)).map fun x4 => ((F_worth_of x4 worths), x4))) min_ZP c8 (T.ev_compY (e := (eT eR)) (e1 := (eP eZ (eT eR))) (xs := (F_free_pictures worths.length ((worths[0]!).length))) (ds := fun x4 => [(eT eR) x4]) (g := fun x4 => ((F_worth_of x4 worths), x4)) (T.it_L (e := (eT eR)) (xs := (F_free_pictures worths.length ((worths[0]!).length))) (T.ev_call (T.ev_cons (T.ev_lenT (e := (eT eZ)) (xs := worths) (T.ev_v rfl)) (T.ev_cons (T.ev_lenT (e := eZ) (xs := worths[0]!) (T.ev_ixT (e := (eT eZ)) (xs := worths) (i := 0) c2 (T.ev_v rfl) (T.ev_cN 0))) T.ev_nil)) rfl (t_free_pictures c3 _))) c5 (fun _ => rfl) (fun x4 hx => have c6 := c7 x4 hx; (T.ev_tup (ds := [eZ (F_worth_of x4 worths), (eT eR) x4]) (T.ev_cons (T.ev_call (T.ev_cons (T.ev_v rfl) (T.ev_cons (T.ev_v rfl) T.ev_nil)) rfl (t_worth_of c6 _)) (T.ev_cons (T.ev_v rfl) T.ev_nil)) rfl)))) ⟨rfl, (maxBy (eP eZ (eT eR)) ((F_free_pictures worths.length ((worths[0]!).length)).map fun x4 => ((F_worth_of x4 worths), x4))), rfl, h⟩)
  exact ⟨r, q, e1⟩
abbrev P_best_free (W : List (List Int)) : Prop := TabP W ∧ P_free_pictures W.length W[0]!.length
def pairsW (W : List (List Int)) : List (Int × Pic) := (F_free_pictures W.length W[0]!.length).map fun p => (F_worth_of p W, p)
def F_best_free (W : List (List Int)) : Int × Pic := maxBy (eP eZ (eT eR)) (pairsW W)
theorem bf_worth {W : List (List Int)} (k : P_best_free W) : ∀ p ∈ F_free_pictures W.length W[0]!.length, P_worth_of p W := fun p hp => by
  obtain ⟨a, b, c⟩ := fp_mem k.2 p hp
  exact ⟨a, k.1, b.symm, c.symm⟩
theorem bf_small {W : List (List Int)} (k : P_best_free W) : P_need_small_table W := ⟨k.1, by have := k.2.2.2.2.2; omega⟩
theorem pairs_ne {W : List (List Int)} (k : P_best_free W) : pairsW W ≠ [] := fun e => fp_ne k.2 (List.map_eq_nil_iff.mp e)
theorem ok_best_free {W : List (List Int)} (k : P_best_free W) : V_best_free W (· = F_best_free W) := by
  have := fp_len k.2
  exact ⟨bf_small k, k.1.h1, k.2, by omega, bf_worth k, pairs_ne k, rfl⟩
theorem t_best_free {worths : (List (List Int))} (hP : P_best_free worths) (tp : List D) : m_best_free [(eT (eT eZ)) worths] tp = .ok ((eP eZ (eT eR)) (F_best_free worths)) tp := by
  obtain ⟨r, rfl, e⟩ := snd_best_free worths (ok_best_free hP) tp
  exact e
end W
set_option maxHeartbeats 1000000
namespace W
open PySem L2 G T
def V_free_worth_sum (worths : (List (List Int))) (Q : Int → Prop) : Prop := (P_need_small_table worths) ∧ (0 < worths.length) ∧ (P_free_pictures worths.length ((worths[0]!).length)) ∧ ((F_free_pictures worths.length ((worths[0]!).length)).length ≤ 1000000) ∧ (∀ x4, x4 ∈ (F_free_pictures worths.length ((worths[0]!).length)) → (P_worth_of x4 worths)) ∧ Q (((F_free_pictures worths.length ((worths[0]!).length)).map fun x4 => (F_worth_of x4 worths)).sum)
theorem snd_free_worth_sum (worths : (List (List Int))) {Q : Int → Prop} (h : V_free_worth_sum worths Q) (tp : List D) : ∃ r : Int, Q r ∧ m_free_worth_sum [(eT (eT eZ)) worths] tp = .ok (eZ r) tp := by
  obtain ⟨d, t, e1, rfl, r, rfl, q⟩ := T.wp_def (n := 2) (s := b_free_worth_sum) (ds := [(eT (eT eZ)) worths]) (tp := tp) (Q := fun d t => t = tp ∧ ∃ r : Int, d = eZ r ∧ Q r) (by
    unfold V_free_worth_sum at h
    change WP _ _ _ _ (b_free_worth_sum [some ((eT (eT eZ)) worths), none] _)
    unfold b_free_worth_sum
    obtain ⟨c1, h⟩ := h
    refine T.wp_seq (T.wp_drop (T.ev_call (T.ev_cons (T.ev_v rfl) T.ev_nil) rfl (t_need_small_table c1 _)) ?_)
    change WP _ _ _ _ (At _ [some ((eT (eT eZ)) worths), none] _)
    obtain ⟨c2, h⟩ := h
    obtain ⟨c3, h⟩ := h
    obtain ⟨c5, h⟩ := h
    obtain ⟨c7, h⟩ := h
    exact T.wp_ret (T.ev_sumZ (xs := ((F_free_pictures worths.length ((worths[0]!).length)).map fun x4 => (F_worth_of x4 worths))) (T.ev_compY (e := (eT eR)) (e1 := eZ) (xs := (F_free_pictures worths.length ((worths[0]!).length))) (ds := fun x4 => [(eT eR) x4]) (g := fun x4 => (F_worth_of x4 worths)) (T.it_L (e := (eT eR)) (xs := (F_free_pictures worths.length ((worths[0]!).length))) (T.ev_call (T.ev_cons (T.ev_lenT (e := (eT eZ)) (xs := worths) (T.ev_v rfl)) (T.ev_cons (T.ev_lenT (e := eZ) (xs := worths[0]!) (T.ev_ixT (e := (eT eZ)) (xs := worths) (i := 0) c2 (T.ev_v rfl) (T.ev_cN 0))) T.ev_nil)) rfl (t_free_pictures c3 _))) c5 (fun _ => rfl) (fun x4 hx => have c6 := c7 x4 hx; (T.ev_call (T.ev_cons (T.ev_v rfl) (T.ev_cons (T.ev_v rfl) T.ev_nil)) rfl (t_worth_of c6 _))))) ⟨rfl, ((F_free_pictures worths.length ((worths[0]!).length)).map fun x4 => (F_worth_of x4 worths)).sum, rfl, h⟩)
  exact ⟨r, q, e1⟩
abbrev P_free_worth_sum (W : List (List Int)) : Prop := P_best_free W
def F_free_worth_sum (W : List (List Int)) : Int := ((F_free_pictures W.length W[0]!.length).map fun p => F_worth_of p W).sum
theorem ok_free_worth_sum {W : List (List Int)} (k : P_free_worth_sum W) : V_free_worth_sum W (· = F_free_worth_sum W) := by
  have := fp_len k.2
  exact ⟨bf_small k, k.1.h1, k.2, by omega, bf_worth k, rfl⟩
theorem t_free_worth_sum {worths : (List (List Int))} (hP : P_free_worth_sum worths) (tp : List D) : m_free_worth_sum [(eT (eT eZ)) worths] tp = .ok (eZ (F_free_worth_sum worths)) tp := by
  obtain ⟨r, rfl, e⟩ := snd_free_worth_sum worths (ok_free_worth_sum hP) tp
  exact e
end W
set_option maxHeartbeats 1000000
namespace W
open PySem L2 G T
def V_best_numbers (worths : (List (List Int))) (Q : Nat → Prop) : Prop := (P_need_small_table worths) ∧ (0 < worths.length) ∧ (P_free_pictures worths.length ((worths[0]!).length)) ∧ ((F_free_pictures worths.length ((worths[0]!).length)).length ≤ 1000000) ∧ (∀ x4, x4 ∈ (F_free_pictures worths.length ((worths[0]!).length)) → (P_worth_of x4 worths)) ∧ ∀ told : (List Int), told = ((F_free_pictures worths.length ((worths[0]!).length)).map fun x4 => (F_worth_of x4 worths)) → (told.length ≤ 1000000) ∧ (∀ x9, x9 ∈ told → (told ≠ [])) ∧ Q (((told.filter fun x9 => decide (x9 = (told.max?.getD 0))).map fun x9 => 1).length)
theorem snd_best_numbers (worths : (List (List Int))) {Q : Nat → Prop} (h : V_best_numbers worths Q) (tp : List D) : ∃ r : Nat, Q r ∧ m_best_numbers [(eT (eT eZ)) worths] tp = .ok (eN r) tp := by
  obtain ⟨d, t, e1, rfl, r, rfl, q⟩ := T.wp_def (n := 4) (s := b_best_numbers) (ds := [(eT (eT eZ)) worths]) (tp := tp) (Q := fun d t => t = tp ∧ ∃ r : Nat, d = eN r ∧ Q r) (by
    unfold V_best_numbers at h
    change WP _ _ _ _ (b_best_numbers [some ((eT (eT eZ)) worths), none, none, none] _)
    unfold b_best_numbers
    obtain ⟨c1, h⟩ := h
    refine T.wp_seq (T.wp_drop (T.ev_call (T.ev_cons (T.ev_v rfl) T.ev_nil) rfl (t_need_small_table c1 _)) ?_)
    change WP _ _ _ _ (At _ [some ((eT (eT eZ)) worths), none, none, none] _)
    obtain ⟨c2, h⟩ := h
    obtain ⟨c3, h⟩ := h
    obtain ⟨c5, h⟩ := h
    obtain ⟨c7, h⟩ := h
    obtain ⟨told, d8⟩ : ∃ told : (List Int), told = ((F_free_pictures worths.length ((worths[0]!).length)).map fun x4 => (F_worth_of x4 worths)) := ⟨_, rfl⟩
    replace h := h told d8
    refine T.wp_seq (T.wp_set (T.ev_as d8 (e := (eL eZ)) (T.ev_compY (e := (eT eR)) (e1 := eZ) (xs := (F_free_pictures worths.length ((worths[0]!).length))) (ds := fun x4 => [(eT eR) x4]) (g := fun x4 => (F_worth_of x4 worths)) (T.it_L (e := (eT eR)) (xs := (F_free_pictures worths.length ((worths[0]!).length))) (T.ev_call (T.ev_cons (T.ev_lenT (e := (eT eZ)) (xs := worths) (T.ev_v rfl)) (T.ev_cons (T.ev_lenT (e := eZ) (xs := worths[0]!) (T.ev_ixT (e := (eT eZ)) (xs := worths) (i := 0) c2 (T.ev_v rfl) (T.ev_cN 0))) T.ev_nil)) rfl (t_free_pictures c3 _))) c5 (fun _ => rfl) (fun x4 hx => have c6 := c7 x4 hx; (T.ev_call (T.ev_cons (T.ev_v rfl) (T.ev_cons (T.ev_v rfl) T.ev_nil)) rfl (t_worth_of c6 _))))) ?_)
    change WP _ _ _ _ (At _ [some ((eT (eT eZ)) worths), some ((eL eZ) told), none, none] _)
    obtain ⟨c10, h⟩ := h
    obtain ⟨c12, h⟩ := h
    exact T.wp_ret (T.ev_lenL (e := eN) (xs := ((told.filter fun x9 => decide (x9 = (told.max?.getD 0))).map fun x9 => 1)) (T.ev_comp (e := eZ) (e1 := eN) (xs := told) (ds := fun x9 => [eZ x9]) (g := fun x9 => 1) (P := fun x9 => (x9 = (told.max?.getD 0))) (T.it_L (e := eZ) (xs := told) (T.ev_v rfl)) c10 (fun _ => rfl) (fun x9 hx => have c11 := c12 x9 hx; (T.ev_bool (T.ev_eq (x := x9) (y := (told.max?.getD 0)) qZ rfl (T.ev_v rfl) (T.ev_maxLZ (xs := told) c11 (T.ev_v rfl))))) (fun x9 hx hq => (T.ev_cN 1)))) ⟨rfl, ((told.filter fun x9 => decide (x9 = (told.max?.getD 0))).map fun x9 => 1).length, rfl, h⟩)
  exact ⟨r, q, e1⟩
abbrev P_best_numbers (W : List (List Int)) : Prop := P_best_free W
def toldN (W : List (List Int)) : List Int := (F_free_pictures W.length W[0]!.length).map fun p => F_worth_of p W
def F_best_numbers (W : List (List Int)) : Nat := (((toldN W).filter fun x => decide (x = ((toldN W).max?.getD 0))).map fun _ => 1).length
theorem ok_best_numbers {W : List (List Int)} (k : P_best_numbers W) : V_best_numbers W (· = F_best_numbers W) := by
  have := fp_len k.2
  refine ⟨bf_small k, k.1.h1, k.2, by omega, bf_worth k, fun told et => ?_⟩
  subst et
  exact ⟨by rw [List.length_map]; omega, fun x hx => List.ne_nil_of_mem hx, rfl⟩
theorem t_best_numbers {worths : (List (List Int))} (hP : P_best_numbers worths) (tp : List D) : m_best_numbers [(eT (eT eZ)) worths] tp = .ok (eN (F_best_numbers worths)) tp := by
  obtain ⟨r, rfl, e⟩ := snd_best_numbers worths (ok_best_numbers hP) tp
  exact e
end W
set_option maxHeartbeats 1000000
namespace W
open PySem L2 G T
def V_shows_best_free (worths : (List (List Int))) (value : (List Row)) (Q : Bool → Prop) : Prop := (P_best_free worths) ∧ ∀ best : Int, best = (F_best_free worths).1 → (P_is_picture value) ∧ (¬(¬((F_is_picture value) = true)) → (¬(value.length ≠ worths.length) → (0 < value.length) ∧ ((value[0]!).length ≤ 1000000) ∧ (0 < worths.length))) ∧ ((((¬((F_is_picture value) = true)) ∨ ((value.length ≠ worths.length) ∨ ((value[0]!).length ≠ (worths[0]!).length))) → Q false) ∧ (¬((¬((F_is_picture value) = true)) ∨ ((value.length ≠ worths.length) ∨ ((value[0]!).length ≠ (worths[0]!).length))) → (P_is_free_of value) ∧ (((F_is_free_of value) = true) → (P_worth_of value worths)) ∧ Q (decide (((F_is_free_of value) = true) ∧ ((F_worth_of value worths) = best)))))
theorem snd_shows_best_free (worths : (List (List Int))) (value : (List Row)) {Q : Bool → Prop} (h : V_shows_best_free worths value Q) (tp : List D) : ∃ r : Bool, Q r ∧ m_shows_best_free [(eT (eT eZ)) worths, (eT eR) value] tp = .ok (eB r) tp := by
  obtain ⟨d, t, e1, rfl, r, rfl, q⟩ := T.wp_def (n := 3) (s := b_shows_best_free) (ds := [(eT (eT eZ)) worths, (eT eR) value]) (tp := tp) (Q := fun d t => t = tp ∧ ∃ r : Bool, d = eB r ∧ Q r) (by
    unfold V_shows_best_free at h
    change WP _ _ _ _ (b_shows_best_free [some ((eT (eT eZ)) worths), some ((eT eR) value), none] _)
    unfold b_shows_best_free
    obtain ⟨c1, h⟩ := h
    obtain ⟨best, d2⟩ : ∃ best : Int, best = (F_best_free worths).1 := ⟨_, rfl⟩
    replace h := h best d2
    refine T.wp_seq (T.wp_set (T.ev_as d2 (e := eZ) (T.ev_fst (x := (F_best_free worths)) (T.ev_call (T.ev_cons (T.ev_v rfl) T.ev_nil) rfl (t_best_free c1 _)) rfl)) ?_)
    change WP _ _ _ _ (At _ [some ((eT (eT eZ)) worths), some ((eT eR) value), some (eZ best)] _)
    obtain ⟨c3, h⟩ := h
    obtain ⟨c8, h⟩ := h
    refine T.wp_seq (T.wp_if (P := ((¬((F_is_picture value) = true)) ∨ ((value.length ≠ worths.length) ∨ ((value[0]!).length ≠ (worths[0]!).length)))) (T.ev_orT (P := (¬((F_is_picture value) = true))) (Q := ((value.length ≠ worths.length) ∨ ((value[0]!).length ≠ (worths[0]!).length))) (T.ev_notT (P := ((F_is_picture value) = true)) (T.ev_dec (F_is_picture value) (T.ev_call (T.ev_cons (T.ev_v rfl) T.ev_nil) rfl (t_is_picture c3 _)))) (fun hp => have c7 := c8 hp; (T.ev_orT (P := (value.length ≠ worths.length)) (Q := ((value[0]!).length ≠ (worths[0]!).length)) (T.ev_bool (T.ev_ne (x := value.length) (y := worths.length) qN rfl (T.ev_lenT (e := eR) (xs := value) (T.ev_v rfl)) (T.ev_lenT (e := (eT eZ)) (xs := worths) (T.ev_v rfl)))) (fun hp => match c7 hp with | ⟨c4, c5, c6⟩ => (T.ev_bool (T.ev_ne (x := (value[0]!).length) (y := (worths[0]!).length) qN rfl (T.ev_lenR (r := value[0]!) c5 (T.ev_ixT (e := eR) (xs := value) (i := 0) c4 (T.ev_v rfl) (T.ev_cN 0))) (T.ev_lenT (e := eZ) (xs := worths[0]!) (T.ev_ixT (e := (eT eZ)) (xs := worths) (i := 0) c6 (T.ev_v rfl) (T.ev_cN 0))))))))) (fun hp => ?_) (fun hn => ?_))
    · replace h := h.1 hp
      exact T.wp_ret (T.ev_c rfl) ⟨rfl, false, rfl, h⟩
    · replace h := h.2 hn
      refine T.wp_skip ?_
      change WP _ _ _ _ (At _ [some ((eT (eT eZ)) worths), some ((eT eR) value), some (eZ best)] _)
      obtain ⟨c9, h⟩ := h
      obtain ⟨c11, h⟩ := h
      exact T.wp_ret (T.ev_andE (P := ((F_is_free_of value) = true)) (Q := ((F_worth_of value worths) = best)) (T.ev_decB (F_is_free_of value) (T.ev_call (T.ev_cons (T.ev_v rfl) T.ev_nil) rfl (t_is_free_of c9 _))) (fun hp => have c10 := c11 hp; (T.ev_eq (x := (F_worth_of value worths)) (y := best) qZ rfl (T.ev_call (T.ev_cons (T.ev_v rfl) (T.ev_cons (T.ev_v rfl) T.ev_nil)) rfl (t_worth_of c10 _)) (T.ev_v rfl)))) ⟨rfl, (decide (((F_is_free_of value) = true) ∧ ((F_worth_of value worths) = best))), rfl, h⟩)
  exact ⟨r, q, e1⟩
abbrev P_shows_best_free (W : List (List Int)) (p : Pic) : Prop := P_best_free W ∧ PicP p
def F_shows_best_free (W : List (List Int)) (p : Pic) : Bool := decide (p.length = W.length ∧ p[0]!.length = W[0]!.length ∧ coreQ p = [] ∧ F_worth_of p W = (F_best_free W).1)
theorem ok_shows_best_free {W : List (List Int)} {p : Pic} (k : P_shows_best_free W p) : V_shows_best_free W p (· = F_shows_best_free W p) := by
  obtain ⟨kb, kp⟩ := k
  have h1 := kp.h1
  have w30 := kp.w30
  have ip : F_is_picture p = true := rfl
  refine ⟨kb, fun best eb => ⟨kp, fun _ _ => ⟨by omega, by omega, kb.1.h1⟩, fun h => ?_, fun h => ?_⟩⟩
  · refine (decide_eq_false fun z => ?_).symm
    rcases h with h | h | h
    · exact h ip
    · exact h z.1
    · exact h z.2.1
  · have e1 : p.length = W.length := Classical.byContradiction fun z => h (.inr (.inl z))
    have e2 : p[0]!.length = W[0]!.length := Classical.byContradiction fun z => h (.inr (.inr z))
    refine ⟨kp, fun _ => ⟨kp, kb.1, e1.symm, e2.symm⟩, ?_⟩
    subst eb
    show decide (decide (coreQ p = []) = true ∧ _) = decide _
    refine decide_eq_decide.mpr ⟨fun z => ⟨e1, e2, of_decide_eq_true z.1, z.2⟩, fun z => ⟨decide_eq_true z.2.2.1, z.2.2.2⟩⟩
theorem t_shows_best_free {worths : (List (List Int))} {value : (List Row)} (hP : P_shows_best_free worths value) (tp : List D) : m_shows_best_free [(eT (eT eZ)) worths, (eT eR) value] tp = .ok (eB (F_shows_best_free worths value)) tp := by
  obtain ⟨r, rfl, e⟩ := snd_shows_best_free worths value (ok_shows_best_free hP) tp
  exact e
abbrev P_sbfV (W : List (List Int)) (x : D) : Prop := P_best_free W ∧ ((∃ p : Pic, x = (eT eR) p ∧ PicP p) ∨ BadPic x)
open Classical in
noncomputable def F_sbfV (W : List (List Int)) (x : D) : Bool := decide (∃ p : Pic, x = (eT eR) p ∧ PicP p ∧ F_shows_best_free W p = true)
theorem sbfV_iff {W : List (List Int)} {x : D} : F_sbfV W x = true ↔ ∃ p : Pic, x = (eT eR) p ∧ PicP p ∧ F_shows_best_free W p = true := by
  classical
  unfold F_sbfV
  exact decide_eq_true_iff
theorem r_shows_best_free {W : List (List Int)} {x : D} (k : P_sbfV W x) (tp : List D) : m_shows_best_free [(eT (eT eZ)) W, x] tp = .ok (eB (F_sbfV W x)) tp := by
  obtain ⟨kb, ⟨p, rfl, kp⟩ | bad⟩ := k
  · have h := t_shows_best_free (worths := W) (value := p) ⟨kb, kp⟩ tp
    rw [h]
    congr 2
    refine Bool.eq_iff_iff.mpr ⟨fun z => sbfV_iff.mpr ⟨p, rfl, kp, z⟩, fun z => ?_⟩
    obtain ⟨q, e, _, f⟩ := sbfV_iff.mp z
    have := eTR_inj e
    subst this
    exact f
  · have e : F_sbfV W x = false := by
      refine Bool.eq_false_iff.mpr fun z => ?_
      obtain ⟨q, rfl, kq, _⟩ := sbfV_iff.mp z
      have h := r_is_picture bad.k tp
      have h2 := t_is_picture (value := q) kq tp
      rw [h2, bad.b] at h
      cases h
    rw [e]
    have hb : b_shows_best_free [some ((eT (eT eZ)) W), some x, none] tp = .rt (eB false) tp := by
      unfold b_shows_best_free
      refine T.xs_nx (T.xs_set (T.ev_fst (x := F_best_free W) (T.ev_call (T.ev_cons (T.ev_v rfl) T.ev_nil) rfl (t_best_free kb _)) rfl)) ?_
      have h2 := r_is_picture bad.k tp
      rw [bad.b] at h2
      exact T.xs_rt (T.xs_if (T.c_orL (T.c_notF (T.ev_bool (T.ev_call (T.ev_cons (T.ev_v rfl) T.ev_nil) rfl h2)))) (T.xs_ret rfl))
    show retR (b_shows_best_free [some ((eT (eT eZ)) W), some x, none] tp) = _
    rw [hb]; rfl
end W
set_option maxHeartbeats 1000000
namespace W
open PySem L2 G T
def V_law : Prop := ([(1, 1), (1, 4), (2, 2), (2, 3), (3, 2), (2, 4), (4, 1), (3, 1)] ≠ [] ∧ [(1, 1), (1, 4), (2, 2), (2, 3), (3, 2), (2, 4), (4, 1), (3, 1)].length ≤ 1073741824) ∧ ∀ drawn : (Nat × Nat), (drawn ∈ [(1, 1), (1, 4), (2, 2), (2, 3), (3, 2), (2, 4), (4, 1), (3, 1)]) → (drawn.1 ≤ 1073741824) ∧ ∃ I8 : Nat → (List (List Int)) → Prop, I8 0 [] ∧ (∀ (i12 : Nat) (x13 : Nat), (List.range drawn.1)[i12]? = some x13 → ∀ table : (List (List Int)), I8 i12 table → (drawn.2 ≤ 1073741824) ∧ (cPow ((10 : Nat) : Int) ((6 : Nat) : Int) = true) ∧ ((List.range drawn.2).length ≤ 1000000 ∧ ([(-(9 : Int)), (-(3 : Int)), (-(1 : Int)), (0 : Int), (1 : Int), (2 : Int), (5 : Int), (((10 ^ 6) : Nat) : Int)] ≠ [] ∧ [(-(9 : Int)), (-(3 : Int)), (-(1 : Int)), (0 : Int), (1 : Int), (2 : Int), (5 : Int), (((10 ^ 6) : Nat) : Int)].length ≤ 1073741824)) ∧ ∀ drawn_1 : (List Int), (drawn_1.length = (List.range drawn.2).length ∧ ∀ y ∈ drawn_1, y ∈ [(-(9 : Int)), (-(3 : Int)), (-(1 : Int)), (0 : Int), (1 : Int), (2 : Int), (5 : Int), (((10 ^ 6) : Nat) : Int)]) → (table.length < 1000000) ∧ ∀ table_1 : (List (List Int)), table_1 = (table ++ [drawn_1]) → I8 (i12 + 1) table_1) ∧ (∀ table : (List (List Int)), I8 (List.range drawn.1).length table → (P_law_all drawn.1 drawn.2) ∧ ∃ I29 : Nat → (List ((List Row) × Int)) → Prop, I29 0 [] ∧ (∀ (i33 : Nat) (x34 : (List Row)), (F_law_all drawn.1 drawn.2)[i33]? = some x34 → ∀ free : (List ((List Row) × Int)), I29 i33 free → (P_law_core x34) ∧ (((F_law_core x34) = []) → (drawn.1 ≤ 1073741824) ∧ ((List.range drawn.1).length ≤ 1000000) ∧ (∀ x39, x39 ∈ (List.range drawn.1) → (drawn.2 ≤ 1073741824) ∧ ((List.range drawn.2).length ≤ 1000000) ∧ (∀ x42, x42 ∈ (List.range drawn.2) → (x39 < x34.length) ∧ ((x34[x39]!).length ≤ 1000000 ∧ x42 < (x34[x39]!).length)) ∧ (∀ x42, x42 ∈ (List.range drawn.2) → ((x34[x39]!)[x42]! = true) → (x39 < table.length) ∧ (x42 < (table[x39]!).length))) ∧ (free.length < 1000000)) ∧ ∀ free_1 : (List ((List Row) × Int)), free_1 = (if ((F_law_core x34) = []) then (gput free x34 (((List.range drawn.1).map fun x39 => (((List.range drawn.2).filter fun x42 => decide ((x34[x39]!)[x42]! = true)).map fun x42 => (table[x39]!)[x42]!).sum).sum)) else free) → I29 (i33 + 1) free_1) ∧ (∀ free : (List ((List Row) × Int)), I29 (F_law_all drawn.1 drawn.2).length free → (P_best_free table) ∧ ∀ best : (Int × (List Row)), best = (F_best_free table) → (free ≠ []) ∧ (best.1 = ((free.map (·.2)).max?.getD 0) ∧ Alk 5 (eZ best.1)) ∧ (¬(best.2 ∉ gkeys free) → (best.2 ∈ gkeys free)) ∧ ((best.2 ∈ gkeys free) ∧ (((gget free best.2).getD default) = best.1)) ∧ (P_best_numbers table) ∧ ((gkeys free).length ≤ 1000000) ∧ (∀ x63, x63 ∈ (gkeys free) → (x63 ∈ gkeys free)) ∧ ((F_best_numbers table) = (((gkeys free).filter fun x63 => decide (((gget free x63).getD default) = best.1)).map fun x63 => 1).length ∧ Alk 5 (eN (F_best_numbers table))) ∧ (P_free_worth_sum table) ∧ ((F_free_worth_sum table) = (free.map (·.2)).sum ∧ Alk 5 (eZ (F_free_worth_sum table))) ∧ (P_law_any drawn.1 drawn.2) ∧ ∀ any : (List Row), (D_law_any drawn.1 drawn.2 any) → (drawn.1 ≤ 1073741824) ∧ ((List.range drawn.1).length ≤ 1000000) ∧ (∀ x76, x76 ∈ (List.range drawn.1) → (drawn.2 ≤ 1073741824) ∧ ((List.range drawn.2).length ≤ 1000000) ∧ (∀ x79, x79 ∈ (List.range drawn.2) → (x76 < any.length) ∧ ((any[x76]!).length ≤ 1000000 ∧ x79 < (any[x76]!).length)) ∧ (∀ x79, x79 ∈ (List.range drawn.2) → ((any[x76]!)[x79]! = true) → (x76 < table.length) ∧ (x79 < (table[x76]!).length))) ∧ ∀ here : Int, here = ((List.range drawn.1).map fun x76 => (((List.range drawn.2).filter fun x79 => decide ((any[x76]!)[x79]! = true)).map fun x79 => (table[x76]!)[x79]!).sum).sum → (P_worth any table) ∧ ((F_worth any table) = here ∧ Alk 5 (eZ (F_worth any table))) ∧ ((drawn.1 + drawn.2) ≤ 1073741824) ∧ ∃ I95 : Nat → (List (Int × Nat)) → Prop, I95 0 [] ∧ (∀ (i99 : Nat) (x100 : Nat), (List.range (drawn.1 + drawn.2))[i99]? = some x100 → ∀ told : (List (Int × Nat)), I95 i99 told → (P_law_paint any x100) ∧ ∀ there : (List Row), there = (F_law_paint any x100) → (drawn.1 ≤ 1073741824) ∧ ((List.range drawn.1).length ≤ 1000000) ∧ (∀ x106, x106 ∈ (List.range drawn.1) → (drawn.2 ≤ 1073741824) ∧ ((List.range drawn.2).length ≤ 1000000) ∧ (∀ x109, x109 ∈ (List.range drawn.2) → (x106 < there.length) ∧ ((there[x106]!).length ≤ 1000000 ∧ x109 < (there[x106]!).length)) ∧ (∀ x109, x109 ∈ (List.range drawn.2) → ((there[x106]!)[x109]! = true) → (x106 < table.length) ∧ (x109 < (table[x106]!).length))) ∧ ∀ sums : (List Int), sums = ((List.range drawn.1).map fun x106 => (((List.range drawn.2).filter fun x109 => decide ((there[x106]!)[x109]! = true)).map fun x109 => (table[x106]!)[x109]!).sum) → (told.length < 1000000) ∧ ∀ told_1 : (List (Int × Nat)), told_1 = (told ++ [(((0 : Int) - sums.sum), x100)]) → I95 (i99 + 1) told_1) ∧ (∀ told : (List (Int × Nat)), I95 (List.range (drawn.1 + drawn.2)).length told → (P_best_last any table) ∧ (told ≠ []) ∧ ((F_best_last any table) = (((0 : Int) - (minBy (eP eZ eN) told).1), (minBy (eP eZ eN) told).2) ∧ Alk 5 ((eP eZ eN) (F_best_last any table))) ∧ (best.2.length + (best.2.take 1).length ≤ 1000000) ∧ (1 ≤ drawn.1 ∧ drawn.1 ≤ 1000) ∧ ∃ I130 : Nat → Prop, I130 0 ∧ (∀ (i134 : Nat) (x135 : D), ([((eT eR) best.2), ((eT eR) any), ((eL eR) best.2), D.non, ((eT eR) (best.2 ++ (best.2.take 1))), (eN 5), (eT eV []), ((eT eG) (List.replicate drawn.1 true))])[i134]? = some x135 → I130 i134 → (kn x135 = true) ∧ ((isTu x135 = true) → (x135 = (eT eR) (asP x135)) ∧ (((asP x135) ∈ gkeys free) → (x135 = (eT eR) (asP x135)) ∧ ((asP x135) ∈ gkeys free))) ∧ ∀ fits : Bool, fits = (decide ((isTu x135 = true) ∧ (((asP x135) ∈ gkeys free) ∧ (((gget free (asP x135)).getD default) = best.1)))) → (P_sbfV table x135) ∧ ((F_sbfV table x135) = fits ∧ Alk 5 (eB (F_sbfV table x135))) ∧ I130 (i134 + 1)) ∧ (I130 ([((eT eR) best.2), ((eT eR) any), ((eL eR) best.2), D.non, ((eT eR) (best.2 ++ (best.2.take 1))), (eN 5), (eT eV []), ((eT eG) (List.replicate drawn.1 true))]).length → (true = true)))))
theorem snd_law (h : V_law) (ns : List Int) (hns : ns.length ≤ 63) : ∃ tp', retR (b_law (some (.scr ns) :: some .tape :: List.replicate 16 none) [.scr ns, .int 0, .int 5334, .int 0]) = .ok (.bl true) tp' := by
  have ht := tape0 ns 5334 hns (by decide) (by decide)
  generalize [D.scr ns, D.int 0, D.int 5334, D.int 0] = tp at ht ⊢
  refine T.wp_law ?_
  unfold V_law at h
  change WP _ _ _ _ (b_law [some (.scr ns), some (.tape), none, none, none, none, none, none, none, none, none, none, none, none, none, none, none, none] _)
  unfold b_law
  obtain ⟨c1, h⟩ := h
  obtain ⟨drawn, t2, e3, k4, p5⟩ := t_law_pickL (xs := [(1, 1), (1, 4), (2, 2), (2, 3), (3, 2), (2, 4), (4, 1), (3, 1)]) (e := (eP eN eN)) ht c1
  replace h := h drawn p5
  refine T.wp_seq (T.wp_unp (ds := [eN drawn.1, eN drawn.2]) (T.ev_call (T.ev_cons (T.ev_v rfl) (T.ev_cons (T.ev_lst (ds := [(eP eN eN) (1, 1), (eP eN eN) (1, 4), (eP eN eN) (2, 2), (eP eN eN) (2, 3), (eP eN eN) (3, 2), (eP eN eN) (2, 4), (eP eN eN) (4, 1), (eP eN eN) (3, 1)]) (T.ev_cons (T.ev_tup (ds := [eN 1, eN 1]) (T.ev_cons (T.ev_cN 1) (T.ev_cons (T.ev_cN 1) T.ev_nil)) rfl) (T.ev_cons (T.ev_tup (ds := [eN 1, eN 4]) (T.ev_cons (T.ev_cN 1) (T.ev_cons (T.ev_cN 4) T.ev_nil)) rfl) (T.ev_cons (T.ev_tup (ds := [eN 2, eN 2]) (T.ev_cons (T.ev_cN 2) (T.ev_cons (T.ev_cN 2) T.ev_nil)) rfl) (T.ev_cons (T.ev_tup (ds := [eN 2, eN 3]) (T.ev_cons (T.ev_cN 2) (T.ev_cons (T.ev_cN 3) T.ev_nil)) rfl) (T.ev_cons (T.ev_tup (ds := [eN 3, eN 2]) (T.ev_cons (T.ev_cN 3) (T.ev_cons (T.ev_cN 2) T.ev_nil)) rfl) (T.ev_cons (T.ev_tup (ds := [eN 2, eN 4]) (T.ev_cons (T.ev_cN 2) (T.ev_cons (T.ev_cN 4) T.ev_nil)) rfl) (T.ev_cons (T.ev_tup (ds := [eN 4, eN 1]) (T.ev_cons (T.ev_cN 4) (T.ev_cons (T.ev_cN 1) T.ev_nil)) rfl) (T.ev_cons (T.ev_tup (ds := [eN 3, eN 1]) (T.ev_cons (T.ev_cN 3) (T.ev_cons (T.ev_cN 1) T.ev_nil)) rfl) T.ev_nil)))))))) rfl) T.ev_nil)) rfl e3) rfl ?_)
  change WP _ _ _ _ (At _ [some (.scr ns), some (.tape), some (eN drawn.1), some (eN drawn.2), none, none, none, none, none, none, none, none, none, none, none, none, none, none] _)
  refine T.wp_seq (T.wp_setF (T.ev_lst (ds := []) T.ev_nil rfl) rfl ?_)
  change WP _ _ _ _ (At _ [some (.scr ns), some (.tape), some (eN drawn.1), some (eN drawn.2), some ((eL (eT eZ)) []), none, none, none, none, none, none, none, none, none, none, none, none, none] _)
  obtain ⟨c6, h⟩ := h
  obtain ⟨I8, h9, h10, h11⟩ := h
  refine T.wp_seq (T.wp_for (e := eN) (xs := (List.range drawn.1)) (ds := fun x13 => [eN x13]) (fun k env tz => Tape tz ∧ ∃ table : (List (List Int)), ∃ g7 : Option D, env = [some (.scr ns), some (.tape), some (eN drawn.1), some (eN drawn.2), some ((eL (eT eZ)) table), g7, none, none, none, none, none, none, none, none, none, none, none, none] ∧ I8 k table) (T.it_range (n := drawn.1) c6 (T.ev_v rfl)) (fun _ => rfl) ⟨k4, [], _, rfl, h9⟩ ?_ ?_)
  · intro i12 x13 env t hk hI
    obtain ⟨k15, table, g7, rfl, h⟩ := hI
    replace h := h10 i12 x13 hk table h
    change WP _ _ _ _ (At _ [some (.scr ns), some (.tape), some (eN drawn.1), some (eN drawn.2), some ((eL (eT eZ)) table), some (eN x13), none, none, none, none, none, none, none, none, none, none, none, none] _)
    obtain ⟨c16, h⟩ := h
    obtain ⟨c17, h⟩ := h
    obtain ⟨c18, h⟩ := h
    obtain ⟨drawn_1, t19, e20, k21, p22⟩ := (fun (hT : Tape t) (c9 : (List.range drawn.2).length ≤ 1000000 ∧ ([(-(9 : Int)), (-(3 : Int)), (-(1 : Int)), (0 : Int), (1 : Int), (2 : Int), (5 : Int), (((10 ^ 6) : Nat) : Int)] ≠ [] ∧ [(-(9 : Int)), (-(3 : Int)), (-(1 : Int)), (0 : Int), (1 : Int), (2 : Int), (5 : Int), (((10 ^ 6) : Nat) : Int)].length ≤ 1073741824)) => (show ∃ (ys : List Int) (t2 : List D), (compE (rangeI range1D (consA (vE 3) (nilA))) [6] t1 [6] (yesT) (callE 2 m_law_pick (consA (vE 1) (consA (lstE (consA (unE negD (cE (.int 9))) (consA (unE negD (cE (.int 3))) (consA (unE negD (cE (.int 1))) (consA (cE (.int 0)) (consA (cE (.int 1)) (consA (cE (.int 2)) (consA (cE (.int 5)) (consA (binE powD (cE (.int 10)) (cE (.int 6))) (nilA)))))))))) (nilA))))) [some (.scr ns), some (.tape), some (eN drawn.1), some (eN drawn.2), some ((eL (eT eZ)) table), some (eN x13), none, none, none, none, none, none, none, none, none, none, none, none] t = .ok (eL eZ ys) t2 ∧ Tape t2 ∧ (ys.length = (List.range drawn.2).length ∧ ∀ y ∈ ys, y ∈ [(-(9 : Int)), (-(3 : Int)), (-(1 : Int)), (0 : Int), (1 : Int), (2 : Int), (5 : Int), (((10 ^ 6) : Nat) : Int)]) from comp_draw (e := eN) (xs := (List.range drawn.2)) (T.it_range (n := drawn.2) c16 (T.ev_v rfl)) hT c9.1 (fun x hx t ht => (match t_law_pickL (xs := [(-(9 : Int)), (-(3 : Int)), (-(1 : Int)), (0 : Int), (1 : Int), (2 : Int), (5 : Int), (((10 ^ 6) : Nat) : Int)]) (e := eZ) ht c9.2 with | ⟨r9, t9, a9, b9, d9⟩ => ⟨r9, t9, T.ev_call (T.ev_cons (T.ev_v rfl) (T.ev_cons (T.ev_lst (ds := [eZ (-(9 : Int)), eZ (-(3 : Int)), eZ (-(1 : Int)), eZ (0 : Int), eZ (1 : Int), eZ (2 : Int), eZ (5 : Int), eZ (((10 ^ 6) : Nat) : Int)]) (T.ev_cons (T.ev_negZ (x := (9 : Int)) (T.ev_c rfl)) (T.ev_cons (T.ev_negZ (x := (3 : Int)) (T.ev_c rfl)) (T.ev_cons (T.ev_negZ (x := (1 : Int)) (T.ev_c rfl)) (T.ev_cons (T.ev_c rfl) (T.ev_cons (T.ev_c rfl) (T.ev_cons (T.ev_c rfl) (T.ev_cons (T.ev_c rfl) (T.ev_cons (T.ev_pow (x := 10) (y := 6) c17 (T.ev_cN 10) (T.ev_cN 6)) T.ev_nil)))))))) rfl) T.ev_nil)) rfl a9, b9, d9⟩)))) k15 c18
    replace h := h drawn_1 p22
    obtain ⟨c23, h⟩ := h
    obtain ⟨table_1, d24⟩ : ∃ table_1 : (List (List Int)), table_1 = (table ++ [drawn_1]) := ⟨_, rfl⟩
    replace h := h table_1 d24
    refine T.wp_app (e := (eT eZ)) (xs := table) (x := drawn_1) rfl (T.ev_tupleL (e := eZ) (xs := drawn_1) e20) c23 ?_
    rw [← d24]
    exact ⟨k21, table_1, _, rfl, h⟩
  rintro _ t25 ⟨k26, table, g7, rfl, h⟩
  replace h := h11 table h
  change WP _ _ _ _ (At _ [some (.scr ns), some (.tape), some (eN drawn.1), some (eN drawn.2), some ((eL (eT eZ)) table), g7, none, none, none, none, none, none, none, none, none, none, none, none] _)
  refine T.wp_seq (T.wp_set (T.ev_tupleL (e := (eT eZ)) (xs := table) (T.ev_v rfl)) ?_)
  change WP _ _ _ _ (At _ [some (.scr ns), some (.tape), some (eN drawn.1), some (eN drawn.2), some ((eL (eT eZ)) table), g7, none, some ((eT (eT eZ)) table), none, none, none, none, none, none, none, none, none, none] _)
  refine T.wp_seq (T.wp_setF (T.ev_c rfl) rfl ?_)
  change WP _ _ _ _ (At _ [some (.scr ns), some (.tape), some (eN drawn.1), some (eN drawn.2), some ((eL (eT eZ)) table), g7, none, some ((eT (eT eZ)) table), some ((eDT (eT eR) eZ) []), none, none, none, none, none, none, none, none, none] _)
  obtain ⟨c27, h⟩ := h
  obtain ⟨I29, h30, h31, h32⟩ := h
  refine T.wp_seq (T.wp_for (e := (eT eR)) (xs := (F_law_all drawn.1 drawn.2)) (ds := fun x34 => [(eT eR) x34]) (fun k env tz => Tape tz ∧ ∃ free : (List ((List Row) × Int)), ∃ g28 : Option D, env = [some (.scr ns), some (.tape), some (eN drawn.1), some (eN drawn.2), some ((eL (eT eZ)) table), g7, none, some ((eT (eT eZ)) table), some ((eDT (eT eR) eZ) free), g28, none, none, none, none, none, none, none, none] ∧ I29 k free) (T.it_L (e := (eT eR)) (xs := (F_law_all drawn.1 drawn.2)) (T.ev_call (T.ev_cons (T.ev_v rfl) (T.ev_cons (T.ev_v rfl) T.ev_nil)) rfl (t_law_all c27 _))) (fun _ => rfl) ⟨k26, [], _, rfl, h30⟩ ?_ ?_)
  · intro i33 x34 env t hk hI
    obtain ⟨k36, free, g28, rfl, h⟩ := hI
    replace h := h31 i33 x34 hk free h
    change WP _ _ _ _ (At _ [some (.scr ns), some (.tape), some (eN drawn.1), some (eN drawn.2), some ((eL (eT eZ)) table), g7, none, some ((eT (eT eZ)) table), some ((eDT (eT eR) eZ) free), some ((eT eR) x34), none, none, none, none, none, none, none, none] _)
    obtain ⟨c37, h⟩ := h
    obtain ⟨c52, h⟩ := h
    refine T.wp_ifJ (P := ((F_law_core x34) = [])) (J := fun env tz => t = tz ∧ ∃ free_1 : (List ((List Row) × Int)), env = [some (.scr ns), some (.tape), some (eN drawn.1), some (eN drawn.2), some ((eL (eT eZ)) table), g7, none, some ((eT (eT eZ)) table), some ((eDT (eT eR) eZ) free_1), some ((eT eR) x34), none, none, none, none, none, none, none, none] ∧ free_1 = (if ((F_law_core x34) = []) then (gput free x34 (((List.range drawn.1).map fun x39 => (((List.range drawn.2).filter fun x42 => decide ((x34[x39]!)[x42]! = true)).map fun x42 => (table[x39]!)[x42]!).sum).sum)) else free)) (T.ev_bool (T.ev_eq (x := (F_law_core x34)) (y := []) (qL qN) rfl (T.ev_call (T.ev_cons (T.ev_v rfl) T.ev_nil) rfl (t_law_core c37 _)) (T.ev_lst (ds := []) T.ev_nil rfl))) (fun hq => ?_) (fun hq => ?_) ?_
    · obtain ⟨c38, c40, c50, c51⟩ := c52 hq
      refine T.wp_dsetT kePic (e := eZ) (d := free) (k := x34) (v := ((List.range drawn.1).map fun x39 => (((List.range drawn.2).filter fun x42 => decide ((x34[x39]!)[x42]! = true)).map fun x42 => (table[x39]!)[x42]!).sum).sum) rfl (T.ev_sumZ (xs := ((List.range drawn.1).map fun x39 => (((List.range drawn.2).filter fun x42 => decide ((x34[x39]!)[x42]! = true)).map fun x42 => (table[x39]!)[x42]!).sum)) (T.ev_compY (e := eN) (e1 := eZ) (xs := (List.range drawn.1)) (ds := fun x39 => [eN x39]) (g := fun x39 => (((List.range drawn.2).filter fun x42 => decide ((x34[x39]!)[x42]! = true)).map fun x42 => (table[x39]!)[x42]!).sum) (T.it_range (n := drawn.1) c38 (T.ev_v rfl)) c40 (fun _ => rfl) (fun x39 hx => match c50 x39 hx with | ⟨c41, c43, c46, c49⟩ => (T.ev_sumZ (xs := (((List.range drawn.2).filter fun x42 => decide ((x34[x39]!)[x42]! = true)).map fun x42 => (table[x39]!)[x42]!)) (T.ev_comp (e := eN) (e1 := eZ) (xs := (List.range drawn.2)) (ds := fun x42 => [eN x42]) (g := fun x42 => (table[x39]!)[x42]!) (P := fun x42 => ((x34[x39]!)[x42]! = true)) (T.it_range (n := drawn.2) c41 (T.ev_v rfl)) c43 (fun _ => rfl) (fun x42 hx => match c46 x42 hx with | ⟨c44, c45⟩ => (T.ev_bool (T.ev_eq (x := (x34[x39]!)[x42]!) (y := true) qG rfl (T.ev_ixR (r := x34[x39]!) (i := x42) c45 (T.ev_ixT (e := eR) (xs := x34) (i := x39) c44 (T.ev_v rfl) (T.ev_v rfl)) (T.ev_v rfl)) (T.ev_c (congrArg D.str str_black))))) (fun x42 hx hq => match c49 x42 hx hq with | ⟨c47, c48⟩ => (T.ev_ixT (e := eZ) (xs := table[x39]!) (i := x42) c48 (T.ev_ixT (e := (eT eZ)) (xs := table) (i := x39) c47 (T.ev_v rfl) (T.ev_v rfl)) (T.ev_v rfl)))))))) (T.ev_v rfl) c51 ?_
      exact ⟨rfl, (gput free x34 (((List.range drawn.1).map fun x39 => (((List.range drawn.2).filter fun x42 => decide ((x34[x39]!)[x42]! = true)).map fun x42 => (table[x39]!)[x42]!).sum).sum)), rfl, (if_pos hq).symm⟩
    · refine T.wp_skip ?_
      exact ⟨rfl, free, rfl, (if_neg hq).symm⟩
    rintro _ _ ⟨rfl, free_1, rfl, d53⟩
    replace h := h free_1 d53
    exact ⟨k36, free_1, _, rfl, h⟩
  rintro _ t54 ⟨k55, free, g28, rfl, h⟩
  replace h := h32 free h
  change WP _ _ _ _ (At _ [some (.scr ns), some (.tape), some (eN drawn.1), some (eN drawn.2), some ((eL (eT eZ)) table), g7, none, some ((eT (eT eZ)) table), some ((eDT (eT eR) eZ) free), g28, none, none, none, none, none, none, none, none] _)
  obtain ⟨c56, h⟩ := h
  obtain ⟨best, d57⟩ : ∃ best : (Int × (List Row)), best = (F_best_free table) := ⟨_, rfl⟩
  replace h := h best d57
  refine T.wp_seq (T.wp_set (T.ev_as d57 (e := (eP eZ (eT eR))) (T.ev_call (T.ev_cons (T.ev_v rfl) T.ev_nil) rfl (t_best_free c56 _))) ?_)
  change WP _ _ _ _ (At _ [some (.scr ns), some (.tape), some (eN drawn.1), some (eN drawn.2), some ((eL (eT eZ)) table), g7, none, some ((eT (eT eZ)) table), some ((eDT (eT eR) eZ) free), g28, some ((eP eZ (eT eR)) best), none, none, none, none, none, none, none] _)
  obtain ⟨c58, h⟩ := h
  obtain ⟨c59, h⟩ := h
  refine T.wp_seq (T.wp_if (P := ((¬True) ∨ (¬True))) (T.ev_orT (P := (¬True)) (Q := (¬True)) (T.ev_notT (P := True) (T.ev_bool (T.ev_isi (d := (eP eZ (eT eR)) best) (T.ev_v rfl) rfl kb_tuple_tuple))) (fun hp => (T.ev_notT (P := True) (T.ev_bool (ev_alike (e := eZ) (a := best.1) (b := ((free.map (·.2)).max?.getD 0)) c59 (T.ev_fst (x := best) (T.ev_v rfl) rfl) (T.ev_maxVTZ (d := free) c58 (T.ev_v rfl))))))) (fun hp => ?_) (fun hn => ?_))
  · exact absurd hp ((fun h0 => h0.elim ((fun h0 => h0 (trivial))) ((fun h0 => h0 (trivial)))))
  · refine T.wp_skip ?_
    change WP _ _ _ _ (At _ [some (.scr ns), some (.tape), some (eN drawn.1), some (eN drawn.2), some ((eL (eT eZ)) table), g7, none, some ((eT (eT eZ)) table), some ((eDT (eT eR) eZ) free), g28, some ((eP eZ (eT eR)) best), none, none, none, none, none, none, none] _)
    obtain ⟨c61, h⟩ := h
    obtain ⟨hf, h⟩ := h
    refine T.wp_seq (T.wp_if (P := ((best.2 ∉ gkeys free) ∨ (((gget free best.2).getD default) ≠ best.1))) (T.ev_orT (P := (best.2 ∉ gkeys free)) (Q := (((gget free best.2).getD default) ≠ best.1)) (T.ev_bool (T.ev_ninDT kePic (x := best.2) (d := free) (T.ev_snd (x := best) (T.ev_v rfl) rfl) (T.ev_v rfl))) (fun hp => have c60 := c61 hp; (T.ev_bool (T.ev_ne (x := ((gget free best.2).getD default)) (y := best.1) qZ rfl (T.ev_ixDT kePic (e := eZ) (x := best.2) (d := free) c60 (T.ev_v rfl) (T.ev_snd (x := best) (T.ev_v rfl) rfl)) (T.ev_fst (x := best) (T.ev_v rfl) rfl))))) (fun hp => ?_) (fun hn => ?_))
    · exact absurd hp ((fun h0 => h0.elim ((fun h0 => h0 ((hf).1))) ((fun h0 => h0 ((hf).2)))))
    · refine T.wp_skip ?_
      change WP _ _ _ _ (At _ [some (.scr ns), some (.tape), some (eN drawn.1), some (eN drawn.2), some ((eL (eT eZ)) table), g7, none, some ((eT (eT eZ)) table), some ((eDT (eT eR) eZ) free), g28, some ((eP eZ (eT eR)) best), none, none, none, none, none, none, none] _)
      obtain ⟨c62, h⟩ := h
      obtain ⟨c64, h⟩ := h
      obtain ⟨c66, h⟩ := h
      obtain ⟨c67, h⟩ := h
      refine T.wp_seq (T.wp_if (P := (¬True)) (T.ev_notT (P := True) (T.ev_bool (ev_alike (e := eN) (a := (F_best_numbers table)) (b := (((gkeys free).filter fun x63 => decide (((gget free x63).getD default) = best.1)).map fun x63 => 1).length) c67 (T.ev_call (T.ev_cons (T.ev_v rfl) T.ev_nil) rfl (t_best_numbers c62 _)) (T.ev_lenL (e := eN) (xs := (((gkeys free).filter fun x63 => decide (((gget free x63).getD default) = best.1)).map fun x63 => 1)) (T.ev_comp (e := (eT eR)) (e1 := eN) (xs := (gkeys free)) (ds := fun x63 => [(eT eR) x63]) (g := fun x63 => 1) (P := fun x63 => (((gget free x63).getD default) = best.1)) (T.it_keysT (e1 := (eT eR)) (e := eZ) (d := free) (T.ev_v rfl)) c64 (fun _ => rfl) (fun x63 hx => have c65 := c66 x63 hx; (T.ev_bool (T.ev_eq (x := ((gget free x63).getD default)) (y := best.1) qZ rfl (T.ev_ixDT kePic (e := eZ) (x := x63) (d := free) c65 (T.ev_v rfl) (T.ev_v rfl)) (T.ev_fst (x := best) (T.ev_v rfl) rfl)))) (fun x63 hx hq => (T.ev_cN 1))))))) (fun hp => ?_) (fun hn => ?_))
      · exact absurd hp ((fun h0 => h0 (trivial)))
      · refine T.wp_skip ?_
        change WP _ _ _ _ (At _ [some (.scr ns), some (.tape), some (eN drawn.1), some (eN drawn.2), some ((eL (eT eZ)) table), g7, none, some ((eT (eT eZ)) table), some ((eDT (eT eR) eZ) free), g28, some ((eP eZ (eT eR)) best), none, none, none, none, none, none, none] _)
        obtain ⟨c68, h⟩ := h
        obtain ⟨c69, h⟩ := h
        refine T.wp_seq (T.wp_if (P := (¬True)) (T.ev_notT (P := True) (T.ev_bool (ev_alike (e := eZ) (a := (F_free_worth_sum table)) (b := (free.map (·.2)).sum) c69 (T.ev_call (T.ev_cons (T.ev_v rfl) T.ev_nil) rfl (t_free_worth_sum c68 _)) (T.ev_sumVTZ (d := free) (T.ev_v rfl))))) (fun hp => ?_) (fun hn => ?_))
        · exact absurd hp ((fun h0 => h0 (trivial)))
        · refine T.wp_skip ?_
          change WP _ _ _ _ (At _ [some (.scr ns), some (.tape), some (eN drawn.1), some (eN drawn.2), some ((eL (eT eZ)) table), g7, none, some ((eT (eT eZ)) table), some ((eDT (eT eR) eZ) free), g28, some ((eP eZ (eT eR)) best), none, none, none, none, none, none, none] _)
          obtain ⟨c70, h⟩ := h
          obtain ⟨any, t71, e72, k73, p74⟩ := t_law_any k55 c70
          replace h := h any p74
          refine T.wp_seq (T.wp_set (T.ev_call (T.ev_cons (T.ev_v rfl) (T.ev_cons (T.ev_v rfl) (T.ev_cons (T.ev_v rfl) T.ev_nil))) rfl e72) ?_)
          change WP _ _ _ _ (At _ [some (.scr ns), some (.tape), some (eN drawn.1), some (eN drawn.2), some ((eL (eT eZ)) table), g7, none, some ((eT (eT eZ)) table), some ((eDT (eT eR) eZ) free), some ((eT eR) any), some ((eP eZ (eT eR)) best), none, none, none, none, none, none, none] _)
          obtain ⟨c75, h⟩ := h
          obtain ⟨c77, h⟩ := h
          obtain ⟨c87, h⟩ := h
          obtain ⟨here, d88⟩ : ∃ here : Int, here = ((List.range drawn.1).map fun x76 => (((List.range drawn.2).filter fun x79 => decide ((any[x76]!)[x79]! = true)).map fun x79 => (table[x76]!)[x79]!).sum).sum := ⟨_, rfl⟩
          replace h := h here d88
          refine T.wp_seq (T.wp_set (T.ev_as d88 (e := eZ) (T.ev_sumZ (xs := ((List.range drawn.1).map fun x76 => (((List.range drawn.2).filter fun x79 => decide ((any[x76]!)[x79]! = true)).map fun x79 => (table[x76]!)[x79]!).sum)) (T.ev_compY (e := eN) (e1 := eZ) (xs := (List.range drawn.1)) (ds := fun x76 => [eN x76]) (g := fun x76 => (((List.range drawn.2).filter fun x79 => decide ((any[x76]!)[x79]! = true)).map fun x79 => (table[x76]!)[x79]!).sum) (T.it_range (n := drawn.1) c75 (T.ev_v rfl)) c77 (fun _ => rfl) (fun x76 hx => match c87 x76 hx with | ⟨c78, c80, c83, c86⟩ => (T.ev_sumZ (xs := (((List.range drawn.2).filter fun x79 => decide ((any[x76]!)[x79]! = true)).map fun x79 => (table[x76]!)[x79]!)) (T.ev_comp (e := eN) (e1 := eZ) (xs := (List.range drawn.2)) (ds := fun x79 => [eN x79]) (g := fun x79 => (table[x76]!)[x79]!) (P := fun x79 => ((any[x76]!)[x79]! = true)) (T.it_range (n := drawn.2) c78 (T.ev_v rfl)) c80 (fun _ => rfl) (fun x79 hx => match c83 x79 hx with | ⟨c81, c82⟩ => (T.ev_bool (T.ev_eq (x := (any[x76]!)[x79]!) (y := true) qG rfl (T.ev_ixR (r := any[x76]!) (i := x79) c82 (T.ev_ixT (e := eR) (xs := any) (i := x76) c81 (T.ev_v rfl) (T.ev_v rfl)) (T.ev_v rfl)) (T.ev_c (congrArg D.str str_black))))) (fun x79 hx hq => match c86 x79 hx hq with | ⟨c84, c85⟩ => (T.ev_ixT (e := eZ) (xs := table[x76]!) (i := x79) c85 (T.ev_ixT (e := (eT eZ)) (xs := table) (i := x76) c84 (T.ev_v rfl) (T.ev_v rfl)) (T.ev_v rfl))))))))) ?_)
          change WP _ _ _ _ (At _ [some (.scr ns), some (.tape), some (eN drawn.1), some (eN drawn.2), some ((eL (eT eZ)) table), g7, none, some ((eT (eT eZ)) table), some ((eDT (eT eR) eZ) free), some ((eT eR) any), some ((eP eZ (eT eR)) best), none, some (eZ here), none, none, none, none, none] _)
          obtain ⟨c89, h⟩ := h
          obtain ⟨c90, h⟩ := h
          refine T.wp_seq (T.wp_if (P := (¬True)) (T.ev_notT (P := True) (T.ev_bool (ev_alike (e := eZ) (a := (F_worth any table)) (b := here) c90 (T.ev_call (T.ev_cons (T.ev_v rfl) (T.ev_cons (T.ev_v rfl) T.ev_nil)) rfl (t_worth c89 _)) (T.ev_v rfl)))) (fun hp => ?_) (fun hn => ?_))
          · exact absurd hp ((fun h0 => h0 (trivial)))
          · refine T.wp_skip ?_
            change WP _ _ _ _ (At _ [some (.scr ns), some (.tape), some (eN drawn.1), some (eN drawn.2), some ((eL (eT eZ)) table), g7, none, some ((eT (eT eZ)) table), some ((eDT (eT eR) eZ) free), some ((eT eR) any), some ((eP eZ (eT eR)) best), none, some (eZ here), none, none, none, none, none] _)
            refine T.wp_seq (T.wp_setF (T.ev_lst (ds := []) T.ev_nil rfl) rfl ?_)
            change WP _ _ _ _ (At _ [some (.scr ns), some (.tape), some (eN drawn.1), some (eN drawn.2), some ((eL (eT eZ)) table), g7, none, some ((eT (eT eZ)) table), some ((eDT (eT eR) eZ) free), some ((eT eR) any), some ((eP eZ (eT eR)) best), none, some (eZ here), some ((eL (eP eZ eN)) []), none, none, none, none] _)
            obtain ⟨c91, h⟩ := h
            obtain ⟨I95, h96, h97, h98⟩ := h
            refine T.wp_seq (T.wp_for (e := eN) (xs := (List.range (drawn.1 + drawn.2))) (ds := fun x100 => [eN x100]) (fun k env tz => Tape tz ∧ ∃ told : (List (Int × Nat)), ∃ g92 : Option D, ∃ g93 : Option D, ∃ g94 : Option D, env = [some (.scr ns), some (.tape), some (eN drawn.1), some (eN drawn.2), some ((eL (eT eZ)) table), g7, none, some ((eT (eT eZ)) table), some ((eDT (eT eR) eZ) free), some ((eT eR) any), some ((eP eZ (eT eR)) best), g92, some (eZ here), some ((eL (eP eZ eN)) told), g93, g94, none, none] ∧ I95 k told) (T.it_range (n := (drawn.1 + drawn.2)) c91 (T.ev_add (x := drawn.1) (y := drawn.2) (T.ev_v rfl) (T.ev_v rfl))) (fun _ => rfl) ⟨k73, [], _, _, _, rfl, h96⟩ ?_ ?_)
            · intro i99 x100 env t hk hI
              obtain ⟨k102, told, g92, g93, g94, rfl, h⟩ := hI
              replace h := h97 i99 x100 hk told h
              change WP _ _ _ _ (At _ [some (.scr ns), some (.tape), some (eN drawn.1), some (eN drawn.2), some ((eL (eT eZ)) table), g7, none, some ((eT (eT eZ)) table), some ((eDT (eT eR) eZ) free), some ((eT eR) any), some ((eP eZ (eT eR)) best), g92, some (eZ here), some ((eL (eP eZ eN)) told), some (eN x100), g94, none, none] _)
              obtain ⟨c103, h⟩ := h
              obtain ⟨there, d104⟩ : ∃ there : (List Row), there = (F_law_paint any x100) := ⟨_, rfl⟩
              replace h := h there d104
              refine T.wp_seq (T.wp_set (T.ev_as d104 (e := (eT eR)) (T.ev_call (T.ev_cons (T.ev_v rfl) (T.ev_cons (T.ev_v rfl) T.ev_nil)) rfl (t_law_paint c103 _))) ?_)
              change WP _ _ _ _ (At _ [some (.scr ns), some (.tape), some (eN drawn.1), some (eN drawn.2), some ((eL (eT eZ)) table), g7, none, some ((eT (eT eZ)) table), some ((eDT (eT eR) eZ) free), some ((eT eR) any), some ((eP eZ (eT eR)) best), some ((eT eR) there), some (eZ here), some ((eL (eP eZ eN)) told), some (eN x100), g94, none, none] _)
              obtain ⟨c105, h⟩ := h
              obtain ⟨c107, h⟩ := h
              obtain ⟨c117, h⟩ := h
              obtain ⟨sums, d118⟩ : ∃ sums : (List Int), sums = ((List.range drawn.1).map fun x106 => (((List.range drawn.2).filter fun x109 => decide ((there[x106]!)[x109]! = true)).map fun x109 => (table[x106]!)[x109]!).sum) := ⟨_, rfl⟩
              replace h := h sums d118
              refine T.wp_seq (T.wp_set (T.ev_as d118 (e := (eL eZ)) (T.ev_compY (e := eN) (e1 := eZ) (xs := (List.range drawn.1)) (ds := fun x106 => [eN x106]) (g := fun x106 => (((List.range drawn.2).filter fun x109 => decide ((there[x106]!)[x109]! = true)).map fun x109 => (table[x106]!)[x109]!).sum) (T.it_range (n := drawn.1) c105 (T.ev_v rfl)) c107 (fun _ => rfl) (fun x106 hx => match c117 x106 hx with | ⟨c108, c110, c113, c116⟩ => (T.ev_sumZ (xs := (((List.range drawn.2).filter fun x109 => decide ((there[x106]!)[x109]! = true)).map fun x109 => (table[x106]!)[x109]!)) (T.ev_comp (e := eN) (e1 := eZ) (xs := (List.range drawn.2)) (ds := fun x109 => [eN x109]) (g := fun x109 => (table[x106]!)[x109]!) (P := fun x109 => ((there[x106]!)[x109]! = true)) (T.it_range (n := drawn.2) c108 (T.ev_v rfl)) c110 (fun _ => rfl) (fun x109 hx => match c113 x109 hx with | ⟨c111, c112⟩ => (T.ev_bool (T.ev_eq (x := (there[x106]!)[x109]!) (y := true) qG rfl (T.ev_ixR (r := there[x106]!) (i := x109) c112 (T.ev_ixT (e := eR) (xs := there) (i := x106) c111 (T.ev_v rfl) (T.ev_v rfl)) (T.ev_v rfl)) (T.ev_c (congrArg D.str str_black))))) (fun x109 hx hq => match c116 x109 hx hq with | ⟨c114, c115⟩ => (T.ev_ixT (e := eZ) (xs := table[x106]!) (i := x109) c115 (T.ev_ixT (e := (eT eZ)) (xs := table) (i := x106) c114 (T.ev_v rfl) (T.ev_v rfl)) (T.ev_v rfl)))))))) ?_)
              change WP _ _ _ _ (At _ [some (.scr ns), some (.tape), some (eN drawn.1), some (eN drawn.2), some ((eL (eT eZ)) table), g7, none, some ((eT (eT eZ)) table), some ((eDT (eT eR) eZ) free), some ((eT eR) any), some ((eP eZ (eT eR)) best), some ((eT eR) there), some (eZ here), some ((eL (eP eZ eN)) told), some (eN x100), some ((eL eZ) sums), none, none] _)
              obtain ⟨c119, h⟩ := h
              obtain ⟨told_1, d120⟩ : ∃ told_1 : (List (Int × Nat)), told_1 = (told ++ [(((0 : Int) - sums.sum), x100)]) := ⟨_, rfl⟩
              replace h := h told_1 d120
              refine T.wp_app (e := (eP eZ eN)) (xs := told) (x := (((0 : Int) - sums.sum), x100)) rfl (T.ev_tup (ds := [eZ ((0 : Int) - sums.sum), eN x100]) (T.ev_cons (T.ev_subZ (x := (0 : Int)) (y := sums.sum) (T.ev_c rfl) (T.ev_sumZ (xs := sums) (T.ev_v rfl))) (T.ev_cons (T.ev_v rfl) T.ev_nil)) rfl) c119 ?_
              rw [← d120]
              exact ⟨k102, told_1, _, _, _, rfl, h⟩
            rintro _ t121 ⟨k122, told, g92, g93, g94, rfl, h⟩
            replace h := h98 told h
            change WP _ _ _ _ (At _ [some (.scr ns), some (.tape), some (eN drawn.1), some (eN drawn.2), some ((eL (eT eZ)) table), g7, none, some ((eT (eT eZ)) table), some ((eDT (eT eR) eZ) free), some ((eT eR) any), some ((eP eZ (eT eR)) best), g92, some (eZ here), some ((eL (eP eZ eN)) told), g93, g94, none, none] _)
            obtain ⟨c123, h⟩ := h
            obtain ⟨c124, h⟩ := h
            obtain ⟨c125, h⟩ := h
            refine T.wp_seq (T.wp_if (P := (¬True)) (T.ev_notT (P := True) (T.ev_bool (ev_alike (e := (eP eZ eN)) (a := (F_best_last any table)) (b := (((0 : Int) - (minBy (eP eZ eN) told).1), (minBy (eP eZ eN) told).2)) c125 (T.ev_call (T.ev_cons (T.ev_v rfl) (T.ev_cons (T.ev_v rfl) T.ev_nil)) rfl (t_best_last c123 _)) (T.ev_tup (ds := [eZ ((0 : Int) - (minBy (eP eZ eN) told).1), eN ((minBy (eP eZ eN) told).2)]) (T.ev_cons (T.ev_subZ (x := (0 : Int)) (y := (minBy (eP eZ eN) told).1) (T.ev_c rfl) (T.ev_fst (x := (minBy (eP eZ eN) told)) (T.ev_minDat (e := (eP eZ eN)) (xs := told) min_ZN c124 (T.ev_v rfl)) rfl)) (T.ev_cons (T.ev_snd (x := (minBy (eP eZ eN) told)) (T.ev_minDat (e := (eP eZ eN)) (xs := told) min_ZN c124 (T.ev_v rfl)) rfl) T.ev_nil)) rfl)))) (fun hp => ?_) (fun hn => ?_))
            · exact absurd hp ((fun h0 => h0 (trivial)))
            · refine T.wp_skip ?_
              change WP _ _ _ _ (At _ [some (.scr ns), some (.tape), some (eN drawn.1), some (eN drawn.2), some ((eL (eT eZ)) table), g7, none, some ((eT (eT eZ)) table), some ((eDT (eT eR) eZ) free), some ((eT eR) any), some ((eP eZ (eT eR)) best), g92, some (eZ here), some ((eL (eP eZ eN)) told), g93, g94, none, none] _)
              obtain ⟨c126, h⟩ := h
              obtain ⟨c127, h⟩ := h
              obtain ⟨I130, h131, h132, h133⟩ := h
              refine T.wp_seq (T.wp_for (e := eV) (xs := [((eT eR) best.2), ((eT eR) any), ((eL eR) best.2), D.non, ((eT eR) (best.2 ++ (best.2.take 1))), (eN 5), (eT eV []), ((eT eG) (List.replicate drawn.1 true))]) (ds := fun x135 => [eV x135]) (fun k env tz => Tape tz ∧ ∃ g128 : Option D, ∃ g129 : Option D, env = [some (.scr ns), some (.tape), some (eN drawn.1), some (eN drawn.2), some ((eL (eT eZ)) table), g7, none, some ((eT (eT eZ)) table), some ((eDT (eT eR) eZ) free), some ((eT eR) any), some ((eP eZ (eT eR)) best), g92, some (eZ here), some ((eL (eP eZ eN)) told), g93, g94, g128, g129] ∧ I130 k) (T.it_L (e := eV) (xs := [((eT eR) best.2), ((eT eR) any), ((eL eR) best.2), D.non, ((eT eR) (best.2 ++ (best.2.take 1))), (eN 5), (eT eV []), ((eT eG) (List.replicate drawn.1 true))]) (T.ev_lst (ds := [eV ((eT eR) best.2), eV ((eT eR) any), eV ((eL eR) best.2), eV D.non, eV ((eT eR) (best.2 ++ (best.2.take 1))), eV (eN 5), eV (eT eV []), eV ((eT eG) (List.replicate drawn.1 true))]) (T.ev_cons (T.ev_snd (x := best) (T.ev_v rfl) rfl) (T.ev_cons (T.ev_v rfl) (T.ev_cons (T.ev_listT (e := eR) (xs := best.2) (T.ev_snd (x := best) (T.ev_v rfl) rfl)) (T.ev_cons (T.ev_c rfl) (T.ev_cons (T.ev_catT (e := eR) (xs := best.2) (ys := (best.2.take 1)) c126 (T.ev_snd (x := best) (T.ev_v rfl) rfl) (T.ev_toT (e := eR) (xs := best.2) (k := 1) (T.ev_snd (x := best) (T.ev_v rfl) rfl) (T.ev_cN 1))) (T.ev_cons (T.ev_cN 5) (T.ev_cons (T.ev_tup (ds := []) T.ev_nil rfl) (T.ev_cons (T.ev_repT1 (e := eG) (x := true) (n := drawn.1) c127 (T.ev_tup (ds := [eG true]) (T.ev_cons (T.ev_c (congrArg D.str str_black)) T.ev_nil) rfl) (T.ev_v rfl)) T.ev_nil)))))))) rfl)) (fun _ => rfl) ⟨k122, _, _, rfl, h131⟩ ?_ ?_)
              · intro i134 x135 env t hk hI
                obtain ⟨k137, g128, g129, rfl, h⟩ := hI
                replace h := h132 i134 x135 hk h
                change WP _ _ _ _ (At _ [some (.scr ns), some (.tape), some (eN drawn.1), some (eN drawn.2), some ((eL (eT eZ)) table), g7, none, some ((eT (eT eZ)) table), some ((eDT (eT eR) eZ) free), some ((eT eR) any), some ((eP eZ (eT eR)) best), g92, some (eZ here), some ((eL (eP eZ eN)) told), g93, g94, some (eV x135), g129] _)
                obtain ⟨c138, h⟩ := h
                obtain ⟨c143, h⟩ := h
                obtain ⟨fits, d144⟩ : ∃ fits : Bool, fits = (decide ((isTu x135 = true) ∧ (((asP x135) ∈ gkeys free) ∧ (((gget free (asP x135)).getD default) = best.1)))) := ⟨_, rfl⟩
                replace h := h fits d144
                refine T.wp_seq (T.wp_set (T.ev_as d144 (e := eB) (T.ev_andE (P := (isTu x135 = true)) (Q := (((asP x135) ∈ gkeys free) ∧ (((gget free (asP x135)).getD default) = best.1))) (q_tupleP (d := x135) (T.ev_v rfl) c138) (fun hp => match c143 hp with | ⟨c139, c142⟩ => (T.ev_andE (P := ((asP x135) ∈ gkeys free)) (Q := (((gget free (asP x135)).getD default) = best.1)) (T.ev_inDT kePic (x := (asP x135)) (d := free) (T.ev_asP c139 (T.ev_v rfl)) (T.ev_v rfl)) (fun hp => match c142 hp with | ⟨c140, c141⟩ => (T.ev_eq (x := ((gget free (asP x135)).getD default)) (y := best.1) qZ rfl (T.ev_ixDT kePic (e := eZ) (x := (asP x135)) (d := free) c141 (T.ev_v rfl) (T.ev_asP c140 (T.ev_v rfl))) (T.ev_fst (x := best) (T.ev_v rfl) rfl))))))) ?_)
                change WP _ _ _ _ (At _ [some (.scr ns), some (.tape), some (eN drawn.1), some (eN drawn.2), some ((eL (eT eZ)) table), g7, none, some ((eT (eT eZ)) table), some ((eDT (eT eR) eZ) free), some ((eT eR) any), some ((eP eZ (eT eR)) best), g92, some (eZ here), some ((eL (eP eZ eN)) told), g93, g94, some (eV x135), some (eB fits)] _)
                obtain ⟨c145, h⟩ := h
                obtain ⟨c146, h⟩ := h
                refine T.wp_if (P := (¬True)) (T.ev_notT (P := True) (T.ev_bool (ev_alike (e := eB) (a := (F_sbfV table x135)) (b := fits) c146 (T.ev_call (n := 2) (T.ev_cons (T.ev_v rfl) (T.ev_cons (T.ev_v rfl) T.ev_nil)) rfl (r_shows_best_free c145 _)) (T.ev_v rfl)))) (fun hp => ?_) (fun hn => ?_)
                · exact absurd hp ((fun h0 => h0 (trivial)))
                · refine T.wp_skip ?_
                  exact ⟨k137, _, _, rfl, h⟩
              rintro _ t147 ⟨k148, g128, g129, rfl, h⟩
              replace h := h133 h
              change WP _ _ _ _ (At _ [some (.scr ns), some (.tape), some (eN drawn.1), some (eN drawn.2), some ((eL (eT eZ)) table), g7, none, some ((eT (eT eZ)) table), some ((eDT (eT eR) eZ) free), some ((eT eR) any), some ((eP eZ (eT eR)) best), g92, some (eZ here), some ((eL (eP eZ eN)) told), g93, g94, g128, g129] _)
              exact T.wp_ret (d := .bl true) (Eq.trans ((T.ev_decB true (T.ev_c rfl))) (T.ev_tt (P := (true = true)) (h))) rfl
end W
set_option maxHeartbeats 1000000
namespace W
open PySem L2 G T
def rowsH : Nat → List Row
  | 0 => [[]]
  | n + 1 => (rowsH n).map (fun r => false :: r) ++ (rowsH n).map fun r => true :: r
def picsH : Nat → Nat → List Pic
  | 0, _ => [[]]
  | h + 1, w => (rowsH w).flatMap fun r => (picsH h w).map fun p => r :: p
theorem mem_rowsH : ∀ {n : Nat} {r : Row}, r.length = n → r ∈ rowsH n
  | 0, r, h => by
    unfold rowsH
    rw [List.mem_singleton]
    exact List.eq_nil_of_length_eq_zero h
  | n + 1, r, h => by
    unfold rowsH
    rw [List.mem_append, List.mem_map, List.mem_map]
    cases r with
    | nil => cases h
    | cons b r =>
      have := Nat.succ.inj h
      cases b with
      | false => exact .inl ⟨r, mem_rowsH this, rfl⟩
      | true => exact .inr ⟨r, mem_rowsH this, rfl⟩
theorem mem_picsH : ∀ {h w : Nat} {p : Pic}, p.length = h → (∀ r ∈ p, r.length = w) → p ∈ picsH h w
  | 0, w, p, a, _ => by
    unfold picsH
    rw [List.mem_singleton]
    exact List.eq_nil_of_length_eq_zero a
  | h + 1, w, p, a, b => by
    unfold picsH
    rw [List.mem_flatMap]
    cases p with
    | nil => cases a
    | cons r p => exact ⟨r, mem_rowsH (b r List.mem_cons_self), List.mem_map.mpr ⟨p, mem_picsH (Nat.succ.inj a) (fun y hy => b y (List.mem_cons_of_mem _ hy)), rfl⟩⟩
abbrev boardsB : List (Nat × Nat) := [(1, 1), (1, 4), (2, 2), (2, 3), (3, 2), (2, 4), (4, 1), (3, 1)]
abbrev freeA (h w : Nat) : List Pic := (F_law_all h w).filter fun p => decide (coreQ p = [])
theorem fp_perm0 : ∀ b ∈ boardsB, (F_free_pictures b.1 b.2).isPerm (freeA b.1 b.2) = true := by decide +kernel
theorem all_there : ∀ b ∈ boardsB, ∀ p ∈ picsH b.1 b.2, p ∈ F_law_all b.1 b.2 := by decide +kernel
theorem all_nd : ∀ b ∈ boardsB, (F_law_all b.1 b.2).Nodup := by decide +kernel
theorem boards_ok : ∀ b ∈ boardsB, 1 ≤ b.1 ∧ 1 ≤ b.2 ∧ b.1 ≤ 4 ∧ b.2 ≤ 4 ∧ b.1 * b.2 ≤ 8 ∧ b.1 + b.2 ≤ 7 := by decide +kernel
theorem sides_all {b : Nat × Nat} (hb : b ∈ boardsB) {p : Pic} : p ∈ F_law_all b.1 b.2 ↔ Sides b.1 b.2 p := by
  obtain ⟨h1, w1, h4, w4, hw, _⟩ := boards_ok b hb
  have kA : P_law_all b.1 b.2 := ⟨h1, w1, by omega, by omega, by omega⟩
  constructor
  · intro h
    obtain ⟨m, _, rfl⟩ := mem_all.mp h
    exact maskP_sides kA
  · rintro ⟨k, hh, ww⟩
    exact all_there b hb p (mem_picsH hh fun r hr => by rw [k.row r hr]; exact ww)
theorem put_new {d : List (Pic × Int)} {k : Pic} {v : Int} (h : k ∉ gkeys d) : gput d k v = d ++ [(k, v)] := by
  unfold gput
  rw [if_neg fun z => h (gget_isSome.mp z)]
theorem get_told (g : Pic → Int) : ∀ (L : List Pic) (p : Pic), p ∈ L → gget (L.map fun p => (p, g p)) p = some (g p)
  | [], p, h => by cases h
  | q :: L, p, h => by
    rw [List.map_cons]
    by_cases z : q = p
    · subst z; exact gget_hit rfl
    · rw [gget_miss z]
      rcases List.mem_cons.mp h with e | e
      · exact (z e.symm).elim
      · exact get_told g L p e
theorem keys_told (g : Pic → Int) (L : List Pic) : gkeys (L.map fun p => (p, g p)) = L := by
  show (L.map fun p => (p, g p)).map (·.1) = L
  rw [List.map_map]
  exact List.map_id L
theorem max_is {xs : List Int} {m : Int} (h : m ∈ xs) (hl : ∀ y ∈ xs, y ≤ m) : xs.max?.getD 0 = m := by
  rw [List.max?_eq_some_iff.mpr ⟨h, hl⟩]; rfl
abbrev drawZ : List Int := [(-(9 : Int)), (-(3 : Int)), (-(1 : Int)), (0 : Int), (1 : Int), (2 : Int), (5 : Int), (((10 ^ 6) : Nat) : Int)]
theorem draw_ok : ∀ y ∈ drawZ, -1000000 ≤ y ∧ y ≤ 1000000 := by decide +kernel
theorem ok_law : V_law := by
  refine ⟨⟨by decide, by decide⟩, fun b hb => ?_⟩
  have hb : b ∈ boardsB := hb
  obtain ⟨h1, w1, h4, w4, hw, h7⟩ := boards_ok b hb
  have kA : P_law_all b.1 b.2 := ⟨h1, w1, by omega, by omega, by omega⟩
  have l512 := len_all kA
  refine ⟨by omega, fun n t => t.length = n ∧ ∀ r ∈ t, r.length = b.2 ∧ ∀ x ∈ r, -1000000 ≤ x ∧ x ≤ 1000000, ⟨rfl, fun r hr => by cases hr⟩, fun i x hx t ht => ⟨by omega, by decide +kernel, ⟨by rw [List.length_range]; omega, by decide, by decide⟩, fun d hd => ⟨?_, fun t2 e2 => ?_⟩⟩, fun W hW => ?_⟩
  · have := (List.getElem?_eq_some_iff.mp hx).1
    rw [List.length_range] at this
    have := ht.1
    omega
  · subst e2
    refine ⟨by rw [List.length_append, ht.1]; rfl, fun r hr => ?_⟩
    rcases List.mem_append.mp hr with h | h
    · exact ht.2 r h
    · rw [List.mem_singleton.mp h]
      exact ⟨by rw [hd.1, List.length_range], fun x hx => draw_ok x (hd.2 x hx)⟩
  obtain ⟨Wl, Wr⟩ := hW
  rw [List.length_range] at Wl
  have W0 : W[0]!.length = b.2 := (Wr _ (get!_memI (by omega))).1
  have kT : TabP W := ⟨by omega, by omega, by omega, by omega, fun r hr => by rw [(Wr r hr).1, W0], fun r hr => (Wr r hr).2⟩
  have kF : P_free_pictures b.1 b.2 := ⟨h1, w1, h4, w4, h7⟩
  have kb : P_best_free W := ⟨kT, by rw [Wl, W0]; exact kF⟩
  have cond : ∀ p : Pic, Sides b.1 b.2 p → (b.1 ≤ 1073741824) ∧ ((List.range b.1).length ≤ 1000000) ∧ (∀ x39, x39 ∈ (List.range b.1) → (b.2 ≤ 1073741824) ∧ ((List.range b.2).length ≤ 1000000) ∧ (∀ x42, x42 ∈ (List.range b.2) → (x39 < p.length) ∧ ((p[x39]!).length ≤ 1000000 ∧ x42 < (p[x39]!).length)) ∧ (∀ x42, x42 ∈ (List.range b.2) → ((p[x39]!)[x42]! = true) → (x39 < W.length) ∧ (x42 < (W[x39]!).length))) := fun p k => by
    refine ⟨by omega, by rw [List.length_range]; omega, fun i hi => ?_⟩
    have hi := List.mem_range.mp hi
    have pl : (p[i]!).length = b.2 := by rw [k.pp.get (by rw [k.hh]; exact hi), k.ww]
    refine ⟨by omega, by rw [List.length_range]; omega, fun j hj => ?_, fun j hj _ => ?_⟩
    · have hj := List.mem_range.mp hj
      exact ⟨by rw [k.hh]; exact hi, by omega, by omega⟩
    · have hj := List.mem_range.mp hj
      exact ⟨by omega, by rw [kT.len (by omega), W0]; exact hj⟩
  have wq : ∀ p : Pic, Sides b.1 b.2 p → F_worth_of p W = worthQ p W b.1 b.2 := fun p k => by
    unfold F_worth_of; rw [k.hh, k.ww]
  refine ⟨kA, fun i f => f = (((F_law_all b.1 b.2).take i).filter fun p => decide (coreQ p = [])).map fun p => (p, worthQ p W b.1 b.2), rfl, fun i p hp f hf => ?_, fun f hf => ?_⟩
  · have hf : f = (((F_law_all b.1 b.2).take i).filter fun p => decide (coreQ p = [])).map fun p => (p, worthQ p W b.1 b.2) := hf
    have il := (List.getElem?_eq_some_iff.mp hp).1
    have sd := (sides_all hb).mp (List.mem_of_getElem? hp)
    have fl : f.length ≤ 512 := by
      rw [hf, List.length_map]
      refine Nat.le_trans (List.length_filter_le _ _) ?_
      rw [List.length_take]; omega
    refine ⟨sd.pp, fun _ => ?_, fun f2 e2 => ?_⟩
    · obtain ⟨c1, c2, c3⟩ := cond p sd
      exact ⟨c1, c2, c3, by omega⟩
    · show f2 = _
      rw [take_snoc hp, List.filter_append, List.map_append, ← hf, e2]
      have ef : F_law_core p = coreQ p := rfl
      by_cases z : coreQ p = []
      · rw [if_pos (by rw [ef]; exact z), List.filter_cons, if_pos (decide_eq_true z)]
        have nk : p ∉ gkeys f := fun h => by
          rw [hf, keys_told] at h
          have h := (List.mem_filter.mp h).1
          obtain ⟨j, hj⟩ := List.getElem?_of_mem h
          have jl : j < i := by
            have := (List.getElem?_eq_some_iff.mp hj).1
            rw [List.length_take] at this; omega
          rw [List.getElem?_take_of_lt jl] at hj
          have nd := all_nd b hb
          have := (List.getElem?_inj (by omega) nd).mp (hj.trans hp.symm)
          omega
        rw [put_new nk]; rfl
      · rw [if_neg (by rw [ef]; exact z), List.filter_cons, if_neg (by rw [decide_eq_false z]; decide)]
        exact (List.append_nil f).symm
  have hf : f = (freeA b.1 b.2).map fun p => (p, worthQ p W b.1 b.2) := by
    have h : f = (((F_law_all b.1 b.2).take (F_law_all b.1 b.2).length).filter fun p => decide (coreQ p = [])).map fun p => (p, worthQ p W b.1 b.2) := hf
    rw [List.take_length] at h; exact h
  have keys : gkeys f = freeA b.1 b.2 := by rw [hf, keys_told]
  have gets : ∀ p ∈ freeA b.1 b.2, gget f p = some (worthQ p W b.1 b.2) := fun p hp => by
    rw [hf]; exact get_told (fun p => worthQ p W b.1 b.2) _ p hp
  have memF : ∀ p : Pic, p ∈ freeA b.1 b.2 ↔ Sides b.1 b.2 p ∧ coreQ p = [] := fun p => by
    rw [List.mem_filter, sides_all hb]
    exact ⟨fun h => ⟨h.1, of_decide_eq_true h.2⟩, fun h => ⟨h.1, decide_eq_true h.2⟩⟩
  have perm : (F_free_pictures b.1 b.2).Perm (freeA b.1 b.2) := List.isPerm_iff.mp (fp_perm0 b hb)
  have fpW : F_free_pictures W.length W[0]!.length = F_free_pictures b.1 b.2 := by rw [Wl, W0]
  obtain ⟨bm, bl⟩ := maxZP_spec (pairs_ne kb)
  have bm : F_best_free W ∈ pairsW W := bm
  have bl : ∀ y ∈ pairsW W, y.1 ≤ (F_best_free W).1 := bl
  obtain ⟨bp, hbp, ebp⟩ := List.mem_map.mp bm
  rw [fpW] at hbp
  have e2 : (F_best_free W).2 = bp := by rw [← ebp]
  have bF : bp ∈ freeA b.1 b.2 := perm.mem_iff.mp hbp
  have bS := (memF bp).mp bF
  have e1 : (F_best_free W).1 = worthQ bp W b.1 b.2 := by rw [← ebp]; exact wq bp bS.1
  have most : ∀ q ∈ freeA b.1 b.2, worthQ q W b.1 b.2 ≤ (F_best_free W).1 := fun q hq => by
    have := bl (F_worth_of q W, q) (List.mem_map.mpr ⟨q, by rw [fpW]; exact perm.mem_iff.mpr hq, rfl⟩)
    rw [← wq q ((memF q).mp hq).1]; exact this
  have vals : f.map (·.2) = (freeA b.1 b.2).map fun p => worthQ p W b.1 b.2 := by
    rw [hf, List.map_map]; rfl
  have mx : ((freeA b.1 b.2).map fun p => worthQ p W b.1 b.2).max?.getD 0 = (F_best_free W).1 := by
    refine max_is (List.mem_map.mpr ⟨bp, bF, e1.symm⟩) fun y hy => ?_
    obtain ⟨q, hq, rfl⟩ := List.mem_map.mp hy
    exact most q hq
  have tN : toldN W = (F_free_pictures b.1 b.2).map fun p => worthQ p W b.1 b.2 := by
    unfold toldN
    rw [fpW]
    exact List.map_congr_left fun p hp => wq p (fp_mem kF p hp)
  have tmx : (toldN W).max?.getD 0 = (F_best_free W).1 := by
    rw [tN]
    refine max_is (List.mem_map.mpr ⟨bp, hbp, e1.symm⟩) fun y hy => ?_
    obtain ⟨q, hq, rfl⟩ := List.mem_map.mp hy
    exact most q (perm.mem_iff.mp hq)
  have fne : f ≠ [] := fun e => by
    rw [e] at keys
    rw [← keys] at bF; cases bF
  have fl : (freeA b.1 b.2).length ≤ 512 := Nat.le_trans (List.length_filter_le _ _) l512
  refine ⟨kb, fun best eb => ?_⟩
  subst eb
  rw [e2]
  refine ⟨fne, ⟨by rw [vals, mx], alkZ 5 _⟩, fun _ => by rw [keys]; exact bF, ⟨by rw [keys]; exact bF, by rw [gets bp bF, e1]; rfl⟩, kb, by rw [keys]; omega, fun x hx => hx, ⟨?_, alkN 5 _⟩, kb, ⟨?_, alkZ 5 _⟩, ⟨⟨h1, by omega⟩, w1, by omega⟩, fun any ha => ?_⟩
  · unfold F_best_numbers
    rw [tmx, List.length_map, List.length_map, tN, List.filter_map, List.length_map, keys]
    have ec : ((freeA b.1 b.2).filter fun x => decide (((gget f x).getD default) = (F_best_free W).1)) = (freeA b.1 b.2).filter ((fun x => decide (x = (F_best_free W).1)) ∘ fun p => worthQ p W b.1 b.2) := by
      refine List.filter_congr fun x hx => ?_
      rw [gets x hx]; rfl
    rw [ec]
    exact (perm.filter _).length_eq
  · unfold F_free_worth_sum
    rw [vals, fpW]
    have ec : ((F_free_pictures b.1 b.2).map fun p => F_worth_of p W) = (F_free_pictures b.1 b.2).map fun p => worthQ p W b.1 b.2 := List.map_congr_left fun p hp => wq p (fp_mem kF p hp)
    rw [ec]
    exact sum_permZ (perm.map _)
  have sA : Sides b.1 b.2 any := ⟨ha.1, ha.2.1, ha.2.2⟩
  have kw : P_worth_of any W := ⟨ha.1, kT, by rw [Wl, sA.hh], by rw [W0, sA.ww]⟩
  obtain ⟨c1, c2, c3⟩ := cond any sA
  refine ⟨c1, c2, c3, fun here eh => ⟨kw, ⟨by rw [eh]; exact wq any sA, alkZ 5 _⟩, by omega, fun n t => t = toldW any W n, rfl, fun l x hx t ht => ?_, fun t ht => ?_⟩⟩
  · obtain ⟨rfl, hl⟩ := range_get hx
    have ht : t = toldW any W x := ht
    refine ⟨ha.1, fun there eth => ?_⟩
    have sT : Sides b.1 b.2 there := by rw [eth]; exact ⟨lineQ_pp ha.1 x, (lineQ_len any x).trans sA.hh, (lineQ_wid ha.1 x).trans sA.ww⟩
    obtain ⟨d1, d2, d3⟩ := cond there sT
    refine ⟨d1, d2, d3, fun sums es => ⟨by rw [ht]; unfold toldW; rw [List.length_map, List.length_range]; omega, fun t2 e3 => ?_⟩⟩
    show t2 = toldW any W (x + 1)
    rw [toldW_snoc, e3, ht, es, eth, Int.zero_sub, sA.hh, sA.ww]
    rfl
  have ht : t = toldW any W (List.range (b.1 + b.2)).length := ht
  rw [List.length_range] at ht
  have tl : (toldW any W (b.1 + b.2)).length = b.1 + b.2 := by unfold toldW; rw [List.length_map, List.length_range]
  refine ⟨kw, fun e => ?_, ⟨?_, alkP (alkZ 4 _) (alkN 4 _)⟩, ?_, ⟨h1, by omega⟩, fun _ => True, trivial, fun i x hx _ => ?_, fun _ => rfl⟩
  · rw [e] at ht
    rw [← ht] at tl
    have z : ([] : List (Int × Nat)).length = 0 := rfl
    omega
  · unfold F_best_last
    rw [ht, sA.hh, sA.ww, Int.zero_sub]
  · have := bS.1.hh
    rw [List.length_take]; omega
  have pic : ∀ p : Pic, PicP p → (kn ((eT eR) p) = true) ∧ ((isTu ((eT eR) p) = true) → (((eT eR) p) = (eT eR) (asP ((eT eR) p))) ∧ (((asP ((eT eR) p)) ∈ gkeys f) → (((eT eR) p) = (eT eR) (asP ((eT eR) p))) ∧ ((asP ((eT eR) p)) ∈ gkeys f))) ∧ ∀ fits : Bool, fits = (decide ((isTu ((eT eR) p) = true) ∧ (((asP ((eT eR) p)) ∈ gkeys f) ∧ (((gget f (asP ((eT eR) p))).getD default) = (F_best_free W).1)))) → (P_sbfV W ((eT eR) p)) ∧ ((F_sbfV W ((eT eR) p)) = fits ∧ Alk 5 (eB (F_sbfV W ((eT eR) p)))) ∧ True := fun p kp => by
    refine ⟨rfl, fun _ => ⟨by rw [asP_pic], fun h => ⟨by rw [asP_pic], h⟩⟩, fun fits ef => ⟨⟨kb, .inl ⟨p, rfl, kp⟩⟩, ⟨?_, alkB 5 _⟩, trivial⟩⟩
    rw [ef]
    refine Bool.eq_iff_iff.mpr ?_
    rw [sbfV_iff, decide_eq_true_iff]
    rw [asP_pic, keys]
    constructor
    · rintro ⟨q, eq, _, hq⟩
      have := eTR_inj eq
      subst this
      obtain ⟨a, c, d, e⟩ := of_decide_eq_true hq
      have sp : Sides b.1 b.2 p := ⟨kp, a.trans Wl, c.trans W0⟩
      have pF := (memF p).mpr ⟨sp, d⟩
      refine ⟨rfl, pF, ?_⟩
      rw [gets p pF, ← e, wq p sp]; rfl
    · rintro ⟨_, pF, e⟩
      obtain ⟨sp, d⟩ := (memF p).mp pF
      rw [gets p pF] at e
      exact ⟨p, rfl, kp, decide_eq_true ⟨sp.hh.trans Wl.symm, sp.ww.trans W0.symm, d, (wq p sp).trans e⟩⟩
  have odd : ∀ d : D, BadPic d → isTu d = false → (kn d = true) ∧ ((isTu d = true) → (d = (eT eR) (asP d)) ∧ (((asP d) ∈ gkeys f) → (d = (eT eR) (asP d)) ∧ ((asP d) ∈ gkeys f))) ∧ ∀ fits : Bool, fits = (decide ((isTu d = true) ∧ (((asP d) ∈ gkeys f) ∧ (((gget f (asP d)).getD default) = (F_best_free W).1)))) → (P_sbfV W d) ∧ ((F_sbfV W d) = fits ∧ Alk 5 (eB (F_sbfV W d))) ∧ True := fun d bad nt => by
    refine ⟨bad.k.k, fun h => (by rw [nt] at h; cases h), fun fits ef => ⟨⟨kb, .inr bad⟩, ⟨?_, alkB 5 _⟩, trivial⟩⟩
    rw [ef]
    refine Bool.eq_iff_iff.mpr ?_
    rw [sbfV_iff, decide_eq_true_iff]
    refine ⟨?_, fun h => (by rw [nt] at h; cases h.1)⟩
    rintro ⟨q, rfl, _⟩
    cases nt
  have bPic := bS.1.pp
  have mem := List.mem_of_getElem? hx
  simp only [List.mem_cons, List.not_mem_nil, or_false] at mem
  rcases mem with rfl | rfl | rfl | rfl | rfl | rfl | rfl | rfl
  · exact pic bp bPic
  · exact pic any ha.1
  · exact odd _ ⟨⟨rfl, fun xs h => (by cases h), fun xs h => (by cases h)⟩, rfl⟩ rfl
  · exact odd _ ⟨⟨rfl, fun xs h => (by cases h), fun xs h => (by cases h)⟩, rfl⟩ rfl
  · refine pic _ ?_
    have tk : bp.take 1 = [bp[0]!] := by
      cases bp with
      | nil => have := bPic.h1; cases this
      | cons r p => rfl
    have z0 : (bp ++ bp.take 1)[0]! = bp[0]! := by
      cases bp with
      | nil => have := bPic.h1; cases this
      | cons r p => rfl
    have bh := bS.1.hh
    refine ⟨fun r hr => ?_, ?_, ?_, ?_, ?_⟩
    · rw [z0]
      rcases List.mem_append.mp hr with h | h
      · exact bPic.row r h
      · exact bPic.row r (List.mem_of_mem_take h)
    · rw [List.length_append]; omega
    · rw [List.length_append, tk, List.length_singleton]; omega
    · rw [z0]; exact bPic.w1
    · rw [z0]; exact bPic.w30
  · exact odd _ ⟨⟨rfl, fun xs h => (by cases h), fun xs h => (by cases h)⟩, rfl⟩ rfl
  · have nk : ((eT eV []) : D) = (eT eR) ([] : Pic) := rfl
    have bad : BadPic (eT eV []) := ⟨⟨rfl, fun xs h x hx => (by cases h; cases hx), fun xs h => (by cases h; decide)⟩, rfl⟩
    rw [nk] at bad ⊢
    refine ⟨rfl, fun _ => ⟨by rw [asP_pic], fun h => ⟨by rw [asP_pic], h⟩⟩, fun fits ef => ⟨⟨kb, .inr bad⟩, ⟨?_, alkB 5 _⟩, trivial⟩⟩
    rw [ef]
    refine Bool.eq_iff_iff.mpr ?_
    rw [sbfV_iff, decide_eq_true_iff]
    rw [asP_pic, keys]
    constructor
    · rintro ⟨q, eq, kq, _⟩
      have := eTR_inj eq
      subst this
      have := kq.h1; cases this
    · rintro ⟨_, pF, _⟩
      have := ((memF _).mp pF).1.pp.h1; cases this
  · have er : ((eT eG) (List.replicate b.1 true) : D) = (eT eR) (List.replicate b.1 [true]) := by
      show D.tup _ = D.tup _
      rw [List.map_replicate, List.map_replicate]
    rw [er]
    refine pic _ ?_
    have z0 : (List.replicate b.1 ([true] : Row))[0]! = [true] := by
      obtain ⟨n, hn⟩ : ∃ n, b.1 = n + 1 := ⟨b.1 - 1, by omega⟩
      rw [hn]; rfl
    refine ⟨fun r hr => ?_, ?_, ?_, ?_, ?_⟩
    · rw [z0, (List.mem_replicate.mp hr).2]
    · rw [List.length_replicate]; exact h1
    · rw [List.length_replicate]; omega
    · rw [z0]; decide
    · rw [z0]; decide
end W
namespace V
open PySem L2 G W
theorem hv : ∀ ns : List Int, ns.length ≤ 63 → ∃ tp', retR (b_law (some (.scr ns) :: some .tape :: List.replicate 16 none) [.scr ns, .int 0, .int 5334, .int 0]) = .ok (.bl true) tp' := fun ns hns => W.snd_law W.ok_law ns hns
end V
set_option maxHeartbeats 0
namespace Hd
open PySem PySem.Spec PyProof.Rows L2
theorem facts {P : Program} {w : World} {K : PySem.W.Frag} {h : Heap} {mg : Str → Option Value} {f : Addr} (X : K.In h) (hG : h.Ns mainGlobals mg) (hfa : mg ("law" : Str) = some (.ref f)) (c : He.SaysD fa fn K) :
    ∃ fd : FuncData, (∀ (s : Shared) (v : Value), BindsTo s fd ⟨[v], []⟩ [("_law_script", v)]) ∧ ∀ base : Heap, K.In base → base.Ns mainGlobals mg → FnOk P w K mg base CX0 15 f fd ["_law_script"] (_root_.G.spLaw K) := by
  obtain ⟨fd0, F0⟩ := c.def_ 0 (d := d_is_int) rfl
  obtain ⟨fd1, F1⟩ := c.def_ 1 (d := d_is_in) rfl
  obtain ⟨fd2, F2⟩ := c.def_ 2 (d := d_is_picture) rfl
  obtain ⟨fd3, F3⟩ := c.def_ 3 (d := d_need_picture) rfl
  obtain ⟨fd4, F4⟩ := c.def_ 4 (d := d_lines_of) rfl
  obtain ⟨fd5, F5⟩ := c.def_ 5 (d := d_leads_to) rfl
  obtain ⟨fd6, F6⟩ := c.def_ 6 (d := d_layers_of) rfl
  obtain ⟨fd7, F7⟩ := c.def_ 7 (d := d_core_of) rfl
  obtain ⟨fd8, F8⟩ := c.def_ 8 (d := d_is_free_of) rfl
  obtain ⟨fd9, F9⟩ := c.def_ 9 (d := d_by_layers) rfl
  obtain ⟨fd10, F10⟩ := c.def_ 10 (d := d_masks) rfl
  obtain ⟨fd11, F11⟩ := c.def_ 11 (d := d_layerings) rfl
  obtain ⟨fd12, F12⟩ := c.def_ 12 (d := d_is_table) rfl
  obtain ⟨fd13, F13⟩ := c.def_ 13 (d := d_need_table) rfl
  obtain ⟨fd14, F14⟩ := c.def_ 14 (d := d_worth_of) rfl
  obtain ⟨fd15, F15⟩ := c.def_ 15 (d := d_worth) rfl
  obtain ⟨fd16, F16⟩ := c.def_ 16 (d := d_free_pictures) rfl
  obtain ⟨fd17, F17⟩ := c.def_ 17 (d := d_need_small_table) rfl
  obtain ⟨fd18, F18⟩ := c.def_ 18 (d := d_best_free) rfl
  obtain ⟨fd19, F19⟩ := c.def_ 19 (d := d_shows_best_free) rfl
  obtain ⟨fd20, F20⟩ := c.def_ 20 (d := d_free_worth_sum) rfl
  obtain ⟨fd21, F21⟩ := c.def_ 21 (d := d_best_numbers) rfl
  obtain ⟨fd22, F22⟩ := c.def_ 22 (d := d_best_last) rfl
  obtain ⟨fd23, F23⟩ := c.def_ 23 (d := d_law_taken) rfl
  obtain ⟨fd24, F24⟩ := c.def_ 24 (d := d_law_pick) rfl
  obtain ⟨fd25, F25⟩ := c.def_ 25 (d := d_law_alike) rfl
  obtain ⟨fd26, F26⟩ := c.def_ 26 (d := d_law_any) rfl
  obtain ⟨fd27, F27⟩ := c.def_ 27 (d := d_law_paint) rfl
  obtain ⟨fd28, F28⟩ := c.def_ 28 (d := d_law_layers) rfl
  obtain ⟨fd29, F29⟩ := c.def_ 29 (d := d_law_core) rfl
  obtain ⟨fd30, F30⟩ := c.def_ 30 (d := d_law_all) rfl
  obtain ⟨fd31, F31⟩ := c.def_ 31 (d := d_law) rfl
  have T : W.Tx K mg := {
    all := He.free_ok X hG (c.fact 32 (f := .free "all") rfl),
    any := He.free_ok X hG (c.fact 33 (f := .free "any") rfl),
    bool := He.free_ok X hG (c.fact 34 (f := .free "bool") rfl),
    enumerate := He.free_ok X hG (c.fact 35 (f := .free "enumerate") rfl),
    int := He.free_ok X hG (c.fact 36 (f := .free "int") rfl),
    isinstance := He.free_ok X hG (c.fact 37 (f := .free "isinstance") rfl),
    len := He.free_ok X hG (c.fact 38 (f := .free "len") rfl),
    list := He.free_ok X hG (c.fact 39 (f := .free "list") rfl),
    max := He.free_ok X hG (c.fact 40 (f := .free "max") rfl),
    min := He.free_ok X hG (c.fact 41 (f := .free "min") rfl),
    range := He.free_ok X hG (c.fact 42 (f := .free "range") rfl),
    sorted := He.free_ok X hG (c.fact 43 (f := .free "sorted") rfl),
    str := He.free_ok X hG (c.fact 44 (f := .free "str") rfl),
    sum := He.free_ok X hG (c.fact 45 (f := .free "sum") rfl),
    super := He.free_ok X hG (c.fact 46 (f := .free "super") rfl),
    tuple := He.free_ok X hG (c.fact 47 (f := .free "tuple") rfl),
    MOST_SIDE := He.int_ok X hG (c.fact 48 (f := .int "MOST_SIDE" 30) rfl),
    BLACK := He.str_ok X hG (c.fact 49 (f := .str "BLACK" "#") rfl),
    WHITE := He.str_ok X hG (c.fact 50 (f := .str "WHITE" ".") rfl),
    MOST_WORTH := He.int_ok X hG (c.fact 51 (f := .int "MOST_WORTH" 1000000) rfl),
    MOST_LINES := He.int_ok X hG (c.fact 52 (f := .int "MOST_LINES" 8) rfl),
    f_is_int := ⟨_, _, F0, He.glo_ok X hG (c.fact 0 (f := .glo "is_int") rfl)⟩,
    f_is_in := ⟨_, _, F1, He.glo_ok X hG (c.fact 1 (f := .glo "is_in") rfl)⟩,
    f_is_picture := ⟨_, _, F2, He.glo_ok X hG (c.fact 2 (f := .glo "is_picture") rfl)⟩,
    f_need_picture := ⟨_, _, F3, He.glo_ok X hG (c.fact 3 (f := .glo "need_picture") rfl)⟩,
    f_lines_of := ⟨_, _, F4, He.glo_ok X hG (c.fact 4 (f := .glo "lines_of") rfl)⟩,
    f_leads_to := ⟨_, _, F5, He.glo_ok X hG (c.fact 5 (f := .glo "leads_to") rfl)⟩,
    f_layers_of := ⟨_, _, F6, He.glo_ok X hG (c.fact 6 (f := .glo "layers_of") rfl)⟩,
    f_core_of := ⟨_, _, F7, He.glo_ok X hG (c.fact 7 (f := .glo "core_of") rfl)⟩,
    f_is_free_of := ⟨_, _, F8, He.glo_ok X hG (c.fact 8 (f := .glo "is_free_of") rfl)⟩,
    f_by_layers := ⟨_, _, F9, He.glo_ok X hG (c.fact 9 (f := .glo "by_layers") rfl)⟩,
    f_masks := ⟨_, _, F10, He.glo_ok X hG (c.fact 10 (f := .glo "masks") rfl)⟩,
    f_layerings := ⟨_, _, F11, He.glo_ok X hG (c.fact 11 (f := .glo "layerings") rfl)⟩,
    f_is_table := ⟨_, _, F12, He.glo_ok X hG (c.fact 12 (f := .glo "is_table") rfl)⟩,
    f_need_table := ⟨_, _, F13, He.glo_ok X hG (c.fact 13 (f := .glo "need_table") rfl)⟩,
    f_worth_of := ⟨_, _, F14, He.glo_ok X hG (c.fact 14 (f := .glo "worth_of") rfl)⟩,
    f_worth := ⟨_, _, F15, He.glo_ok X hG (c.fact 15 (f := .glo "worth") rfl)⟩,
    f_free_pictures := ⟨_, _, F16, He.glo_ok X hG (c.fact 16 (f := .glo "free_pictures") rfl)⟩,
    f_need_small_table := ⟨_, _, F17, He.glo_ok X hG (c.fact 17 (f := .glo "need_small_table") rfl)⟩,
    f_best_free := ⟨_, _, F18, He.glo_ok X hG (c.fact 18 (f := .glo "best_free") rfl)⟩,
    f_shows_best_free := ⟨_, _, F19, He.glo_ok X hG (c.fact 19 (f := .glo "shows_best_free") rfl)⟩,
    f_free_worth_sum := ⟨_, _, F20, He.glo_ok X hG (c.fact 20 (f := .glo "free_worth_sum") rfl)⟩,
    f_best_numbers := ⟨_, _, F21, He.glo_ok X hG (c.fact 21 (f := .glo "best_numbers") rfl)⟩,
    f_best_last := ⟨_, _, F22, He.glo_ok X hG (c.fact 22 (f := .glo "best_last") rfl)⟩,
    f_law_taken := ⟨_, _, F23, He.glo_ok X hG (c.fact 23 (f := .glo "_law_taken") rfl)⟩,
    f_law_pick := ⟨_, _, F24, He.glo_ok X hG (c.fact 24 (f := .glo "_law_pick") rfl)⟩,
    f_law_alike := ⟨_, _, F25, He.glo_ok X hG (c.fact 25 (f := .glo "_law_alike") rfl)⟩,
    f_law_any := ⟨_, _, F26, He.glo_ok X hG (c.fact 26 (f := .glo "_law_any") rfl)⟩,
    f_law_paint := ⟨_, _, F27, He.glo_ok X hG (c.fact 27 (f := .glo "_law_paint") rfl)⟩,
    f_law_layers := ⟨_, _, F28, He.glo_ok X hG (c.fact 28 (f := .glo "_law_layers") rfl)⟩,
    f_law_core := ⟨_, _, F29, He.glo_ok X hG (c.fact 29 (f := .glo "_law_core") rfl)⟩,
    f_law_all := ⟨_, _, F30, He.glo_ok X hG (c.fact 30 (f := .glo "_law_all") rfl)⟩ }
  have e := hfa.symm.trans (He.glo_ok X hG (c.fact 31 (f := .glo "law") rfl))
  cases e
  have b := FunD.bindsA (ps := ["_law_script"]) F31 fun _ _ _ _ _ _ us hl => match us, hl with | [_], _ => rfl
  exact ⟨fd31, fun s v => b s [v] rfl, fun base _ _ => _root_.G.fn_law (k := 14) (N := ["_law_high", "_law_wide", "_law_table", "_law_at", "_law_spot", "_law_worths", "_law_free", "_law_picture", "_law_best", "_law_there", "_law_here", "_law_told", "_law_line", "_law_sums", "_law_value", "_law_fits"]) F31 W.sc_law (by first | exact Or.inl rfl | exact Or.inr rfl) (by first | exact Or.inl rfl | exact Or.inr rfl) (by decide +kernel) (by decide +kernel) (m := W.b_law) (fun r cdv A outer s H E hr => W.law_body T r cdv A outer s H E hr) _root_.V.hv⟩
end Hd
open PySem PySem.W PySem.Calls PyProof.Rows
theorem PySem.Challenge.cw_linepainters_k34_whole_worths_holds : PySem.Challenge.rw_linepainters_k34_whole_worths.Holds := by
  w_on; o_law
  refine HandSHeadRun.head_any (r := OpenLaw.row PySem.Challenge.rw_linepainters_k34_whole_worths) (q := view (OpenLaw.row PySem.Challenge.rw_linepainters_k34_whole_worths).prog [47]) (H := Hd.hk) (ob := Hd.ob) (M := 8000) (loose := Hd.nms) (d := HandSHeadRun.topDef (OpenLaw.row PySem.Challenge.rw_linepainters_k34_whole_worths).prog 47) (kwd := []) Hd.ob_eq
    (by kernel_rfl) (fun s => by kernel_rfl) Hd.run (by kernel_rfl) (by kernel_rfl) (by kernel_rfl) (by rfl) (by first | assumption | decide +kernel) (by decide +kernel) ⟨rfl, rfl, rfl, rfl, rfl, by decide +kernel⟩ ?hw ?hc
  case hw => w_witness2
  case hc =>
    refine L2.walk_ofE (l := PySem.Challenge.rw_linepainters_k34_whole_worths) (n := 63) (k := 15) (x := "_law_script") (CX := L2.CX0) rfl (by decide) (by kernel_rfl) ⟨rfl, by decide, by decide⟩ ?F (fun _ _ _ _ z => z)
    intro w mg fa h Y hG hmg0
    obtain ⟨K, KX, c⟩ := Y
    have hmg : mg ("law" : PySem.Str) = some (.ref fa) := by
      have e : (HandSHeadRun.topDef (OpenLaw.row PySem.Challenge.rw_linepainters_k34_whole_worths).prog 47).name = ("law" : PySem.Str) := by kernel_rfl
      rw [← e]
      exact hmg0
    obtain ⟨fd, hb, hF⟩ := Hd.facts (P := (PySem.Challenge.rw_linepainters_k34_whole_worths).prog) (w := w) KX hG hmg c
    exact ⟨K, fd, _root_.G.spLaw K, KX, hb, fun H a ns hl hh hS => ⟨a, ns, rfl, hS, hl, fun _ => rfl⟩, hF⟩
